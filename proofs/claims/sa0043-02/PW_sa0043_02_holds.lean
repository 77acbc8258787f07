import PyProof.Rows.All
import Wide.All
import OpenK.AllK
import Wide.FinOn
import PySem.Challenge.RW_sa0043_02
set_option Elab.async false
set_option linter.all false
set_option autoImplicit false
set_option maxRecDepth 100000
set_option maxHeartbeats 8000000
/-! A1 -/
namespace Mine
open PySem PySem.W PyProof.Rows
abbrev law02 : OpenLaw := PySem.Challenge.rw_sa0043_02
noncomputable def view : Program := { law02.prog with main := { law02.prog.main with body := [0, 2, 3, 4, 6, 7, 8, 9, 11, 12, 13, 14, 15, 17, 19, 21, 22, 23, 24, 25, 26, 27].filterMap (law02.prog.main.body[·]?) } }
structure FnParts where
  params : Arguments
  body : List Stmt
  scope : Scope
noncomputable def noArgs : Arguments := ⟨[], [], none, [], [], none, []⟩
noncomputable def partsOf : Option Stmt → FnParts
  | some (.FunctionDef _ args body _ _ _ scope _ _ _) => ⟨args, body, scope⟩
  | _ => ⟨noArgs, [], law02.prog.main.scope⟩
noncomputable def topFn (i : Nat) : FnParts := partsOf law02.prog.main.body[i]?
noncomputable def clsBody : Option Stmt → List Stmt
  | some (.ClassDef _ _ _ body _ _ _ _ _ _ _) => body
  | _ => []
noncomputable def methFn (i j : Nat) : FnParts := partsOf (clsBody law02.prog.main.body[i]?)[j]?
noncomputable def P37 : FnParts := methFn 2 0
noncomputable def f37 : FuncData := ksFn "__init__" "HeapError.__init__" P37.params P37.body P37.scope .none .none .none (.str "alikeheap.errors" 194) none (.ref 36) (.ref 30) 25
noncomputable def gT : Nat → PySem.Str × Option Value
  | 0 => (PySem.Str.ofString "len", Option.none)
  | 1 => (PySem.Str.ofString "is_op", (some (.ref 79)))
  | 2 => (PySem.Str.ofString "tuple", Option.none)
  | 3 => (PySem.Str.ofString "sum", Option.none)
  | 4 => (PySem.Str.ofString "max", Option.none)
  | 5 => (PySem.Str.ofString "sorted", Option.none)
  | 6 => (PySem.Str.ofString "Bank", (some (.ref 193)))
  | 7 => (PySem.Str.ofString "Unions", (some (.ref 359)))
  | 8 => (PySem.Str.ofString "set", Option.none)
  | 9 => (PySem.Str.ofString "MOST_SIZE", (some (.int 200 423)))
  | 10 => (PySem.Str.ofString "range", Option.none)
  | 11 => (PySem.Str.ofString "MOST_LISTED", (some (.int 10000 419)))
  | 12 => (PySem.Str.ofString "abs", Option.none)
  | 13 => (PySem.Str.ofString "_law_one", (some (.ref 514)))
  | 14 => (PySem.Str.ofString "LimitFault", (some (.ref 72)))
  | 15 => (PySem.Str.ofString "_law_three", (some (.ref 521)))
  | 16 => (PySem.Str.ofString "_law_hand", (some (.ref 507)))
  | 17 => (PySem.Str.ofString "Heap", (some (.ref 491)))
  | 18 => (PySem.Str.ofString "_law_pick", (some (.ref 502)))
  | 19 => (PySem.Str.ofString "Counts", (some (.ref 277)))
  | 20 => (PySem.Str.ofString "_law_told_right", (some (.ref 533)))
  | 21 => (PySem.Str.ofString "_law_is_refused", (some (.ref 528)))
  | _ => (PySem.Str.ofString "", Option.none)
noncomputable abbrev gN : Nat := 22
noncomputable def fT : Nat → Addr × PySem.Str × Option Value
  | 0 => (193, PySem.Str.ofString "nodes", Option.none)
  | 1 => (193, PySem.Str.ofString "numbers", Option.none)
  | 2 => (193, PySem.Str.ofString "require", (some (.ref 122)))
  | 3 => (193, PySem.Str.ofString "weights", Option.none)
  | 4 => (193, PySem.Str.ofString "depths", Option.none)
  | 5 => (359, PySem.Str.ofString "above", Option.none)
  | 6 => (359, PySem.Str.ofString "lots", Option.none)
  | 7 => (359, PySem.Str.ofString "find", (some (.ref 316)))
  | 8 => (359, PySem.Str.ofString "merged", Option.none)
  | 9 => (491, PySem.Str.ofString "bank", Option.none)
  | 10 => (193, PySem.Str.ofString "size", (some (.ref 110)))
  | 11 => (491, PySem.Str.ofString "unions", Option.none)
  | 12 => (193, PySem.Str.ofString "op", (some (.ref 150)))
  | 13 => (193, PySem.Str.ofString "kids", (some (.ref 157)))
  | 14 => (491, PySem.Str.ofString "find", (some (.ref 415)))
  | 15 => (491, PySem.Str.ofString "edges", Option.none)
  | 16 => (359, PySem.Str.ofString "merge", (some (.ref 323)))
  | 17 => (491, PySem.Str.ofString "forest", Option.none)
  | 18 => (491, PySem.Str.ofString "waiting", Option.none)
  | 19 => (491, PySem.Str.ofString "above", Option.none)
  | 20 => (491, PySem.Str.ofString "known", Option.none)
  | 21 => (491, PySem.Str.ofString "node", (some (.ref 389)))
  | 22 => (491, PySem.Str.ofString "join", (some (.ref 436)))
  | 23 => (193, PySem.Str.ofString "take", (some (.ref 115)))
  | 24 => (359, PySem.Str.ofString "size", (some (.ref 309)))
  | 25 => (359, PySem.Str.ofString "make", (some (.ref 302)))
  | 26 => (491, PySem.Str.ofString "look_at", (some (.ref 408)))
  | 27 => (359, PySem.Str.ofString "members", (some (.ref 330)))
  | 28 => (491, PySem.Str.ofString "members", (some (.ref 464)))
  | 29 => (277, PySem.Str.ofString "heap", Option.none)
  | 30 => (491, PySem.Str.ofString "size", (some (.ref 384)))
  | 31 => (491, PySem.Str.ofString "backs", Option.none)
  | 32 => (277, PySem.Str.ofString "mark", Option.none)
  | 33 => (277, PySem.Str.ofString "known", Option.none)
  | 34 => (491, PySem.Str.ofString "nodes_of", (some (.ref 469)))
  | 35 => (277, PySem.Str.ofString "rows", (some (.ref 240)))
  | 36 => (277, PySem.Str.ofString "renewed", (some (.ref 223)))
  | 37 => (277, PySem.Str.ofString "many", (some (.ref 230)))
  | 38 => (277, PySem.Str.ofString "upto", (some (.ref 235)))
  | 39 => (277, PySem.Str.ofString "listed", (some (.ref 245)))
  | 40 => (277, PySem.Str.ofString "nth", (some (.ref 260)))
  | 41 => (491, PySem.Str.ofString "add", (some (.ref 394)))
  | 42 => (491, PySem.Str.ofString "merge", (some (.ref 429)))
  | 43 => (491, PySem.Str.ofString "settle", (some (.ref 443)))
  | _ => (0, PySem.Str.ofString "", Option.none)
noncomputable abbrev fN : Nat := 44
noncomputable def tT : Nat → Addr × PySem.Str
  | 0 => (193, PySem.Str.ofString "nodes")
  | 1 => (193, PySem.Str.ofString "numbers")
  | 2 => (193, PySem.Str.ofString "weights")
  | 3 => (193, PySem.Str.ofString "depths")
  | 4 => (359, PySem.Str.ofString "above")
  | 5 => (359, PySem.Str.ofString "lots")
  | 6 => (359, PySem.Str.ofString "merged")
  | 7 => (491, PySem.Str.ofString "bank")
  | 8 => (491, PySem.Str.ofString "unions")
  | 9 => (491, PySem.Str.ofString "edges")
  | 10 => (491, PySem.Str.ofString "forest")
  | 11 => (491, PySem.Str.ofString "known")
  | 12 => (491, PySem.Str.ofString "above")
  | 13 => (491, PySem.Str.ofString "waiting")
  | 14 => (491, PySem.Str.ofString "backs")
  | 15 => (277, PySem.Str.ofString "heap")
  | 16 => (277, PySem.Str.ofString "mark")
  | 17 => (277, PySem.Str.ofString "known")
  | _ => (0, PySem.Str.ofString "")
noncomputable abbrev tN : Nat := 18
noncomputable def kA : Nat → Addr
  | 0 => 79
  | 1 => 103
  | 2 => 110
  | 3 => 122
  | 4 => 115
  | 5 => 150
  | 6 => 157
  | 7 => 295
  | 8 => 302
  | 9 => 309
  | 10 => 316
  | 11 => 323
  | 12 => 330
  | 13 => 377
  | 14 => 384
  | 15 => 415
  | 16 => 389
  | 17 => 436
  | 18 => 408
  | 19 => 394
  | 20 => 429
  | 21 => 443
  | 22 => 464
  | 23 => 469
  | 24 => 216
  | 25 => 223
  | 26 => 240
  | 27 => 230
  | 28 => 235
  | 29 => 245
  | 30 => 260
  | 31 => 502
  | 32 => 507
  | 33 => 514
  | 34 => 521
  | 35 => 528
  | 36 => 533
  | 37 => 538
  | _ => 0
noncomputable def kP : Nat → FnParts
  | 0 => topFn 6
  | 1 => methFn 9 0
  | 2 => methFn 9 1
  | 3 => methFn 9 3
  | 4 => methFn 9 2
  | 5 => methFn 9 7
  | 6 => methFn 9 8
  | 7 => methFn 17 0
  | 8 => methFn 17 1
  | 9 => methFn 17 2
  | 10 => methFn 17 3
  | 11 => methFn 17 4
  | 12 => methFn 17 5
  | 13 => methFn 19 0
  | 14 => methFn 19 1
  | 15 => methFn 19 6
  | 16 => methFn 19 2
  | 17 => methFn 19 9
  | 18 => methFn 19 5
  | 19 => methFn 19 3
  | 20 => methFn 19 8
  | 21 => methFn 19 10
  | 22 => methFn 19 13
  | 23 => methFn 19 14
  | 24 => methFn 15 0
  | 25 => methFn 15 1
  | 26 => methFn 15 4
  | 27 => methFn 15 2
  | 28 => methFn 15 3
  | 29 => methFn 15 5
  | 30 => methFn 15 8
  | 31 => topFn 21
  | 32 => topFn 22
  | 33 => topFn 23
  | 34 => topFn 24
  | 35 => topFn 25
  | 36 => topFn 26
  | 37 => topFn 27
  | _ => ⟨noArgs, [], law02.prog.main.scope⟩
noncomputable abbrev kN : Nat := 38
noncomputable def clsT : Nat → Addr
  | 0 => 193 | 1 => 277 | 2 => 359 | 3 => 491 | 4 => 72 | _ => 0
noncomputable def iniT : Nat → Addr
  | 0 => 103 | 1 => 216 | 2 => 295 | 3 => 377 | _ => 0
noncomputable def addrs : List Addr := [3, 2, 25, 36, 37, 46, 47, 71, 72, 192, 193, 276, 277, 358, 359, 490, 491] ++ ((List.range kN).flatMap fun i => [kA i, kA i - 1])
noncomputable def fragOf (h : Heap) : Frag := addrs.filterMap fun a => (h.get? a).map fun o => (a, o)
noncomputable abbrev FnObs := Bool × Option Value × Option (FuncBody × Scope × Arguments × Addr × List (PySem.Str × Addr) × Addr × Value × Value × Bool)
noncomputable def fnObs (K : Frag) (a : Addr) : FnObs := (keepIn K (.ref a), typeIn K (.ref a), match K.lookup a with
  | some ⟨_, _, .func fd, _⟩ => some (fd.body, fd.scope, fd.params, fd.globals, fd.closure, fd.builtins, fd.defaults, fd.kwdefaults, codeIn K fd.code fd.qualname)
  | _ => none)
noncomputable def fnVal (P : FnParts) : FnObs := (true, some (.type "function"), some (.stmts P.body, P.scope, P.params, mainGlobals, [], builtinsNs, .none, .none, true))
noncomputable abbrev ClsObs := List Bool × Option (Option Value) × Option (Option Value)
noncomputable def clsObs (K : Frag) (c : Addr) : ClsObs := ([hasDictIn K c, plainGet K c (PySem.Str.ofString ""), plainOver K c, makesIn K c, keepIn K (.ref c)], findIn K (.ref c) "__setattr__", findIn K (.ref c) "__init__")
noncomputable def clsVal (f : Addr) : ClsObs := ([true, true, true, true, true], some (some (.builtin "object.__setattr__")), some (some (.ref f)))
noncomputable abbrev ExcObs := List Bool × List (Option Obj) × Option (Value × Option Addr × Array (Option Value) × Option Value) × List (Option (Option Value))
noncomputable def excObs (K : Frag) : ExcObs := ([keepIn K (.ref 72), codeIn K (.ref 36) "HeapError.__init__", (clsIn K 47).isSome], [K.lookup 72, K.lookup 37, K.lookup 25],
  (match K.lookup 36 with | some ⟨c, d, .fields vs, sl⟩ => some (c, d, sl, vs[2]?) | _ => none),
  [nsIn K mainGlobals "super", nsIn K cStatics "thirdparty.any", takerIn K 72 "what", findIn K (.ref 72) "__setattr__", findIn K (.ref 72) "__init__", nsIn K mainGlobals "law"])
noncomputable def excVal : ExcObs := ([true, true, true], [some (excClassObj "LimitFault" "LimitFault" 72 71 [.ref 47] [.ref 47, .type "Exception", .type "BaseException", .type "object"] true [] [] false none none (some (.ref 63)) none (some (.str "LimitFault" 250)) (some (.str "LimitFault" 258)) (some (.bool true)) "Exception.__new__"),
    some ⟨.type "function", none, .func f37, #[]⟩, some ⟨.type "cell", none, .cell (some (.ref 47)), #[]⟩],
  some (.type "code", none, #[], some (.str "/claim/cut.py" 210)),
  [some none, some none, some none, some (some (.builtin "object.__setattr__")), some (some (.ref 37)), some (some (.ref 538))])
noncomputable abbrev AllObs := List (Option (Option Value)) × List (Option (Option Value)) × List (Option (Option Value)) × List ClsObs × List FnObs × ExcObs
noncomputable def allObs (K : Frag) : AllObs := ((List.range gN).map fun i => nsIn K mainGlobals (gT i).1, (List.range fN).map fun i => findIn K (.ref (fT i).1) (fT i).2.1, (List.range tN).map fun i => takerIn K (tT i).1 (tT i).2,
  (List.range 4).map fun k => clsObs K (clsT k), (List.range kN).map fun i => fnObs K (kA i), excObs K)
noncomputable def allVal : AllObs := ((List.range gN).map fun i => some (gT i).2, (List.range fN).map fun i => some (fT i).2.2, (List.range tN).map fun _ => some Option.none,
  (List.range 4).map fun k => clsVal (iniT k), (List.range kN).map fun i => fnVal (kP i), excVal)
noncomputable def Yf (s : Shared) : AllObs × Bool := (allObs (fragOf s.heap), (s.heap.get? sysModules).isSome)
noncomputable def Ya (_w : World) : AllObs × Bool := (allVal, true)
noncomputable abbrev prog02 : Program := law02.row.prog
noncomputable abbrev q0 : Pos := ⟨0, 0, 0, 0⟩
noncomputable def envM : Env := { scope := prog02.main.scope, locals := mainNs, globals := mainNs, cells := [], code := .ref 13, frame := some 14 }
noncomputable def bodyM : List Stmt := behindTheImports prog02
noncomputable abbrev codeM : Code := .body bodyM envM
noncomputable def objs0 (P : Params) : List Obj := [boot_o_0 P, boot_o_1 P, boot_o_2 P, boot_o_3 P, boot_o_4 P, boot_o_5 P, boot_o_6 P, boot_o_7 P, boot_o_8 P, boot_o_9 P, boot_o_10 P,
  { cls := .type "tuple", data := .seq #[] }, { cls := .none, data := .fields #[] },
  { cls := .type "code", data := .fields #[.str "<module>" 182, .str "<module>" 183, .str "/claim/cut.py" 184, .int 1 0, .int 0 0, .int 0 0, .int 0 0, .int 0 0, .ref 11, .bool false, .int 181 0, .ref 12, .none, .none, .none, .none, .int 185 0, .int 1 0, .str "/claim/cut.py" 186] },
  { cls := .type "frame", slots := #[some (.ref 13), some (.ref 3), some (.ref 3), none, some (.str "__main__" 164), none, some (.ref 0)] }]
noncomputable def treeOf (l : List Obj) : BT := (l.foldl (fun (x : BT × Nat) o => (x.1.ins x.2 o, x.2 + 1)) (.nil, 0)).1
noncomputable def S0T (w : World) (os : OsState) : SharedT := ⟨treeOf (objs0 w.params), 15, {}, #[], {}, 187, os⟩
noncomputable def endT (p : Program) (w : World) (r : Option (Flow × SharedT × Code × Pos)) : Option Shared := match r with
  | some (.next, s', c', p') => topRun treeTable p w 11 (some (.ref 6)) 2 s'.abs ⟨doneF .next, c', p', [topFrame q0]⟩
  | _ => none
noncomputable def chkTop (p : Program) (h₀ : PySem.Heap) (s₁ : Shared) : Option Shared := match staticsOk (importedModules p.main.body) h₀ s₁.heap && namesBound p s₁.heap && gensDone s₁ && laidKept h₀ s₁.heap with
  | true => some s₁
  | false => none
noncomputable def obsT (s : Shared) := (openSeen view [] (importedModules prog02.main.body) (fun s => xlAt view [] s && recOk (RowW.records law02.row.toRowW) s) true s, Yf s)
theorem main_ (w : World) (os : OsState) : ((endT prog02 w (segRunT treeTable prog02 w 11 (some (.ref 6)) 1 4000 (S0T w os) (piecesOf bodyM envM codeM q0 [topFrame q0]))).bind (chkTop prog02 (boot_heap w.params))).map obsT = some (openGood view [], Ya w) := by kernel_rfl
end Mine
namespace Mine
inductive V where
  | none | bool (b : Bool) | int (i : Int) | str (s : List Nat)
  | tup (vs : List V) | list (vs : List V) | ref (i : Nat)
  deriving Inhabited
noncomputable def V.qNone : V → Bool | .none => true | _ => false
noncomputable def V.qBool (a : Bool) : V → Bool | .bool b => a == b | _ => false
noncomputable def V.qInt (a : Int) : V → Bool | .int b => decide (a = b) | _ => false
noncomputable def V.qStr (a : List Nat) : V → Bool | .str b => a == b | _ => false
noncomputable def V.qTup (f : List V → Bool) : V → Bool | .tup b => f b | _ => false
noncomputable def V.qList (f : List V → Bool) : V → Bool | .list b => f b | _ => false
noncomputable def V.qRef (a : Nat) : V → Bool | .ref b => Nat.beq a b | _ => false
noncomputable def V.qNil : List V → Bool | [] => true | _ :: _ => false
noncomputable def V.qCons (f : V → Bool) (g : List V → Bool) : List V → Bool | [] => false | b :: bs => f b && g bs
mutual
noncomputable def V.beq : V → V → Bool
  | .none => V.qNone
  | .bool a => V.qBool a
  | .int a => V.qInt a
  | .str a => V.qStr a
  | .tup a => V.qTup (V.beqs a)
  | .list a => V.qList (V.beqs a)
  | .ref a => V.qRef a
noncomputable def V.beqs : List V → List V → Bool
  | [] => V.qNil
  | a :: as => V.qCons (V.beq a) (V.beqs as)
end
theorem V.beq_iff (a : V) : ∀ b : V, V.beq a b = true ↔ a = b :=
  V.rec (motive_1 := fun a => ∀ b : V, V.beq a b = true ↔ a = b) (motive_2 := fun a => ∀ b : List V, V.beqs a b = true ↔ a = b)
    (fun b => ⟨fun h => (by cases b <;> first | rfl | cases h), fun h => h ▸ rfl⟩)
    (fun a b => ⟨fun h => (by cases b <;> first | exact congrArg V.bool (beq_iff_eq.mp h) | cases h), fun h => h ▸ beq_self_eq_true a⟩)
    (fun a b => ⟨fun h => (by cases b <;> first | exact congrArg V.int (of_decide_eq_true h) | cases h), fun h => h ▸ decide_eq_true rfl⟩)
    (fun a b => ⟨fun h => (by cases b <;> first | exact congrArg V.str (beq_iff_eq.mp h) | cases h), fun h => h ▸ beq_self_eq_true a⟩)
    (fun a ih b => ⟨fun h => (by cases b <;> first | exact congrArg V.tup ((ih _).mp h) | cases h), fun h => h ▸ (ih a).mpr rfl⟩)
    (fun a ih b => ⟨fun h => (by cases b <;> first | exact congrArg V.list ((ih _).mp h) | cases h), fun h => h ▸ (ih a).mpr rfl⟩)
    (fun a b => ⟨fun h => (by cases b <;> first | exact congrArg V.ref (Nat.eq_of_beq_eq_true h) | cases h), fun h => h ▸ Nat.beq_refl a⟩)
    (fun b => ⟨fun h => (by cases b <;> first | rfl | cases h), fun h => h ▸ rfl⟩)
    (fun a as ia ias b => ⟨fun h => (by
      cases b with
      | nil => cases h
      | cons b bs => exact (ia b).mp (Bool.and_eq_true_iff.mp h).1 ▸ (ias bs).mp (Bool.and_eq_true_iff.mp h).2 ▸ rfl), fun h => h ▸ Bool.and_eq_true_iff.mpr ⟨(ia a).mpr rfl, (ias as).mpr rfl⟩⟩) a
theorem V.beq_int (a b : Int) : V.beq (.int a) (.int b) = decide (a = b) := rfl
theorem V.beq_str (a b : List Nat) : V.beq (.str a) (.str b) = (a == b) := rfl
noncomputable instance V.decEq : DecidableEq V := fun a b =>
  match h : V.beq a b with
  | true => isTrue ((V.beq_iff a b).mp h)
  | false => isFalse fun e => by rw [(V.beq_iff a b).mpr e] at h; cases h
mutual
/-- equal and hashable by contents alone -/
noncomputable def V.plain : V → Bool
  | .none => true
  | .int _ => true
  | .str s => s.all (· < 0x110000)
  | .tup vs => V.plains vs
  | .list vs => V.plains vs
  | _ => false
noncomputable def V.plains : List V → Bool
  | [] => true
  | v :: vs => V.plain v && V.plains vs
end
mutual
noncomputable def V.depth : V → Nat
  | .tup vs => V.depths vs + 1
  | .list vs => V.depths vs + 1
  | _ => 0
noncomputable def V.depths : List V → Nat
  | [] => 0
  | v :: vs => max (V.depth v) (V.depths vs)
end
inductive DK where | int | str | tup
  deriving DecidableEq
inductive O where
  | list (vs : List V)
  | dict (k : DK) (kvs : List (V × V))
  | inst (c : Nat) (fs : List (Nat × V))
  deriving Inhabited
noncomputable abbrev Loc := List (Nat × V)
noncomputable abbrev Sto := List O
inductive Res (α : Type) where
  | ok (a : α) (σ : Sto)
  | exc (c : Nat) (σ : Sto)
  | stuck
noncomputable abbrev ME (α : Type) := Loc → Sto → Res α
noncomputable def ME.pure {α : Type} (a : α) : ME α := fun _ σ => .ok a σ
noncomputable def ME.stuck {α : Type} : ME α := fun _ _ => .stuck
noncomputable def Res.andThen {α β : Type} (r : Res α) (f : α → Sto → Res β) : Res β := match r with
  | .ok a σ => f a σ
  | .exc c σ => .exc c σ
  | .stuck => .stuck
noncomputable def ME.bind {α β : Type} (m : ME α) (f : α → ME β) : ME β := fun fr σ => (m fr σ).andThen fun a σ' => f a fr σ'
noncomputable def Res.ofOpt {α : Type} (o : Option α) (σ : Sto) : Res α := match o with | some a => .ok a σ | .none => .stuck
inductive SRes where
  | next (fr : Loc) (σ : Sto)
  | brk (fr : Loc) (σ : Sto)
  | ret (v : V) (σ : Sto)
  | exc (c : Nat) (fr : Loc) (σ : Sto)
  | stuck
noncomputable abbrev MS := Loc → Sto → SRes
end Mine
/-! A2 -/
namespace Mine
open PySem PySem.W PyProof.Rows
/-! relation to the model. ρ: of each object of the own store, where the value points (1) and what changes (2: for an instance its dict) -/
structure Rho where
  objs : List (Addr × Addr)
  /-- lists under way, which no value names -/
  hid : List Addr
noncomputable def Rho.nil : Rho := ⟨[], []⟩
noncomputable def Rho.add (ρ : Rho) (p : Addr × Addr) : Rho := ⟨ρ.objs ++ [p], ρ.hid⟩
noncomputable def muts (ρ : Rho) : List Addr := ρ.objs.map (·.2) ++ ρ.hid
theorem mem_muts' {ρ : Rho} {a : Addr} : a ∈ muts ρ ↔ a ∈ ρ.objs.map (·.2) ∨ a ∈ ρ.hid := List.mem_append
noncomputable def strV (s : List Nat) : PySem.Str := ⟨s.toArray⟩
mutual
inductive VRep (ρ : Rho) (h : Heap) : V → Value → Prop
  | none : VRep ρ h .none .none
  | bool (b : Bool) : VRep ρ h (.bool b) (.bool b)
  | int (i : Int) (t : Tok) : VRep ρ h (.int i) (.int i t)
  | str (s : List Nat) (t : Tok) : VRep ρ h (.str s) (.str (strV s) t)
  | ref {i : Nat} {p : Addr × Addr} : ρ.objs[i]? = some p → VRep ρ h (.ref i) (.ref p.1)
  | tup {vs : List V} {a : Addr} {o : Obj} {ms : Array Value} {n : Nat} : h.get? a = some o → o.cls = .type "tuple" → o.data = .seq ms n → a ∉ muts ρ →
      VReps ρ h vs ms.toList → VRep ρ h (.tup vs) (.ref a)
  | list {vs : List V} {a : Addr} {o : Obj} {ms : Array Value} {n : Nat} : h.get? a = some o → o.cls = .type "list" → o.data = .seq ms n → a ∉ muts ρ →
      VReps ρ h vs ms.toList → VRep ρ h (.list vs) (.ref a)
inductive VReps (ρ : Rho) (h : Heap) : List V → List Value → Prop
  | nil : VReps ρ h [] []
  | cons {v : V} {m : Value} {vs : List V} {ms : List Value} : VRep ρ h v m → VReps ρ h vs ms → VReps ρ h (v :: vs) (m :: ms)
end
section
variable {ρ : Rho} {h : Heap}
theorem VRep.ref_inv {i : Nat} {m : Value} (r : VRep ρ h (.ref i) m) : ∃ p, ρ.objs[i]? = some p ∧ m = .ref p.1 := by
  cases r with | @ref _ p hp => exact ⟨p, hp, rfl⟩
theorem VRep.int_inv {i : Int} {m : Value} (r : VRep ρ h (.int i) m) : ∃ t, m = .int i t := by
  cases r with | int _ t => exact ⟨t, rfl⟩
theorem VRep.str_inv {c : List Nat} {m : Value} (r : VRep ρ h (.str c) m) : ∃ t, m = .str (strV c) t := by
  cases r with | str _ t => exact ⟨t, rfl⟩
theorem VRep.tup_inv {vs : List V} {m : Value} (r : VRep ρ h (.tup vs) m) : ∃ a o ms n, m = .ref a ∧ h.get? a = some o ∧ o.cls = .type "tuple" ∧ o.data = .seq ms n ∧ a ∉ muts ρ ∧ VReps ρ h vs ms.toList := by
  cases r with | @tup _ a o ms n h1 h2 h3 h4 h5 => exact ⟨a, o, ms, n, rfl, h1, h2, h3, h4, h5⟩
theorem VReps.ind {P : List V → List Value → Prop} (h0 : P [] []) (h1 : ∀ v m vs ms, VRep ρ h v m → VReps ρ h vs ms → P vs ms → P (v :: vs) (m :: ms)) {vs : List V} {ms : List Value} (r : VReps ρ h vs ms) : P vs ms :=
  VReps.rec (motive_1 := fun _ _ _ => True) (motive_2 := fun vs ms _ => P vs ms) trivial (fun _ => trivial) (fun _ _ => trivial) (fun _ _ => trivial) (fun _ => trivial) (fun _ _ _ _ _ _ => trivial) (fun _ _ _ _ _ _ => trivial) h0 (fun a b _ ih => h1 _ _ _ _ a b ih) r
theorem VReps.length {vs : List V} {ms : List Value} (r : VReps ρ h vs ms) : vs.length = ms.length := r.ind (P := fun vs ms => vs.length = ms.length) rfl fun _ _ _ _ _ _ ih => congrArg (· + 1) ih
theorem VReps.get {vs : List V} {ms : List Value} (r : VReps ρ h vs ms) : ∀ (i : Nat) (v : V), vs[i]? = some v → ∃ m, ms[i]? = some m ∧ VRep ρ h v m := by
  refine r.ind (P := fun vs ms => ∀ (i : Nat) (v : V), vs[i]? = some v → ∃ m, ms[i]? = some m ∧ VRep ρ h v m) (fun i v e => by simp at e) fun v m vs ms hv _ ih i u e => ?_
  cases i with
  | zero => cases e; exact ⟨m, rfl, hv⟩
  | succ i => exact ih i u (by simpa using e)
theorem VReps.append {vs ws : List V} {ms ns : List Value} (r : VReps ρ h vs ms) (q : VReps ρ h ws ns) : VReps ρ h (vs ++ ws) (ms ++ ns) :=
  r.ind (P := fun vs ms => VReps ρ h (vs ++ ws) (ms ++ ns)) q fun _ _ _ _ hv _ ih => .cons hv ih
theorem VReps.drop {vs : List V} {ms : List Value} (r : VReps ρ h vs ms) : ∀ n, VReps ρ h (vs.drop n) (ms.drop n) := by
  refine r.ind (P := fun vs ms => ∀ n, VReps ρ h (vs.drop n) (ms.drop n)) (fun n => by simp; exact .nil) fun v m vs ms hv r ih n => ?_
  cases n with
  | zero => exact .cons hv r
  | succ n => exact ih n
theorem VReps.take {vs : List V} {ms : List Value} (r : VReps ρ h vs ms) : ∀ n, VReps ρ h (vs.take n) (ms.take n) := by
  refine r.ind (P := fun vs ms => ∀ n, VReps ρ h (vs.take n) (ms.take n)) (fun n => by simp; exact .nil) fun v m vs ms hv r ih n => ?_
  cases n with
  | zero => exact .nil
  | succ n => exact .cons hv (ih n)
end
noncomputable def softObj (o : Obj) : Bool := match o.data with | .dict .. => true | .cell _ => true | _ => false
/-- what stays from one heap to the next: all that lies outside ρ; of dicts and cells those outside D, up to slots; the lists under way -/
structure Ext (D : List Addr) (ρ : Rho) (h : Heap) (ρ' : Rho) (h' : Heap) : Prop where
  more : ∃ x, ρ'.objs = ρ.objs ++ x ∧ ∀ a ∈ x.map (·.2), h.get? a = Option.none
  hid : ρ'.hid = ρ.hid
  held : ∀ a ∈ ρ.hid, ∀ o, h.get? a = some o → h'.get? a = some o
  live : ∀ b o, h.get? b = some o → ∃ o', h'.get? b = some o'
  keep : ∀ b o, h.get? b = some o → b ∉ muts ρ → softObj o = false → h'.get? b = some o
  slot : ∀ b o, h.get? b = some o → b ∉ muts ρ → b ∉ D → softObj o = true → ∃ sl, h'.get? b = some { o with slots := sl }
  soft : ∀ b o, h.get? b = some o → b ∉ muts ρ → softObj o = true → ∃ o', h'.get? b = some o' ∧ softObj o' = true
section
variable {D : List Addr} {ρ ρ' ρ'' : Rho} {h h' h'' : Heap}
theorem Ext.of_keeps (k : ∀ b o, h.get? b = some o → h'.get? b = some o) : Ext D ρ h ρ h' :=
  ⟨⟨[], by simp, by simp⟩, rfl, fun b _ o e => k b o e, fun b o e => ⟨o, k b o e⟩, fun b o e _ _ => k b o e, fun b o e _ _ _ => ⟨o.slots, k b o e⟩, fun b o e _ q => ⟨o, k b o e, q⟩⟩
theorem Ext.refl (D : List Addr) (ρ : Rho) (h : Heap) : Ext D ρ h ρ h := .of_keeps fun _ _ e => e
theorem Ext.notin {a : Addr} {o : Obj} (x : Ext D ρ h ρ' h') (ho : h.get? a = some o) (hn : a ∉ muts ρ) : a ∉ muts ρ' := by
  obtain ⟨⟨u, hu1, hu⟩, hh, _, _, _⟩ := x
  rw [mem_muts', not_or] at hn
  rw [mem_muts', hu1, hh, List.map_append, List.mem_append, not_or, not_or]
  exact ⟨⟨hn.1, fun hm => by rw [hu a hm] at ho; cases ho⟩, hn.2⟩
theorem Ext.get {i : Nat} {p : Addr × Addr} (x : Ext D ρ h ρ' h') (e : ρ.objs[i]? = some p) : ρ'.objs[i]? = some p := by
  obtain ⟨⟨u, hu1, _⟩, _, _, _⟩ := x
  rw [hu1, List.getElem?_append_left (List.getElem?_eq_some_iff.mp e).1]; exact e
theorem Ext.trans (x : Ext D ρ h ρ' h') (y : Ext D ρ' h' ρ'' h'') : Ext D ρ h ρ'' h'' := by
  have x0 := x
  obtain ⟨⟨u, hu1, hu⟩, hx, ex, sx, kx, lx, fx⟩ := x
  obtain ⟨⟨v, hv1, hv⟩, hy, ey, sy, ky, ly, fy⟩ := y
  refine ⟨⟨u ++ v, by rw [hv1, hu1]; simp, ?_⟩, hy.trans hx, fun a ha o e => ey a (hx ▸ ha) o (ex a ha o e), fun b o e => (let ⟨o1, e1⟩ := sx b o e; sy b o1 e1), fun b o e hb q => ky b o (kx b o e hb q) (x0.notin e hb) q, ?_, fun b o e hb hs => ?_⟩
  · intro a ha
    rw [List.map_append] at ha
    rcases List.mem_append.mp ha with ha | ha
    · exact hu a ha
    · cases z : h.get? a with
      | none => rfl
      | some o => obtain ⟨o1, e1⟩ := sx a o z; rw [hv a ha] at e1; cases e1
  · intro b o e hb hd hs
    obtain ⟨sl, e'⟩ := lx b o e hb hd hs
    obtain ⟨sl', e''⟩ := ly b _ e' (x0.notin e hb) hd (by simpa [softObj] using hs)
    exact ⟨sl', e''⟩
  · obtain ⟨o', e', hs'⟩ := fx b o e hb hs
    exact fy b o' e' (x0.notin e hb) hs'
theorem Ext.weaken {D' : List Addr} (x : Ext D ρ h ρ' h') (hd : ∀ a ∈ D, a ∈ D') : Ext D' ρ h ρ' h' :=
  ⟨x.more, x.hid, x.held, x.live, x.keep, fun b o e hb q => x.slot b o e hb fun hm => q (hd b hm), x.soft⟩
theorem Ext.of0 (x : Ext [] ρ h ρ' h') : Ext D ρ h ρ' h' := x.weaken (by simp)
theorem Ext.push (h : Heap) (o : Obj) : Ext D ρ h ρ (h.push o) := .of_keeps (fun _ _ e => Heap.get?_push_of_some _ e)
theorem Ext.sameBut {a : Addr} (k : Heap.SameBut a h h') (ha : a ∈ muts ρ) (hh : a ∉ ρ.hid) (hl : ∃ o, h'.get? a = some o) : Ext D ρ h ρ h' :=
  have g : ∀ b o, h.get? b = some o → b ∉ muts ρ → h'.get? b = some o := fun b o e hb => (k.2 b fun q => hb (q ▸ ha)).trans e
  ⟨⟨[], by simp, by simp⟩, rfl, fun b hb o e => (k.2 b fun q => hh (q ▸ hb)).trans e, fun b o e => by
    by_cases hba : b = a
    · subst hba; exact hl
    · exact ⟨o, (k.2 b hba).trans e⟩, fun b o e hb _ => g b o e hb, fun b o e hb _ _ => ⟨o.slots, g b o e hb⟩, fun b o e hb q => ⟨o, g b o e hb, q⟩⟩
theorem Ext.sameButD {a : Addr} (k : Heap.SameBut a h h') (ha : a ∈ D) (hh : a ∉ ρ.hid) (hs : ∀ o, h.get? a = some o → softObj o = true) (hs' : ∃ o', h'.get? a = some o' ∧ softObj o' = true) : Ext D ρ h ρ h' :=
  ⟨⟨[], by simp, by simp⟩, rfl, fun b hb o e => (k.2 b fun q => hh (q ▸ hb)).trans e, fun b o e => by
    by_cases hba : b = a
    · subst hba; obtain ⟨o', e', _⟩ := hs'; exact ⟨o', e'⟩
    · exact ⟨o, (k.2 b hba).trans e⟩, fun b o e hb q => by
    by_cases hba : b = a
    · subst hba; rw [hs o e] at q; cases q
    · exact (k.2 b hba).trans e, fun b o e hb q _ => by
    by_cases hba : b = a
    · subst hba; exact absurd ha q
    · exact ⟨o.slots, (k.2 b hba).trans e⟩, fun b o e hb q => by
    by_cases hba : b = a
    · subst hba; exact hs'
    · exact ⟨o, (k.2 b hba).trans e, q⟩⟩
/-- at an object that was not -/
theorem Ext.side {a : Addr} (x : Ext D ρ h ρ' h') (k : ∀ b o, b ≠ a → h'.get? b = some o → h''.get? b = some o) (ha : h.get? a = none) : Ext D ρ h ρ' h'' := by
  have g : ∀ b o o', h.get? b = some o → h'.get? b = some o' → h''.get? b = some o' := fun b o o' e e' => k b o' (fun z => by rw [z, ha] at e; cases e) e'
  refine ⟨x.more, x.hid, fun b hb o e => g b o o e (x.held b hb o e), fun b o e => (let ⟨o1, e1⟩ := x.live b o e; ⟨o1, g b o o1 e e1⟩), fun b o e hb q => g b o o e (x.keep b o e hb q), fun b o e hb hd q => ?_, fun b o e hb q => ?_⟩
  · obtain ⟨sl, e'⟩ := x.slot b o e hb hd q; exact ⟨sl, g b o _ e e'⟩
  · obtain ⟨o', e', q'⟩ := x.soft b o e hb q; exact ⟨o', g b o _ e e', q'⟩
/-- what values stand on -/
structure VMon (ρ : Rho) (h : Heap) (ρ' : Rho) (h' : Heap) : Prop where
  get : ∀ (i : Nat) (p : Addr × Addr), ρ.objs[i]? = some p → ρ'.objs[i]? = some p
  keep : ∀ b o, h.get? b = some o → b ∉ muts ρ → softObj o = false → h'.get? b = some o
  notin : ∀ b o, h.get? b = some o → b ∉ muts ρ → b ∉ muts ρ'
theorem Ext.vmon (x : Ext D ρ h ρ' h') : VMon ρ h ρ' h' := ⟨fun _ _ e => x.get e, x.keep, fun _ _ e q => x.notin e q⟩
theorem VRep.map {ρ ρ' : Rho} {h h' : Heap} (ho : ∀ (i : Nat) (p : Addr × Addr), ρ.objs[i]? = some p → ρ'.objs[i]? = some p) (hk : ∀ a o ms n, h.get? a = some o → o.data = .seq ms n → a ∉ muts ρ → h'.get? a = some o ∧ a ∉ muts ρ') {v : V} {m : Value} (r : VRep ρ h v m) : VRep ρ' h' v m :=
  VRep.rec (motive_1 := fun v m _ => VRep ρ' h' v m) (motive_2 := fun vs ms _ => VReps ρ' h' vs ms) .none .bool .int .str (fun e => .ref (ho _ _ e)) (fun h1 h2 h3 h4 _ ih => .tup (hk _ _ _ _ h1 h3 h4).1 h2 h3 (hk _ _ _ _ h1 h3 h4).2 ih) (fun h1 h2 h3 h4 _ ih => .list (hk _ _ _ _ h1 h3 h4).1 h2 h3 (hk _ _ _ _ h1 h3 h4).2 ih) .nil (fun _ _ a b => .cons a b) r
theorem VReps.map {ρ ρ' : Rho} {h h' : Heap} (ho : ∀ (i : Nat) (p : Addr × Addr), ρ.objs[i]? = some p → ρ'.objs[i]? = some p) (hk : ∀ a o ms n, h.get? a = some o → o.data = .seq ms n → a ∉ muts ρ → h'.get? a = some o ∧ a ∉ muts ρ') : ∀ {vs : List V} {ms : List Value}, VReps ρ h vs ms → VReps ρ' h' vs ms := by
  intro vs
  induction vs with
  | nil => intro ms r; cases r; exact .nil
  | cons v vs ih => intro ms r; cases r with | cons a b => exact .cons (a.map ho hk) (ih b)
theorem VMon.seq {ρ ρ' : Rho} {h h' : Heap} (x : VMon ρ h ρ' h') : ∀ a o ms n, h.get? a = some o → o.data = .seq ms n → a ∉ muts ρ → h'.get? a = some o ∧ a ∉ muts ρ' := fun _ _ _ _ ho hd hn => ⟨x.keep _ _ ho hn (by simp [softObj, hd]), x.notin _ _ ho hn⟩
theorem VRep.vmono (x : VMon ρ h ρ' h') {v : V} {m : Value} (r : VRep ρ h v m) : VRep ρ' h' v m := r.map x.get x.seq
theorem VReps.vmono (x : VMon ρ h ρ' h') {vs : List V} {ms : List Value} (r : VReps ρ h vs ms) : VReps ρ' h' vs ms := r.map x.get x.seq
theorem VRep.mono (x : Ext D ρ h ρ' h') {v : V} {m : Value} (r : VRep ρ h v m) : VRep ρ' h' v m := r.vmono x.vmon
theorem VReps.mono (x : Ext D ρ h ρ' h') {vs : List V} {ms : List Value} (r : VReps ρ h vs ms) : VReps ρ' h' vs ms := r.vmono x.vmon
end
theorem seq_but {ρ : Rho} {h h' : Heap} {d : Addr} (hs : Heap.SameBut d h h') (hd : ∀ o, h.get? d = some o → softObj o = true) : ∀ a o ms n, h.get? a = some o → o.data = .seq ms n → a ∉ muts ρ → h'.get? a = some o ∧ a ∉ muts ρ :=
  fun _ _ _ _ ho hdt hn => ⟨(hs.2 _ (fun z => by have := hd _ (z ▸ ho); simp [softObj, hdt] at this)).trans ho, hn⟩
theorem VRep.mono_but {ρ : Rho} {h h' : Heap} {d : Addr} (hs : Heap.SameBut d h h') (hd : ∀ o, h.get? d = some o → softObj o = true) {v : V} {m : Value} (r : VRep ρ h v m) : VRep ρ h' v m := r.map (fun _ _ e => e) (seq_but hs hd)
theorem VReps.mono_but {ρ : Rho} {h h' : Heap} {d : Addr} (hs : Heap.SameBut d h h') (hd : ∀ o, h.get? d = some o → softObj o = true) {vs : List V} {ms : List Value} (r : VReps ρ h vs ms) : VReps ρ h' vs ms := r.map (fun _ _ e => e) (seq_but hs hd)
theorem VRep.seq_one {ρ : Rho} {h : Heap} {a : Addr} {o o' : Obj} {ms ms' : Array Value} {n n' : Nat} (h1 : h.get? a = some o) (h2 : o.data = .seq ms n) (h3 : h.get? a = some o') (h4 : o'.data = .seq ms' n') : o = o' ∧ ms = ms' := by
  rw [h1] at h3; cases h3
  rw [h2] at h4; cases h4
  exact ⟨rfl, rfl⟩
theorem VReps.inj0 {ρ : Rho} {h : Heap} {vs : List V} {ms : List Value} (r : VReps ρ h vs ms) : ∀ vs', VReps ρ h vs' ms → V.plains vs = true → V.plains vs' = true → vs = vs' :=
  VReps.rec (motive_1 := fun v m _ => ∀ v', VRep ρ h v' m → v.plain = true → v'.plain = true → v = v') (motive_2 := fun vs ms _ => ∀ vs', VReps ρ h vs' ms → V.plains vs = true → V.plains vs' = true → vs = vs')
    (fun v' b _ _ => by cases b; rfl) (fun _ v' b _ _ => by cases b; rfl) (fun _ _ v' b _ _ => by cases b; rfl)
    (fun s t v' b _ _ => by
      generalize hm : Value.str (strV s) t = m at b
      cases b with
      | str s' t' =>
        injection hm with h1 _
        have h2 : s.toArray = s'.toArray := congrArg PySem.Str.cps h1
        have h3 : s = s' := by simpa using h2
        rw [h3]
      | _ => cases hm)
    (fun _ v' _ p _ => by cases p)
    (fun ho hc hd hn r ih v' b p q => by
      cases b with
      | ref _ => cases q
      | list ho' hc' hd' _ _ => obtain ⟨rfl, _⟩ := VRep.seq_one (ρ := ρ) ho hd ho' hd'; rw [hc] at hc'; simp at hc'
      | tup ho' hc' hd' hn' r' => obtain ⟨rfl, rfl⟩ := VRep.seq_one (ρ := ρ) ho hd ho' hd'; rw [ih _ r' p q])
    (fun ho hc hd hn r ih v' b p q => by
      cases b with
      | ref _ => cases q
      | tup ho' hc' hd' _ _ => obtain ⟨rfl, _⟩ := VRep.seq_one (ρ := ρ) ho hd ho' hd'; rw [hc] at hc'; simp at hc'
      | list ho' hc' hd' hn' r' => obtain ⟨rfl, rfl⟩ := VRep.seq_one (ρ := ρ) ho hd ho' hd'; rw [ih _ r' p q])
    (fun vs' b _ _ => by cases b; rfl)
    (fun _ _ ih1 ih2 vs' b p q => by
      cases b with
      | cons a' r' =>
        obtain ⟨p1, p2⟩ := Bool.and_eq_true_iff.mp p
        obtain ⟨q1, q2⟩ := Bool.and_eq_true_iff.mp q
        rw [ih1 _ a' p1 q1, ih2 _ r' p2 q2]) r
theorem VReps.inj {ρ : Rho} {h : Heap} {vs vs' : List V} {ms : List Value} (r : VReps ρ h vs ms) (r' : VReps ρ h vs' ms) (p : V.plains vs = true) (q : V.plains vs' = true) : vs = vs' := r.inj0 vs' r' p q
theorem VRep.inj {ρ : Rho} {h : Heap} {v v' : V} {m : Value} (a : VRep ρ h v m) (b : VRep ρ h v' m) (p : v.plain = true) (q : v'.plain = true) : v = v' := by
  have := VReps.inj (.cons a .nil) (.cons b .nil) (Bool.and_eq_true_iff.mpr ⟨p, rfl⟩) (Bool.and_eq_true_iff.mpr ⟨q, rfl⟩)
  injection this
/-- a plain value's standing does not hang on ρ -/
theorem VReps.plain0 {ρ : Rho} {h : Heap} {vs : List V} {ms : List Value} (r : VReps ρ h vs ms) : V.plains vs = true → VReps .nil h vs ms :=
  VReps.rec (motive_1 := fun v m _ => v.plain = true → VRep .nil h v m) (motive_2 := fun vs ms _ => V.plains vs = true → VReps .nil h vs ms) (fun _ => .none) (fun b _ => .bool b) (fun i t _ => .int i t) (fun s t _ => .str s t) (fun _ p => by cases p)
    (fun ho hc hd _ _ ih p => .tup ho hc hd (by simp [muts, Rho.nil]) (ih p)) (fun ho hc hd _ _ ih p => .list ho hc hd (by simp [muts, Rho.nil]) (ih p)) (fun _ => .nil)
    (fun _ _ ih1 ih2 p => .cons (ih1 (Bool.and_eq_true_iff.mp p).1) (ih2 (Bool.and_eq_true_iff.mp p).2)) r
theorem VRep.plain0 {ρ : Rho} {h : Heap} {v : V} {m : Value} (r : VRep ρ h v m) (p : v.plain = true) : VRep .nil h v m := by
  cases VReps.plain0 (.cons r .nil) (Bool.and_eq_true_iff.mpr ⟨p, rfl⟩) with | cons a b => exact a
mutual
noncomputable def pdV : V → PyData
  | .int i => .int i
  | .str s => .str (strV s)
  | .tup vs => .tuple (pdVs vs)
  | .list vs => .list (pdVs vs)
  | _ => .none
noncomputable def pdVs : List V → List PyData
  | [] => []
  | v :: vs => pdV v :: pdVs vs
end
theorem VReps.reads {ρ : Rho} {h : Heap} {vs : List V} {ms : List Value} (r : VReps ρ h vs ms) : V.plains vs = true → ∃ as, ReadsAll h ms (pdVs vs) as :=
  VReps.rec (motive_1 := fun v m _ => v.plain = true → ∃ as, Reads h m (pdV v) as) (motive_2 := fun vs ms _ => V.plains vs = true → ∃ as, ReadsAll h ms (pdVs vs) as) (fun _ => ⟨_, .none⟩) (fun _ p => by cases p) (fun i t _ => ⟨_, .int i t⟩) (fun s t _ => ⟨_, .str _ t⟩) (fun _ p => by cases p)
    (fun ho hc hd _ _ ih p => let ⟨_, q⟩ := ih p; ⟨_, .tuple ho hc hd q⟩) (fun ho hc hd _ _ ih p => let ⟨_, q⟩ := ih p; ⟨_, .list ho hc hd q⟩) (fun _ => ⟨_, .nil⟩)
    (fun _ _ ih1 ih2 p => let ⟨_, q⟩ := ih1 (Bool.and_eq_true_iff.mp p).1; let ⟨_, q'⟩ := ih2 (Bool.and_eq_true_iff.mp p).2; ⟨_, .cons q q'⟩) r
theorem VRep.reads {ρ : Rho} {h : Heap} {v : V} {m : Value} (r : VRep ρ h v m) (p : v.plain = true) : ∃ as, Reads h m (pdV v) as := by
  obtain ⟨as, q⟩ := VReps.reads (.cons r .nil) (Bool.and_eq_true_iff.mpr ⟨p, rfl⟩)
  cases q with | cons a b => exact ⟨_, a⟩
theorem pdV_lay (v : V) : v.plain = true → (pdV v).canLay0 = true ∧ (pdV v).depth = v.depth :=
  V.rec (motive_1 := fun v => v.plain = true → (pdV v).canLay0 = true ∧ (pdV v).depth = v.depth)
    (motive_2 := fun vs => V.plains vs = true → PyData.canLayAll0 (pdVs vs) = true ∧ PyData.depthAll (pdVs vs) = V.depths vs)
    (fun _ => ⟨rfl, rfl⟩) (fun _ p => by cases p) (fun _ _ => ⟨rfl, rfl⟩)
    (fun s p => ⟨by have q : s.all (· < 0x110000) = true := p; simpa [pdV, PyData.canLay0, PyData.strOk, strV] using q, rfl⟩)
    (fun vs ih p => ⟨(ih p).1, congrArg (· + 1) (ih p).2⟩) (fun vs ih p => ⟨(ih p).1, congrArg (· + 1) (ih p).2⟩) (fun _ p => by cases p) (fun _ => ⟨rfl, rfl⟩)
    (fun a as ia ias p => ⟨Bool.and_eq_true_iff.mpr ⟨(ia (Bool.and_eq_true_iff.mp p).1).1, (ias (Bool.and_eq_true_iff.mp p).2).1⟩,
      congr (congrArg max (ia (Bool.and_eq_true_iff.mp p).1).2) (ias (Bool.and_eq_true_iff.mp p).2).2⟩) v
theorem pdV_eqv (a : V) : ∀ b : V, a.plain = true → b.plain = true → PyData.eqv (pdV a) (pdV b) = V.beq a b :=
  V.rec (motive_1 := fun a => ∀ b : V, a.plain = true → b.plain = true → PyData.eqv (pdV a) (pdV b) = V.beq a b)
    (motive_2 := fun a => ∀ b : List V, V.plains a = true → V.plains b = true → PyData.eqvAll (pdVs a) (pdVs b) = V.beqs a b)
    (fun b _ q => by cases b <;> first | rfl | cases q) (fun _ _ p _ => by cases p) (fun i b _ q => by cases b <;> first | rfl | cases q)
    (fun s b _ q => by
      cases b with
      | str t =>
        show (strV s == strV t) = (s == t)
        by_cases h : s = t
        · rw [h, beq_self_eq_true, beq_self_eq_true]
        · exact (beq_eq_false_iff_ne.mpr fun e : strV s = strV t => h (congrArg Array.toList (congrArg PySem.Str.cps e))).trans (beq_eq_false_iff_ne.mpr h).symm
      | _ => first | rfl | cases q)
    (fun vs ih b p q => by cases b with | tup ws => exact ih ws p q | _ => first | rfl | cases q)
    (fun vs ih b p q => by cases b with | list ws => exact ih ws p q | _ => first | rfl | cases q)
    (fun _ _ p _ => by cases p) (fun b _ _ => by cases b <;> rfl)
    (fun a as ia ias b p q => by
      cases b with
      | nil => rfl
      | cons b bs => exact congr (congrArg and (ia b (Bool.and_eq_true_iff.mp p).1 (Bool.and_eq_true_iff.mp q).1)) (ias bs (Bool.and_eq_true_iff.mp p).2 (Bool.and_eq_true_iff.mp q).2)) a
theorem V.beq_decide (a b : V) : V.beq a b = decide (a = b) := by
  by_cases h : a = b
  · rw [decide_eq_true h, (V.beq_iff a b).mpr h]
  · rw [decide_eq_false h]
    exact Bool.eq_false_iff.mpr fun e => h ((V.beq_iff a b).mp e)
end Mine
/-! A3 -/
namespace Mine
open PySem PySem.W PyProof.Rows
set_option genInjectivity false in
set_option genSizeOfSpec false in
structure Wd where
  prog : Program
  w : World
  h₀ : Heap
  K : Frag
  p : Program
  loose : List PySem.Str
  mg : PySem.Str → Option Value
  mb : PySem.Str → Option Value
  cls : Nat → Addr
  nm : Nat → PySem.Str
  nN : Nat
  gens : Array GenState
  os : OsState
  X : K.In h₀
  sys : ∃ o, h₀.get? sysModules = some o
  T : TopRead p loose mg mb h₀
  inj : ∀ i j, i < nN → j < nN → nm i = nm j → i = j
mutual
noncomputable def V.keyb : V → Bool
  | .int _ => true
  | .str s => s.all (· < 0x110000)
  | .tup vs => V.keybs vs
  | _ => false
noncomputable def V.keybs : List V → Bool
  | [] => true
  | v :: vs => V.keyb v && V.keybs vs
end
mutual
theorem V.keyb_plain : ∀ {v : V}, v.keyb = true → v.plain = true
  | .int _, _ => rfl
  | .str _, h => h
  | .tup vs, h => by simp only [V.plain]; exact V.keybs_plains (by simpa [V.keyb] using h)
  | .none, h | .bool _, h | .list _, h | .ref _, h => by simp [V.keyb] at h
theorem V.keybs_plains : ∀ {vs : List V}, V.keybs vs = true → V.plains vs = true
  | [], _ => rfl
  | v :: vs, h => by
    simp only [V.keybs, Bool.and_eq_true] at h
    simp only [V.plains, Bool.and_eq_true]
    exact ⟨V.keyb_plain h.1, V.keybs_plains h.2⟩
end
section
variable (W : Wd)
mutual
noncomputable def hashV : V → Int
  | .int i => (intKind W.prog W.w).hash i
  | .str s => (strKind W.prog W.w).hash (strV s)
  | .tup vs => reduceHash (Builtin.Tuple.tupleHashOf (hashVs vs))
  | _ => 0
noncomputable def hashVs : List V → List Int
  | [] => []
  | v :: vs => hashV v :: hashVs vs
end
mutual
noncomputable def drawsV : V → Nat
  | .tup vs => drawsVs vs + 1
  | _ => 1
noncomputable def drawsVs : List V → Nat
  | [] => 0
  | v :: vs => drawsV v + drawsVs vs
end
theorem hashVs_map : ∀ vs, hashVs W vs = vs.map (hashV W)
  | [] => rfl
  | v :: vs => by simp [hashVs, hashVs_map vs]
noncomputable def HashOk (v : V) : Prop := ∀ (A : Around) (E : Value → Shared → Prop) (s : Shared) (mv : Value) (Q : Int → Shared → Prop),
  A.units + 4 * V.depth v + 4 < cLine → VRep .nil s.heap v mv → Q (hashV W v) { s with toks := s.toks + drawsV v } → wpAny (model W.prog W.w) A (pyHash mv) Q E s
theorem V.depth_le {v : V} : ∀ {vs : List V}, v ∈ vs → V.depth v ≤ V.depths vs
  | u :: us, hm => by
    simp only [V.depths]
    rcases List.mem_cons.mp hm with e | m
    · rw [e]; exact Nat.le_max_left ..
    · exact Nat.le_trans (V.depth_le m) (Nat.le_max_right ..)
theorem hash_tup {vs : List V} (hall : ∀ v ∈ vs, HashOk W v) : HashOk W (.tup vs) := by
  intro A E s mv Q hu hr h
  simp only [V.depth] at hu
  cases hr with
  | @tup _ a o ms n ho hc hd hn r =>
  have hT : s.TypeIs (.ref a) "tuple" := ⟨o, ho, hc⟩
  unfold pyHash pyHashByItsType
  refine wpAny_bind (wpAny_cRoomFor_or (.inr (by lia)) ?_)
  refine wpAny_bind (wpAny_specialOf hT F.slot_tuple_hash.lookup ?_)
  show wpAny _ _ (if (some (Value.builtin "tuple.__hash__") == some Value.none) = true then _ else _) Q E s
  rw [if_neg (by rw [beq_builtin_none]; exact Bool.false_ne_true)]
  refine wpAny_bind (wpAny_specialOf hT F.slot_tuple_hash.lookup ?_)
  show wpAny _ _ (callSpecialIfBoundUnlessNone? (.ref a) "__hash__" _ >>= _) Q E s
  refine wpAny_bind (wpAny_callSpecialIfBoundUnlessNone?_slot hT F.slot_tuple_hash (wpAny_call_entry F.slot_tuple_hash hT F.entry_tuple_hash ?_ (F.args_tuple_hash_1 _)))
  show wpAny _ _ (Builtin.Tuple.tupleItemsOf (.ref a) >>= _) _ _ s
  refine wpAny_bind (wpAny_tupleItemsOf ho hd ?_)
  refine wpAny_bind ?_
  rw [← Array.forIn_toList]
  refine wpAny_forIn_list _
    (fun rest (b : Array Int) s' => ∃ done left, vs = done ++ left ∧ VReps .nil s.heap left rest ∧ b.toList = done.map (hashV W) ∧ s' = { s with toks := s.toks + drawsVs done })
    _ ?_ ?_ _ _ ⟨[], vs, rfl, r, rfl, rfl⟩
  · rintro x rest b s' ⟨done, left, e, hl, hb, rfl⟩
    cases hl with
    | @cons k _ ks' _ h1 hl' =>
      have hm : k ∈ vs := by rw [e]; simp
      have hdep := V.depth_le hm
      have hdr : drawsVs (done ++ [k]) = drawsVs done + drawsV k := by
        clear e h1 hl' hb hm hdep
        induction done with
        | nil => simp [drawsVs]
        | cons u us ih => simp [drawsVs, ih, Nat.add_assoc]
      refine wpAny_bind (hall k hm _ _ _ _ _ (by simp only; lia) h1 ?_)
      refine wpAny_pure ⟨done ++ [k], ks', by simp [e], hl', by simp [hb], ?_⟩
      rw [hdr]; simp [Nat.add_assoc]
  · rintro b s' ⟨done, left, e, hl, hb, rfl⟩
    cases hl
    rw [List.append_nil] at e
    subst e
    show wpAny _ _ (retInt (Builtin.Tuple.tupleHashOf b.toList)) _ _ _
    rw [hb]
    refine wpAny_ret_mkInt ?_
    show wpAny _ _ (if (decide (-(2 : Int) ^ 63 ≤ Builtin.Tuple.tupleHashOf (vs.map (hashV W))) && decide (Builtin.Tuple.tupleHashOf (vs.map (hashV W)) < 2 ^ 63)) = true then _ else _) Q E _
    simp only [hashV, hashVs_map, drawsV] at h
    unfold reduceHash at h
    by_cases hr : (decide (-(2 : Int) ^ 63 ≤ Builtin.Tuple.tupleHashOf (vs.map (hashV W))) && decide (Builtin.Tuple.tupleHashOf (vs.map (hashV W)) < 2 ^ 63)) = true
    · rw [if_pos hr]
      rw [if_pos hr] at h
      exact wpAny_pure (by simpa [Nat.add_assoc] using h)
    · rw [if_neg hr]
      rw [if_neg hr] at h
      exact wpAny_bind (wpAny_rule (wpAny_pure (by simpa [Nat.add_assoc] using h)))
mutual
theorem hash_ok : ∀ v : V, v.keyb = true → HashOk W v
  | .int i, _ => by
    intro A E s mv Q hu hr h
    cases hr
    exact (intKind W.prog W.w).pyHash (by simp [intKind, Value.isInt]) h
  | .str x, _ => by
    intro A E s mv Q hu hr h
    cases hr
    exact (strKind W.prog W.w).pyHash (strKind_is _ _ _ _) h
  | .tup vs, hk => hash_tup W (hash_oks vs (by simpa [V.keyb] using hk))
  | .none, h | .bool _, h | .list _, h | .ref _, h => by simp [V.keyb] at h
theorem hash_oks : ∀ vs : List V, V.keybs vs = true → ∀ v ∈ vs, HashOk W v
  | [], _, _, hm => nomatch hm
  | u :: us, hk, v, hm => by
    simp only [V.keybs, Bool.and_eq_true] at hk
    rcases List.mem_cons.mp hm with e | hm
    · rw [e]; exact hash_ok u hk.1
    · exact hash_oks us hk.2 v hm
end
end
section
variable (W : Wd) {A : Around} {E : Value → Shared → Prop} {s : Shared}
theorem eq_plain {ρ : Rho} {a b : V} {ma mb : Value} {Q : Bool → Shared → Prop} (ra : VRep ρ s.heap a ma) (rb : VRep ρ s.heap b mb) (ha : a.plain = true) (hb : b.plain = true)
    (hu : A.units + min a.depth b.depth < cLine) (h : Q (decide (a = b)) s) : wpAny (model W.prog W.w) A (eqBool ma mb) Q E s := by
  obtain ⟨as, qa⟩ := ra.reads ha
  obtain ⟨bs, qb⟩ := rb.reads hb
  have la := pdV_lay a ha
  have lb := pdV_lay b hb
  refine SeqAt.eqAt_reads _ _ A s ma mb as bs qa qb la.1 lb.1 (by rw [la.2, lb.2]; exact hu) W.prog W.w E Q ?_
  rw [pdV_eqv a b ha hb, V.beq_decide]; exact h
theorem quiet_byv {n : Nat} {v : V} {mv : Value} {Q : Bool → Shared → Prop} (r : VRep .nil s.heap v mv) (hk : v.keyb = true) (hz : v.depth = 0) (h : Q true s) : wpAny (model W.prog W.w) A (eqIsQuiet n mv) Q E s := by
  cases r with
  | int i t => rw [eqIsQuiet_byValue n rfl]; exact wpAny_pure h
  | str x t => rw [eqIsQuiet_byValue n rfl]; exact wpAny_pure h
  | tup => simp [V.depth] at hz
  | _ => simp [V.keyb] at hk
theorem quiet_keyb : ∀ (n : Nat) (v : V) (mv : Value) (Q : Bool → Shared → Prop), VRep .nil s.heap v mv → v.keyb = true → v.depth ≤ n → Q true s → wpAny (model W.prog W.w) A (eqIsQuiet n mv) Q E s := by
  intro n
  induction n with
  | zero => intro v mv Q r hk hd h; exact quiet_byv W r hk (by lia) h
  | succ n ih =>
    intro v mv Q r hk hd h
    by_cases hz : v.depth = 0
    · exact quiet_byv W r hk hz h
    cases r with
    | @tup vs a o ms k ho hc hda hn r =>
      have hT : s.TypeIs (.ref a) "tuple" := ⟨o, ho, hc⟩
      unfold eqIsQuiet
      refine wpAny_bind (wpAny_specialOf hT F.slot_tuple_eq.lookup ?_)
      show wpAny _ _ (isInstance (.ref a) (.type "tuple") >>= _) _ _ s
      refine wpAny_bind (wpAny_isInstance hT isSubtype_tuple_tuple ?_)
      simp only [Bool.not_true, Bool.false_eq_true, if_false]
      refine wpAny_bind (wpAny_seqItems ho hda ?_)
      refine wpAny_bind ?_
      show wpAny _ _ (forIn ms _ _) _ _ s
      rw [← Array.forIn_toList]
      simp only [V.keyb] at hk
      simp only [V.depth] at hd
      refine wpAny_forIn_list _ (fun rest r s' => r.1 = none ∧ s' = s ∧ ∃ ws, VReps .nil s.heap ws rest ∧ V.keybs ws = true ∧ V.depths ws ≤ n) _ ?_ ?_ _ _ ⟨rfl, rfl, vs, r, hk, by lia⟩
      · rintro v rest r s' ⟨hr, rfl, ws, hw, hkw, hdw⟩
        cases hw with
        | @cons w _ ws' _ h1 hw' =>
          simp only [V.keybs, Bool.and_eq_true] at hkw
          simp only [V.depths] at hdw
          have h1' : w.depth ≤ n := Nat.le_trans (Nat.le_max_left _ _) hdw
          have h2' : V.depths ws' ≤ n := Nat.le_trans (Nat.le_max_right _ _) hdw
          refine wpAny_bind (ih w v _ h1 hkw.1 h1' ?_)
          simp only [Bool.not_true, Bool.false_eq_true, if_false]
          exact wpAny_pure ⟨rfl, rfl, ws', hw', hkw.2, h2'⟩
      · rintro ⟨r1, r2⟩ s' ⟨hr, rfl, _⟩
        simp only at hr
        subst hr
        exact wpAny_pure h
    | int i t => simp [V.depth] at hz
    | str i t => simp [V.depth] at hz
    | _ => simp [V.keyb] at hk
end
noncomputable def vtup (W : Wd) : HeapKind W.prog W.w (List V) where
  is h vs a := VRep .nil h (.tup vs) (.ref a) ∧ V.keybs vs = true ∧ V.depths vs ≤ 6
  hash vs := hashV W (.tup vs)
  draws vs := drawsV (.tup vs)
  room A := A.units + 64 < cLine
  inj hx hy := by
    have := hx.1.inj hy.1 (by simp only [V.plain]; exact V.keybs_plains hx.2.1) (by simp only [V.plain]; exact V.keybs_plains hy.2.1)
    exact V.tup.inj this
  keeps {h h' k a d o es ep} x ho hd hs := by
    exact ⟨x.1.mono_but hs fun o' e => by rw [ho] at e; cases e; simp [softObj, hd], x.2⟩
  pyHash {A E s k a Q} hu hk h := by
    refine hash_ok W (.tup k) (by simpa [V.keyb] using hk.2.1) A E s (.ref a) Q ?_ hk.1 h
    have := hk.2.2
    simp only [V.depth]; lia
  eqBool {A E s x y a b Q} hu hx hy h := by
    refine eq_plain W hx.1 hy.1 (by simp only [V.plain]; exact V.keybs_plains hx.2.1) (by simp only [V.plain]; exact V.keybs_plains hy.2.1) ?_ ?_
    · have := hx.2.2
      have h2 : min (V.tup x).depth (V.tup y).depth ≤ (V.tup x).depth := Nat.min_le_left _ _
      simp only [V.depth] at h2 ⊢
      lia
    · have e : decide (V.tup x = V.tup y) = decide (x = y) := by simp
      rw [e]; exact h
  quiet {A E s k a Q} hk h := quiet_keyb W 8 (.tup k) _ _ hk.1 (by simpa [V.keyb] using hk.2.1) (by have := hk.2.2; simp only [V.depth]; lia) h
end Mine
/-! A4 -/
namespace Mine
open PySem PySem.W PyProof.Rows
inductive All2 {α β : Type} (R : α → β → Prop) : List α → List β → Prop
  | nil : All2 R [] []
  | cons {a : α} {b : β} {as : List α} {bs : List β} : R a b → All2 R as bs → All2 R (a :: as) (b :: bs)
theorem All2.mono {α β : Type} {R R' : α → β → Prop} (h : ∀ a b, R a b → R' a b) {as : List α} {bs : List β} (r : All2 R as bs) : All2 R' as bs := by
  induction r with
  | nil => exact .nil
  | cons a _ ih => exact .cons (h _ _ a) ih
theorem All2.length {α β : Type} {R : α → β → Prop} {as : List α} {bs : List β} (r : All2 R as bs) : as.length = bs.length := by
  induction r with
  | nil => rfl
  | cons _ _ ih => exact congrArg (· + 1) ih
theorem All2.append {α β : Type} {R : α → β → Prop} {as as' : List α} {bs bs' : List β} (r : All2 R as bs) (q : All2 R as' bs') : All2 R (as ++ as') (bs ++ bs') := by
  induction r with
  | nil => exact q
  | cons a _ ih => exact .cons a ih
section
variable (W : Wd)
noncomputable def dictRep (ρ : Rho) (h : Heap) (k : DK) (kvs : List (V × V)) (a : Addr) : Prop := match k with
  | .int => ∃ ks : List (Int × Value), h.DictOf (intKind W.prog W.w) a ks ∧ All2 (fun kv km => kv.1 = .int km.1 ∧ VRep ρ h kv.2 km.2) kvs ks
  | .str => ∃ ks : List (PySem.Str × Value), h.DictOf (strKind W.prog W.w) a ks ∧ All2 (fun kv km => (∃ x, kv.1 = .str x ∧ km.1 = strV x) ∧ VRep ρ h kv.2 km.2) kvs ks
  | .tup => ∃ xs : List (List V × Addr × Value), h.DictOfH (vtup W) a xs ∧ All2 (fun kv km => (kv.1 = .tup km.1 ∧ VRep ρ h (.tup km.1) (.ref km.2.1)) ∧ VRep ρ h kv.2 km.2.2) kvs xs
noncomputable def ORep (ρ : Rho) (h : Heap) : O → Addr × Addr → Prop
  | .list vs, p => p.1 = p.2 ∧ ∃ ms n, h.get? p.2 = some ⟨.type "list", none, .seq ms n, #[]⟩ ∧ VReps ρ h vs ms.toList
  | .dict k kvs, p => p.1 = p.2 ∧ dictRep W ρ h k kvs p.2
  | .inst c fs, p => (∃ sl, h.get? p.1 = some ⟨.ref (W.cls c), some p.2, .plain, sl⟩) ∧
      ∃ ks : List (PySem.Str × Value), h.DictOf (strKind W.prog W.w) p.2 ks ∧ All2 (fun kv km => (kv.1 < W.nN ∧ km.1 = W.nm kv.1) ∧ VRep ρ h kv.2 km.2) fs ks
structure StH (ρ : Rho) (σ : Sto) (h : Heap) : Prop where
  base : W.h₀.StaysIn h
  fresh : ∀ a ∈ muts ρ, W.h₀.get? a = none
  hidc : ∀ a ∈ ρ.hid, ∃ ob, h.get? a = some ob ∧ ob.cls = .type "list"
  nodup : (muts ρ).Nodup
  len : ρ.objs.length = σ.length
  objs : ∀ (i : Nat) (o : O) (p : Addr × Addr), σ[i]? = some o → ρ.objs[i]? = some p → ORep W ρ h o p
structure St (ρ : Rho) (σ : Sto) (s : Shared) : Prop where
  heap : StH W ρ σ s.heap
  gens : s.gens = W.gens
  os : s.os = W.os
/-- a changing object is a list or a dict of the built-in class -/
theorem ORep.mut {ρ : Rho} {h : Heap} {o : O} {p : Addr × Addr} (r : ORep W ρ h o p) : ∃ ob, h.get? p.2 = some ob ∧ (ob.cls = .type "list" ∨ ob.cls = .type "dict") := by
  cases o with
  | list vs => obtain ⟨_, ms, n, e, _⟩ := r; exact ⟨_, e, .inl rfl⟩
  | dict k kvs =>
    obtain ⟨_, r⟩ := r
    cases k with
    | int => obtain ⟨ks, ⟨o, es, ep, ho, hx, _⟩, _⟩ := r; exact ⟨o, ho, .inr hx.1⟩
    | str => obtain ⟨ks, ⟨o, es, ep, ho, hx, _⟩, _⟩ := r; exact ⟨o, ho, .inr hx.1⟩
    | tup => obtain ⟨ks, ⟨o, es, ep, ho, hx, _⟩, _⟩ := r; exact ⟨o, ho, .inr hx.1⟩
  | inst c fs => obtain ⟨_, ks, ⟨o, es, ep, ho, hx, _⟩, _⟩ := r; exact ⟨o, ho, .inr hx.1⟩
variable {W}
theorem DictOf.at_ {K : Type} [DecidableEq K] {knd : KeyKind W.prog W.w K} {h h' : Heap} {a : Addr} {ks : List (K × Value)} (d : h.DictOf knd a ks) (k : ∀ ob, h.get? a = some ob → h'.get? a = some ob) : h'.DictOf knd a ks := by
  obtain ⟨o, es, ep, ho, r⟩ := d
  exact ⟨o, es, ep, k _ ho, r⟩
theorem All2.right {α β : Type} {R : α → β → Prop} {P : β → Prop} (h : ∀ a b, R a b → P b) {as : List α} {bs : List β} (r : All2 R as bs) : ∀ b ∈ bs, P b := by
  induction r with
  | nil => intro b hm; cases hm
  | cons a _ ih =>
    intro b hm
    rcases List.mem_cons.mp hm with e | hm
    · rw [e]; exact h _ _ a
    · exact ih b hm
theorem vtup_mono {ρ ρ' : Rho} {h h' : Heap} {k : List V} {a : Addr} (x : VMon ρ h ρ' h') (hk : (vtup W).is h k a) (r : VRep ρ h (.tup k) (.ref a)) : (vtup W).is h' k a :=
  ⟨(r.vmono x).plain0 (by simp only [V.plain]; exact V.keybs_plains hk.2.1), hk.2⟩
theorem DictOfH.mono {ρ ρ' : Rho} {h h' : Heap} {a : Addr} {xs : List (List V × Addr × Value)} (d : h.DictOfH (vtup W) a xs) (x : VMon ρ h ρ' h')
    (hr : ∀ y ∈ xs, VRep ρ h (.tup y.1) (.ref y.2.1)) (k : ∀ ob, h.get? a = some ob → h'.get? a = some ob) : h'.DictOfH (vtup W) a xs := by
  obtain ⟨o, es, ep, ho, he, hd, hl, his, hn⟩ := d
  exact ⟨o, es, ep, k _ ho, he, hd, hl, fun y hy => vtup_mono x (his y hy) (hr y hy), hn⟩
theorem dictRep.mono {ρ ρ' : Rho} {h h' : Heap} {kd : DK} {kvs : List (V × V)} {a : Addr} (r : dictRep W ρ h kd kvs a) (x : VMon ρ h ρ' h') (k : ∀ ob, h.get? a = some ob → h'.get? a = some ob) :
    dictRep W ρ' h' kd kvs a := by
  cases kd with
  | int => obtain ⟨ks, d, al⟩ := r; exact ⟨ks, DictOf.at_ d k, al.mono fun _ _ q => ⟨q.1, q.2.vmono x⟩⟩
  | str => obtain ⟨ks, d, al⟩ := r; exact ⟨ks, DictOf.at_ d k, al.mono fun _ _ q => ⟨q.1, q.2.vmono x⟩⟩
  | tup =>
    obtain ⟨ks, d, al⟩ := r
    exact ⟨ks, DictOfH.mono d x (al.right fun _ _ q => q.1.2) k, al.mono fun _ _ q => ⟨⟨q.1.1, q.1.2.vmono x⟩, q.2.vmono x⟩⟩
theorem ORep.mono {ρ ρ' : Rho} {h h' : Heap} {o : O} {p : Addr × Addr} (r : ORep W ρ h o p) (x : VMon ρ h ρ' h') (k : ∀ ob, h.get? p.2 = some ob → h'.get? p.2 = some ob)
    (hp : ∀ ob, h.get? p.1 = some ob → softObj ob = false → ∃ sl, h'.get? p.1 = some { ob with slots := sl }) : ORep W ρ' h' o p := by
  cases o with
  | list vs => obtain ⟨e, ms, n, g, q⟩ := r; exact ⟨e, ms, n, k _ g, q.vmono x⟩
  | dict kd kvs => exact ⟨r.1, r.2.mono x k⟩
  | inst c fs =>
    obtain ⟨⟨sl, e⟩, ks, d, al⟩ := r
    obtain ⟨sl', e'⟩ := hp _ e rfl
    exact ⟨⟨sl', e'⟩, ks, DictOf.at_ d k, al.mono fun _ _ q => ⟨q.1, q.2.vmono x⟩⟩
variable {ρ ρ' : Rho} {σ : Sto} {h h' : Heap}
theorem StH.at (S : StH W ρ σ h) {p : Addr × Addr} (hp : p ∈ ρ.objs) : ∃ (i : Nat) (o : O), σ[i]? = some o ∧ ρ.objs[i]? = some p ∧ ORep W ρ h o p := by
  obtain ⟨i, hi⟩ := List.mem_iff_getElem?.mp hp
  have hlt : i < σ.length := by rw [← S.len]; exact (List.getElem?_eq_some_iff.mp hi).1
  exact ⟨i, σ[i], by simp [hlt], hi, S.objs i _ p (by simp [hlt]) hi⟩
theorem StH.get (S : StH W ρ σ h) {i : Nat} {o : O} (e : σ[i]? = some o) : ∃ p, ρ.objs[i]? = some p ∧ ORep W ρ h o p := by
  have hlt : i < ρ.objs.length := by rw [S.len]; exact (List.getElem?_eq_some_iff.mp e).1
  exact ⟨ρ.objs[i], by simp [hlt], S.objs i o _ e (by simp [hlt])⟩
theorem StH.mut_cls (S : StH W ρ σ h) {a : Addr} (ha : a ∈ muts ρ) : ∃ ob, h.get? a = some ob ∧ (ob.cls = .type "list" ∨ ob.cls = .type "dict") := by
  rcases mem_muts'.mp ha with ha | ha
  · obtain ⟨p, hp, rfl⟩ := List.mem_map.mp ha
    obtain ⟨i, o, _, _, r⟩ := S.at hp
    exact r.mut
  · obtain ⟨ob, e, c⟩ := S.hidc a ha; exact ⟨ob, e, .inl c⟩
theorem StH.lt (S : StH W ρ σ h) {a : Addr} (ha : a ∈ muts ρ) : a < h.objs.size := by
  obtain ⟨ob, e, _⟩ := S.mut_cls ha
  exact Heap.lt_size e
theorem StH.new_notin (S : StH W ρ σ h) : h.objs.size ∉ muts ρ := fun hm => Nat.lt_irrefl _ (S.lt hm)
theorem StH.notin_of_cls (S : StH W ρ σ h) {a : Addr} {o : Obj} (e : h.get? a = some o) (h1 : o.cls ≠ .type "list") (h2 : o.cls ≠ .type "dict") : a ∉ muts ρ := fun hm => by
  obtain ⟨ob, e', c⟩ := S.mut_cls hm
  rw [e] at e'; cases e'
  exact c.elim h1 h2
theorem StH.base_notin (S : StH W ρ σ h) {a : Addr} {o : Obj} (e : W.h₀.get? a = some o) : a ∉ muts ρ := fun hm => by
  rw [S.fresh a hm] at e; cases e
/-- nothing that was has changed -/
theorem StH.keeps (S : StH W ρ σ h) (k : ∀ b o, h.get? b = some o → h'.get? b = some o) : StH W ρ σ h' := by
  refine ⟨fun b o e => k _ _ (S.base b o e), S.fresh, fun a ha => (let ⟨ob, e, c⟩ := S.hidc a ha; ⟨ob, k _ _ e, c⟩), S.nodup, S.len, fun i o p e e' => ?_⟩
  exact (S.objs i o p e e').mono (Ext.of_keeps (D := []) k).vmon (fun ob q => k _ _ q) fun ob q _ => ⟨ob.slots, k _ _ q⟩
theorem StH.nodup1 (S : StH W ρ σ h) : (ρ.objs.map (·.2)).Nodup := (List.nodup_append.mp S.nodup).1
theorem StH.not_hid (S : StH W ρ σ h) {i : Nat} {p : Addr × Addr} (hi : ρ.objs[i]? = some p) : p.2 ∉ ρ.hid := fun hm =>
  (List.nodup_append.mp S.nodup).2.2 p.2 (List.mem_map.mpr ⟨p, List.mem_of_getElem? hi, rfl⟩) p.2 hm rfl
/-- one object has changed -/
theorem StH.set (S : StH W ρ σ h) {i : Nat} {p : Addr × Addr} {o' : O} (hi : ρ.objs[i]? = some p) (hs : Heap.SameBut p.2 h h') (r : ORep W ρ h' o' p) : StH W ρ (σ.set i o') h' := by
  have hm : p.2 ∈ muts ρ := mem_muts'.mpr (.inl (List.mem_map.mpr ⟨p, List.mem_of_getElem? hi, rfl⟩))
  have hh := S.not_hid hi
  refine ⟨fun b o e => ?_, S.fresh, fun a ha => (let ⟨ob, e, c⟩ := S.hidc a ha; ⟨ob, (hs.2 a fun z => hh (z ▸ ha)).trans e, c⟩), S.nodup, by simp [S.len], fun j o q e e' => ?_⟩
  · exact (hs.2 b fun z => S.base_notin e (z ▸ hm)).trans (S.base b o e)
  · by_cases hij : i = j
    · subst hij
      rw [hi] at e'; cases e'
      rw [List.getElem?_set] at e
      simp only [if_pos] at e
      split at e
      · cases e; exact r
      · cases e
    · rw [List.getElem?_set, if_neg hij] at e
      have hne : q.2 ≠ p.2 := by
        intro z
        have h1 : (ρ.objs.map (·.2))[j]? = some q.2 := by simp [e']
        have h2 : (ρ.objs.map (·.2))[i]? = some p.2 := by simp [hi]
        rw [z] at h1
        exact hij ((List.getElem?_inj (List.getElem?_eq_some_iff.mp h2).1 S.nodup1).mp (h2.trans h1.symm))
      refine (S.objs j o q e e').mono (Ext.sameBut (D := []) hs hm hh (let ⟨ob, e, _⟩ := r.mut; ⟨ob, e⟩)).vmon (fun ob z => (hs.2 _ hne).trans z) fun ob z zs => ?_
      by_cases hq : q.1 = p.2
      · have ro := S.objs j o q e e'
        cases o with
        | list vs => exact absurd (ro.1.symm.trans hq) hne
        | dict k kvs => exact absurd (ro.1.symm.trans hq) hne
        | inst c fs =>
          obtain ⟨⟨sl, e1⟩, _⟩ := ro
          obtain ⟨ob', e2, hc⟩ := S.mut_cls hm
          rw [hq, e2] at e1; cases e1
          simp at hc
      · exact ⟨ob.slots, (hs.2 _ hq).trans z⟩
/-- a new object -/
theorem StH.alloc (S : StH W ρ σ h) {p : Addr × Addr} {o' : O} (k : ∀ b o, h.get? b = some o → h'.get? b = some o) (hp : h.get? p.2 = none) (r : ORep W (ρ.add p) h' o' p) :
    StH W (ρ.add p) (σ ++ [o']) h' ∧ Ext [] ρ h (ρ.add p) h' := by
  have x : Ext [] ρ h (ρ.add p) h' := ⟨⟨[p], rfl, by simpa using hp⟩, rfl, fun b _ o e => k b o e, fun b o e => ⟨o, k _ _ e⟩, fun b o e _ _ => k _ _ e, fun b o e _ _ _ => ⟨o.slots, k _ _ e⟩, fun b o e _ q => ⟨o, k _ _ e, q⟩⟩
  have hnew : p.2 ∉ muts ρ := fun hm => by obtain ⟨ob, e, _⟩ := S.mut_cls hm; rw [hp] at e; cases e
  have mem : ∀ a, a ∈ muts (ρ.add p) ↔ a = p.2 ∨ a ∈ muts ρ := fun a => by
    simp only [mem_muts', Rho.add, List.map_append, List.mem_append, List.map_cons, List.map_nil, List.mem_singleton]
    constructor
    · rintro ((h | h) | h)
      · exact .inr (.inl h)
      · exact .inl h
      · exact .inr (.inr h)
    · rintro (h | h | h)
      · exact .inl (.inr h)
      · exact .inl (.inl h)
      · exact .inr h
  refine ⟨⟨fun b o e => k _ _ (S.base b o e), fun a ha => ?_, fun a ha => (let ⟨ob, e, c⟩ := S.hidc a ha; ⟨ob, k _ _ e, c⟩), ?_, by simp [S.len, Rho.add], fun j o q e e' => ?_⟩, x⟩
  · rcases (mem a).mp ha with rfl | ha
    · cases z : W.h₀.get? p.2 with
      | none => rfl
      | some o => have := S.base _ _ z; rw [hp] at this; cases this
    · exact S.fresh a ha
  · have hn := S.nodup
    unfold muts at hn ⊢
    rw [List.nodup_append] at hn
    obtain ⟨n1, n2, n3⟩ := hn
    rw [mem_muts', not_or] at hnew
    simp only [Rho.add, List.map_append, List.map_cons, List.map_nil]
    rw [List.nodup_append]
    refine ⟨?_, n2, fun a ha b hb => ?_⟩
    · rw [List.nodup_append]
      refine ⟨n1, by simp, fun a ha b hb => ?_⟩
      rw [List.mem_singleton.mp hb]
      exact fun z => hnew.1 (z ▸ ha)
    · rcases List.mem_append.mp ha with ha | ha
      · exact n3 a ha b hb
      · rw [List.mem_singleton.mp ha]; exact fun z => hnew.2 (z ▸ hb)
  · by_cases hj : j < σ.length
    · rw [List.getElem?_append_left hj] at e
      simp only [Rho.add] at e'
      rw [List.getElem?_append_left (by rw [S.len]; exact hj)] at e'
      exact (S.objs j o q e e').mono x.vmon (fun ob z => k _ _ z) fun ob z _ => ⟨ob.slots, k _ _ z⟩
    · have hj' : σ.length ≤ j := by lia
      rw [List.getElem?_append_right hj'] at e
      simp only [Rho.add] at e'
      rw [List.getElem?_append_right (by rw [S.len]; exact hj')] at e'
      rw [S.len] at e'
      cases z : j - σ.length with
      | zero => rw [z] at e e'; simp at e e'; subst e e'; exact r
      | succ n => rw [z] at e; simp at e
end
end Mine
/-! A5 -/
namespace Mine
open PySem PySem.W PyProof.Rows
structure Act where
  A : Around
  env : Env
  l : List Env
noncomputable def Act.D (a : Act) : List Addr := a.env.locals :: a.env.cells.map (·.2)
section
variable (W : Wd)
structure Room (n : Nat) (A : Around) (l : List Env) : Prop where
  hand : A.handled = none
  frames : A.frames = some l
  depth : A.depth + n ≤ 990
  units : A.units + 40 * n + 400 ≤ cLine
structure ActOk (n : Nat) (a : Act) : Prop extends Room n a.A a.l where
  head : ∃ fe outer L, a.l = fe :: outer ∧ fe.frame = some L ∧ a.env.frame = some L
  kind : a.env.scope.kind = .function
  glob : a.env.globals = mainGlobals
  blt : a.env.builtins = builtinsNs
/-- the frames of the calls under way -/
noncomputable def Live (l : List Env) (ρ : Rho) (h : Heap) : Prop :=
  ∀ e ∈ l, e.scope.kind ≠ .module ∧ ∃ L o, e.frame = some L ∧ L ∉ muts ρ ∧ W.h₀.get? L = none ∧ h.get? L = some o ∧ softObj o = true
noncomputable def VarAt (a : Act) (ρ : Rho) (h : Heap) (m : PySem.Str → Option Value) (x : PySem.Str) (v : V) : Prop :=
  match a.env.kindOf x with
  | some .local => ∃ mv, m x = some mv ∧ VRep ρ h v mv
  | some .cell | some .free => ∃ c mv, a.env.cells.lookup x = some c ∧ h.IsCell c (some mv) ∧ VRep ρ h v mv
  | _ => False
structure FS (a : Act) (fr : Loc) (ρ : Rho) (h : Heap) : Prop where
  live : Live W a.l ρ h
  ns : ∃ m, h.Ns a.env.locals m ∧ ∀ i v, fr.lookup i = some v → i < W.nN ∧ VarAt a ρ h m (W.nm i) v
  apartL : a.env.locals ∉ muts ρ
  baseL : W.h₀.get? a.env.locals = none
  cells : ∀ x c, (x, c) ∈ a.env.cells → c ∉ muts ρ ∧ W.h₀.get? c = none ∧ ∃ v, h.IsCell c v
  apart : a.env.cells.Pairwise fun x y => x.2 ≠ y.2
  laid : ∀ x, a.env.kindOf x = some .cell → ∃ c, a.env.cells.lookup x = some c
noncomputable def frs (l : List Env) : List Addr := l.filterMap (·.frame)
/-- what stays where an exception flies: B, the frames up to slots -/
structure XExt (D F : List Addr) (ρ : Rho) (h : Heap) (ρ' : Rho) (B h' : Heap) : Prop where
  more : ∃ x, ρ'.objs = ρ.objs ++ x ∧ ∀ a ∈ x.map (·.2), h.get? a = Option.none
  hid : ρ'.hid = ρ.hid
  held : ∀ a ∈ ρ.hid, ∀ o, h.get? a = some o → B.get? a = some o
  keep : ∀ b o, h.get? b = some o → b ∉ muts ρ → softObj o = false → B.get? b = some o
  slot : ∀ b o, h.get? b = some o → b ∉ muts ρ → b ∉ D → softObj o = true → ∃ sl, (b ∉ F → B.get? b = some { o with slots := sl }) ∧ (b ∈ F → h'.get? b = some { o with slots := sl })
  soft : ∀ b o, h.get? b = some o → b ∉ muts ρ → softObj o = true → ∃ o', softObj o' = true ∧ (b ∉ F → B.get? b = some o') ∧ (b ∈ F → h'.get? b = some o')
  stays : B.StaysIn h'
/-- an exception that a call let go -/
noncomputable def Flown (l : List Env) (c : Nat) (ρ : Rho) (σ : Sto) (s : Shared) (e : Addr) (B : Heap) : Prop :=
  s.gens = W.gens ∧ s.os = W.os ∧ StH W ρ σ B ∧ ∃ a0, Heap.FlyingW B l e (.ref (W.cls c)) a0 s.heap
/-- one that has been looked at here -/
noncomputable def Held (l : List Env) (c : Nat) (ρ : Rho) (σ : Sto) (s : Shared) (e : Addr) (B : Heap) : Prop :=
  s.gens = W.gens ∧ s.os = W.os ∧ StH W ρ σ B ∧ ∃ env outer L a0, l = env :: outer ∧ env.frame = some L ∧ Heap.HeldW B l e (.ref (W.cls c)) a0 L s.heap
/-- one just raised here -/
noncomputable def Raised (l : List Env) (c : Nat) (ρ : Rho) (σ : Sto) (s : Shared) (e : Addr) (B : Heap) : Prop :=
  s.gens = W.gens ∧ s.os = W.os ∧ StH W ρ σ B ∧ ∃ oe vs a0, B.StaysIn s.heap ∧ B.get? e = none ∧
    s.heap.get? e = some oe ∧ oe.cls = .ref (W.cls c) ∧ oe.data = .fields vs ∧ vs[1]? = some .none ∧ vs[0]? = some a0 ∧ s.heap.FunFrames B l
noncomputable def PostG {β : Type} (a : Act) (ρ : Rho) (s : Shared) (r : Res β) (K : β → Rho → Shared → Prop) (E : Value → Shared → Prop) : Prop := match r with
  | .ok v σ' => ∀ ρ' s', St W ρ' σ' s' → Ext [] ρ s.heap ρ' s'.heap → K v ρ' s'
  | .exc c σ' => ∀ ρ' s' e B, (Flown W a.l c ρ' σ' s' e B ∨ Held W a.l c ρ' σ' s' e B) → XExt [] (frs a.l) ρ s.heap ρ' B s'.heap → E (.ref e) s'
  | .stuck => False
noncomputable def KV (Q : Value → Shared → Prop) (v : V) (ρ : Rho) (s : Shared) : Prop := ∀ mv, VRep ρ s.heap v mv → Q mv s
noncomputable def KVs (Q : List Value → Shared → Prop) (vs : List V) (ρ : Rho) (s : Shared) : Prop := ∀ ms, VReps ρ s.heap vs ms → Q ms s
noncomputable def KB (Q : Bool → Shared → Prop) (b : Bool) (_ρ : Rho) (s : Shared) : Prop := Q b s
noncomputable abbrev PostE (a : Act) (ρ : Rho) (s : Shared) (r : Res V) (Q : Value → Shared → Prop) (E : Value → Shared → Prop) : Prop := PostG W a ρ s r (KV Q) E
noncomputable def DenE (n : Nat) (sc : Scope) (e : PySem.Expr) (f : ME V) : Prop :=
  ∀ (a : Act), ActOk n a → a.env.scope = sc → ∀ (ρ : Rho) (σ : Sto) (fr : Loc) (s : Shared), St W ρ σ s → FS W a fr ρ s.heap →
    ∀ (Q : Value → Shared → Prop) (E : Value → Shared → Prop), PostE W a ρ s (f fr σ) Q E → wpAny (model W.prog W.w) a.A (eval e a.env) Q E s
/-- a list of arguments -/
noncomputable def DenEs (n : Nat) (sc : Scope) (es : List PySem.Expr) (f : ME (List V)) : Prop :=
  ∀ (a : Act), ActOk n a → a.env.scope = sc → ∀ (ρ : Rho) (σ : Sto) (fr : Loc) (s : Shared), St W ρ σ s → FS W a fr ρ s.heap →
    ∀ (pos : Pos) (Q : List Value → Shared → Prop) (E : Value → Shared → Prop), PostG W a ρ s (f fr σ) (KVs Q) E →
      wpAny (model W.prog W.w) a.A (spliced (backTo pos (starEach es a.env))) Q E s
/-- a test -/
noncomputable def DenB (n : Nat) (sc : Scope) (e : PySem.Expr) (f : ME Bool) : Prop :=
  ∀ (a : Act), ActOk n a → a.env.scope = sc → ∀ (ρ : Rho) (σ : Sto) (fr : Loc) (s : Shared), St W ρ σ s → FS W a fr ρ s.heap →
    ∀ (Q : Bool → Shared → Prop) (E : Value → Shared → Prop), PostG W a ρ s (f fr σ) (KB Q) E → wpAny (model W.prog W.w) a.A (isTrue e a.env (eval e a.env)) Q E s
noncomputable def PostS (a : Act) (ρ : Rho) (s : Shared) (r : SRes) (Q : Flow → Shared → Prop) (E : Value → Shared → Prop) : Prop := match r with
  | .next fr' σ' => ∀ ρ' s', St W ρ' σ' s' → Ext a.D ρ s.heap ρ' s'.heap → FS W a fr' ρ' s'.heap → Q .next s'
  | .brk fr' σ' => ∀ ρ' s', St W ρ' σ' s' → Ext a.D ρ s.heap ρ' s'.heap → FS W a fr' ρ' s'.heap → Q .brk s'
  | .ret v σ' => ∀ ρ' s' mv, St W ρ' σ' s' → Ext a.D ρ s.heap ρ' s'.heap → VRep ρ' s'.heap v mv → Q (.ret mv) s'
  | .exc c fr' σ' => ∀ ρ' s' e B, ((Flown W a.l c ρ' σ' s' e B ∨ Held W a.l c ρ' σ' s' e B) ∨ Raised W a.l c ρ' σ' s' e B) → XExt a.D (frs a.l) ρ s.heap ρ' B s'.heap → FS W a fr' ρ' s'.heap → E (.ref e) s'
  | .stuck => False
noncomputable def DenS (n : Nat) (sc : Scope) (st : Stmt) (f : MS) : Prop :=
  ∀ (a : Act), ActOk n a → a.env.scope = sc → ∀ (ρ : Rho) (σ : Sto) (fr : Loc) (s : Shared), St W ρ σ s → FS W a fr ρ s.heap →
    ∀ (Q : Flow → Shared → Prop) (E : Value → Shared → Prop), PostS W a ρ s (f fr σ) Q E → wpAny (model W.prog W.w) a.A (exec st a.env) Q E s
noncomputable def DenSs (n : Nat) (sc : Scope) (st : List Stmt) (f : MS) : Prop :=
  ∀ (a : Act), ActOk n a → a.env.scope = sc → ∀ (ρ : Rho) (σ : Sto) (fr : Loc) (s : Shared), St W ρ σ s → FS W a fr ρ s.heap →
    ∀ (Q : Flow → Shared → Prop) (E : Value → Shared → Prop), PostS W a ρ s (f fr σ) Q E → wpAny (model W.prog W.w) a.A (execs st a.env) Q E s
noncomputable def PostC (l : List Env) (ρ : Rho) (s : Shared) (r : Res V) (R : Result → Shared → Prop) : Prop := match r with
  | .ok v σ' => ∀ ρ' s' mv, St W ρ' σ' s' → Ext [] ρ s.heap ρ' s'.heap → VRep ρ' s'.heap v mv → R (.ok (.ret mv)) s'
  | .exc c σ' => ∀ ρ' s' e B, Flown W l c ρ' σ' s' e B → XExt [] (frs l) ρ s.heap ρ' B s'.heap → R (.error (.ref e)) s'
  | .stuck => False
noncomputable def CallOk (n : Nat) (f : Addr) (g : List V → Sto → Res V) : Prop :=
  ∀ (A : Around) (l : List Env), Room n A l → ∀ (ρ : Rho) (σ : Sto) (s : Shared) (vs : List V) (ms : List Value), St W ρ σ s → Live W l ρ s.heap → VReps ρ s.heap vs ms →
    ∀ (R : Result → Shared → Prop), PostC W l ρ s (g vs σ) R → codeAny (model W.prog W.w) A (.call (.ref f) ⟨ms, []⟩) R s
end
section
variable {W : Wd} {a : Act} {fr : Loc} {ρ ρ' : Rho} {σ : Sto} {h h' : Heap} {s s' : Shared} {D : List Addr}
theorem XExt.notin {F : List Addr} {B : Heap} {a : Addr} {o : Obj} (x : XExt D F ρ h ρ' B h') (ho : h.get? a = some o) (hn : a ∉ muts ρ) : a ∉ muts ρ' := by
  obtain ⟨u, hu1, hu⟩ := x.more
  rw [mem_muts', not_or] at hn
  rw [mem_muts', hu1, x.hid, List.map_append, List.mem_append, not_or, not_or]
  exact ⟨⟨hn.1, fun hm => by rw [hu a hm] at ho; cases ho⟩, hn.2⟩
theorem XExt.sub {F : List Addr} {B : Heap} {a : Addr} (x : XExt D F ρ h ρ' B h') (hm : a ∈ muts ρ) : a ∈ muts ρ' := by
  obtain ⟨u, hu1, hu⟩ := x.more
  rw [mem_muts'] at hm ⊢
  rw [hu1, x.hid, List.map_append, List.mem_append]
  exact hm.imp .inl id
theorem XExt.ext {F : List Addr} {B : Heap} (x : XExt D F ρ h ρ' B h') (S : StH W ρ' σ B) : Ext D ρ h ρ' h' := by
  have slot : ∀ b o, h.get? b = some o → b ∉ muts ρ → b ∉ D → softObj o = true → ∃ sl, h'.get? b = some { o with slots := sl } := fun b o e hb hd hs => by
    obtain ⟨sl, h1, h2⟩ := x.slot b o e hb hd hs
    by_cases hF : b ∈ F
    · exact ⟨sl, h2 hF⟩
    · exact ⟨sl, x.stays _ _ (h1 hF)⟩
  have soft : ∀ b o, h.get? b = some o → b ∉ muts ρ → softObj o = true → ∃ o', h'.get? b = some o' ∧ softObj o' = true := fun b o e hb hs => by
    obtain ⟨o', q, h1, h2⟩ := x.soft b o e hb hs
    by_cases hF : b ∈ F
    · exact ⟨o', h2 hF, q⟩
    · exact ⟨o', x.stays _ _ (h1 hF), q⟩
  refine ⟨x.more, x.hid, fun a ha o e => x.stays _ _ (x.held a ha o e), fun b o e => ?_, fun b o e hb hs => x.stays _ _ (x.keep b o e hb hs), slot, soft⟩
  by_cases hb : b ∈ muts ρ
  · obtain ⟨ob, e', _⟩ := S.mut_cls (x.sub hb)
    exact ⟨ob, x.stays _ _ e'⟩
  · cases hs : softObj o with
    | false => exact ⟨o, x.stays _ _ (x.keep b o e hb hs)⟩
    | true => obtain ⟨o', e', _⟩ := soft b o e hb hs; exact ⟨o', e'⟩
theorem XExt.pre {F : List Addr} {B h1 : Heap} {ρ1 : Rho} (y : XExt D F ρ1 h1 ρ' B h') (x : Ext D ρ h ρ1 h1) : XExt D F ρ h ρ' B h' := by
  obtain ⟨u, hu1, hu⟩ := x.more
  obtain ⟨v, hv1, hv⟩ := y.more
  refine ⟨⟨u ++ v, by rw [hv1, hu1]; simp, fun a ha => ?_⟩, y.hid.trans x.hid, fun a ha o e => y.held a (x.hid ▸ ha) o (x.held a ha o e), fun b o e hb q => y.keep b o (x.keep b o e hb q) (x.notin e hb) q, fun b o e hb hd q => ?_, fun b o e hb q => ?_, y.stays⟩
  · rw [List.map_append] at ha
    rcases List.mem_append.mp ha with ha | ha
    · exact hu a ha
    · cases z : h.get? a with
      | none => rfl
      | some o => obtain ⟨o1, e1⟩ := x.live a o z; rw [hv a ha] at e1; cases e1
  · obtain ⟨sl, e'⟩ := x.slot b o e hb hd q
    obtain ⟨sl', h1, h2⟩ := y.slot b _ e' (x.notin e hb) hd (by simpa [softObj] using q)
    exact ⟨sl', h1, h2⟩
  · obtain ⟨o1, e1, q1⟩ := x.soft b o e hb q
    exact y.soft b o1 e1 (x.notin e hb) q1
theorem XExt.up {F : List Addr} {B h1 : Heap} (x : XExt D F ρ h ρ' B h1) (k : h1.UpToSlots h') (st : B.StaysIn h') : XExt D F ρ h ρ' B h' := by
  have nf : ∀ {o : Obj}, softObj o = true → ∀ vs, o.data ≠ .fields vs := fun {o} q vs z => by simp [softObj, z] at q
  refine ⟨x.more, x.hid, x.held, x.keep, fun b o e hb hd q => ?_, fun b o e hb q => ?_, st⟩
  · obtain ⟨sl, h1, h2⟩ := x.slot b o e hb hd q
    by_cases hF : b ∈ F
    · obtain ⟨sl', e'⟩ := k b _ (h2 hF) (nf (by simpa [softObj] using q))
      exact ⟨sl', fun z => absurd hF z, fun _ => e'⟩
    · exact ⟨sl, h1, fun z => absurd z hF⟩
  · obtain ⟨o1, q1, h1, h2⟩ := x.soft b o e hb q
    by_cases hF : b ∈ F
    · obtain ⟨sl', e'⟩ := k b _ (h2 hF) (nf q1)
      exact ⟨_, by simpa [softObj] using q1, fun z => absurd hF z, fun _ => e'⟩
    · exact ⟨o1, q1, h1, fun z => absurd z hF⟩
theorem XExt.weaken {D' F : List Addr} {B : Heap} (x : XExt D F ρ h ρ' B h') (hd : ∀ a ∈ D, a ∈ D') : XExt D' F ρ h ρ' B h' :=
  ⟨x.more, x.hid, x.held, x.keep, fun b o e hb q => x.slot b o e hb fun hm => q (hd b hm), x.soft, x.stays⟩
theorem XExt.of0 {F : List Addr} {B : Heap} (x : XExt [] F ρ h ρ' B h') : XExt D F ρ h ρ' B h' := x.weaken (by simp)
/-- what is new may be dropped -/
theorem XExt.drop {D' F F' : List Addr} {B : Heap} (x : XExt D F ρ h ρ' B h') (hd : ∀ b o, h.get? b = some o → (b ∈ D → b ∈ D') ∧ (b ∈ F ↔ b ∈ F')) : XExt D' F' ρ h ρ' B h' := by
  refine ⟨x.more, x.hid, x.held, x.keep, fun b o e hb q s => ?_, fun b o e hb s => ?_, x.stays⟩
  · obtain ⟨sl, h1, h2⟩ := x.slot b o e hb (fun z => q ((hd b o e).1 z)) s
    exact ⟨sl, fun z => h1 fun y => z ((hd b o e).2.mp y), fun z => h2 ((hd b o e).2.mpr z)⟩
  · obtain ⟨o', q', h1, h2⟩ := x.soft b o e hb s
    exact ⟨o', q', fun z => h1 fun y => z ((hd b o e).2.mp y), fun z => h2 ((hd b o e).2.mpr z)⟩
theorem ns_ext {L : Addr} {m : PySem.Str → Option Value} (x : Ext [] ρ h ρ' h') (hn : L ∉ muts ρ) (N : h.Ns L m) : h'.Ns L m := by
  obtain ⟨o, es, ep, ho, hd, r⟩ := N
  obtain ⟨sl, e⟩ := x.slot _ _ ho hn (by simp) (by simp [softObj, hd])
  exact ⟨_, es, ep, e, hd, r⟩
theorem cell_ext {c : Addr} {v : Option Value} (x : Ext [] ρ h ρ' h') (hn : c ∉ muts ρ) (N : h.IsCell c v) : h'.IsCell c v := by
  obtain ⟨o, ho, hd⟩ := N
  obtain ⟨sl, e⟩ := x.slot _ _ ho hn (by simp) (by simp [softObj, hd])
  exact ⟨_, e, hd⟩
theorem Live.ext {l : List Env} (x : Ext D ρ h ρ' h') (L : Live W l ρ h) : Live W l ρ' h' := by
  intro e he
  obtain ⟨k, L, o, hf, hn, hb, ho, hs⟩ := L e he
  obtain ⟨o', e', hs'⟩ := x.soft _ _ ho hn hs
  exact ⟨k, L, o', hf, x.notin ho hn, hb, e', hs'⟩
theorem IsCell.soft {c : Addr} {v : Option Value} (N : h.IsCell c v) : ∃ o, h.get? c = some o ∧ softObj o = true := by
  obtain ⟨o, ho, hd⟩ := N
  exact ⟨o, ho, by simp [softObj, hd]⟩
theorem Ns.soft {c : Addr} {m : PySem.Str → Option Value} (N : h.Ns c m) : ∃ o, h.get? c = some o ∧ softObj o = true := by
  obtain ⟨o, _, _, ho, hd, _⟩ := N
  exact ⟨o, ho, by simp [softObj, hd]⟩
theorem mem_of_lookup' {x : PySem.Str} {c : Addr} {cs : List (PySem.Str × Addr)} (h : cs.lookup x = some c) : (x, c) ∈ cs := mem_of_lookup h
theorem VarAt.ext {m : PySem.Str → Option Value} {x : PySem.Str} {v : V} (e : Ext [] ρ h ρ' h') (hc : ∀ x c, (x, c) ∈ a.env.cells → c ∉ muts ρ) (r : VarAt a ρ h m x v) : VarAt a ρ' h' m x v := by
  unfold VarAt at r ⊢
  split at r
  · obtain ⟨mv, hm, hv⟩ := r; exact ⟨mv, hm, hv.mono e⟩
  · obtain ⟨c, mv, hl, hcell, hv⟩ := r; exact ⟨c, mv, hl, cell_ext e (hc _ _ (mem_of_lookup hl)) hcell, hv.mono e⟩
  · obtain ⟨c, mv, hl, hcell, hv⟩ := r; exact ⟨c, mv, hl, cell_ext e (hc _ _ (mem_of_lookup hl)) hcell, hv.mono e⟩
  · exact r.elim
theorem FS.ext (F : FS W a fr ρ h) (x : Ext [] ρ h ρ' h') : FS W a fr ρ' h' := by
  obtain ⟨m, hm, hv⟩ := F.ns
  obtain ⟨oL, eL, _⟩ := Ns.soft hm
  refine ⟨F.live.ext x, ⟨m, ns_ext x F.apartL hm, fun i v e => ⟨(hv i v e).1, (hv i v e).2.ext x fun y c hy => (F.cells y c hy).1⟩⟩, x.notin eL F.apartL, F.baseL, fun y c hy => ?_, F.apart, F.laid⟩
  obtain ⟨h1, h2, v, h3⟩ := F.cells y c hy
  obtain ⟨o, e, _⟩ := IsCell.soft h3
  exact ⟨x.notin e h1, h2, v, cell_ext x h1 h3⟩
theorem Room.less {n : Nat} {A : Around} {l : List Env} (r : Room (n + 1) A l) : Room n A l := ⟨r.hand, r.frames, by have := r.depth; lia, by have := r.units; lia⟩
/-- passing on what an expression gives -/
theorem PostG.step {β : Type} {a : Act} {r : Res β} {K : β → Rho → Shared → Prop} {E : Value → Shared → Prop} (x : Ext [] ρ s.heap ρ' s'.heap) (p : PostG W a ρ s r K E) : PostG W a ρ' s' r K E := by
  cases r with
  | ok v σ' => exact fun ρ'' s'' hs hx => p ρ'' s'' hs (x.trans hx)
  | exc c σ' => exact fun ρ'' s'' e B hf hx => p ρ'' s'' e B hf (hx.pre x)
  | stuck => exact p
section
variable {n : Nat} {sc : Scope}
theorem DenE.bind {e : PySem.Expr} {f : ME V} (hE : DenE W n sc e f) (ok : ActOk n a) (hsc : a.env.scope = sc) (S : St W ρ σ s) (F : FS W a fr ρ s.heap)
    {β : Type} {k : V → Sto → Res β} {K : β → Rho → Shared → Prop} {Q : Value → Shared → Prop} {E : Value → Shared → Prop} (p : PostG W a ρ s ((f fr σ).andThen k) K E)
    (h : ∀ v σ1 ρ1 s1 mv, St W ρ1 σ1 s1 → FS W a fr ρ1 s1.heap → Ext [] ρ s.heap ρ1 s1.heap → VRep ρ1 s1.heap v mv → PostG W a ρ1 s1 (k v σ1) K E → Q mv s1) :
    wpAny (model W.prog W.w) a.A (eval e a.env) Q E s := by
  refine hE a ok hsc ρ σ fr s S F Q E ?_
  cases hf : f fr σ with
  | ok v σ1 => rw [hf] at p; exact fun ρ1 s1 S1 x1 mv r1 => h v σ1 ρ1 s1 mv S1 (F.ext x1) x1 r1 (PostG.step x1 p)
  | exc c σ1 => rw [hf] at p; exact p
  | stuck => rw [hf] at p; exact p
theorem DenEs.bind {es : List PySem.Expr} {f : ME (List V)} (hE : DenEs W n sc es f) (ok : ActOk n a) (hsc : a.env.scope = sc) (S : St W ρ σ s) (F : FS W a fr ρ s.heap) {pos : Pos}
    {β : Type} {k : List V → Sto → Res β} {K : β → Rho → Shared → Prop} {Q : List Value → Shared → Prop} {E : Value → Shared → Prop} (p : PostG W a ρ s ((f fr σ).andThen k) K E)
    (h : ∀ vs σ1 ρ1 s1 ms, St W ρ1 σ1 s1 → FS W a fr ρ1 s1.heap → Ext [] ρ s.heap ρ1 s1.heap → VReps ρ1 s1.heap vs ms → PostG W a ρ1 s1 (k vs σ1) K E → Q ms s1) :
    wpAny (model W.prog W.w) a.A (spliced (backTo pos (starEach es a.env))) Q E s := by
  refine hE a ok hsc ρ σ fr s S F pos Q E ?_
  cases hf : f fr σ with
  | ok v σ1 => rw [hf] at p; exact fun ρ1 s1 S1 x1 mv r1 => h v σ1 ρ1 s1 mv S1 (F.ext x1) x1 r1 (PostG.step x1 p)
  | exc c σ1 => rw [hf] at p; exact p
  | stuck => rw [hf] at p; exact p
theorem DenB.bind {e : PySem.Expr} {f : ME Bool} (hE : DenB W n sc e f) (ok : ActOk n a) (hsc : a.env.scope = sc) (S : St W ρ σ s) (F : FS W a fr ρ s.heap)
    {β : Type} {k : Bool → Sto → Res β} {K : β → Rho → Shared → Prop} {Q : Bool → Shared → Prop} {E : Value → Shared → Prop} (p : PostG W a ρ s ((f fr σ).andThen k) K E)
    (h : ∀ v σ1 ρ1 s1, St W ρ1 σ1 s1 → FS W a fr ρ1 s1.heap → Ext [] ρ s.heap ρ1 s1.heap → PostG W a ρ1 s1 (k v σ1) K E → Q v s1) :
    wpAny (model W.prog W.w) a.A (isTrue e a.env (eval e a.env)) Q E s := by
  refine hE a ok hsc ρ σ fr s S F Q E ?_
  cases hf : f fr σ with
  | ok v σ1 => rw [hf] at p; exact fun ρ1 s1 S1 x1 => h v σ1 ρ1 s1 S1 (F.ext x1) x1 (PostG.step x1 p)
  | exc c σ1 => rw [hf] at p; exact p
  | stuck => rw [hf] at p; exact p
/-- the end: a value here -/
theorem PostG.here {β : Type} {v : β} {K : β → Rho → Shared → Prop} {E : Value → Shared → Prop} (S : St W ρ σ s) (p : PostG W a ρ s (.ok v σ) K E) : K v ρ s := p ρ s S (.refl ..)
theorem PostE.val {v : V} {mv : Value} {Q : Value → Shared → Prop} {E : Value → Shared → Prop} (p : PostE W a ρ s (.ok v σ) Q E) {ρ' : Rho} {s' : Shared} (S : St W ρ' σ s') (x : Ext [] ρ s.heap ρ' s'.heap) (r : VRep ρ' s'.heap v mv) : Q mv s' :=
  p ρ' s' S x mv r
end
theorem PostS.step {a : Act} {r : SRes} {Q : Flow → Shared → Prop} {E : Value → Shared → Prop} (x : Ext a.D ρ s.heap ρ' s'.heap) (p : PostS W a ρ s r Q E) : PostS W a ρ' s' r Q E := by
  cases r with
  | next fr' σ' => exact fun ρ'' s'' hs hx hv => p ρ'' s'' hs (x.trans hx) hv
  | brk fr' σ' => exact fun ρ'' s'' hs hx hv => p ρ'' s'' hs (x.trans hx) hv
  | ret v σ' => exact fun ρ'' s'' mv hs hx hv => p ρ'' s'' mv hs (x.trans hx) hv
  | exc c fr' σ' => exact fun ρ'' s'' e B hf hx hv => p ρ'' s'' e B hf (hx.pre x) hv
  | stuck => exact p
end
end Mine
/-! A6 -/
namespace Mine
open PySem PySem.W PyProof.Rows
/-! own operations on values -/
/-- a value as contents alone; a list of the store by what it holds -/
noncomputable def flat (σ : Sto) (v : V) : Option V := match v with
  | .ref i => match σ[i]? with
    | some (.list vs) => if V.plains vs then some (.list vs) else .none
    | _ => .none
  | v => if v.plain then some v else .none
noncomputable def items? (σ : Sto) (v : V) : Option (List V) := match v with
  | .ref i => match σ[i]? with
    | some (.list vs) => some vs
    | _ => .none
  | .list vs => some vs
  | _ => .none
noncomputable def szOk (n : Nat) : Bool := decide (n ≤ 1000000)
noncomputable def V.int? : V → Option Int
  | .int i => some i
  | _ => Option.none
noncomputable def V.tupl? : V → Option (List V)
  | .tup vs => some vs
  | _ => Option.none
noncomputable def V.str? : V → Option (List Nat)
  | .str cs => some cs
  | _ => Option.none
theorem V.int?_eq {v : V} {i : Int} (e : v.int? = some i) : v = .int i := by cases v <;> cases e; rfl
theorem V.tupl?_eq {v : V} {i : List V} (e : v.tupl? = some i) : v = .tup i := by cases v <;> cases e; rfl
theorem V.str?_eq {v : V} {i : List Nat} (e : v.str? = some i) : v = .str i := by cases v <;> cases e; rfl
noncomputable def int2 (op : Operator) (x y : Int) (σ : Sto) : Res V := match op with
  | .Add => .ok (.int (x + y)) σ
  | .Sub => .ok (.int (x - y)) σ
  | .Mult => if x.natAbs < 2 ^ 64 ∨ y.natAbs < 2 ^ 64 then .ok (.int (x * y)) σ else .stuck
  | .FloorDiv => if y ≠ 0 ∧ y.natAbs < 2 ^ 30 then .ok (.int (x.fdiv y)) σ else .stuck
  | .Mod => if y ≠ 0 ∧ y.natAbs < 2 ^ 30 then .ok (.int (x.fmod y)) σ else .stuck
  | .Pow => if 0 ≤ y ∧ y < 2 ^ 20 ∧ x.natAbs < 2 ^ 64 then .ok (.int (x ^ y.toNat)) σ else .stuck
  | _ => .stuck
noncomputable def addL (a b : V) (σ : Sto) : Option (List V × List V) := (items? σ a).bind fun x => (items? σ b).map fun y => (x, y)
noncomputable def addS (a b : V) (σ : Sto) : Res V := match a.tupl? with
  | some x => match b.tupl? with
    | some y => if szOk (x.length + y.length) then .ok (.tup (x ++ y)) σ else .stuck
    | .none => .stuck
  | .none => match addL a b σ with
    | some q => if szOk (q.1.length + q.2.length) then .ok (.ref σ.length) (σ ++ [.list (q.1 ++ q.2)]) else .stuck
    | .none => .stuck
noncomputable def binM (op : Operator) (a b : V) : ME V := fun _ σ => match a.int? with
  | some x => match b.int? with
    | some y => int2 op x y σ
    | .none => .stuck
  | .none => match op with
    | .Add => addS a b σ
    | _ => .stuck
noncomputable def eBin (op : Operator) (f g : ME V) : ME V := f.bind fun a => g.bind fun b => binM op a b
noncomputable def eVar (i : Nat) : ME V := fun fr σ => Res.ofOpt (fr.lookup i) σ
noncomputable def eList : List (ME V) → ME (List V)
  | [] => ME.pure []
  | f :: fs => f.bind fun v => (eList fs).bind fun vs => ME.pure (v :: vs)
noncomputable def eTup (fs : List (ME V)) : ME V := (eList fs).bind fun vs => if szOk vs.length then ME.pure (.tup vs) else ME.stuck
noncomputable def eListD (fs : List (ME V)) : ME V := (eList fs).bind fun vs => if szOk vs.length then (fun _ σ => .ok (.ref σ.length) (σ ++ [.list vs])) else ME.stuck
section
variable {W : Wd} {n : Nat} {sc : Scope} {a : Act} {fr : Loc} {ρ ρ' : Rho} {σ : Sto} {h h' : Heap} {s s' : Shared} {D : List Addr} {E : Value → Shared → Prop}
theorem St.heap_eq {tk : Nat} (S : St W ρ σ s) : St W ρ σ { s with toks := tk } := ⟨S.heap, S.gens, S.os⟩
/-! constants, names -/
theorem DenE.int (i : Int) (k : Nat) (pos : Pos) : DenE W n sc (.Constant (.int i) k pos) (ME.pure (.int i)) := by
  intro a ok hsc ρ σ fr s S F Q E p
  exact wpAny_mkInt (PostE.val (s' := { s with toks := s.toks + 1 }) p S.heap_eq (.refl ..) (.int i _))
theorem DenE.str (x : String) (cs : List Nat) (k : Nat) (pos : Pos) (hx : PySem.Str.ofString x = strV cs) : DenE W n sc (.Constant (.str (PySem.Str.ofString x)) k pos) (ME.pure (.str cs)) := by
  intro a ok hsc ρ σ fr s S F Q E p
  rw [hx]
  exact wpAny_mkText (PostE.val (s' := { s with toks := s.toks + 1 }) p S.heap_eq (.refl ..) (.str cs _))
theorem DenE.bool (b : Bool) (k : Nat) (pos : Pos) : DenE W n sc (.Constant (.bool b) k pos) (ME.pure (.bool b)) := by
  intro a ok hsc ρ σ fr s S F Q E p
  exact wpAny_pure (PostE.val p S (.refl ..) (.bool b))
theorem DenE.noneC (k : Nat) (pos : Pos) : DenE W n sc (.Constant .none k pos) (ME.pure .none) := by
  intro a ok hsc ρ σ fr s S F Q E p
  exact wpAny_pure (PostE.val p S (.refl ..) .none)
theorem load_var {i : Nat} {v : V} {Q : Value → Shared → Prop} (ok : ActOk n a) (F : FS W a fr ρ s.heap) (e : fr.lookup i = some v) (hc : (W.nm i == ("__classdict__" : PySem.Str)) = false)
    (h : ∀ mv, VRep ρ s.heap v mv → Q mv s) : wpAny (model W.prog W.w) a.A (loadName a.env (W.nm i)) Q E s := by
  obtain ⟨m, hm, hv⟩ := F.ns
  have r := (hv i v e).2
  unfold VarAt at r
  split at r
  · rename_i hk; obtain ⟨mv, e1, e2⟩ := r; exact wpAny_loadName_local ok.kind hk hm e1 (h mv e2)
  · rename_i hk; obtain ⟨c, mv, e1, e2, e3⟩ := r; exact wpAny_loadName_cell ok.kind hk e1 e2 (h mv e3)
  · rename_i hk; obtain ⟨c, mv, e1, e2, e3⟩ := r; exact wpAny_loadName_free ok.kind hk e1 e2 (h mv e3) hc
  · exact r.elim
theorem DenE.var {x : PySem.Str} {i : Nat} {pos : Pos} (hx : W.nm i = x) (hd : (x == ("__debug__" : PySem.Str)) = false) (hc : (x == ("__classdict__" : PySem.Str)) = false) :
    DenE W n sc (.Name x pos) (eVar i) := by
  intro a ok hsc ρ σ fr s S F Q E p
  subst hx
  refine wpAny_Name ?_ hd
  unfold eVar at p
  cases e : fr.lookup i with
  | none => rw [e] at p; exact p.elim
  | some v => rw [e] at p; exact load_var ok F e hc fun mv r => PostE.val p S (.refl ..) r
theorem load_glob {x : PySem.Str} {pos : Pos} {v : Value} {Q : Value → Shared → Prop} (ok : ActOk n a) (S : St W ρ σ s) (hx : a.env.scope.names.lookup x = some .globalImplicit) (e : nsIn W.K mainGlobals x = some (some v))
    (hd : (x == ("__debug__" : PySem.Str)) = false) (h : Q v s) : wpAny (model W.prog W.w) a.A (eval (.Name x pos) a.env) Q E s :=
  Calls.Name_function_global ok.kind hx (Calls.loadGlobal_global (by rw [ok.glob]; exact W.T.g.keeps S.heap.base) (mg_of W.X W.T.g e) h) hd
theorem load_blt {x : PySem.Str} {pos : Pos} {v : Value} {Q : Value → Shared → Prop} (ok : ActOk n a) (S : St W ρ σ s) (hx : a.env.scope.names.lookup x = some .globalImplicit) (e : nsIn W.K mainGlobals x = some none)
    (hv : bootBuiltins x = some v) (hn : x ≠ "__name__") (hd : (x == ("__debug__" : PySem.Str)) = false) (h : Q v s) : wpAny (model W.prog W.w) a.A (eval (.Name x pos) a.env) Q E s :=
  Calls.Name_function_global ok.kind hx (Calls.loadGlobal_builtin (by rw [ok.glob]; exact W.T.g.keeps S.heap.base) (mg_none_of W.X W.T.g e) (by rw [ok.blt]; exact W.T.b.keeps S.heap.base) ((W.T.builtins x hn).trans hv) h) hd
/-- a global that holds an int -/
theorem DenE.gint {x : PySem.Str} {pos : Pos} {i : Int} {t : Tok} (hx : sc.names.lookup x = some .globalImplicit) (e : nsIn W.K mainGlobals x = some (some (.int i t)))
    (hd : (x == ("__debug__" : PySem.Str)) = false) : DenE W n sc (.Name x pos) (ME.pure (.int i)) := by
  intro a ok hsc ρ σ fr s S F Q E p
  subst hsc
  exact load_glob ok S hx e hd (PostE.val p S (.refl ..) (.int i t))
theorem get_end (h : Heap) : h.get? h.objs.size = none := by
  cases z : h.get? h.objs.size with
  | none => rfl
  | some o => exact absurd (Heap.lt_size z) (Nat.lt_irrefl _)
/-! new tuples, new lists -/
theorem St.tuple {vs : List V} {ms : List Value} (S : St W ρ σ s) (r : VReps ρ s.heap vs ms) :
    St W ρ σ { s with heap := s.heap.push { cls := .type "tuple", data := .seq ms.toArray } } ∧ Ext [] ρ s.heap ρ (s.heap.push { cls := .type "tuple", data := .seq ms.toArray }) ∧
      VRep ρ (s.heap.push { cls := .type "tuple", data := .seq ms.toArray }) (.tup vs) (.ref s.heap.objs.size) := by
  have x : Ext [] ρ s.heap ρ (s.heap.push { cls := .type "tuple", data := .seq ms.toArray }) := Ext.push _ _
  refine ⟨⟨S.heap.keeps (fun _ _ e => Heap.get?_push_of_some _ e), S.gens, S.os⟩, x, ?_⟩
  exact .tup (Heap.get?_push_size _ rfl) rfl rfl S.heap.new_notin (by simpa using r.mono x)
theorem St.flist {vs : List V} {ms : List Value} (S : St W ρ σ s) (r : VReps ρ s.heap vs ms) :
    St W ρ σ { s with heap := s.heap.push { cls := .type "list", data := .seq ms.toArray } } ∧ Ext [] ρ s.heap ρ (s.heap.push { cls := .type "list", data := .seq ms.toArray }) ∧
      VRep ρ (s.heap.push { cls := .type "list", data := .seq ms.toArray }) (.list vs) (.ref s.heap.objs.size) := by
  have x : Ext [] ρ s.heap ρ (s.heap.push { cls := .type "list", data := .seq ms.toArray }) := Ext.push _ _
  refine ⟨⟨S.heap.keeps (fun _ _ e => Heap.get?_push_of_some _ e), S.gens, S.os⟩, x, ?_⟩
  exact .list (Heap.get?_push_size _ rfl) rfl rfl S.heap.new_notin (by simpa using r.mono x)
theorem St.rlist {vs : List V} {ms : List Value} (S : St W ρ σ s) (r : VReps ρ s.heap vs ms) :
    St W (ρ.add (s.heap.objs.size, s.heap.objs.size)) (σ ++ [.list vs]) { s with heap := s.heap.push { cls := .type "list", data := .seq ms.toArray } } ∧
      Ext [] ρ s.heap (ρ.add (s.heap.objs.size, s.heap.objs.size)) (s.heap.push { cls := .type "list", data := .seq ms.toArray }) ∧
      VRep (ρ.add (s.heap.objs.size, s.heap.objs.size)) (s.heap.push { cls := .type "list", data := .seq ms.toArray }) (.ref σ.length) (.ref s.heap.objs.size) := by
  have k : ∀ b o, s.heap.get? b = some o → (s.heap.push { cls := .type "list", data := .seq ms.toArray }).get? b = some o := fun _ _ e => Heap.get?_push_of_some _ e
  have x : Ext [] ρ s.heap (ρ.add (s.heap.objs.size, s.heap.objs.size)) (s.heap.push { cls := .type "list", data := .seq ms.toArray }) :=
    ⟨⟨[_], rfl, by simp [get_end]⟩, rfl, fun b _ o e => k b o e, fun b o e => ⟨o, k b o e⟩, fun b o e _ _ => k b o e, fun b o e _ _ _ => ⟨o.slots, k b o e⟩, fun b o e _ q => ⟨o, k b o e, q⟩⟩
  obtain ⟨S', _⟩ := S.heap.alloc (p := (s.heap.objs.size, s.heap.objs.size)) (o' := .list vs) k (get_end _)
    ⟨rfl, _, _, Heap.get?_push_size _ rfl, by simpa using r.mono x⟩
  refine ⟨⟨S', S.gens, S.os⟩, x, ?_⟩
  have : (ρ.add (s.heap.objs.size, s.heap.objs.size)).objs[σ.length]? = some (s.heap.objs.size, s.heap.objs.size) := by
    rw [← S.heap.len]; simp [Rho.add]
  exact .ref (p := (s.heap.objs.size, s.heap.objs.size)) this
theorem szOk_le {k : Nat} (h : szOk k = true) : k ≤ sizeLine := by
  have := of_decide_eq_true h
  rw [sizeLine_eq]; omega
theorem DenEs.nil : DenEs W n sc [] (eList []) := by
  intro a ok hsc ρ σ fr s S F pos Q E p
  exact args_nil (p ρ s S (.refl ..) [] .nil)
theorem DenEs.cons {e : PySem.Expr} {es : List PySem.Expr} {f : ME V} {fs : List (ME V)} (he : ∀ env : Env, starEach (e :: es) env = (false, eval e env) :: starEach es env)
    (hf : DenE W n sc e f) (hs : DenEs W n sc es (eList fs)) : DenEs W n sc (e :: es) (eList (f :: fs)) := by
  intro a ok hsc ρ σ fr s S F pos Q E p
  refine args_cons (hf.bind ok hsc S F p fun v σ1 ρ1 s1 mv S1 F1 x1 r1 p1 => ?_) (he _)
  refine hs.bind ok hsc S1 F1 p1 fun vs σ2 ρ2 s2 ms S2 F2 x2 r2 p2 => ?_
  exact p2 ρ2 s2 S2 (.refl ..) (mv :: ms) (.cons (r1.mono x2) r2)
theorem DenE.tup {es : List PySem.Expr} {k : Nat} {pos : Pos} {fs : List (ME V)} (hs : DenEs W n sc es (eList fs)) : DenE W n sc (.Tuple es k pos) (eTup fs) := by
  intro a ok hsc ρ σ fr s S F Q E p
  refine Tuple_ (hs.bind ok hsc S F p fun vs σ2 ρ2 s2 ms S2 F2 x2 r2 p2 => ?_)
  dsimp only at p2
  by_cases hz : szOk vs.length = true
  · rw [if_pos hz] at p2
    obtain ⟨S3, x3, r3⟩ := S2.tuple r2
    exact wpAny_newObj_type (PostE.val p2 S3 x3 r3) (by show ms.toArray.size ≤ sizeLine; rw [List.size_toArray, ← r2.length]; exact szOk_le hz)
  · rw [if_neg hz] at p2; exact p2.elim
theorem DenE.listD {es : List PySem.Expr} {pos : Pos} {fs : List (ME V)} (hs : DenEs W n sc es (eList fs)) : DenE W n sc (.List es pos) (eListD fs) := by
  intro a ok hsc ρ σ fr s S F Q E p
  refine List_ (hs.bind ok hsc S F p fun vs σ2 ρ2 s2 ms S2 F2 x2 r2 p2 => ?_)
  dsimp only at p2
  by_cases hz : szOk vs.length = true
  · rw [if_pos hz] at p2
    obtain ⟨S3, x3, r3⟩ := S2.rlist r2
    exact wpAny_newObj_type (PostE.val p2 S3 x3 r3) (by show ms.toArray.size ≤ sizeLine; rw [List.size_toArray, ← r2.length]; exact szOk_le hz)
  · rw [if_neg hz] at p2; exact p2.elim
/-- what a list holds, of either kind -/
theorem items_at {v : V} {vs : List V} {mv : Value} (S : StH W ρ σ h) (r : VRep ρ h v mv) (e : items? σ v = some vs) :
    ∃ b ms, mv = .ref b ∧ h.IsList b ms ∧ VReps ρ h vs ms.toList := by
  cases v with
  | ref i =>
    obtain ⟨p_, hp, rfl⟩ := r.ref_inv
    unfold items? at e
    dsimp only at e
    cases ho : σ[i]? with
    | none => rw [ho] at e; cases e
    | some o => cases o with
      | list vs' =>
        rw [ho] at e
        cases e
        obtain ⟨e1, ms, k, g, q⟩ := S.objs _ _ _ ho hp
        exact ⟨_, ms, rfl, by rw [e1]; exact ⟨_, g, rfl, k, rfl⟩, q⟩
      | _ => rw [ho] at e; cases e
  | list vs' =>
    cases e
    cases r with
    | list ho hc hd hn q => exact ⟨_, _, rfl, ⟨_, ho, hc, _, hd⟩, q⟩
  | _ => cases e
theorem VReps.nil_of {vs : List V} (r : VReps ρ h vs []) : vs = [] := by cases r; rfl
theorem isEmpty_of {α : Type} {vs : Array α} {k : Nat} (h : vs.size = k) : vs.isEmpty = decide (k = 0) := by subst h; simp [Array.isEmpty]
theorem add_tup {x y : List V} {mx my : Value} {Q : Value → Shared → Prop} (hz : szOk (x.length + y.length) = true) (S : St W ρ σ s) (rx : VRep ρ s.heap (.tup x) mx) (ry : VRep ρ s.heap (.tup y) my)
    (p : PostE W a ρ s (.ok (.tup (x ++ y)) σ) Q E) : wpAny (model W.prog W.w) a.A (binaryOp .Add mx my) Q E s := by
  have rx0 := rx
  have ry0 := ry
  cases rx with
  | @tup _ t o vs k ho hc hd hn rx =>
  cases ry with
  | @tup _ b o2 ws k2 ho2 hc2 hd2 hn2 ry =>
  obtain ⟨cls, dd, data, sl⟩ := o
  obtain ⟨cls2, dd2, data2, sl2⟩ := o2
  simp only at hc hd hc2 hd2
  subst hc hd hc2 hd2
  have lx := rx.length
  have ly := ry.length
  have vsz : vs.size = x.length := by rw [lx]; simp
  have wsz : ws.size = y.length := by rw [ly]; simp
  by_cases hv : x = []
  · subst hv
    exact concat_meets ⟨_, ho, rfl⟩ ⟨_, ho2, rfl⟩ noFill_tuple_add seq_tuple_add PySem.F.slot_tuple_add PySem.F.entry_tuple_add (PySem.F.args_tuple_add_2 _ _)
      (tuple_addW0 t b vs ws k k2 dd dd2 sl sl2 (by rw [isEmpty_of vsz]; rfl)) ⟨ho, ho2, PostE.val p S (.refl ..) ry0⟩
  · have hvl : 0 < x.length := List.length_pos_iff.mpr hv
    by_cases hw : y = []
    · subst hw
      rw [List.append_nil] at p
      exact concat_meets ⟨_, ho, rfl⟩ ⟨_, ho2, rfl⟩ noFill_tuple_add seq_tuple_add PySem.F.slot_tuple_add PySem.F.entry_tuple_add (PySem.F.args_tuple_add_2 _ _)
        (tuple_addW1 t b vs ws k k2 dd dd2 sl sl2 (by rw [isEmpty_of vsz]; simp; exact hv) (by rw [isEmpty_of wsz]; rfl)) ⟨ho, ho2, PostE.val p S (.refl ..) rx0⟩
    · have hwl : 0 < y.length := List.length_pos_iff.mpr hw
      obtain ⟨S3, x3, r3⟩ := S.tuple (rx.append ry)
      have e : (vs ++ ws) = (vs.toList ++ ws.toList).toArray := by simp
      exact concat_meets ⟨_, ho, rfl⟩ ⟨_, ho2, rfl⟩ noFill_tuple_add seq_tuple_add PySem.F.slot_tuple_add PySem.F.entry_tuple_add (PySem.F.args_tuple_add_2 _ _)
        (tuple_addW2 t b vs ws k k2 dd dd2 sl sl2 (by rw [isEmpty_of vsz]; simp; exact hv) (by rw [isEmpty_of wsz]; simp; exact hw) (by rw [vsz, wsz]; exact szOk_le hz)) ⟨ho, ho2, by rw [e]; exact PostE.val p S3 x3 r3⟩
theorem add_lst {x y : V} {xs ys : List V} {mx my : Value} {Q : Value → Shared → Prop} (hz : szOk (xs.length + ys.length) = true) (S : St W ρ σ s) (rx : VRep ρ s.heap x mx) (ry : VRep ρ s.heap y my)
    (ex : items? σ x = some xs) (ey : items? σ y = some ys) (p : PostE W a ρ s (.ok (.ref σ.length) (σ ++ [.list (xs ++ ys)])) Q E) : wpAny (model W.prog W.w) a.A (binaryOp .Add mx my) Q E s := by
  obtain ⟨b1, m1, rfl, l1, q1⟩ := items_at S.heap rx ex
  obtain ⟨b2, m2, rfl, l2, q2⟩ := items_at S.heap ry ey
  obtain ⟨⟨cls, dd, data, sl⟩, ho, hc, k, hd⟩ := l1
  obtain ⟨⟨cls2, dd2, data2, sl2⟩, ho2, hc2, k2, hd2⟩ := l2
  simp only at hc hd hc2 hd2
  subst hc hd hc2 hd2
  have lx := q1.length
  have ly := q2.length
  obtain ⟨S3, x3, r3⟩ := S.rlist (q1.append q2)
  have e : (m1 ++ m2) = (m1.toList ++ m2.toList).toArray := by simp
  refine concat_meets ⟨_, ho, rfl⟩ ⟨_, ho2, rfl⟩ noFill_list_add seq_list_add PySem.F.slot_list_add PySem.F.entry_list_add (PySem.F.args_list_add_2 _ _)
    (list_addW b1 b2 m1 m2 k k2 dd dd2 sl sl2 (by rw [← Array.length_toList, ← Array.length_toList, ← lx, ← ly]; exact szOk_le hz)) ⟨ho, ho2, ?_⟩
  rw [e]
  exact PostE.val p S3 x3 r3
theorem int2_ok {op : Operator} {x y : Int} {t u : Tok} {Q : Value → Shared → Prop} (S : St W ρ σ s) (p : PostE W a ρ s (int2 op x y σ) Q E) : wpAny (model W.prog W.w) a.A (binaryOp op (.int x t) (.int y u)) Q E s := by
  have key : ∀ (z : Int) (v : Tok), PostE W a ρ s (.ok (.int z) σ) Q E → Q (.int z v) { s with toks := s.toks + 1 } := fun z v p => PostE.val (s' := { s with toks := s.toks + 1 }) p S.heap_eq (.refl ..) (.int _ _)
  cases op with
  | Add => exact P.add_int (key _ _ p)
  | Sub => exact P.sub_int (key _ _ p)
  | Mult =>
    simp only [int2] at p
    by_cases hb : x.natAbs < 2 ^ 64 ∨ y.natAbs < 2 ^ 64
    · rw [if_pos hb] at p
      refine P.mul_int (key _ _ p) ?_
      rcases hb with hb | hb
      · exact .of_left (intBits_le_64 (by omega) (by omega))
      · exact .of_right (intBits_le_64 (by omega) (by omega))
    · rw [if_neg hb] at p; exact p.elim
  | FloorDiv =>
    simp only [int2] at p
    by_cases hb : y ≠ 0 ∧ y.natAbs < 2 ^ 30
    · rw [if_pos hb] at p
      exact floordiv_int hb.1 (key _ _ p) (.inl (PyProof.noPylong_small (Nat.lt_of_lt_of_le hb.2 (by decide))))
    · rw [if_neg hb] at p; exact p.elim
  | Mod =>
    simp only [int2] at p
    by_cases hb : y ≠ 0 ∧ y.natAbs < 2 ^ 30
    · rw [if_pos hb] at p
      exact mod_int' hb.1 (key _ _ p)
    · rw [if_neg hb] at p; exact p.elim
  | Pow =>
    simp only [int2] at p
    by_cases hb : 0 ≤ y ∧ y < 2 ^ 20 ∧ x.natAbs < 2 ^ 64
    · rw [if_pos hb] at p
      refine pow_int hb.1 ?_ (key _ _ p)
      have h2 : ((Builtin.Int.intBits x : Nat) : Int) ≤ 64 := Int.ofNat_le.mpr (intBits_le_64 (by omega) (by omega))
      have h3 := Int.mul_le_mul_of_nonneg_right h2 hb.1
      have := hb.2.1
      omega
    · rw [if_neg hb] at p; exact p.elim
  | _ => exact p.elim
theorem bin_ok {op : Operator} {x y : V} {mx my : Value} {Q : Value → Shared → Prop} (S : St W ρ σ s) (rx : VRep ρ s.heap x mx) (ry : VRep ρ s.heap y my)
    (p : PostE W a ρ s (binM op x y fr σ) Q E) : wpAny (model W.prog W.w) a.A (binaryOp op mx my) Q E s := by
  unfold binM at p
  cases hx : x.int? with
  | some i =>
    obtain rfl := V.int?_eq hx
    cases hy : y.int? with
    | some j =>
      obtain rfl := V.int?_eq hy
      simp only [hx, hy] at p
      obtain ⟨t1, rfl⟩ := rx.int_inv
      obtain ⟨t2, rfl⟩ := ry.int_inv
      exact int2_ok S p
    | none => simp only [hx, hy] at p; exact p.elim
  | none =>
    simp only [hx] at p
    cases op with
    | Add =>
      simp only [addS] at p
      cases tx : x.tupl? with
      | some xs =>
        obtain rfl := V.tupl?_eq tx
        cases ty : y.tupl? with
        | some ys =>
          obtain rfl := V.tupl?_eq ty
          simp only [tx, ty] at p
          by_cases hz : szOk (xs.length + ys.length) = true
          · rw [if_pos hz] at p; exact add_tup hz S rx ry p
          · rw [if_neg hz] at p; exact p.elim
        | none => simp only [tx, ty] at p; exact p.elim
      | none =>
        simp only [tx] at p
        cases hq : addL x y σ with
        | none => rw [hq] at p; exact p.elim
        | some q =>
          rw [hq] at p
          obtain ⟨xs, ex, hq⟩ := Option.bind_eq_some_iff.mp hq
          obtain ⟨ys, ey, rfl⟩ := Option.map_eq_some_iff.mp hq
          by_cases hz : szOk (xs.length + ys.length) = true
          · simp only [hz, if_true] at p; exact add_lst hz S rx ry ex ey p
          · simp only [hz] at p; exact p.elim
    | _ => exact p.elim
theorem DenE.bin {l r : PySem.Expr} {op : Operator} {pos : Pos} {f g : ME V} (hl : DenE W n sc l f) (hr : DenE W n sc r g) : DenE W n sc (.BinOp l op r pos) (eBin op f g) := by
  intro a ok hsc ρ σ fr s S F Q E p
  refine wpAny_BinOp (hl.bind ok hsc S F p fun v σ1 ρ1 s1 mv S1 F1 x1 r1 p1 => ?_)
  refine hr.bind ok hsc S1 F1 p1 fun v2 σ2 ρ2 s2 mv2 S2 F2 x2 r2 p2 => ?_
  exact bin_ok S2 (r1.mono x2) r2 p2
end
end Mine
/-! A7 -/
namespace Mine
open PySem PySem.W PyProof.Rows
noncomputable def dget (kvs : List (V × V)) (k : V) : Option V := match kvs with
  | [] => none
  | kv :: r => if V.beq kv.1 k then some kv.2 else dget r k
noncomputable def dset (kvs : List (V × V)) (k v : V) : List (V × V) :=
  if kvs.any (fun kv => V.beq kv.1 k) then kvs.map (fun kv => if V.beq kv.1 k then (kv.1, v) else kv) else kvs ++ [(k, v)]
noncomputable def ddel (kvs : List (V × V)) (k : V) : List (V × V) := kvs.filter fun kv => !V.beq kv.1 k
noncomputable def keyOk (k : DK) (x : V) : Bool := match k, x with
  | .int, .int _ => true
  | .str, .str _ => true
  | .tup, .tup ks => V.keybs ks && decide (V.depths ks ≤ 6)
  | _, _ => false
noncomputable def inM (x c : V) (σ : Sto) : Option Bool := match c with
  | .ref i => match σ[i]? with
    | some (.dict k kvs) => if keyOk k x then some (dget kvs x).isSome else .none
    | _ => .none
  | .str t => x.str?.map fun u => !(Builtin.Str.occurrences (strV t) (strV u) 0 (strV t).length 1).isEmpty
  | _ => .none
noncomputable def eqM (a b : V) (σ : Sto) : Option Bool := (flat σ a).bind fun p => (flat σ b).bind fun q => if decide (p.depth ≤ 64) && decide (q.depth ≤ 64) then some (V.beq p q) else .none
noncomputable def intC (f : Int → Int → Bool) (a b : V) : Option Bool := a.int?.bind fun x => b.int?.map fun y => f x y
noncomputable def cmpM (op : CmpOp) (a b : V) (σ : Sto) : Option Bool := match op with
  | .Eq => eqM a b σ
  | .NotEq => (eqM a b σ).map (!·)
  | .Lt => intC (fun x y => decide (x < y)) a b
  | .LtE => intC (fun x y => decide (x ≤ y)) a b
  | .Gt => intC (fun x y => decide (x > y)) a b
  | .Is => match b with | .none => some (V.beq a .none) | _ => .none
  | .In => inM a b σ
  | .NotIn => (inM a b σ).map (!·)
  | _ => .none
noncomputable def eCmp (op : CmpOp) (f g : ME V) : ME V := f.bind fun a => g.bind fun b => fun _ σ => (Res.ofOpt (cmpM op a b σ) σ).andThen fun c σ => .ok (.bool c) σ
noncomputable def tCmp (op : CmpOp) (f g : ME V) : ME Bool := f.bind fun a => g.bind fun b => fun _ σ => Res.ofOpt (cmpM op a b σ) σ
noncomputable def tChain (o1 o2 : CmpOp) (f g h : ME V) : ME Bool := f.bind fun a => g.bind fun b => fun fr σ => (Res.ofOpt (cmpM o1 a b σ) σ).andThen fun c σ =>
  if c then (h.bind fun d => fun _ σ => Res.ofOpt (cmpM o2 b d σ) σ) fr σ else .ok false σ
noncomputable def tNot (f : ME Bool) : ME Bool := f.bind fun b => ME.pure (!b)
noncomputable def tAnd : List (ME Bool) → ME Bool
  | [] => ME.pure true
  | f :: fs => f.bind fun b => if b then tAnd fs else ME.pure false
noncomputable def tOr : List (ME Bool) → ME Bool
  | [] => ME.pure false
  | f :: fs => f.bind fun b => if b then ME.pure true else tOr fs
/-- the truth of a call's bool -/
noncomputable def tVal (f : ME V) : ME Bool := f.bind fun v => match v with | .bool b => ME.pure b | _ => ME.stuck
noncomputable def eIf (t : ME Bool) (f g : ME V) : ME V := t.bind fun b => if b then f else g
/-- «x and y», «x or y» as values that are bools -/
noncomputable def eAnd2 (f g : ME V) : ME V := f.bind fun v => match v with | .bool b => if b then g else ME.pure (.bool false) | _ => ME.stuck
section
variable {W : Wd} {n : Nat} {sc : Scope} {a : Act} {fr : Loc} {ρ ρ' : Rho} {σ : Sto} {h h' : Heap} {s s' : Shared} {D : List Addr} {E : Value → Shared → Prop}
theorem not_sys {σ : Sto} (S : StH W ρ σ h) {d : Addr} (hd : d ∈ muts ρ) : (d == sysModules) = false := by
  obtain ⟨o, e⟩ := W.sys
  rw [beq_eq_false_iff_ne]
  intro z
  exact S.base_notin e (z ▸ hd)
theorem mem_muts {i : Nat} {p : Addr × Addr} (e : ρ.objs[i]? = some p) : p.2 ∈ muts ρ := mem_muts'.mpr (.inl (List.mem_map.mpr ⟨p, List.mem_of_getElem? e, rfl⟩))
theorem flat_reads {v p : V} {mv : Value} (S : StH W ρ σ h) (r : VRep ρ h v mv) (e : flat σ v = some p) : p.plain = true ∧ ∃ as, Reads h mv (pdV p) as := by
  have key : ∀ v : V, VRep ρ h v mv → (if v.plain then some v else .none) = some p → p.plain = true ∧ ∃ as, Reads h mv (pdV p) as := fun v r e => by
    by_cases hp : v.plain = true
    · rw [if_pos hp] at e; cases e; exact ⟨hp, r.reads hp⟩
    · rw [if_neg hp] at e; cases e
  cases v with
  | ref i =>
    obtain ⟨p_, hp, rfl⟩ := r.ref_inv
    unfold flat at e
    dsimp only at e
    cases ho : σ[i]? with
    | none => rw [ho] at e; cases e
    | some o => cases o with
      | list vs =>
        rw [ho] at e
        dsimp only at e
        by_cases hpl : V.plains vs = true
        · rw [if_pos hpl] at e
          cases e
          obtain ⟨e1, ms, k, g, q⟩ := S.objs _ _ _ ho hp
          obtain ⟨as, q'⟩ := q.reads hpl
          rw [e1]
          exact ⟨hpl, _, .list g rfl rfl q'⟩
        · rw [if_neg hpl] at e; cases e
      | _ => rw [ho] at e; cases e
  | _ => exact key _ r e
theorem dget_int {kvs : List (V × V)} {ks : List (Int × Value)} {k : Int} (al : All2 (fun kv km => kv.1 = .int km.1 ∧ VRep ρ h kv.2 km.2) kvs ks) :
    match dget kvs (.int k), valueAt ks k with | some v, some m => VRep ρ h v m | none, none => True | _, _ => False := by
  induction al with
  | nil => simp [dget, valueAt]
  | @cons kv km as bs r _ ih =>
    obtain ⟨e, q⟩ := r
    unfold dget valueAt
    rw [e, List.find?_cons]
    by_cases hk : km.1 = k
    · simp [V.beq_int, hk, q]
    · simp only [V.beq_int, hk, decide_false]
      exact ih
theorem dget_str {kvs : List (V × V)} {ks : List (PySem.Str × Value)} {k : List Nat} (al : All2 (fun kv km => (∃ x, kv.1 = .str x ∧ km.1 = strV x) ∧ VRep ρ h kv.2 km.2) kvs ks) :
    match dget kvs (.str k), valueAt ks (strV k) with | some v, some m => VRep ρ h v m | none, none => True | _, _ => False := by
  induction al with
  | nil => simp [dget, valueAt]
  | @cons kv km as bs r _ ih =>
    obtain ⟨⟨x, e, e'⟩, q⟩ := r
    unfold dget valueAt
    rw [e, List.find?_cons, e']
    by_cases hk : x = k
    · simp [V.beq_str, hk, q]
    · have : strV x ≠ strV k := fun z => hk (by have := congrArg PySem.Str.cps z; simpa [strV] using this)
      simp only [V.beq_str, beq_eq_false_iff_ne.mpr hk, this, decide_false]
      exact ih
theorem dget_tup {kvs : List (V × V)} {xs : List (List V × Addr × Value)} {k : List V} (al : All2 (fun kv km => (kv.1 = .tup km.1 ∧ VRep ρ h (.tup km.1) (.ref km.2.1)) ∧ VRep ρ h kv.2 km.2.2) kvs xs) :
    match dget kvs (.tup k), atKey xs k with | some v, some m => VRep ρ h v m.2 | none, none => True | _, _ => False := by
  induction al with
  | nil => simp [dget, atKey]
  | @cons kv km as bs r _ ih =>
    obtain ⟨⟨e, _⟩, q⟩ := r
    unfold dget atKey
    rw [e, List.find?_cons]
    by_cases hk : km.1 = k
    · have hb : V.beq (.tup km.1) (.tup k) = true := (V.beq_iff _ _).mpr (by rw [hk])
      simp only [hb, if_true]; simp [hk, q]
    · have hb : V.beq (.tup km.1) (.tup k) = false := Bool.eq_false_iff.mpr fun z => hk (V.tup.inj ((V.beq_iff _ _).mp z))
      simp only [hb, hk, decide_false]
      exact ih
theorem dget_isSome {o : Option V} {o' : Option Value} (h1 : match o, o' with | some v, some m => VRep ρ h v m | none, none => True | _, _ => False) : o.isSome = o'.isSome := by
  cases o <;> cases o' <;> simp_all
theorem vtup_key {ks : List V} {mv : Value} (r : VRep ρ h (.tup ks) mv) (hk : keyOk .tup (.tup ks) = true) : ∃ b, mv = .ref b ∧ (vtup W).is h ks b := by
  simp only [keyOk, Bool.and_eq_true, decide_eq_true_eq] at hk
  have r0 := r
  cases r with
  | tup ho hc hd hn q => exact ⟨_, rfl, r0.plain0 (by simp only [V.plain]; exact V.keybs_plains hk.1), hk.1, hk.2⟩
theorem in_dict {i : Nat} {kd : DK} {kvs : List (V × V)} {x : V} {p : Addr × Addr} {mx : Value} {Q : Value → Shared → Prop} (ok : ActOk n a) (S : St W ρ σ s) (hi : σ[i]? = some (.dict kd kvs)) (hp : ρ.objs[i]? = some p) (rx : VRep ρ s.heap x mx)
    (hk : keyOk kd x = true) (k : ∀ tk, Q (.bool (dget kvs x).isSome) { s with toks := tk }) : wpAny (model W.prog W.w) a.A (compareOp .In mx (.ref p.1)) Q E s := by
  obtain ⟨e1, r⟩ := S.heap.objs _ _ _ hi hp
  rw [e1]
  have hs := not_sys S.heap (mem_muts hp)
  cases kd with
  | int =>
    cases x <;> simp only [keyOk, Bool.false_eq_true] at hk
    rename_i j
    obtain ⟨t1, rfl⟩ := rx.int_inv
    obtain ⟨ks, d, al⟩ := r
    refine wpAny_in_of (knd := intKind W.prog W.w) (k := j) (by simp [intKind, Value.isInt]) hs d.mapOf ?_
    have := dget_isSome (dget_int (k := j) al)
    rw [← this]; exact k _
  | str =>
    cases x <;> simp only [keyOk, Bool.false_eq_true] at hk
    rename_i j
    obtain ⟨t1, rfl⟩ := rx.str_inv
    obtain ⟨ks, d, al⟩ := r
    refine wpAny_in_of (knd := strKind W.prog W.w) (k := strV j) (strKind_is _ _ _ _) hs d.mapOf ?_
    have := dget_isSome (dget_str (k := j) al)
    rw [← this]; exact k _
  | tup =>
    cases x <;> simp only [keyOk, Bool.false_eq_true] at hk
    rename_i j
    obtain ⟨ks, d, al⟩ := r
    obtain ⟨b, rfl, hb⟩ := vtup_key (W := W) rx (by simpa [keyOk] using hk)
    refine wpAny_in_heap (knd := vtup W) (by have := ok.units; show a.A.in1.units + 64 < cLine; simp only; lia) hb hs d ?_
    have h1 := dget_tup (k := j) al
    have : (dget kvs (.tup j)).isSome = (atKey ks j).isSome := by
      cases h2 : dget kvs (.tup j) <;> cases h3 : atKey ks j <;> rw [h2, h3] at h1 <;> simp_all
    rw [← this]; exact k _
theorem in_ok {x c : V} {b : Bool} {mx mc : Value} {Q : Value → Shared → Prop} (ok : ActOk n a) (S : St W ρ σ s) (rx : VRep ρ s.heap x mx) (rc : VRep ρ s.heap c mc) (e : inM x c σ = some b)
    (k : ∀ tk, Q (.bool b) { s with toks := tk }) : wpAny (model W.prog W.w) a.A (compareOp .In mx mc) Q E s := by
  cases c with
  | ref i =>
    obtain ⟨p, hp, rfl⟩ := rc.ref_inv
    unfold inM at e
    dsimp only at e
    cases hi : σ[i]? with
    | none => rw [hi] at e; cases e
    | some o => cases o with
      | dict kd kvs =>
        rw [hi] at e
        dsimp only at e
        by_cases hk : keyOk kd x = true
        · rw [if_pos hk] at e; cases e; exact in_dict ok S hi hp rx hk k
        · rw [if_neg hk] at e; cases e
      | _ => rw [hi] at e; cases e
  | str t =>
    obtain ⟨u, hu, rfl⟩ := Option.map_eq_some_iff.mp (show x.str?.map _ = some b from e)
    obtain rfl := V.str?_eq hu
    obtain ⟨t1, rfl⟩ := rx.str_inv
    obtain ⟨t2, rfl⟩ := rc.str_inv
    exact P.in_str (k s.toks)
  | _ => cases e
theorem cmp_notIn {mx mc : Value} {Q : Value → Shared → Prop} {A : Around} (h : wpAny (model W.prog W.w) A (compareOp .In mx mc) (fun v s' => match v with | .bool b => Q (.bool (!b)) s' | _ => False) E s) : wpAny (model W.prog W.w) A (compareOp .NotIn mx mc) Q E s := by
  show wpAny _ _ (do return Value.bool (!(← contains mc mx))) Q E s
  have h' : wpAny (model W.prog W.w) A (do return Value.bool (← contains mc mx)) (fun v s' => match v with | .bool b => Q (.bool (!b)) s' | _ => False) E s := h
  intro Γ p hΓ
  have q := h' Γ p hΓ
  rw [Sem.wp_bind'] at q
  rw [Sem.wp_bind']
  exact q
theorem eq_ok {x y : V} {b : Bool} {mx my : Value} {Q : Value → Shared → Prop} (ok : ActOk n a) (S : St W ρ σ s) (rx : VRep ρ s.heap x mx) (ry : VRep ρ s.heap y my) (e : eqM x y σ = some b) :
    (Q (.bool b) s → wpAny (model W.prog W.w) a.A (compareOp .Eq mx my) Q E s) ∧ (Q (.bool (!b)) s → wpAny (model W.prog W.w) a.A (compareOp .NotEq mx my) Q E s) := by
  obtain ⟨p, ep, e⟩ := Option.bind_eq_some_iff.mp e
  obtain ⟨q, eq, e⟩ := Option.bind_eq_some_iff.mp e
  obtain ⟨pp, as, qx⟩ := flat_reads S.heap rx ep
  obtain ⟨pq, bs, qy⟩ := flat_reads S.heap ry eq
  have lp := pdV_lay p pp
  have lq := pdV_lay q pq
  split at e
  case isFalse => cases e
  rename_i hd
  cases e
  simp only [Bool.and_eq_true, decide_eq_true_eq] at hd
  have hu := ok.units
  have sp : SeqAt.shaped (pdV p) = true := by unfold SeqAt.shaped; rw [lp.1, lp.2]; simp [hd.1]
  have sq : SeqAt.shaped (pdV q) = true := by unfold SeqAt.shaped; rw [lq.1, lq.2]; simp [hd.2]
  have hz : a.A.units + 65 < cLine := by omega
  exact ⟨fun k => eq_dataH qx qy sp sq (by omega) (by rw [pdV_eqv p q pp pq]; exact k), fun k => ne_dataH qx qy sp sq (by omega) (by rw [pdV_eqv p q pp pq]; exact k)⟩
theorem VRep.none_iff {v : V} {mv : Value} (r : VRep ρ h v mv) : (mv == .none) = V.beq v .none := by
  cases r <;> rfl
theorem intC_eq {f : Int → Int → Bool} {x y : V} {b : Bool} (e : intC f x y = some b) : ∃ i j, x = .int i ∧ y = .int j ∧ b = f i j := by
  obtain ⟨i, hi, e⟩ := Option.bind_eq_some_iff.mp e
  obtain ⟨j, hj, rfl⟩ := Option.map_eq_some_iff.mp e
  exact ⟨i, j, V.int?_eq hi, V.int?_eq hj, rfl⟩
theorem cmp_ok {op : CmpOp} {x y : V} {b : Bool} {mx my : Value} {Q : Value → Shared → Prop} (ok : ActOk n a) (S : St W ρ σ s) (rx : VRep ρ s.heap x mx) (ry : VRep ρ s.heap y my) (e : cmpM op x y σ = some b)
    (k : ∀ tk, Q (.bool b) { s with toks := tk }) : wpAny (model W.prog W.w) a.A (compareOp op mx my) Q E s := by
  cases op with
  | Eq => exact (eq_ok ok S rx ry e).1 (k s.toks)
  | NotEq =>
    simp only [cmpM, Option.map_eq_some_iff] at e
    obtain ⟨c, e, rfl⟩ := e
    exact (eq_ok ok S rx ry e).2 (k s.toks)
  | Lt => obtain ⟨i, j, rfl, rfl, rfl⟩ := intC_eq e; obtain ⟨t1, rfl⟩ := rx.int_inv; obtain ⟨t2, rfl⟩ := ry.int_inv; exact P.lt_int (k s.toks)
  | LtE => obtain ⟨i, j, rfl, rfl, rfl⟩ := intC_eq e; obtain ⟨t1, rfl⟩ := rx.int_inv; obtain ⟨t2, rfl⟩ := ry.int_inv; exact P.le_int (k s.toks)
  | Gt => obtain ⟨i, j, rfl, rfl, rfl⟩ := intC_eq e; obtain ⟨t1, rfl⟩ := rx.int_inv; obtain ⟨t2, rfl⟩ := ry.int_inv; exact P.gt_int (k s.toks)
  | GtE => cases e
  | IsNot => cases e
  | Is =>
    cases y with
    | none => cases e; cases ry; exact is_none_gen (by rw [rx.none_iff]; exact k s.toks)
    | _ => cases e
  | In => exact in_ok ok S rx ry e k
  | NotIn =>
    simp only [cmpM, Option.map_eq_some_iff] at e
    obtain ⟨c, e, rfl⟩ := e
    exact cmp_notIn (in_ok ok S rx ry e fun tk => k tk)
/-- behind a comparison -/
theorem cmp_post {β : Type} {op : CmpOp} {x y : V} {mx my : Value} {Q : Value → Shared → Prop} {k : Bool → Sto → Res β} {K : β → Rho → Shared → Prop} (ok : ActOk n a) (S : St W ρ σ s) (F : FS W a fr ρ s.heap)
    (rx : VRep ρ s.heap x mx) (ry : VRep ρ s.heap y my) (p : PostG W a ρ s ((Res.ofOpt (cmpM op x y σ) σ).andThen k) K E)
    (h : ∀ b s', s'.heap = s.heap → St W ρ σ s' → FS W a fr ρ s'.heap → PostG W a ρ s' (k b σ) K E → Q (.bool b) s') : wpAny (model W.prog W.w) a.A (compareOp op mx my) Q E s := by
  cases e : cmpM op x y σ with
  | none => rw [e] at p; exact p.elim
  | some b =>
    rw [e] at p
    exact cmp_ok ok S rx ry e fun tk => h b { s with toks := tk } rfl S.heap_eq F (PostG.step (s' := { s with toks := tk }) (Ext.refl ..) p)
theorem DenE.cmp {l r : PySem.Expr} {op : CmpOp} {pos : Pos} {f g : ME V} (hl : DenE W n sc l f) (hr : DenE W n sc r g) (hm : behindInMarks op r = false) : DenE W n sc (.Compare l [op] [r] pos) (eCmp op f g) := by
  intro a ok hsc ρ σ fr s S F Q E p
  refine wpAny_Compare1 (hl.bind ok hsc S F p fun v σ1 ρ1 s1 mv S1 F1 x1 r1 p1 => ?_) hm
  refine hr.bind ok hsc S1 F1 p1 fun v2 σ2 ρ2 s2 mv2 S2 F2 x2 r2 p2 => ?_
  exact cmp_post ok S2 F2 (r1.mono x2) r2 p2 fun b s' e S' F' p' => PostE.val p' S' (.refl ..) (.bool b)
theorem DenB.cmp {l r : PySem.Expr} {op : CmpOp} {pos : Pos} {f g : ME V} (hl : DenE W n sc l f) (hr : DenE W n sc r g) (hm : behindInMarks op r = false) : DenB W n sc (.Compare l [op] [r] pos) (tCmp op f g) := by
  intro a ok hsc ρ σ fr s S F Q E p
  refine wpAny_isTrue_Compare1 (hl.bind ok hsc S F p fun v σ1 ρ1 s1 mv S1 F1 x1 r1 p1 => ?_) hm
  refine hr.bind ok hsc S1 F1 p1 fun v2 σ2 ρ2 s2 mv2 S2 F2 x2 r2 p2 => ?_
  have p2' : PostG W a ρ2 s2 ((Res.ofOpt (cmpM op v v2 σ2) σ2).andThen fun b σ => .ok b σ) (KB Q) E := by
    dsimp only at p2
    cases e : cmpM op v v2 σ2 <;> rw [e] at p2 <;> exact p2
  exact cmp_post ok S2 F2 (r1.mono x2) r2 p2' fun b s' e S' F' p' => wpAny_truthy_bool (p' ρ2 s' S' (.refl ..))
theorem DenB.chain {l r1 r2 : PySem.Expr} {o1 o2 : CmpOp} {pos : Pos} {f g h : ME V} (hl : DenE W n sc l f) (h1 : DenE W n sc r1 g) (h2 : DenE W n sc r2 h) (hm : lastMarks [o1, o2] [r1, r2] = false) :
    DenB W n sc (.Compare l [o1, o2] [r1, r2] pos) (tChain o1 o2 f g h) := by
  intro a ok hsc ρ σ fr s S F Q E p
  refine isTrue_chain (hl.bind ok hsc S F p fun v σ1 ρ1 s1 mv S1 F1 x1 r1 p1 => ?_) hm
  refine test_link (h1.bind ok hsc S1 F1 p1 fun v2 σ2 ρ2 s2 mv2 S2 F2 x2 r2 p2 => ?_)
  refine cmp_post ok S2 F2 (r1.mono x2) r2 p2 fun b s' e S' F' p' => wpAny_truthy_bool ?_
  cases b with
  | false => exact p' ρ2 s' S' (.refl ..)
  | true =>
    refine test_last (h2.bind ok hsc S' F' p' fun v3 σ3 ρ3 s3 mv3 S3 F3 x3 r3 p3 => ?_)
    have p3' : PostG W a ρ3 s3 ((Res.ofOpt (cmpM o2 v2 v3 σ3) σ3).andThen fun b σ => .ok b σ) (KB Q) E := by
      dsimp only at p3
      cases e : cmpM o2 v2 v3 σ3 <;> rw [e] at p3 <;> exact p3
    have r2' : VRep ρ2 s'.heap v2 mv2 := by rw [e]; exact r2
    exact cmp_post ok S3 F3 (r2'.mono x3) r3 p3' fun b s' e S' F' p' => wpAny_truthy_bool (p' ρ3 s' S' (.refl ..))
theorem DenB.not {x : PySem.Expr} {pos : Pos} {f : ME Bool} (hf : DenB W n sc x f) : DenB W n sc (.UnaryOp .Not x pos) (tNot f) := by
  intro a ok hsc ρ σ fr s S F Q E p
  exact isTrue_not (hf.bind ok hsc S F p fun b σ1 ρ1 s1 S1 F1 x1 p1 => p1 ρ1 s1 S1 (.refl ..))
theorem DenB.and_nil {pos : Pos} : DenB W n sc (.BoolOp .And [] pos) (tAnd []) := by
  intro a ok hsc ρ σ fr s S F Q E p
  exact isTrue_and_nil (p ρ s S (.refl ..))
theorem DenB.or_nil {pos : Pos} : DenB W n sc (.BoolOp .Or [] pos) (tOr []) := by
  intro a ok hsc ρ σ fr s S F Q E p
  exact isTrue_or_nil (p ρ s S (.refl ..))
theorem DenB.and {x : PySem.Expr} {xs : List PySem.Expr} {pos : Pos} {f : ME Bool} {fs : List (ME Bool)} (hf : DenB W n sc x f) (hs : DenB W n sc (.BoolOp .And xs pos) (tAnd fs)) : DenB W n sc (.BoolOp .And (x :: xs) pos) (tAnd (f :: fs)) := by
  intro a ok hsc ρ σ fr s S F Q E p
  refine isTrue_and (hf.bind ok hsc S F p fun b σ1 ρ1 s1 S1 F1 x1 p1 => ?_)
  cases b with
  | false => exact p1 ρ1 s1 S1 (.refl ..)
  | true => exact hs a ok hsc ρ1 σ1 fr s1 S1 F1 Q E p1
theorem DenB.or {x : PySem.Expr} {xs : List PySem.Expr} {pos : Pos} {f : ME Bool} {fs : List (ME Bool)} (hf : DenB W n sc x f) (hs : DenB W n sc (.BoolOp .Or xs pos) (tOr fs)) : DenB W n sc (.BoolOp .Or (x :: xs) pos) (tOr (f :: fs)) := by
  intro a ok hsc ρ σ fr s S F Q E p
  refine isTrue_or (hf.bind ok hsc S F p fun b σ1 ρ1 s1 S1 F1 x1 p1 => ?_)
  cases b with
  | true => exact p1 ρ1 s1 S1 (.refl ..)
  | false => exact hs a ok hsc ρ1 σ1 fr s1 S1 F1 Q E p1
theorem DenB.val {e : PySem.Expr} {f : ME V} (hf : DenE W n sc e f) (he : ∀ (env : Env) (whole : Sem Value), isTrue e env whole = (do let v ← whole; standAt e.pos; holding [v] (truthy v))) : DenB W n sc e (tVal f) := by
  intro a ok hsc ρ σ fr s S F Q E p
  refine isTrue_plain (hf.bind ok hsc S F p fun v σ1 ρ1 s1 mv S1 F1 x1 r1 p1 => ?_) (he _ _)
  cases v <;> first | exact p1.elim | skip
  cases r1
  exact wpAny_truthy_bool (p1 ρ1 s1 S1 (.refl ..))
theorem DenE.ifExp {t b o : PySem.Expr} {pos : Pos} {ft : ME Bool} {f g : ME V} (ht : DenB W n sc t ft) (hb : DenE W n sc b f) (ho : DenE W n sc o g) : DenE W n sc (.IfExp t b o pos) (eIf ft f g) := by
  intro a ok hsc ρ σ fr s S F Q E p
  refine IfExp_ (ht.bind ok hsc S F p fun c σ1 ρ1 s1 S1 F1 x1 p1 => ?_)
  cases c with
  | true => exact hb a ok hsc ρ1 σ1 fr s1 S1 F1 Q E p1
  | false => exact ho a ok hsc ρ1 σ1 fr s1 S1 F1 Q E p1
theorem DenE.and2 {x y : PySem.Expr} {pos : Pos} {f g : ME V} (hf : DenE W n sc x f) (hg : DenE W n sc y g) : DenE W n sc (.BoolOp .And [x, y] pos) (eAnd2 f g) := by
  intro a ok hsc ρ σ fr s S F Q E p
  refine BoolOp_and (hf.bind ok hsc S F p fun v σ1 ρ1 s1 mv S1 F1 x1 r1 p1 => ?_)
  cases v <;> first | exact p1.elim | skip
  rename_i b
  cases r1
  refine wpAny_truthy_bool ?_
  cases b with
  | true => exact BoolOp_one (hg a ok hsc ρ1 σ1 fr s1 S1 F1 Q E p1)
  | false => exact PostE.val p1 S1 (.refl ..) (.bool false)
end
end Mine
/-! A8 -/
namespace Mine
open PySem PySem.W PyProof.Rows
/-! attributes, subscripts, slices -/
noncomputable def instOf (σ : Sto) (c : Nat) (v : V) : Option (Nat × List (Nat × V)) := match v with
  | .ref i => match σ[i]? with
    | some (.inst c' fs) => if c' = c then some (i, fs) else .none
    | _ => .none
  | _ => .none
noncomputable def eAttr (c x : Nat) (f : ME V) : ME V := f.bind fun v => fun _ σ => Res.ofOpt ((instOf σ c v).bind fun p => p.2.lookup x) σ
noncomputable def nthV (vs : List V) (i : Int) : Option V := (seqIndex? i vs.length).bind fun j => vs[j]?
noncomputable def idxL (vs : List V) (i : V) : Option V := i.int?.bind fun i => if decide (i.natAbs < 1000000000) then nthV vs i else .none
noncomputable def idxS (cs : List Nat) (i : V) : Option V := i.int?.bind fun i => if decide (i.natAbs < 1000000000) && decide (0 ≤ i) && decide (i < cs.length) then (cs[i.toNat]?).map fun c => V.str [c] else .none
noncomputable def idxM (v i : V) (σ : Sto) : Option V := match v with
  | .ref j => match σ[j]? with
    | some (.dict k kvs) => if keyOk k i then dget kvs i else .none
    | some (.list vs) => idxL vs i
    | _ => .none
  | .list vs => idxL vs i
  | .tup vs => idxL vs i
  | .str cs => idxS cs i
  | _ => .none
noncomputable def eIdx (f g : ME V) : ME V := f.bind fun v => g.bind fun i => fun _ σ => Res.ofOpt (idxM v i σ) σ
/-- v[k:] -/
noncomputable def fromM (k : Nat) (v : V) (σ : Sto) : Option V := match v.tupl? with
  | some vs => if szOk vs.length && decide (k ≤ vs.length) then some (.tup (vs.drop k)) else .none
  | .none => (items? σ v).bind fun vs => if szOk vs.length then some (.list (vs.drop k)) else .none
/-- v[:k] -/
noncomputable def uptoM (k : Nat) (v : V) (σ : Sto) : Option V := match v.tupl? with
  | some vs => if szOk vs.length then some (.tup (vs.take k)) else .none
  | .none => (items? σ v).bind fun vs => if szOk vs.length then some (.list (vs.take k)) else .none
noncomputable def eFrom (k : Nat) (f : ME V) : ME V := f.bind fun v => fun _ σ => Res.ofOpt (fromM k v σ) σ
noncomputable def eUpto (k : Nat) (f : ME V) : ME V := f.bind fun v => fun _ σ => Res.ofOpt (uptoM k v σ) σ
section
variable {W : Wd} {n : Nat} {sc : Scope} {a : Act} {fr : Loc} {ρ ρ' : Rho} {σ : Sto} {h h' : Heap} {s s' : Shared} {D : List Addr} {E : Value → Shared → Prop}
theorem lookIn_of {name : PySem.Str} {o : Obj} {ks : List (PySem.Str × Value)} (d : o.IsDictOf (strKind W.prog W.w) ks) : lookIn name o = some (valueAt ks name) := by
  obtain ⟨es, ep, hx, hd, hk, hp, hn⟩ := d
  have hr : es.toList.any (·.refKey) = false := by
    rw [List.any_eq_false]
    intro e he
    obtain ⟨k, h1, _⟩ := hk e (Array.mem_toList_iff.mp he)
    obtain ⟨t, e1⟩ := Value.isStrOf_shape h1
    simp [DictEntry.refKey, e1]
  have hf := hp.find name
  have e : (fun e : DictEntry => (strKind W.prog W.w).is name e.key) = fun e => e.key.isStr name := by
    funext e
    show Value.isStrOf name e.key = _
    cases e.key <;> rfl
  rw [e] at hf
  unfold lookIn
  rw [hd]
  dsimp only
  cases hq : es.toList.find? fun e => e.key.isStr name with
  | some x => rw [hq] at hf; simpa using hf
  | none => rw [hq] at hf; simp only [Option.map_none] at hf; rw [← hf, hr]; simp
theorem fs_get {fs : List (Nat × V)} {ks : List (PySem.Str × Value)} {x : Nat} (hx : x < W.nN) (al : All2 (fun kv km => (kv.1 < W.nN ∧ km.1 = W.nm kv.1) ∧ VRep ρ h kv.2 km.2) fs ks) :
    match fs.lookup x, valueAt ks (W.nm x) with | some v, some m => VRep ρ h v m | none, none => True | _, _ => False := by
  induction al with
  | nil => simp [valueAt]
  | @cons kv km as bs r _ ih =>
    obtain ⟨⟨e0, e⟩, q⟩ := r
    obtain ⟨kv1, kv2⟩ := kv
    simp only at e0 e q
    unfold valueAt
    rw [List.lookup_cons, List.find?_cons, e]
    by_cases hk : x = kv1
    · subst hk; simp [q]
    · have : W.nm kv1 ≠ W.nm x := fun z => hk (W.inj _ _ e0 hx z).symm
      simp only [beq_eq_false_iff_ne.mpr hk, this, decide_false]
      exact ih
/-- of a class: what reading an attribute asks -/
noncomputable def ClsGet (W : Wd) (c : Nat) : Prop := hasDictIn W.K (W.cls c) = true ∧ plainGet W.K (W.cls c) (PySem.Str.ofString "") = true
theorem handedIn_of {v : V} {mv : Value} (r : VRep ρ h v mv) : handedIn mv = true := by cases r <;> rfl
theorem inst_at {c : Nat} {v : V} {mv : Value} {i : Nat} {fs : List (Nat × V)} (S : StH W ρ σ h) (r : VRep ρ h v mv) (e : instOf σ c v = some (i, fs)) :
    ∃ p, v = .ref i ∧ ρ.objs[i]? = some p ∧ σ[i]? = some (.inst c fs) ∧ mv = .ref p.1 ∧ ∃ sl o ks, h.get? p.1 = some ⟨.ref (W.cls c), some p.2, .plain, sl⟩ ∧ h.get? p.2 = some o ∧ o.IsDictOf (strKind W.prog W.w) ks ∧
      All2 (fun kv km => (kv.1 < W.nN ∧ km.1 = W.nm kv.1) ∧ VRep ρ h kv.2 km.2) fs ks := by
  cases v with
  | ref j =>
    obtain ⟨p, hp, rfl⟩ := r.ref_inv
    unfold instOf at e
    dsimp only at e
    cases ho : σ[j]? with
    | none => rw [ho] at e; cases e
    | some x => cases x with
      | inst c' fs' =>
        rw [ho] at e
        dsimp only at e
        by_cases hc : c' = c
        · rw [if_pos hc] at e
          cases e
          subst hc
          obtain ⟨⟨sl, g⟩, ks, d, al⟩ := S.objs _ _ _ ho hp
          obtain ⟨o, ho', d'⟩ := Heap.dictOf_iff.mp d
          exact ⟨p, rfl, hp, ho, rfl, sl, o, ks, g, ho', d', al⟩
        · rw [if_neg hc] at e; cases e
      | _ => rw [ho] at e; cases e
  | _ => cases e
theorem DenE.attr {e : PySem.Expr} {x : PySem.Str} {pos : Pos} {c i : Nat} {f : ME V} (hf : DenE W n sc e f) (hc : ClsGet W c) (hi : i < W.nN) (hx : W.nm i = x) (hn : findIn W.K (.ref (W.cls c)) x = some Option.none)
    (he : ∀ env : Env, eval (.Attribute e x pos) env = (do
      let o ← eval e env
      standAt pos.atName
      let r ← holding [o] (getAttr o x true)
      letTemporaryGo e o r
      pure r) := by intro _; with_unfolding_all rfl) : DenE W n sc (.Attribute e x pos) (eAttr c i f) := by
  intro a ok hsc ρ σ fr s S F Q E p
  refine Attribute_any_ (hf.bind ok hsc S F p fun v σ1 ρ1 s1 mv S1 F1 x1 r1 p1 => ?_) (he _)
  dsimp only at p1
  cases hio : instOf σ1 c v with
  | none => rw [hio] at p1; exact p1.elim
  | some q =>
    obtain ⟨j, fs⟩ := q
    rw [hio, Option.bind_some] at p1
    dsimp only at p1
    obtain ⟨pp, rfl, hp, hσ, rfl, sl, o, ks, g1, g2, d, al⟩ := inst_at S1.heap r1 hio
    have hg := fs_get hi al
    cases hl : fs.lookup i with
    | none => rw [hl] at p1; exact p1.elim
    | some v' =>
      rw [hl] at p1 hg
      cases hv : valueAt ks (W.nm i) with
      | none => rw [hv] at hg; exact hg.elim
      | some m' =>
        rw [hv] at hg
        have I : InstAt s1.heap pp.1 ⟨.ref (W.cls c), some pp.2, .plain, sl⟩ (W.cls c) (some o) := ⟨g1, rfl, rfl, g2⟩
        refine get_value (v := m') (W.X.keeps S1.heap.base) I (plainGet_of hc.2).1 (findObj_own hc.1 hn rfl ?_) (handedIn_of hg) ?_
        · rw [lookIn_of d, ← hx, hv]
        · exact PostE.val (s' := { s1 with toks := s1.toks + 1 }) p1 S1.heap_eq (.refl ..) hg
theorem dget_get {i : Nat} {kd : DK} {kvs : List (V × V)} {x v : V} {p : Addr × Addr} {mx : Value} {Q : Value → Shared → Prop} {A : Around} (hA : A.units + 65 < cLine) (S : St W ρ σ s) (hi : σ[i]? = some (.dict kd kvs)) (hp : ρ.objs[i]? = some p) (rx : VRep ρ s.heap x mx)
    (hk : keyOk kd x = true) (hv : dget kvs x = some v) (k : ∀ tk m, VRep ρ s.heap v m → Q m { s with toks := tk }) : wpAny (model W.prog W.w) A (getItem (.ref p.1) mx) Q E s ∧ s.TypeIs (.ref p.1) "dict" := by
  obtain ⟨e1, r⟩ := S.heap.objs _ _ _ hi hp
  rw [e1]
  cases kd with
  | int =>
    cases x <;> simp only [keyOk, Bool.false_eq_true] at hk
    rename_i j
    obtain ⟨t1, rfl⟩ := rx.int_inv
    obtain ⟨ks, d, al⟩ := r
    have hg := dget_int (k := j) al
    rw [hv] at hg
    cases hm : valueAt ks j with
    | none => rw [hm] at hg; exact hg.elim
    | some m =>
      rw [hm] at hg
      exact ⟨wpAny_getItem_of (knd := intKind W.prog W.w) (k := j) (by simp [intKind, Value.isInt]) d.mapOf hm (k _ _ hg), d.typeIs⟩
  | str =>
    cases x <;> simp only [keyOk, Bool.false_eq_true] at hk
    rename_i j
    obtain ⟨t1, rfl⟩ := rx.str_inv
    obtain ⟨ks, d, al⟩ := r
    have hg := dget_str (k := j) al
    rw [hv] at hg
    cases hm : valueAt ks (strV j) with
    | none => rw [hm] at hg; exact hg.elim
    | some m =>
      rw [hm] at hg
      exact ⟨wpAny_getItem_of (knd := strKind W.prog W.w) (k := strV j) (strKind_is _ _ _ _) d.mapOf hm (k _ _ hg), d.typeIs⟩
  | tup =>
    cases x <;> simp only [keyOk, Bool.false_eq_true] at hk
    rename_i j
    obtain ⟨ks, d, al⟩ := r
    obtain ⟨b, rfl, hb⟩ := vtup_key (W := W) rx (by simpa [keyOk] using hk)
    have hg := dget_tup (k := j) al
    rw [hv] at hg
    cases hm : atKey ks j with
    | none => rw [hm] at hg; exact hg.elim
    | some m =>
      rw [hm] at hg
      exact ⟨wpAny_getItem_heap (knd := vtup W) (by show A.in1.units + 64 < cLine; simp only; lia) hb d hm (k _ _ hg), d.typeIs⟩
theorem seqIndex_cases {i : Int} {k j : Nat} (e : seqIndex? i k = some j) : (0 ≤ i ∧ j = i.toNat ∧ j < k) ∨ (i < 0 ∧ -(k : Int) ≤ i ∧ j = (i + k).toNat ∧ j < k) := by
  unfold seqIndex? at e
  by_cases h : i < 0
  · simp only [h, if_true] at e
    split at e
    · rename_i h2; simp only [Bool.and_eq_true, decide_eq_true_eq] at h2; cases e; right; lia
    · cases e
  · simp only [h, if_false] at e
    split at e
    · rename_i h2; simp only [Bool.and_eq_true, decide_eq_true_eq] at h2; cases e; left; lia
    · cases e
theorem list_item {l : Addr} {ms : Array Value} {vs : List V} {i : Int} {t : Tok} {v : V} {Q : Value → Shared → Prop} {A : Around} (hl : s.heap.IsList l ms) (r : VReps ρ s.heap vs ms.toList) (hb : i.natAbs < 1000000000) (e : nthV vs i = some v)
    (k : ∀ m, VRep ρ s.heap v m → Q m s) : wpAny (model W.prog W.w) A (getItem (.ref l) (.int i t)) Q E s := by
  unfold nthV at e
  have hsz : vs.length = ms.size := by rw [r.length]; simp
  cases hj : seqIndex? i vs.length with
  | none => rw [hj] at e; cases e
  | some j =>
    rw [hj, Option.bind_some] at e
    obtain ⟨m, hm, rm⟩ := r.get _ _ e
    rw [Array.getElem?_toList] at hm
    rcases seqIndex_cases hj with ⟨h0, rfl, _⟩ | ⟨h0, h1, rfl, _⟩
    · exact wpAny_getItem_list hl h0 (by lia) hm (k m rm)
    · exact wpAny_getItem_list_neg hl h0 (by lia) (by lia) (by rw [← hsz]; exact hm) (k m rm)
noncomputable def SubOk (slice : PySem.Expr) : Prop := ∀ o i, ∃ ops, subscripted slice false o i = operate ops (getItem o i)
theorem idxL_eq {vs : List V} {i u : V} (e : idxL vs i = some u) : ∃ k, i = .int k ∧ k.natAbs < 1000000000 ∧ nthV vs k = some u := by
  obtain ⟨k, hk, e⟩ := Option.bind_eq_some_iff.mp e
  split at e
  case isFalse => cases e
  rename_i h
  exact ⟨k, V.int?_eq hk, of_decide_eq_true h, e⟩
theorem nth_at {v : V} {vs : List V} {i u : V} {mv mi : Value} {Q : Value → Shared → Prop} {value slice : PySem.Expr} (hso : SubOk slice) (S : St W ρ σ s) (r : VRep ρ s.heap v mv) (ri : VRep ρ s.heap i mi) (e : items? σ v = some vs)
    (hn : idxL vs i = some u) (k : ∀ m, VRep ρ s.heap u m → Q m s) : wpAny (model W.prog W.w) a.A (subscriptTail value slice mv mi) Q E s := by
  obtain ⟨i, rfl, hb, hn⟩ := idxL_eq hn
  obtain ⟨ti, rfl⟩ := ri.int_inv
  obtain ⟨b, ms, rfl, l, q⟩ := items_at S.heap r e
  obtain ⟨ops, hs⟩ := hso (.ref b) (.int i _)
  exact tail_any l.typeIs slot_list_getitem.lookup (list_item l q hb hn k) hs
theorem idx_tup {vs : List V} {i u : V} {mv mi : Value} {Q : Value → Shared → Prop} {value slice : PySem.Expr} (hso : SubOk slice) (rv : VRep ρ s.heap (.tup vs) mv) (ri : VRep ρ s.heap i mi)
    (hn : idxL vs i = some u) (k : ∀ tk m, VRep ρ s.heap u m → Q m { s with toks := tk }) : wpAny (model W.prog W.w) a.A (subscriptTail value slice mv mi) Q E s := by
  obtain ⟨i, rfl, hb, hn⟩ := idxL_eq hn
  obtain ⟨ti, rfl⟩ := ri.int_inv
  obtain ⟨b, o, ms, kk, rfl, ho, hc, hd, hn', r⟩ := rv.tup_inv
  obtain ⟨ops, hs⟩ := hso (.ref b) (.int i _)
  have ht : IsTup s.heap b ms := ⟨o, ho, hc, kk, hd⟩
  have hsz : vs.length = ms.size := by rw [r.length]; simp
  obtain ⟨j, hj, e⟩ := Option.bind_eq_some_iff.mp hn
  obtain ⟨m, hm, rm⟩ := r.get _ _ e
  rw [Array.getElem?_toList] at hm
  exact tail_any ht.typeIs slot_tuple_getitem.lookup (PyProof.Rows.getItem_tuple ht (by lia) (by lia) (by rw [← hsz]; exact hj) hm (k s.toks m rm)) hs
theorem item_str {cs : List Nat} {i : Int} {c : Nat} (h0 : 0 ≤ i) (h1 : i < cs.length) (hc : cs[i.toNat]? = some c) : Txt.item (strV cs) i = strV [c] := by
  have hlen : (strV cs).length = cs.length := by simp [strV, PySem.Str.length]
  have e1 : seqIndex? i (strV cs).length = some i.toNat := by
    unfold seqIndex?
    simp only [show ¬ i < 0 from Int.not_lt.mpr h0, if_false]
    rw [if_pos (by rw [hlen]; simp only [Bool.and_eq_true, decide_eq_true_eq]; exact ⟨h0, h1⟩)]
  have e2 : (strV cs).cps[i.toNat]? = some c := by simpa [strV] using hc
  unfold Txt.item Txt.charAt
  rw [e1, Option.bind_some, e2]
  rfl
theorem idx_str {cs : List Nat} {i u : V} {mv mi : Value} {Q : Value → Shared → Prop} {value slice : PySem.Expr} (hso : SubOk slice) (rv : VRep ρ s.heap (.str cs) mv) (ri : VRep ρ s.heap i mi)
    (e : idxS cs i = some u) (k : ∀ tk m, VRep ρ s.heap u m → Q m { s with toks := tk }) : wpAny (model W.prog W.w) a.A (subscriptTail value slice mv mi) Q E s := by
  obtain ⟨i, hi, e1⟩ := Option.bind_eq_some_iff.mp e
  clear e
  obtain rfl := V.int?_eq hi
  split at e1
  case isFalse => cases e1
  rename_i hb
  simp only [Bool.and_eq_true, decide_eq_true_eq] at hb
  obtain ⟨⟨hb0, hb1⟩, hb2⟩ := hb
  obtain ⟨c, hc, rfl⟩ := Option.map_eq_some_iff.mp e1
  obtain ⟨t, rfl⟩ := ri.int_inv
  obtain ⟨tt, rfl⟩ := rv.str_inv
  obtain ⟨ops, hs⟩ := hso (.str (strV cs) tt) (.int i t)
  have hlen : (strV cs).length = cs.length := by simp [strV, PySem.Str.length]
  obtain ⟨T, id, hl, hT, hg⟩ := SB.item (prog := W.prog) (w := W.w) (A := a.A) (E := E) (s := s) (x := strV cs) (t := tt) (i := i) (u := t) (Q := Q) (by simp [fitsSsize]; lia) (charAt_isSome (by lia) (by rw [hlen]; lia))
    (by rw [item_str hb1 hb2 hc]; exact k _ _ (.str [c] _))
  exact tail_any hT hl hg hs
theorem idx_ok {v i u : V} {mv mi : Value} {Q : Value → Shared → Prop} {value slice : PySem.Expr} (hso : SubOk slice) (ok : ActOk n a) (S : St W ρ σ s) (rv : VRep ρ s.heap v mv) (ri : VRep ρ s.heap i mi) (e : idxM v i σ = some u)
    (k : ∀ tk m, VRep ρ s.heap u m → Q m { s with toks := tk }) : wpAny (model W.prog W.w) a.A (subscriptTail value slice mv mi) Q E s := by
  cases v with
  | ref j =>
    unfold idxM at e
    dsimp only at e
    cases hσ : σ[j]? with
    | none => rw [hσ] at e; cases e
    | some x => cases x with
      | dict kd kvs =>
        rw [hσ] at e
        dsimp only at e
        by_cases hk : keyOk kd i = true
        · rw [if_pos hk] at e
          obtain ⟨p, hp, rfl⟩ := rv.ref_inv
          obtain ⟨ops, hs⟩ := hso (.ref p.1) mi
          have := dget_get (Q := Q) (E := E) (A := a.A) (by have := ok.units; lia) S hσ hp ri hk e k
          exact tail_any this.2 slot_dict_getitem.lookup this.1 hs
        · rw [if_neg hk] at e; cases e
      | list vs => rw [hσ] at e; exact nth_at hso S rv ri (by simp [items?, hσ]) e (k s.toks)
      | inst => rw [hσ] at e; cases e
  | list vs => exact nth_at hso S rv ri rfl e (k s.toks)
  | tup vs => exact idx_tup hso rv ri e k
  | str cs => exact idx_str hso rv ri e k
  | _ => cases e
theorem DenE.idx {e i : PySem.Expr} {pos : Pos} {f g : ME V} (hf : DenE W n sc e f) (hg : DenE W n sc i g) (hso : SubOk i) : DenE W n sc (.Subscript e i pos) (eIdx f g) := by
  intro a ok hsc ρ σ fr s S F Q E p
  refine Subscript_ (hf.bind ok hsc S F p fun v σ1 ρ1 s1 mv S1 F1 x1 r1 p1 => ?_)
  refine hg.bind ok hsc S1 F1 p1 fun v2 σ2 ρ2 s2 mv2 S2 F2 x2 r2 p2 => ?_
  dsimp only at p2
  cases hi : idxM v v2 σ2 with
  | none => rw [hi] at p2; exact p2.elim
  | some u =>
    rw [hi] at p2
    exact idx_ok hso ok S2 (r1.mono x2) r2 hi fun tk m r => PostE.val (s' := { s2 with toks := tk }) p2 S2.heap_eq (.refl ..) r
/-! slices -/
theorem adjust_upto (b n : Nat) : Builtin.Slice.sliceAdjust none (some (b : Int)) 1 (n : Int) = (0, ((min b n : Nat) : Int)) := by
  unfold Builtin.Slice.sliceAdjust
  have h1 : ¬ ((1 : Int) < 0) := by lia
  have h2 : ¬ ((b : Int) < 0) := by lia
  simp only [h1, h2, if_false]
  congr 1
  lia
theorem places_upto (c : Nat) : Builtin.Slice.slicePlaces 0 (c : Int) 1 = c := by
  unfold Builtin.Slice.slicePlaces
  have h1 : (1 : Int) > 0 := by lia
  simp only [h1, if_true, Int.ediv_one]
  split <;> lia
section
variable {prog : Program} {w : World} {A : Around}
theorem sliceApplied_upto {sl : Addr} {b n : Nat} {u : Tok} {Q : Int × Int × Nat → Shared → Prop} (hs : s.heap.IsSliceOf sl .none (.int b u) .none) (h : Q (0, 1, min b n) s) :
    wpAny (model prog w) A (Builtin.Slice.sliceApplied (.ref sl) (pure (n : Int))) Q E s := by
  obtain ⟨os, hos, hcs, hds⟩ := id hs
  unfold Builtin.Slice.sliceApplied Builtin.Slice.sliceFields
  refine wpAny_bind (wpAny_bind (wpAny_field hos hds (x := .none) rfl (wpAny_bind (wpAny_field hos hds (x := .int b u) rfl (wpAny_bind (wpAny_field hos hds (x := .none) rfl (wpAny_pure ?_)))))))
  refine wpAny_bind (slicePart_none ?_)
  show wpAny _ _ (if ((1 : Int) == 0) = true then _ else _) _ _ s
  rw [if_neg (by decide)]
  refine wpAny_bind (slicePart_none (wpAny_bind (slicePart_int (wpAny_bind (wpAny_pure ?_)))))
  show wpAny _ _ (match Builtin.Slice.sliceAdjust none (some (b : Int)) 1 (n : Int) with | (lo, hi) => pure (lo, (1 : Int), Builtin.Slice.slicePlaces lo hi 1)) _ _ s
  rw [adjust_upto b n]
  show wpAny _ _ (pure ((0 : Int), (1 : Int), Builtin.Slice.slicePlaces 0 ((min b n : Nat) : Int) 1)) _ _ s
  rw [places_upto]
  exact wpAny_pure h
theorem pick_upto (xs : Array Value) (c : Nat) : ((List.range c).filterMap fun (k : Nat) => xs[((0 : Int) + (k : Int) * 1).toNat]?).toArray = (xs.toList.take c).toArray := by
  have e : (fun (k : Nat) => xs[((0 : Int) + (k : Int) * 1).toNat]?) = fun k => xs[0 + k]? := by
    funext k
    have : ((0 : Int) + (k : Int) * 1).toNat = 0 + k := by lia
    rw [this]
  rw [e]
  have := pick_run xs 0 c
  rw [List.filterMap_map] at this
  have e2 : ((fun x => xs[x]?) ∘ fun x => 0 + x) = fun k => xs[0 + k]? := rfl
  rw [e2] at this
  rw [this]; simp
theorem getItem_tuple_upto {t sl : Addr} {items : Array Value} {b : Nat} {u : Tok} {Q : Value → Shared → Prop} (ht : IsTup s.heap t items) (hs : s.heap.IsSliceOf sl .none (.int b u) .none)
    (h0 : items.size ≤ b → Q (.ref t) s) (h : Q (.ref s.heap.objs.size) { s with heap := s.heap.push { cls := .type "tuple", data := .seq (items.toList.take b).toArray } })
    (hsz : items.size ≤ sizeLine) : wpAny (model prog w) A (getItem (.ref t) (.ref sl)) Q E s := by
  have hmin : (items.toList.take (min b items.size)).toArray = (items.toList.take b).toArray := by
    congr 1
    rw [← Array.length_toList]
    by_cases hb : items.toList.length ≤ b
    · rw [Nat.min_eq_right hb, List.take_length, List.take_of_length_le hb]
    · rw [Nat.min_eq_left (by lia)]
  have htake : sizeOk (.seq (items.toList.take b).toArray) := by
    show (items.toList.take b).toArray.size ≤ sizeLine
    rw [List.size_toArray, List.length_take, Array.length_toList]
    lia
  obtain ⟨os, hos, hcs, hds⟩ := id hs
  have hTs : s.TypeIs (.ref sl) "slice" := ⟨os, hos, hcs⟩
  unfold getItem
  try with_reducible refine wpAny_holding ?_
  first | refine wpAny_bind (wpAny_pure ?_) | skip
  refine wpAny_bind (wpAny_sequenceKey ht.typeIs (by decide) ?_)
  refine wpAny_bind (wpAny_callSpecial?_slot (name := Str.ofString "__getitem__") ht.typeIs slot_tuple_getitem
    (wpAny_call_entry slot_tuple_getitem ht.typeIs entry_tuple_getitem ?_ (args_tuple_getitem _ _)))
  show wpAny _ _ (Builtin.Tuple.tupleItemsOf (.ref t) >>= _) _ _ s
  refine wpAny_bind (tupleItemsOf_ ht ?_)
  refine wpAny_bind (wpAny_typeOf hTs ?_)
  rw [if_pos (by decide)]
  refine wpAny_bind (sliceApplied_upto hs ?_)
  show wpAny _ _ (if ((0 : Int) == 0 && (1 : Int) == 1 && (min b items.size) == items.size) = true then _ else _) _ _ s
  by_cases hb : items.size ≤ b
  · rw [if_pos (by rw [Nat.min_eq_right hb]; simp)]
    refine wpAny_bind (wpAny_bind (wpAny_typeOf ht.typeIs (wpAny_pure ?_)))
    rw [if_pos (by simp)]
    exact wpAny_bind (wpAny_rule (wpAny_pure ⟨_, rfl, wpAny_pure (h0 hb)⟩))
  · have hno : ((min b items.size) == items.size) = false := by rw [beq_eq_false_iff_ne]; lia
    rw [if_neg (by rw [hno]; simp), pick_upto items (min b items.size), hmin]
    first
    | exact wpAny_bind (m := Builtin.Tuple.tupleExact _) (wpAny_newObj_type (wpAny_pure ⟨_, rfl, wpAny_pure h⟩) htake)
    | exact wpAny_bind (m := Builtin.Tuple.tupleExact _) (wpAny_newObj_type (wpAny_bind (wpAny_pure (wpAny_pure ⟨_, rfl, wpAny_pure h⟩))) htake)
    | exact wpAny_bind (wpAny_bind (m := Builtin.Tuple.tupleExact _) (wpAny_newObj_type (wpAny_pure (wpAny_pure ⟨_, rfl, wpAny_pure h⟩)) htake))
    | exact wpAny_bind (wpAny_bind (m := Builtin.Tuple.tupleExact _) (wpAny_newObj_type (wpAny_pure ⟨_, rfl, wpAny_pure h⟩) htake))
end
theorem St.push_ (S : St W ρ σ s) (o : Obj) {tk : Nat} : St W ρ σ { s with heap := s.heap.push o, toks := tk } :=
  St.mk (S.heap.keeps (fun _ _ e => Heap.get?_push_of_some _ e)) S.gens S.os
section
variable {v u : V} {mv : Value} {sl : Addr} {k : Nat} {t : Tok} {Q : Value → Shared → Prop} {value slice : PySem.Expr}
theorem from_tail (S : St W ρ σ s) (r : VRep ρ s.heap v mv) (hsl : s.heap.IsSliceOf sl (.int k t) .none .none) (hk : 1 ≤ k) (hs : ∀ o, ∃ ops, subscripted slice false o (.ref sl) = operate ops (getItem o (.ref sl))) (e : fromM k v σ = some u)
    (p : PostE W a ρ s (.ok u σ) Q E) : wpAny (model W.prog W.w) a.A (subscriptTail value slice mv (.ref sl)) Q E s := by
  unfold fromM at e
  cases ht : v.tupl? with
  | some vs =>
    obtain rfl := V.tupl?_eq ht
    simp only [ht] at e
    split at e
    case isFalse => cases e
    rename_i hz
    cases e
    simp only [Bool.and_eq_true, decide_eq_true_eq] at hz
    obtain ⟨b, o, ms, kk, rfl, ho, hc, hd, hn, r⟩ := r.tup_inv
    have hsz : vs.length = ms.size := by rw [r.length]; simp
    have ht : IsTup s.heap b ms := ⟨o, ho, hc, kk, hd⟩
    obtain ⟨S3, x3, r3⟩ := S.tuple (r.drop k)
    obtain ⟨ops, hs⟩ := hs (.ref b)
    exact tail_any ht.typeIs slot_tuple_getitem.lookup (getItem_tuple_from ht hsl hk (by rw [← hsz]; exact hz.2) (PostE.val p S3 x3 r3) (by rw [← hsz]; exact szOk_le hz.1)) hs
  | none =>
    simp only [ht] at e
    obtain ⟨vs, hvs, e⟩ := Option.bind_eq_some_iff.mp e
    split at e
    case isFalse => cases e
    rename_i hz
    cases e
    obtain ⟨b, ms, rfl, l, q⟩ := items_at S.heap r hvs
    have hsz : vs.length = ms.size := by rw [q.length]; simp
    obtain ⟨S3, x3, r3⟩ := S.flist (q.drop k)
    obtain ⟨ops, hs⟩ := hs (.ref b)
    refine tail_any l.typeIs slot_list_getitem.lookup (wpAny_getItem_list_slice l hsl (.int _ _) .none .none (by simp) ?_ (by rw [← hsz]; exact szOk_le hz)) hs
    rw [slicePick_from']
    exact PostE.val p S3 x3 r3
theorem upto_tail (S : St W ρ σ s) (r : VRep ρ s.heap v mv) (hsl : s.heap.IsSliceOf sl .none (.int k t) .none) (hs : ∀ o, ∃ ops, subscripted slice false o (.ref sl) = operate ops (getItem o (.ref sl))) (e : uptoM k v σ = some u)
    (p : PostE W a ρ s (.ok u σ) Q E) : wpAny (model W.prog W.w) a.A (subscriptTail value slice mv (.ref sl)) Q E s := by
  unfold uptoM at e
  cases ht : v.tupl? with
  | some vs =>
    obtain rfl := V.tupl?_eq ht
    simp only [ht] at e
    split at e
    case isFalse => cases e
    rename_i hz
    cases e
    have r0 := r
    obtain ⟨b, o, ms, kk, rfl, ho, hc, hd, hn, r⟩ := r.tup_inv
    have hsz : vs.length = ms.size := by rw [r.length]; simp
    have ht : IsTup s.heap b ms := ⟨o, ho, hc, kk, hd⟩
    obtain ⟨S3, x3, r3⟩ := S.tuple (r.take k)
    obtain ⟨ops, hs⟩ := hs (.ref b)
    refine tail_any ht.typeIs slot_tuple_getitem.lookup (getItem_tuple_upto ht hsl (fun hle => ?_) (PostE.val p S3 x3 r3) (by rw [← hsz]; exact szOk_le hz)) hs
    rw [List.take_of_length_le (by rw [hsz]; exact hle)] at p
    exact PostE.val (s' := s) p S (.refl ..) r0
  | none =>
    simp only [ht] at e
    obtain ⟨vs, hvs, e⟩ := Option.bind_eq_some_iff.mp e
    split at e
    case isFalse => cases e
    rename_i hz
    cases e
    obtain ⟨b, ms, rfl, l, q⟩ := items_at S.heap r hvs
    have hsz : vs.length = ms.size := by rw [q.length]; simp
    obtain ⟨S3, x3, r3⟩ := S.flist (q.take k)
    obtain ⟨ops, hs⟩ := hs (.ref b)
    refine tail_any l.typeIs slot_list_getitem.lookup (wpAny_getItem_list_slice l hsl .none (.int _ _) .none (by simp) ?_ (by rw [← hsz]; exact szOk_le hz)) hs
    rw [slicePick_upto']
    exact PostE.val p S3 x3 r3
end
theorem DenE.from_ {e : PySem.Expr} {k kk : Nat} {kp sp pos : Pos} {f : ME V} (hf : DenE W n sc e f) (hk : 1 ≤ k) :
    DenE W n sc (.Subscript e (.Slice (some (.Constant (.int k) kk kp)) none none sp) pos) (eFrom k f) := by
  intro a ok hsc ρ σ fr s S F Q E p
  refine Subscript_ (hf.bind ok hsc S F p fun v σ1 ρ1 s1 mv S1 F1 x1 r1 p1 => ?_)
  refine wpAny_Slice ?_
  rw [evalPart_some, evalPart_none]
  refine wpAny_mkInt (wpAny_pure (wpAny_pure ?_))
  cases hu : fromM k v σ1 with
  | none => simp only [hu] at p1; exact p1.elim
  | some u =>
    simp only [hu] at p1
    have x2 : Ext [] ρ1 s1.heap ρ1 (s1.heap.push { cls := .type "slice", data := .fields #[.int k s1.toks, .none, .none] }) := Ext.push _ _
    exact from_tail (S1.push_ (tk := s1.toks + 1) _) (r1.mono x2) (Heap.IsSliceOf.new ..) hk (fun _ => ⟨_, rfl⟩) hu (PostG.step x2 p1)
theorem DenE.upto {e : PySem.Expr} {k kk : Nat} {kp sp pos : Pos} {f : ME V} (hf : DenE W n sc e f) :
    DenE W n sc (.Subscript e (.Slice none (some (.Constant (.int k) kk kp)) none sp) pos) (eUpto k f) := by
  intro a ok hsc ρ σ fr s S F Q E p
  refine Subscript_ (hf.bind ok hsc S F p fun v σ1 ρ1 s1 mv S1 F1 x1 r1 p1 => ?_)
  refine wpAny_Slice ?_
  rw [evalPart_some, evalPart_none]
  refine wpAny_pure (wpAny_mkInt (wpAny_pure ?_))
  cases hu : uptoM k v σ1 with
  | none => simp only [hu] at p1; exact p1.elim
  | some u =>
    simp only [hu] at p1
    have x2 : Ext [] ρ1 s1.heap ρ1 (s1.heap.push { cls := .type "slice", data := .fields #[.none, .int k s1.toks, .none] }) := Ext.push _ _
    exact upto_tail (S1.push_ (tk := s1.toks + 1) _) (r1.mono x2) (Heap.IsSliceOf.new ..) (fun _ => ⟨_, rfl⟩) hu (PostG.step x2 p1)
end
end Mine
/-! A9 -/
namespace Mine
open PySem PySem.W PyProof.Rows
section
variable {W : Wd} {n : Nat} {sc : Scope} {a : Act} {fr : Loc} {ρ ρ' : Rho} {σ : Sto} {h h' : Heap} {s s' : Shared} {D : List Addr} {E : Value → Shared → Prop}
/-! a change of one object -/
theorem St.set_ {i : Nat} {p : Addr × Addr} {o' : O} {tk : Nat} (S : St W ρ σ s) (hi : ρ.objs[i]? = some p) (hs : Heap.SameBut p.2 s.heap h') (r : ORep W ρ h' o' p) :
    St W ρ (σ.set i o') { s with heap := h', toks := tk } ∧ Ext [] ρ s.heap ρ h' :=
  ⟨St.mk (S.heap.set hi hs r) S.gens S.os, Ext.sameBut hs (mem_muts hi) (S.heap.not_hid hi) (let ⟨ob, e, _⟩ := r.mut; ⟨ob, e⟩)⟩
theorem list_set {i : Nat} {p : Addr × Addr} {ws : List V} {ms : Array Value} {k : Nat} {g : Array Value → Array Value} {tk : Nat} (S : St W ρ σ s) (hi : ρ.objs[i]? = some p) (e1 : p.1 = p.2)
    (ho : s.heap.get? p.2 = some ⟨.type "list", none, .seq ms k, #[]⟩) (hw : VReps ρ s.heap ws (g ms).toList) :
    St W ρ (σ.set i (.list ws)) { s with heap := s.heap.update p.2 (Obj.mapSeq g), toks := tk } ∧ Ext [] ρ s.heap ρ (s.heap.update p.2 (Obj.mapSeq g)) := by
  have hs : Heap.SameBut p.2 s.heap (s.heap.update p.2 (Obj.mapSeq g)) := Heap.SameBut.update ..
  exact S.set_ hi hs ⟨e1, _, _, IsL.update ho g, hw.mono (Ext.sameBut (D := []) hs (mem_muts hi) (S.heap.not_hid hi) ⟨_, IsL.update ho g⟩)⟩
theorem All2.dset {β : Type} {R : V × V → β → Prop} {q : β → Bool} {f : β → β} {new : β} {k v : V} : ∀ {kvs : List (V × V)} {ks : List β}, All2 R kvs ks → (∀ kv km, R kv km → V.beq kv.1 k = q km) →
    (∀ kv km, R kv km → q km = true → R (kv.1, v) (f km)) → R (k, v) new → All2 R (dset kvs k v) (if ks.any q then ks.map (fun km => if q km then f km else km) else ks ++ [new]) := by
  intro kvs ks al h1 h2 h3
  have ha : kvs.any (fun kv => V.beq kv.1 k) = ks.any q := by
    clear h2 h3
    induction al with
    | nil => rfl
    | cons r _ ih => simp only [List.any_cons, ih, h1 _ _ r]
  unfold Mine.dset
  rw [ha]
  by_cases hb : ks.any q = true
  · rw [if_pos hb, if_pos hb]
    clear ha hb h3
    induction al with
    | nil => exact .nil
    | @cons kv km as bs r _ ih =>
      simp only [List.map_cons]
      refine .cons ?_ ih
      rw [h1 _ _ r]
      by_cases hq : q km = true
      · rw [if_pos hq, if_pos hq]; exact h2 _ _ r hq
      · rw [if_neg hq, if_neg hq]; exact r
  · rw [if_neg hb, if_neg hb]
    exact al.append (.cons h3 .nil)
theorem All2.ddel {β : Type} {R : V × V → β → Prop} {q : β → Bool} {k : V} : ∀ {kvs : List (V × V)} {ks : List β}, All2 R kvs ks → (∀ kv km, R kv km → V.beq kv.1 k = q km) → All2 R (ddel kvs k) (ks.filter fun km => !q km) := by
  intro kvs ks al h1
  unfold Mine.ddel
  induction al with
  | nil => exact .nil
  | @cons kv km as bs r _ ih =>
    simp only [List.filter_cons, h1 _ _ r]
    split
    · exact .cons r ih
    · exact ih
theorem storedH_if (xs : List (List V × Addr × Value)) (k : List V) (b : Addr) (v : Value) : storedH xs k b v = if xs.any (fun x => decide (x.1 = k)) then xs.map (fun x => if decide (x.1 = k) then (x.1, x.2.1, v) else x) else xs ++ [(k, b, v)] := by
  unfold storedH
  have : (atKey xs k).isSome = xs.any fun x => decide (x.1 = k) := by
    unfold atKey
    rw [Option.isSome_map, List.isSome_find?]
  rw [this]
  congr 1
  congr 1
  funext x
  unfold putAt
  by_cases hx : x.1 = k <;> simp [hx]
theorem sz_stored {k : Nat} (h : szOk k = true) : k ≤ sizeLine := szOk_le h
/-- d[k] = v -/
theorem dset_set {i : Nat} {kd : DK} {kvs : List (V × V)} {x v : V} {p : Addr × Addr} {mx mv : Value} {Q : Unit → Shared → Prop} {A : Around} (hA : A.units + 65 < cLine) (S : St W ρ σ s) (hi : σ[i]? = some (.dict kd kvs)) (hp : ρ.objs[i]? = some p)
    (rx : VRep ρ s.heap x mx) (rv : VRep ρ s.heap v mv) (hk : keyOk kd x = true) (hz : szOk kvs.length = true)
    (k : ∀ s', s'.heap.objs.size = s.heap.objs.size → St W ρ (σ.set i (.dict kd (dset kvs x v))) s' → Ext [] ρ s.heap ρ s'.heap → Q () s') : wpAny (model W.prog W.w) A (setItem (.ref p.1) mx mv) Q E s := by
  obtain ⟨e1, r⟩ := S.heap.objs _ _ _ hi hp
  rw [e1]
  cases kd with
  | int =>
    cases x <;> simp only [keyOk, Bool.false_eq_true] at hk
    rename_i j
    obtain ⟨t1, rfl⟩ := rx.int_inv
    obtain ⟨ks, d, al⟩ := r
    refine wpAny_setItem_pairs (knd := intKind W.prog W.w) (k := j) (by simp [intKind, Value.isInt]) d (fun h' d' hs => ?_) (by rw [← al.length]; exact szOk_le hz)
    have x0 : Ext [] ρ s.heap ρ h' := Ext.sameBut hs (mem_muts hp) (S.heap.not_hid hp) (let ⟨o, _, _, e, _⟩ := d'; ⟨o, e⟩)
    obtain ⟨S', x'⟩ := S.set_ (tk := s.toks + 1) (o' := .dict .int (dset kvs (.int j) v)) hp hs ⟨e1, _, d', by
      have al' := (al.mono (R' := fun kv km => kv.1 = .int km.1 ∧ VRep ρ h' kv.2 km.2) fun _ _ q => ⟨q.1, q.2.mono x0⟩)
      have := al'.dset (q := fun km => decide (km.1 = j)) (f := fun km => (km.1, mv)) (new := (j, mv)) (k := .int j) (v := v) (fun kv km q => by rw [q.1]; simp [V.beq_int]) (fun kv km q _ => ⟨q.1, rv.mono x0⟩) ⟨rfl, rv.mono x0⟩
      simpa [stored] using this⟩
    exact k _ hs.1 S' x'
  | str =>
    cases x <;> simp only [keyOk, Bool.false_eq_true] at hk
    rename_i j
    obtain ⟨t1, rfl⟩ := rx.str_inv
    obtain ⟨ks, d, al⟩ := r
    refine wpAny_setItem_pairs (knd := strKind W.prog W.w) (k := strV j) (strKind_is _ _ _ _) d (fun h' d' hs => ?_) (by rw [← al.length]; exact szOk_le hz)
    have x0 : Ext [] ρ s.heap ρ h' := Ext.sameBut hs (mem_muts hp) (S.heap.not_hid hp) (let ⟨o, _, _, e, _⟩ := d'; ⟨o, e⟩)
    obtain ⟨S', x'⟩ := S.set_ (tk := s.toks + 1) (o' := .dict .str (dset kvs (.str j) v)) hp hs ⟨e1, _, d', by
      have al' := (al.mono (R' := fun kv km => (∃ x, kv.1 = .str x ∧ km.1 = strV x) ∧ VRep ρ h' kv.2 km.2) fun _ _ q => ⟨q.1, q.2.mono x0⟩)
      have := al'.dset (q := fun km => decide (km.1 = strV j)) (f := fun km => (km.1, mv)) (new := (strV j, mv)) (k := .str j) (v := v) (fun kv km q => by
        obtain ⟨⟨x, e, e'⟩, _⟩ := q
        rw [e, e']
        simp only [V.beq_str]
        by_cases hx : x = j
        · subst hx; simp
        · have : strV x ≠ strV j := fun z => hx (by have := congrArg PySem.Str.cps z; simpa [strV] using this)
          simp [hx, this]) (fun kv km q _ => ⟨q.1, rv.mono x0⟩) ⟨⟨j, rfl, rfl⟩, rv.mono x0⟩
      simpa [stored] using this⟩
    exact k _ hs.1 S' x'
  | tup =>
    cases x <;> simp only [keyOk, Bool.false_eq_true] at hk
    rename_i j
    obtain ⟨ks, d, al⟩ := r
    obtain ⟨b, rfl, hb⟩ := vtup_key (W := W) rx (by simpa [keyOk] using hk)
    refine wpAny_setItem_heap (knd := vtup W) (by show A.in1.units + 64 < cLine; simp only; omega) hb d (fun h' d' hs => ?_) (by rw [← al.length]; exact szOk_le hz)
    have x0 : Ext [] ρ s.heap ρ h' := Ext.sameBut hs (mem_muts hp) (S.heap.not_hid hp) (let ⟨o, _, _, e, _⟩ := d'; ⟨o, e⟩)
    obtain ⟨S', x'⟩ := S.set_ (tk := s.toks + (vtup W).draws j) (o' := .dict .tup (dset kvs (.tup j) v)) hp hs ⟨e1, _, d', by
      have al' := (al.mono (R' := fun kv km => (kv.1 = .tup km.1 ∧ VRep ρ h' (.tup km.1) (.ref km.2.1)) ∧ VRep ρ h' kv.2 km.2.2) fun _ _ q => ⟨⟨q.1.1, q.1.2.mono x0⟩, q.2.mono x0⟩)
      have := al'.dset (q := fun km => decide (km.1 = j)) (f := fun km => (km.1, km.2.1, mv)) (new := (j, b, mv)) (k := .tup j) (v := v) (fun kv km q => by
        rw [q.1.1]
        rw [V.beq_decide]; simp) (fun kv km q _ => ⟨q.1, rv.mono x0⟩) ⟨⟨rfl, rx.mono x0⟩, rv.mono x0⟩
      rw [storedH_if]
      exact this⟩
    exact k _ hs.1 S' x'
end
/-! methods of built-in classes -/
inductive MK where | append | extend | pop | popd | setdef | isspace
  deriving DecidableEq
noncomputable def MK.cls : MK → String
  | .append | .extend | .pop => "list"
  | .popd | .setdef => "dict"
  | .isspace => "str"
noncomputable def lstAt (σ : Sto) (v : V) : Option (Nat × List V) := match v with
  | .ref i => match σ[i]? with
    | some (.list ws) => some (i, ws)
    | _ => none
  | _ => none
noncomputable def dctAt (σ : Sto) (v : V) : Option (Nat × DK × List (V × V)) := match v with
  | .ref i => match σ[i]? with
    | some (.dict k ws) => some (i, k, ws)
    | _ => none
  | _ => none
noncomputable def oneOf (vs : List V) : Option V := match vs with
  | [x] => some x
  | _ => none
noncomputable def recvOk (m : MK) (v : V) (σ : Sto) : Bool := match m with
  | .append => (lstAt σ v).isSome
  | .extend => (lstAt σ v).isSome
  | .pop => (lstAt σ v).isSome
  | .popd => (dctAt σ v).isSome
  | .setdef => (dctAt σ v).isSome
  | .isspace => v.str?.isSome
noncomputable def appendM (v : V) (vs : List V) (σ : Sto) : Option (V × Sto) := (lstAt σ v).bind fun q => (oneOf vs).bind fun x => if szOk q.2.length then some (.none, σ.set q.1 (.list (q.2 ++ [x]))) else .none
noncomputable def extendM (v : V) (vs : List V) (σ : Sto) : Option (V × Sto) := (lstAt σ v).bind fun q => (oneOf vs).bind fun x => (items? σ x).bind fun xs => if szOk (q.2.length + xs.length) then some (.none, σ.set q.1 (.list (q.2 ++ xs))) else .none
noncomputable def popM (v : V) (vs : List V) (σ : Sto) : Option (V × Sto) := (lstAt σ v).bind fun q => if vs.isEmpty && szOk q.2.length then q.2.getLast?.map fun x => (x, σ.set q.1 (.list q.2.dropLast)) else .none
noncomputable def popdM (v : V) (vs : List V) (σ : Sto) : Option (V × Sto) := (dctAt σ v).bind fun q => (oneOf vs).bind fun x => x.int?.bind fun k => if q.2.1 = .int ∧ szOk q.2.2.length = true then (dget q.2.2 (.int k)).map fun x => (x, σ.set q.1 (.dict .int (ddel q.2.2 (.int k)))) else .none
noncomputable def setdM (v : V) (vs : List V) (σ : Sto) : Option (V × Sto) := (dctAt σ v).bind fun q => vs.head?.bind fun x => (oneOf vs.tail).bind fun d => x.tupl?.bind fun k =>
  if q.2.1 = .tup ∧ keyOk .tup (.tup k) = true ∧ szOk q.2.2.length = true then (match dget q.2.2 (.tup k) with | some x => some (x, σ) | .none => some (d, σ.set q.1 (.dict .tup (dset q.2.2 (.tup k) d)))) else .none
noncomputable def isspM (v : V) (vs : List V) (σ : Sto) : Option (V × Sto) := v.str?.bind fun cs => if vs.isEmpty then some (.bool (Txt.isspace (strV cs)), σ) else .none
noncomputable def methM (m : MK) (v : V) (vs : List V) (σ : Sto) : Option (V × Sto) := match m with
  | .append => appendM v vs σ
  | .extend => extendM v vs σ
  | .pop => popM v vs σ
  | .popd => popdM v vs σ
  | .setdef => setdM v vs σ
  | .isspace => isspM v vs σ
noncomputable def eMeth (m : MK) (f : ME V) (fs : List (ME V)) : ME V := f.bind fun v => fun fr σ => if recvOk m v σ then ((eList fs).bind fun vs => fun _ σ => match methM m v vs σ with | some (r, σ') => .ok r σ' | .none => .stuck) fr σ else .stuck
end Mine
/-! A10 -/
namespace Mine
open PySem PySem.W PyProof.Rows
section
variable {prog : Program} {w : World} {K : Type} [DecidableEq K] {knd : HeapKind prog w K} {A : Around} {E : Value → Shared → Prop} {s : Shared}
theorem setDefault_heap {d a : Addr} {xs : List (K × Addr × Value)} {k : K} {v : Value} {Q : Value → Shared → Prop} (hu : knd.room A) (hkey : knd.is s.heap k a) (hm : s.heap.DictOfH knd d xs)
    (hthere : ∀ p, atKey xs k = some p → Q p.2 { s with toks := s.toks + knd.draws k })
    (hnew : atKey xs k = none → ∀ h', h'.DictOfH knd d (storedH xs k a v) → Heap.SameBut d s.heap h' → Q v { s with heap := h', toks := s.toks + knd.draws k })
    (hsz : xs.length ≤ sizeLine) :
    wpAny (model prog w) A (dictSetDefault d (.ref a) v) Q E s := by
  obtain ⟨o, es, ep, ho, hc, hd, he, his, hn⟩ := hm
  unfold dictSetDefault
  try with_reducible refine wpAny_holding ?_
  refine wpAny_bind (knd.pyHash hu hkey ?_)
  refine wpAny_bind (wpAny_dictFind_heap (s := { s with toks := s.toks + knd.draws k }) hu hkey ho hd he his hn ?_ ?_)
  · intro hno
    have hat := atKey_none_of_get hno
    have hnot : k ∉ xs.map (·.1) := not_mem_keys_of_get hno
    refine wpAny_bind (wpAny_rule (wpAny_bind (wpAny_updateDictKeys (hz := by have e := size_of_entries he; omega) (s := { s with toks := s.toks + knd.draws k }) ho hd (wpAny_pure (hnew hat _ ⟨_, _, ep + 1, Heap.get?_update_self _ ho (Obj.isFreed_of_dict (Obj.data_mapDictKeys hd _)),
      hc.mapDictKeys _, Obj.data_mapDictKeys hd _, ?_, ?_, ?_⟩ (Heap.SameBut.update ..))))))
    · rw [storedH_new hat]
      simp [he, entryOfKey]
    · rw [storedH_new hat]
      intro x hx
      rcases List.mem_append.mp hx with hx | hx
      · exact knd.keeps (his x hx) ho hd (Heap.SameBut.update ..)
      · simp only [List.mem_singleton] at hx
        subst hx
        exact knd.keeps hkey ho hd (Heap.SameBut.update ..)
    · rw [storedH_new hat]
      rw [List.map_append, List.nodup_append]
      refine ⟨hn, by simp, ?_⟩
      intro x hx y hy
      simp only [List.map_cons, List.map_nil, List.mem_singleton] at hy
      subst hy
      exact fun e => hnot (e ▸ hx)
  · intro j p hj
    have hat := atKey_of_get hn hj
    refine wpAny_bind (wpAny_dictEntries (s := { s with toks := s.toks + knd.draws k }) ho hd ?_)
    rw [entry_at he j, hj]
    exact wpAny_bind (wpAny_rule (wpAny_pure (hthere p hat)))
theorem call_setdefault_heap {d a : Addr} {xs : List (K × Addr × Value)} {k : K} {v : Value} {Q : Value → Shared → Prop} (hu : knd.room A.in1) (hkey : knd.is s.heap k a) (hm : s.heap.DictOfH knd d xs) (hd : (d == sysModules) = false)
    (hthere : ∀ p, atKey xs k = some p → Q p.2 { s with toks := s.toks + knd.draws k })
    (hnew : atKey xs k = none → ∀ h', h'.DictOfH knd d (storedH xs k a v) → Heap.SameBut d s.heap h' → Q v { s with heap := h', toks := s.toks + knd.draws k })
    (hsz : xs.length ≤ sizeLine) : wpAny (model prog w) A (call (.builtin "dict.setdefault") [.ref d, .ref a, v]) Q E s := by
  have hT := hm.typeIs
  refine wpAny_call_entry F.slot_dict_setdefault hT F.entry_dict_setdefault ?_ (F.args_dict_setdefault_3 _ _ _)
  unfold Builtin.«dict.setdefault»
  refine wpAny_bind ?_
  unfold Builtin.Dict.keyAndDefault
  refine wpAny_bind (wpAny_notOrdered_dict hT ?_)
  show wpAny _ _ (pure (d, Value.ref a, some v)) _ _ s
  refine wpAny_pure ?_
  show wpAny _ _ (if (d == sysModules) = true then _ else (dictSetDefault d (.ref a) v >>= _)) _ _ s
  rw [if_neg (by rw [hd]; exact Bool.false_ne_true)]
  exact wpAny_bind (setDefault_heap hu hkey hm (fun p hp => wpAny_pure ⟨_, rfl, hthere p hp⟩) (fun hp h' d' hs => wpAny_pure ⟨_, rfl, hnew hp h' d' hs⟩) hsz)
end
theorem list_extendW (l b : Addr) (items : Array Value) (n : Nat) (items2 : Array Value) (n2 : Nat) (dd2 : Option Addr) (sl2 : Array (Option Value)) (hc0 : ¬(!items.isEmpty && Builtin.List.listTooLong (items.size + items2.size)) = true) (hc1 : items.size ≤ sizeLine) (hs2 : items.size + items2.size ≤ sizeLine + 1) :
    Meets (Builtin.«list.extend» ⟨[.ref l, .ref b], []⟩) (fun _ R s => s.heap.get? l = some { cls := .type "list", dict := none, data := .seq items n, slots := #[] } ∧ s.heap.get? b = some { cls := .type "list", dict := dd2, data := .seq items2 n2, slots := sl2 } ∧ R (.ok (.ret Value.none)) { s with heap := s.heap.update l (Obj.mapSeq fun x => x ++ items2), toks := s.toks }) :=
  .of_wp fun prog w A R s h => by
    obtain ⟨hp, g, d, tk, os⟩ := s; obtain ⟨hl, hb, h⟩ := h; have f1 := AutoSeq1.idx_int; have f2 := AutoSeq1.sub_tuple_tuple; have f3 := AutoSeq1.sub_list_list; have f4 := AutoSeq1.sub_tuple_list; have f5 := AutoSeq1.sub_list_tuple;
    have hz' : (items ++ items2).size ≤ sizeLine + 1 := by rw [Array.size_append]; exact hs2
    wp_walk using (wpAny_updateSeq hl rfl (hz := hc1) (_hz' := hz')), AutoSeq1.wpAny_loadPart' hl, AutoSeq1.wpAny_loadPart' hb; exact ⟨_, rfl, h⟩
section
variable {W : Wd} {n : Nat} {sc : Scope} {a : Act} {fr : Loc} {ρ ρ' : Rho} {σ : Sto} {h h' : Heap} {s s' : Shared} {D : List Addr} {E : Value → Shared → Prop}
noncomputable def MK.id (m : MK) : String := match m with
  | .append => "list.append" | .extend => "list.extend" | .pop => "list.pop" | .popd => "dict.pop" | .setdef => "dict.setdefault" | .isspace => "str.isspace"
noncomputable def MK.name (m : MK) : String := match m with
  | .append => "append" | .extend => "extend" | .pop => "pop" | .popd => "pop" | .setdef => "setdefault" | .isspace => "isspace"
theorem tooLong_of {i j : Nat} (h : szOk (i + j) = true) : Builtin.List.listTooLong (i + j) = false := by
  have := of_decide_eq_true h
  unfold Builtin.List.listTooLong
  simp only [decide_eq_false_iff_not]
  try rw [sizeLine_eq]
  omega
theorem MK.attrs : ∀ m : MK, PlainAttrs m.cls
  | .append => F.plainAttrs_list | .extend => F.plainAttrs_list | .pop => F.plainAttrs_list
  | .popd => F.plainAttrs_dict | .setdef => F.plainAttrs_dict
  | .isspace => F.plainAttrs_str
theorem MK.slot : ∀ m : MK, Slot m.cls (PySem.Str.ofString m.name) m.id
  | .append => F.slot_list_append | .extend => F.slot_list_extend | .pop => F.slot_list_pop
  | .popd => F.slot_dict_pop | .setdef => F.slot_dict_setdefault
  | .isspace => F.slot_str_isspace
theorem MK.typ : ∀ m : MK, typeOf (.builtin m.id) = pure (.type "method_descriptor")
  | .append => F.type_list_append | .extend => F.type_list_extend | .pop => F.type_list_pop
  | .popd => F.type_dict_pop | .setdef => F.type_dict_setdefault
  | .isspace => F.type_str_isspace
theorem lstAt_eq {v : V} {q : Nat × List V} (e : lstAt σ v = some q) : v = .ref q.1 ∧ σ[q.1]? = some (.list q.2) := by
  cases v with
  | ref i =>
    unfold lstAt at e; dsimp only at e
    cases hi : σ[i]? with
    | none => rw [hi] at e; cases e
    | some o => cases o with
      | list ws => rw [hi] at e; cases e; exact ⟨rfl, hi⟩
      | _ => rw [hi] at e; cases e
  | _ => cases e
theorem dctAt_eq {v : V} {q : Nat × DK × List (V × V)} (e : dctAt σ v = some q) : v = .ref q.1 ∧ σ[q.1]? = some (.dict q.2.1 q.2.2) := by
  cases v with
  | ref i =>
    unfold dctAt at e; dsimp only at e
    cases hi : σ[i]? with
    | none => rw [hi] at e; cases e
    | some o => cases o with
      | dict k ws => rw [hi] at e; cases e; exact ⟨rfl, hi⟩
      | _ => rw [hi] at e; cases e
  | _ => cases e
theorem oneOf_eq {vs : List V} {x : V} (e : oneOf vs = some x) : vs = [x] := by
  cases vs with
  | nil => cases e
  | cons y r => cases r with
    | nil => cases e; rfl
    | cons => cases e
theorem recv_list {v : V} {mv : Value} (S : St W ρ σ s) (r : VRep ρ s.heap v mv) (e : (lstAt σ v).isSome = true) : s.TypeIs mv "list" ∧ ∀ b, mv = .ref b → ∃ ob, s.heap.get? b = some ob ∧ ob.dict = none := by
  obtain ⟨q, hq⟩ := Option.isSome_iff_exists.mp e
  obtain ⟨rfl, hi⟩ := lstAt_eq hq
  obtain ⟨p, hp, rfl⟩ := r.ref_inv
  obtain ⟨e1, ms, k, g, _⟩ := S.heap.objs _ _ _ hi hp
  rw [e1]
  exact ⟨⟨_, g, rfl⟩, fun b hb => by cases hb; exact ⟨_, g, rfl⟩⟩
theorem recv_dict {v : V} {mv : Value} (S : St W ρ σ s) (r : VRep ρ s.heap v mv) (e : (dctAt σ v).isSome = true) : s.TypeIs mv "dict" ∧ ∀ b, mv = .ref b → ∃ ob, s.heap.get? b = some ob ∧ ob.dict = none := by
  obtain ⟨⟨i, kd, ws⟩, hq⟩ := Option.isSome_iff_exists.mp e
  obtain ⟨rfl, hi⟩ := dctAt_eq hq
  obtain ⟨p, hp, rfl⟩ := r.ref_inv
  obtain ⟨e1, r⟩ := S.heap.objs _ _ _ hi hp
  have key : ∃ o, s.heap.get? p.2 = some o ∧ o.ExactDict := by
    cases kd with
    | int => obtain ⟨ks, ⟨o, es, ep, ho, hx, _⟩, _⟩ := r; exact ⟨o, ho, hx⟩
    | str => obtain ⟨ks, ⟨o, es, ep, ho, hx, _⟩, _⟩ := r; exact ⟨o, ho, hx⟩
    | tup => obtain ⟨ks, ⟨o, es, ep, ho, hx, _⟩, _⟩ := r; exact ⟨o, ho, hx⟩
  obtain ⟨o, ho, hx⟩ := key
  rw [e1]
  exact ⟨⟨o, ho, hx.1⟩, fun b hb => by cases hb; exact ⟨o, ho, hx.2.1⟩⟩
theorem recv_at {m : MK} {v : V} {mv : Value} (S : St W ρ σ s) (r : VRep ρ s.heap v mv) (e : recvOk m v σ = true) :
    s.TypeIs mv m.cls ∧ ∀ b, mv = .ref b → ∃ ob, s.heap.get? b = some ob ∧ ob.dict = none := by
  cases m with
  | append => exact recv_list S r e
  | extend => exact recv_list S r e
  | pop => exact recv_list S r e
  | popd => exact recv_dict S r e
  | setdef => exact recv_dict S r e
  | isspace =>
    obtain ⟨q, hq⟩ := Option.isSome_iff_exists.mp (show v.str?.isSome = true from e)
    obtain rfl := V.str?_eq hq
    cases r
    exact ⟨typeIs_str .., fun b hb => nomatch hb⟩
theorem VReps.one {v : V} {ms : List Value} (r : VReps ρ h [v] ms) : ∃ m, ms = [m] ∧ VRep ρ h v m := by
  cases r with | cons h1 h2 => cases h2; exact ⟨_, rfl, h1⟩
theorem VReps.two {v u : V} {ms : List Value} (r : VReps ρ h [v, u] ms) : ∃ m k, ms = [m, k] ∧ VRep ρ h v m ∧ VRep ρ h u k := by
  cases r with | cons h1 h2 => obtain ⟨k, rfl, h3⟩ := h2.one; exact ⟨_, _, rfl, h1, h3⟩
section
variable {v r : V} {vs : List V} {mv : Value} {ms : List Value} {σ' : Sto} {Q : Value → Shared → Prop}
theorem append_ok (S : St W ρ σ s) (rv : VRep ρ s.heap v mv) (rs : VReps ρ s.heap vs ms) (e0 : appendM v vs σ = some (r, σ')) (p : PostE W a ρ s (.ok r σ') Q E) : wpAny (model W.prog W.w) a.A (call (.builtin "list.append") (mv :: ms)) Q E s := by
  obtain ⟨⟨i, ws⟩, hq, e1⟩ := Option.bind_eq_some_iff.mp e0
  clear e0
  obtain ⟨x, hx, e2⟩ := Option.bind_eq_some_iff.mp e1
  clear e1
  obtain ⟨rfl, hi⟩ := lstAt_eq hq
  obtain rfl := oneOf_eq hx
  split at e2
  case isFalse => cases e2
  rename_i hz
  cases e2
  obtain ⟨m1, rfl, r1⟩ := rs.one
  obtain ⟨pp, hp, rfl⟩ := rv.ref_inv
  obtain ⟨e1, its, k, g, q⟩ := S.heap.objs _ _ _ hi hp
  rw [e1]
  have hsz : ws.length = its.size := by rw [q.length]; simp
  obtain ⟨S', x'⟩ := list_set (tk := s.toks) (g := fun xs => xs.push m1) (ws := ws ++ [x]) S hp e1 g (by simpa using q.append (.cons r1 .nil))
  exact call_meets F.slot_list_append ⟨_, g, rfl⟩ F.entry_list_append (F.args_list_append_2 _ _) (list_append _ its k m1 (by rw [← hsz]; exact szOk_le hz)) ⟨g, PostE.val p S' x' .none⟩
theorem extend_ok (S : St W ρ σ s) (rv : VRep ρ s.heap v mv) (rs : VReps ρ s.heap vs ms) (e0 : extendM v vs σ = some (r, σ')) (p : PostE W a ρ s (.ok r σ') Q E) : wpAny (model W.prog W.w) a.A (call (.builtin "list.extend") (mv :: ms)) Q E s := by
  obtain ⟨⟨i, ws⟩, hq, e1⟩ := Option.bind_eq_some_iff.mp e0
  clear e0
  obtain ⟨x, hx, e2⟩ := Option.bind_eq_some_iff.mp e1
  clear e1
  obtain ⟨xs, hxs, e3⟩ := Option.bind_eq_some_iff.mp e2
  clear e2
  obtain ⟨rfl, hi⟩ := lstAt_eq hq
  obtain rfl := oneOf_eq hx
  split at e3
  case isFalse => cases e3
  rename_i hz
  cases e3
  obtain ⟨m1, rfl, r1⟩ := rs.one
  obtain ⟨pp, hp, rfl⟩ := rv.ref_inv
  obtain ⟨e1, its, k, g, q⟩ := S.heap.objs _ _ _ hi hp
  obtain ⟨b, its2, rfl, l, q2⟩ := items_at S.heap r1 hxs
  obtain ⟨⟨c2, dd2, da2, sl2⟩, g2, hc2, k2, hd2⟩ := l
  simp only at hc2 hd2
  subst hc2 hd2
  rw [e1]
  have hsz : ws.length = its.size := by rw [q.length]; simp
  have hsz2 : xs.length = its2.size := by rw [q2.length]; simp
  have hz1 := szOk_le hz
  obtain ⟨S', x'⟩ := list_set (tk := s.toks) (g := fun xs => xs ++ its2) (ws := ws ++ xs) S hp e1 g (by simpa using q.append q2)
  simp only [hsz, hsz2] at hz hz1
  exact call_meets F.slot_list_extend ⟨_, g, rfl⟩ F.entry_list_extend (F.args_list_extend_2 _ _) (list_extendW _ _ its k its2 k2 dd2 sl2 (by rw [tooLong_of hz]; simp) (by omega) (by omega)) ⟨g, g2, PostE.val p S' x' .none⟩
theorem erase_last {its : Array Value} {m : Value} (hm : its[its.size - 1]? = some m) : (its.eraseIdxIfInBounds (its.size - 1)).toList = its.toList.take (its.size - 1) := by
  have hpos : its.size - 1 < its.size := by
    rcases Nat.lt_or_ge (its.size - 1) its.size with h | h
    · exact h
    · rw [Array.getElem?_eq_none h] at hm; cases hm
  unfold Array.eraseIdxIfInBounds
  rw [dif_pos hpos, Array.toList_eraseIdx, List.eraseIdx_eq_take_drop_succ, List.drop_eq_nil_of_le (by rw [Array.length_toList]; omega), List.append_nil]
theorem pop_ok (S : St W ρ σ s) (rv : VRep ρ s.heap v mv) (rs : VReps ρ s.heap vs ms) (e0 : popM v vs σ = some (r, σ')) (p : PostE W a ρ s (.ok r σ') Q E) : wpAny (model W.prog W.w) a.A (call (.builtin "list.pop") (mv :: ms)) Q E s := by
  obtain ⟨⟨i, ws⟩, hq, e1⟩ := Option.bind_eq_some_iff.mp e0
  clear e0
  obtain ⟨rfl, hi⟩ := lstAt_eq hq
  split at e1
  case isFalse => cases e1
  rename_i hz
  obtain ⟨hz0, hz⟩ := Bool.and_eq_true_iff.mp hz
  obtain rfl := List.isEmpty_iff.mp hz0
  obtain ⟨x, hlast, e2⟩ := Option.map_eq_some_iff.mp e1
  clear e1
  cases e2
  cases rs
  obtain ⟨pp, hp, rfl⟩ := rv.ref_inv
  obtain ⟨e1, its, k, g, q⟩ := S.heap.objs _ _ _ hi hp
  rw [e1]
  have hsz : ws.length = its.size := by rw [q.length]; simp
  rw [List.getLast?_eq_getElem?] at hlast
  obtain ⟨m1, hm1, rm1⟩ := q.get _ _ hlast
  rw [hsz, Array.getElem?_toList] at hm1
  obtain ⟨S', x'⟩ := list_set (tk := s.toks) (g := fun xs => xs.eraseIdxIfInBounds (its.size - 1)) (ws := ws.dropLast) S hp e1 g (by rw [erase_last hm1, List.dropLast_eq_take, hsz]; exact q.take _)
  exact call_meets F.slot_list_pop ⟨_, g, rfl⟩ F.entry_list_pop (F.args_list_pop_1 _) (MeetsSeq.list_pop_last _ its k m1 hm1 (by rw [← hsz]; exact szOk_le hz)) ⟨g, PostE.val p S' x' (rm1.mono x')⟩
theorem popd_ok (S : St W ρ σ s) (rv : VRep ρ s.heap v mv) (rs : VReps ρ s.heap vs ms) (e0 : popdM v vs σ = some (r, σ')) (p : PostE W a ρ s (.ok r σ') Q E) : wpAny (model W.prog W.w) a.A (call (.builtin "dict.pop") (mv :: ms)) Q E s := by
  obtain ⟨⟨i, kd, kvs⟩, hq, e1⟩ := Option.bind_eq_some_iff.mp e0
  clear e0
  obtain ⟨x, hx, e2⟩ := Option.bind_eq_some_iff.mp e1
  clear e1
  obtain ⟨j, hj, e3⟩ := Option.bind_eq_some_iff.mp e2
  clear e2
  obtain ⟨rfl, hi⟩ := dctAt_eq hq
  obtain rfl := oneOf_eq hx
  obtain rfl := V.int?_eq hj
  split at e3
  case isFalse => cases e3
  rename_i hz
  obtain ⟨rfl, hz⟩ := hz
  obtain ⟨y, hg, e4⟩ := Option.map_eq_some_iff.mp e3
  clear e3
  cases e4
  obtain ⟨m1, rfl, r1⟩ := rs.one
  cases rv with
  | @ref _ pp hp =>
  obtain ⟨e1, ks, d, al⟩ := S.heap.objs _ _ _ hi hp
  rw [e1]
  cases r1
  have hh := dget_int (k := j) al
  rw [hg] at hh
  cases hm : valueAt ks j with
  | none => rw [hm] at hh; exact hh.elim
  | some m =>
    rw [hm] at hh
    refine call_meetsIn F.slot_dict_pop d.typeIs F.entry_dict_pop (F.args_dict_pop_2 _ _) (meets_dict_pop_there (intKind W.prog W.w) (k := j) pp.2 (by simp [intKind, Value.isInt]) [] (.inl rfl) rfl) ⟨ks, m, d, by rw [← al.length]; exact szOk_le hz, hm, fun h' d' hs => ?_⟩
    have x0 : Ext [] ρ s.heap ρ h' := Ext.sameBut hs (mem_muts hp) (S.heap.not_hid hp) (let ⟨o, _, _, e, _⟩ := d'; ⟨o, e⟩)
    obtain ⟨S', x'⟩ := S.set_ (tk := s.toks + 1) (o' := .dict .int (ddel kvs (.int j))) hp hs ⟨e1, _, d', by
      have al' := (al.mono (R' := fun kv km => kv.1 = .int km.1 ∧ VRep ρ h' kv.2 km.2) fun _ _ q => ⟨q.1, q.2.mono x0⟩)
      have := al'.ddel (q := fun km => decide (km.1 = j)) (k := .int j) (fun kv km q => by rw [q.1]; simp [V.beq_int])
      simpa [without] using this⟩
    exact PostE.val p S' x' (hh.mono x0)
theorem setd_ok (ok : ActOk n a) (S : St W ρ σ s) (rv : VRep ρ s.heap v mv) (rs : VReps ρ s.heap vs ms) (e0 : setdM v vs σ = some (r, σ')) (p : PostE W a ρ s (.ok r σ') Q E) : wpAny (model W.prog W.w) a.A (call (.builtin "dict.setdefault") (mv :: ms)) Q E s := by
  obtain ⟨⟨i, kd, kvs⟩, hq, e1⟩ := Option.bind_eq_some_iff.mp e0
  clear e0
  obtain ⟨x, hx, e2⟩ := Option.bind_eq_some_iff.mp e1
  clear e1
  obtain ⟨dv, hd, e3⟩ := Option.bind_eq_some_iff.mp e2
  clear e2
  obtain ⟨j, hj, e4⟩ := Option.bind_eq_some_iff.mp e3
  clear e3
  obtain ⟨rfl, hi⟩ := dctAt_eq hq
  obtain rfl := V.tupl?_eq hj
  cases vs with
  | nil => cases hx
  | cons x0 vs =>
  cases hx
  obtain rfl := oneOf_eq hd
  split at e4
  case isFalse => cases e4
  rename_i hz
  obtain ⟨rfl, hk, hz⟩ := hz
  obtain ⟨m1, m2, rfl, r1, r2⟩ := rs.two
  obtain ⟨pp, hp, rfl⟩ := rv.ref_inv
  obtain ⟨e1, ks, d, al⟩ := S.heap.objs _ _ _ hi hp
  rw [e1]
  obtain ⟨b, rfl, hb⟩ := vtup_key (W := W) r1 hk
  have hh := dget_tup (k := j) al
  refine call_setdefault_heap (knd := vtup W) (by have := ok.units; show a.A.in1.units + 64 < cLine; simp only; omega) hb d (not_sys S.heap (mem_muts hp)) (fun q hq => ?_) (fun hq h' d' hs => ?_) (by rw [← al.length]; exact szOk_le hz)
  · rw [hq] at hh
    cases hg : dget kvs (.tup j) with
    | none => rw [hg] at hh; exact hh.elim
    | some x =>
      simp only [hg] at hh e4
      cases e4
      exact PostE.val (s' := { s with toks := s.toks + (vtup W).draws j }) p S.heap_eq (.refl ..) hh
  · rw [hq] at hh
    cases hg : dget kvs (.tup j) with
    | some x => rw [hg] at hh; exact hh.elim
    | none =>
      simp only [hg] at e4
      cases e4
      have x0 : Ext [] ρ s.heap ρ h' := Ext.sameBut hs (mem_muts hp) (S.heap.not_hid hp) (let ⟨o, _, _, e, _⟩ := d'; ⟨o, e⟩)
      obtain ⟨S', x'⟩ := S.set_ (tk := s.toks + (vtup W).draws j) (o' := .dict .tup (dset kvs (.tup j) r)) hp hs ⟨e1, _, d', by
        have al' := (al.mono (R' := fun kv km => (kv.1 = .tup km.1 ∧ VRep ρ h' (.tup km.1) (.ref km.2.1)) ∧ VRep ρ h' kv.2 km.2.2) fun _ _ q => ⟨⟨q.1.1, q.1.2.mono x0⟩, q.2.mono x0⟩)
        have := al'.dset (q := fun km => decide (km.1 = j)) (f := fun km => (km.1, km.2.1, m2)) (new := (j, b, m2)) (k := .tup j) (v := r) (fun kv km q => by
          rw [q.1.1]
          rw [V.beq_decide]; simp) (fun kv km q _ => ⟨q.1, r2.mono x0⟩) ⟨⟨rfl, r1.mono x0⟩, r2.mono x0⟩
        rw [storedH_if]
        exact this⟩
      exact PostE.val p S' x' (r2.mono x0)
theorem issp_ok (S : St W ρ σ s) (rv : VRep ρ s.heap v mv) (rs : VReps ρ s.heap vs ms) (e0 : isspM v vs σ = some (r, σ')) (p : PostE W a ρ s (.ok r σ') Q E) : wpAny (model W.prog W.w) a.A (call (.builtin "str.isspace") (mv :: ms)) Q E s := by
  obtain ⟨cs, hq, e1⟩ := Option.bind_eq_some_iff.mp e0
  clear e0
  obtain rfl := V.str?_eq hq
  split at e1
  case isFalse => cases e1
  rename_i hz
  obtain rfl := List.isEmpty_iff.mp hz
  cases e1
  cases rs
  cases rv
  rename_i t
  exact call_gives F.slot_str_isspace (typeIs_str ..) F.entry_str_isspace (F.args_str_isspace_1 _) (gives_str_isspace (strV cs) t) (PostE.val p S (.refl ..) (.bool _))
end
theorem meth_ok {m : MK} {v r : V} {vs : List V} {mv : Value} {ms : List Value} {σ' : Sto} {Q : Value → Shared → Prop} (ok : ActOk n a) (S : St W ρ σ s) (rv : VRep ρ s.heap v mv) (rs : VReps ρ s.heap vs ms) (e : methM m v vs σ = some (r, σ'))
    (p : PostE W a ρ s (.ok r σ') Q E) : wpAny (model W.prog W.w) a.A (call (.builtin m.id) (mv :: ms)) Q E s := by
  cases m with
  | append => exact append_ok S rv rs e p
  | extend => exact extend_ok S rv rs e p
  | pop => exact pop_ok S rv rs e p
  | popd => exact popd_ok S rv rs e p
  | setdef => exact setd_ok ok S rv rs e p
  | isspace => exact issp_ok S rv rs e p
end
end Mine
/-! A11 -/
namespace Mine
open PySem PySem.W PyProof.Rows
/-! built-in functions -/
noncomputable def intsV : List V → Option (List Int)
  | [] => some []
  | .int i :: vs => (intsV vs).map (i :: ·)
  | _ => none
noncomputable def maxL : List Int → Int
  | [] => 0
  | [a] => a
  | a :: as => if a < maxL as then maxL as else a
noncomputable def ins (x : Int) : List Int → List Int
  | [] => [x]
  | y :: ys => if x ≤ y then x :: y :: ys else y :: ins x ys
noncomputable def isort : List Int → List Int
  | [] => []
  | x :: xs => ins x (isort xs)
inductive BK where | len | sum | max | abs | sorted | tuple
  deriving DecidableEq
noncomputable def tup? : V → Option (List V)
  | .tup xs => some xs
  | _ => none
noncomputable def blt1 (b : BK) (x : V) (σ : Sto) : Option V := match b with
  | .len => match tup? x with
    | some xs => if szOk xs.length then some (.int xs.length) else .none
    | .none => (items? σ x).bind fun xs => if szOk xs.length then some (.int xs.length) else .none
  | .sum => (items? σ x).bind fun xs => (intsV xs).map fun is => .int is.sum
  | .max => (items? σ x).bind fun xs => (intsV xs).bind fun is => if is.isEmpty then .none else some (.int (maxL is))
  | .abs => match x with
    | .int i => some (.int (if i < 0 then -i else i))
    | _ => .none
  | .sorted => (items? σ x).bind fun xs => if decide (xs.length < 64) then (intsV xs).map fun is => .list ((isort is).map .int) else .none
  | .tuple => match tup? x with
    | some xs => some x
    | .none => (items? σ x).bind fun xs => if szOk xs.length then some (.tup xs) else .none
noncomputable def bltM (b : BK) (vs : List V) (σ : Sto) : Option V := match vs with
  | [x] => blt1 b x σ
  | _ => .none
noncomputable def eBlt (b : BK) (fs : List (ME V)) : ME V := (eList fs).bind fun vs => fun _ σ => Res.ofOpt (bltM b vs σ) σ
theorem ins_perm (x : Int) : ∀ l, (ins x l).Perm (x :: l)
  | [] => .refl _
  | y :: ys => by
    unfold ins
    split
    · exact .refl _
    · exact ((ins_perm x ys).cons y).trans (List.Perm.swap x y ys)
theorem isort_perm : ∀ l, (isort l).Perm l
  | [] => .refl _
  | x :: xs => (ins_perm x (isort xs)).trans ((isort_perm xs).cons x)
theorem ins_sorted (x : Int) : ∀ l, l.Pairwise (· ≤ ·) → (ins x l).Pairwise (· ≤ ·)
  | [], _ => List.pairwise_singleton ..
  | y :: ys, h => by
    unfold ins
    rw [List.pairwise_cons] at h
    split
    · rename_i hxy
      rw [List.pairwise_cons]
      refine ⟨fun z hz => ?_, by rw [List.pairwise_cons]; exact h⟩
      rcases List.mem_cons.mp hz with rfl | hz
      · exact hxy
      · exact Int.le_trans hxy (h.1 z hz)
    · rename_i hxy
      rw [List.pairwise_cons]
      refine ⟨fun z hz => ?_, ins_sorted x ys h.2⟩
      rcases List.mem_cons.mp ((ins_perm x ys).mem_iff.mp hz) with rfl | hz
      · lia
      · exact h.1 z hz
theorem isort_sorted : ∀ l, (isort l).Pairwise (· ≤ ·)
  | [] => .nil
  | x :: xs => ins_sorted x _ (isort_sorted xs)
theorem sorted_unique {l l' : List Int} (p : l.Perm l') (h : l.Pairwise (· ≤ ·)) (h' : l'.Pairwise (· ≤ ·)) : l = l' :=
  p.eq_of_pairwise (fun _ _ _ _ h1 h2 => Int.le_antisymm h1 h2) h h'
theorem maxL_mem : ∀ l, l ≠ [] → maxL l ∈ l
  | [], h => absurd rfl h
  | [a], _ => by simp [maxL]
  | a :: b :: as, _ => by
    have := maxL_mem (b :: as) (by simp)
    unfold maxL
    split
    · exact List.mem_cons_of_mem _ this
    · simp
theorem maxL_ge : ∀ l, ∀ x ∈ l, x ≤ maxL l
  | [], x, h => nomatch h
  | [a], x, h => by simp at h; subst h; simp [maxL]
  | a :: b :: as, x, h => by
    have ih := maxL_ge (b :: as)
    unfold maxL
    split
    · rename_i hlt
      rcases List.mem_cons.mp h with rfl | h
      · lia
      · exact ih x h
    · rename_i hlt
      rcases List.mem_cons.mp h with rfl | h
      · lia
      · have := ih x h; lia
section
variable {W : Wd} {n : Nat} {sc : Scope} {a : Act} {fr : Loc} {ρ ρ' : Rho} {σ : Sto} {h h' : Heap} {s s' : Shared} {D : List Addr} {E : Value → Shared → Prop}
theorem ints_at : ∀ {xs : List V} {is : List Int} {ms : List Value}, intsV xs = some is → VReps ρ h xs ms → IntsAre ms is
  | [], _, _, e, r => by cases r; simp [intsV] at e; subst e; exact .nil
  | .int i :: xs, is, _, e, r => by
    simp only [intsV, Option.map_eq_some_iff] at e
    obtain ⟨js, e, rfl⟩ := e
    cases r with
    | cons h1 h2 => cases h1; exact .cons _ _ (ints_at e h2)
  | .none :: _, _, _, e, _ | .bool _ :: _, _, _, e, _ | .str _ :: _, _, _, e, _ | .tup _ :: _, _, _, e, _ | .list _ :: _, _, _, e, _ | .ref _ :: _, _, _, e, _ => by simp [intsV] at e
theorem ints_back : ∀ {is : List Int} {ms : List Value}, IntsAre ms is → VReps ρ h (is.map .int) ms
  | _, _, .nil => .nil
  | _, _, .cons i t r => .cons (.int i t) (ints_back r)
theorem St.kept {tk : Nat} (S : St W ρ σ s) (k : ∀ b o, s.heap.get? b = some o → h'.get? b = some o) : St W ρ σ { s with heap := h', toks := tk } ∧ Ext [] ρ s.heap ρ h' :=
  ⟨St.mk (S.heap.keeps k) S.gens S.os, .of_keeps k⟩
noncomputable def BK.f (b : BK) : Value := match b with
  | .len => .builtin "len" | .sum => .builtin "sum" | .max => .builtin "max" | .abs => .builtin "abs" | .sorted => .builtin "sorted" | .tuple => .type "tuple"
noncomputable def BK.name (b : BK) : String := match b with
  | .len => "len" | .sum => "sum" | .max => "max" | .abs => "abs" | .sorted => "sorted" | .tuple => "tuple"
theorem BK.boot : ∀ b : BK, bootBuiltins (PySem.Str.ofString b.name) = some b.f
  | .len => boot_len | .sum => by decide +kernel | .max => by decide +kernel | .abs => by decide +kernel | .sorted => by decide +kernel | .tuple => by decide +kernel
theorem update_above {h : Heap} {f : Obj → Obj} : ∀ b o, h.get? b = some o → (h.update h.objs.size f).get? b = some o := fun b o e => by
  rw [Heap.get?_update_other h f (fun z => by rw [← z] at e; exact absurd (Heap.lt_size e) (Nat.lt_irrefl _))]; exact e
theorem sortedAll_keeps {h : Heap} {vs : List Value} {out : Array Value} : (∀ b o, h.get? b = some o → (sortedAll h vs out).get? b = some o) ∧ (sortedAll h vs out).IsList (h.objs.size + 1) out := by
  obtain ⟨e, he⟩ := sortedAll_at h vs out
  exact ⟨fun b o hb => sortedAll_old hb, _, he, rfl, e, rfl⟩
theorem tup?_eq {x : V} {xs : List V} (e : tup? x = some xs) : x = .tup xs := by cases x <;> cases e; rfl
section
variable {r x : V} {m : Value} {Q : Value → Shared → Prop}
theorem items_of {vs : Option (List V)} {g : List V → Option V} (e : vs.bind g = some r) : ∃ xs, vs = some xs ∧ g xs = some r := Option.bind_eq_some_iff.mp e
theorem len_ok (S : St W ρ σ s) (r1 : VRep ρ s.heap x m) (e : blt1 .len x σ = some r) (p : PostE W a ρ s (.ok r σ) Q E) : wpAny (model W.prog W.w) a.A (call (.builtin "len") [m]) Q E s := by
  cases ht : tup? x with
  | some xs =>
    simp only [blt1, ht] at e
    obtain rfl := tup?_eq ht
    split at e
    case isFalse => cases e
    rename_i hz
    cases e
    have hz1 := of_decide_eq_true hz
    obtain ⟨t, o, its, k, rfl, ho, hc, hd, hn, q⟩ := r1.tup_inv
    have hsz : xs.length = its.size := by rw [q.length]; simp
    refine PyProof.Rows.len_tuple ⟨o, ho, hc, k, hd⟩ (by rw [← hsz]; omega) (PostE.val (s' := { s with toks := s.toks + 1 + 1 }) p S.heap_eq (.refl ..) ?_)
    rw [hsz]; exact .int _ _
  | none =>
    simp only [blt1, ht] at e
    obtain ⟨xs, hx, e⟩ := items_of e
    split at e
    case isFalse => cases e
    rename_i hz
    cases e
    have hz1 := of_decide_eq_true hz
    obtain ⟨b, its, rfl, l, q⟩ := items_at S.heap r1 hx
    have hsz : xs.length = its.size := by rw [q.length]; simp
    refine PyProof.Rows.len_list l (by rw [← hsz]; omega) (PostE.val (s' := { s with toks := s.toks + 1 + 1 }) p S.heap_eq (.refl ..) ?_)
    rw [hsz]; exact .int _ _
theorem tuple_ok (S : St W ρ σ s) (r1 : VRep ρ s.heap x m) (e : blt1 .tuple x σ = some r) (p : PostE W a ρ s (.ok r σ) Q E) : wpAny (model W.prog W.w) a.A (call (.type "tuple") [m]) Q E s := by
  cases ht : tup? x with
  | some xs =>
    simp only [blt1, ht] at e
    obtain rfl := tup?_eq ht
    cases e
    obtain ⟨t, o, its, k, rfl, ho, hc, hd, hn, q⟩ := r1.tup_inv
    exact call_tuple_same ⟨o, ho, hc, k, hd⟩ (PostE.val (s' := s) p S (.refl ..) r1)
  | none =>
    simp only [blt1, ht] at e
    obtain ⟨xs, hx, e⟩ := items_of e
    split at e
    case isFalse => cases e
    rename_i hz
    cases e
    obtain ⟨b, its, rfl, l, q⟩ := items_at S.heap r1 hx
    have hsz : xs.length = its.size := by rw [q.length]; simp
    refine call_tuple_list l (fun h' hk => ?_) (by rw [← hsz]; exact szOk_le hz)
    obtain ⟨S', x'⟩ := S.kept (tk := s.toks) hk
    obtain ⟨S3, x3, r3⟩ := S'.tuple (q.mono x')
    rw [Array.toArray_toList] at S3 x3 r3
    exact PostE.val p S3 (x'.trans x3) r3
theorem sum_ok (ok : ActOk n a) (S : St W ρ σ s) (r1 : VRep ρ s.heap x m) (e : blt1 .sum x σ = some r) (p : PostE W a ρ s (.ok r σ) Q E) : wpAny (model W.prog W.w) a.A (call (.builtin "sum") [m]) Q E s := by
  obtain ⟨xs, hx, e⟩ := items_of (show (items? σ x).bind _ = some r from e)
  obtain ⟨is, hi, rfl⟩ := Option.map_eq_some_iff.mp e
  obtain ⟨b, its, rfl, l, q⟩ := items_at S.heap r1 hx
  have I := ints_at hi q
  obtain ⟨ys, rfl⟩ := (show AllInts its from by have := I.allInts; simpa using this).items
  have hn := I.numsOf
  refine sum_intListG ok.hand l fun h' tk t' hk => ?_
  obtain ⟨S', x'⟩ := S.kept (tk := tk) hk
  refine PostE.val p S' x' ?_
  rw [preSum_eq, List.take_of_length_le (by simp), ← nums_intItems, hn]
  exact .int _ _
theorem max_at {is : List Int} {ys : Array (Int × Tok)} (hn : ys.toList.map (·.1) = is) (hsz : 0 < ys.size) : numAt ys (argBest (fun i j => decide (numAt ys i > numAt ys j)) (ys.size - 1)) = maxL is := by
  obtain ⟨h1, h2⟩ := argBest_gt (numAt ys) (ys.size - 1)
  apply Int.le_antisymm
  · refine maxL_ge is _ ?_
    rw [← hn, numAt_eq]
    exact getD_mem (by rw [List.length_map, Array.length_toList]; omega)
  · have hm := maxL_mem is (by intro z; have q := congrArg List.length (hn.trans z); rw [List.length_map, Array.length_toList] at q; exact absurd q (Nat.ne_of_gt hsz))
    rw [← hn] at hm
    obtain ⟨j, hj, e⟩ := mem_getD hm
    rw [List.length_map, Array.length_toList] at hj
    rw [← hn, ← e, ← numAt_eq]
    exact h2 j (by omega)
theorem max_ok (ok : ActOk n a) (S : St W ρ σ s) (r1 : VRep ρ s.heap x m) (e : blt1 .max x σ = some r) (p : PostE W a ρ s (.ok r σ) Q E) : wpAny (model W.prog W.w) a.A (call (.builtin "max") [m]) Q E s := by
  obtain ⟨xs, hx, e⟩ := items_of (show (items? σ x).bind _ = some r from e)
  obtain ⟨is, hi, e⟩ := Option.bind_eq_some_iff.mp e
  split at e
  case isTrue => cases e
  rename_i hne
  cases e
  obtain ⟨b, its, rfl, l, q⟩ := items_at S.heap r1 hx
  have I := ints_at hi q
  have hlen : is.length = its.size := by rw [← I.length]; simp
  obtain ⟨ys, rfl⟩ := (show AllInts its from by have := I.allInts; simpa using this).items
  have hn := I.numsOf
  rw [nums_intItems] at hn
  have hsz : 0 < ys.size := by
    rcases Nat.eq_zero_or_pos ys.size with h0 | h0
    · rw [intItems, Array.size_map, h0] at hlen
      exact absurd (List.length_eq_zero_iff.mp hlen ▸ rfl) hne
    · exact h0
  refine max_intList ok.hand l hsz fun v h' tk hv hk => ?_
  obtain ⟨t, rfl⟩ := intItems_at hv
  obtain ⟨S', x'⟩ := S.kept (tk := tk) hk
  refine PostE.val p S' x' ?_
  rw [max_at hn hsz]
  exact .int _ _
theorem sortd_ok (S : St W ρ σ s) (r1 : VRep ρ s.heap x m) (e : blt1 .sorted x σ = some r) (p : PostE W a ρ s (.ok r σ) Q E) : wpAny (model W.prog W.w) a.A (call (.builtin "sorted") [m]) Q E s := by
  obtain ⟨xs, hx, e⟩ := items_of (show (items? σ x).bind _ = some r from e)
  split at e
  case isFalse => cases e
  rename_i h64
  obtain ⟨is, hi, rfl⟩ := Option.map_eq_some_iff.mp e
  obtain ⟨b, its, rfl, l, q⟩ := items_at S.heap r1 hx
  have I := ints_at hi q
  have hsz : xs.length = its.toList.length := by rw [q.length]
  have h64 := of_decide_eq_true h64
  refine sorted_ints (vs := its.toList) (by simpa using l) I (by omega) fun out ns' hI hp hs => ?_
  have hns : ns' = isort is := sorted_unique (hp.trans (isort_perm is).symm) hs (isort_sorted is)
  obtain ⟨hk, hl⟩ := sortedAll_keeps (h := s.heap) (vs := its.toList) (out := out)
  obtain ⟨S', x'⟩ := S.kept (tk := s.toks) hk
  refine PostE.val p S' x' ?_
  obtain ⟨o, ho, hc, k, hd⟩ := hl
  refine .list ho hc hd (fun hm => absurd (S.heap.lt hm) (Nat.not_lt.mpr (Nat.le_succ _))) ?_
  rw [← hns]; exact ints_back hI
end
theorem blt1_ok {b : BK} {r x : V} {m : Value} {Q : Value → Shared → Prop} (ok : ActOk n a) (S : St W ρ σ s) (r1 : VRep ρ s.heap x m) (e : blt1 b x σ = some r)
    (p : PostE W a ρ s (.ok r σ) Q E) : wpAny (model W.prog W.w) a.A (call b.f [m]) Q E s := by
  cases b with
  | len => exact len_ok S r1 e p
  | sum => exact sum_ok ok S r1 e p
  | max => exact max_ok ok S r1 e p
  | sorted => exact sortd_ok S r1 e p
  | tuple => exact tuple_ok S r1 e p
  | abs =>
    cases x with
    | int i =>
      cases e
      obtain ⟨t, rfl⟩ := r1.int_inv
      exact call_abs_int fun u tk => PostE.val (s' := { s with toks := tk }) p S.heap_eq (.refl ..) (.int _ _)
    | _ => cases e
theorem blt_ok {b : BK} {r : V} {vs : List V} {ms : List Value} {Q : Value → Shared → Prop} (ok : ActOk n a) (S : St W ρ σ s) (rs : VReps ρ s.heap vs ms) (e : bltM b vs σ = some r)
    (p : PostE W a ρ s (.ok r σ) Q E) : wpAny (model W.prog W.w) a.A (call b.f ms) Q E s := by
  cases rs with
  | nil => cases e
  | cons r1 r2 =>
    cases r2 with
    | nil => exact blt1_ok ok S r1 e p
    | cons r2 r3 => cases e
end
end Mine
/-! A12 -/
namespace Mine
open PySem PySem.W PyProof.Rows
section
variable {M : Model} {A : Around} {E : Value → Shared → Prop} {s : Shared}
theorem args_all {f : Value} {trees : List (Bool × Sem Value)} {Q : Args → Shared → Prop} (hp : trees.any (·.1) = false)
    (h : wpAny M A (spliced trees) (fun vs s' => Q ⟨vs, []⟩ s') E s) : wpAny M A (evalArgs f true trees []) Q E s := by
  cases trees with
  | nil =>
    unfold evalArgs
    refine wpAny_bind (wpAny_mono h (fun vs s' h' => ?_) fun _ _ x => x)
    refine wpAny_bind (wpAny_pure ?_)
    refine wpAny_holding ?_
    exact wpAny_bind (wpAny_pure (wpAny_bind (wpAny_pure (wpAny_pure h'))))
  | cons t r =>
    obtain ⟨b, x⟩ := t
    simp only [List.any_cons, Bool.or_eq_false_iff] at hp
    obtain ⟨hb, _⟩ := hp
    subst hb
    exact Calls.evalArgs_plain h
end
section
variable {W : Wd} {n : Nat} {sc : Scope} {a : Act} {fr : Loc} {ρ ρ' : Rho} {σ : Sto} {h h' : Heap} {s s' : Shared} {D : List Addr} {E : Value → Shared → Prop}
noncomputable def PlainArgs (pos : Pos) (es : List PySem.Expr) : Prop := ∀ env : Env, (backTo pos (starEach es env)).any (·.1) = false
theorem DenE.blt {es : List PySem.Expr} {np pos : Pos} {b : BK} {fs : List (ME V)} (hs : DenEs W n sc es (eList fs)) (hp : PlainArgs pos es)
    (hx : sc.names.lookup (PySem.Str.ofString b.name) = some .globalImplicit) (e : nsIn W.K mainGlobals (PySem.Str.ofString b.name) = some Option.none) :
    DenE W n sc (.Call (.Name (PySem.Str.ofString b.name) np) es [] pos) (eBlt b fs) := by
  intro a ok hsc ρ σ fr s S F Q E p
  subst hsc
  refine Call_Name rfl (load_blt (v := b.f) ok S hx e b.boot (by cases b <;> decide) (by cases b <;> rfl) ?_)
  have fin : wpAny (model W.prog W.w) a.A (spliced (backTo pos (starEach es a.env))) (fun ms s1 => wpAny (model W.prog W.w) a.A (call b.f ms) Q E s1) E s := by
    refine hs.bind ok rfl S F p fun vs σ2 ρ2 s2 ms S2 F2 x2 r2 p2 => ?_
    dsimp only at p2
    cases hb : bltM b vs σ2 with
    | none => rw [hb] at p2; exact p2.elim
    | some r => rw [hb] at p2; exact blt_ok ok S2 r2 hb p2
  cases b with
  | tuple => exact PySem.callWith_type (hp _) (args_all (hp _) (wpAny_mono fin (fun ms s1 h1 => h1) fun _ _ x => x))
  | len => exact Calls.callWith_builtin (hp _) (args_all (hp _) (wpAny_mono fin (fun ms s1 h1 => h1) fun _ _ x => x))
  | sum => exact Calls.callWith_builtin (hp _) (args_all (hp _) (wpAny_mono fin (fun ms s1 h1 => h1) fun _ _ x => x))
  | max => exact Calls.callWith_builtin (hp _) (args_all (hp _) (wpAny_mono fin (fun ms s1 h1 => h1) fun _ _ x => x))
  | abs => exact Calls.callWith_builtin (hp _) (args_all (hp _) (wpAny_mono fin (fun ms s1 h1 => h1) fun _ _ x => x))
  | sorted => exact Calls.callWith_builtin (hp _) (args_all (hp _) (wpAny_mono fin (fun ms s1 h1 => h1) fun _ _ x => x))
noncomputable def FewArgs (pos : Pos) (es : List PySem.Expr) : Prop := ∀ env : Env, ((backTo pos (starEach es env)).all (fun x => !x.1) && (backToKw pos (keywordEach [] env)).all (fun x => x.1.isSome)
      && decide (es.length + ([] : List Keyword).length + (if ([] : List Keyword).isEmpty then 0 else 1) < 30)) = true
noncomputable def BaseOk (o : PySem.Expr) (name : PySem.Str) : Prop := ∀ env : Env, attributeBase o name env (eval o env) = eval o env
theorem DenE.meth {o : PySem.Expr} {es : List PySem.Expr} {apos pos : Pos} {m : MK} {f : ME V} {fs : List (ME V)} (ho : DenE W n sc o f) (hs : DenEs W n sc es (eList fs)) (hp : PlainArgs pos es) (hfew : FewArgs pos es)
    (hline : (apos.endLine == pos.line) = true) (hb : BaseOk o (PySem.Str.ofString m.name)) :
    DenE W n sc (.Call (.Attribute o (PySem.Str.ofString m.name) apos) es [] pos) (eMeth m f fs) := by
  intro a ok hsc ρ σ fr s S F Q E p
  refine wpAny_Call_method_late (hb _) (hfew _) hline rfl (ho.bind ok hsc S F p fun v σ1 ρ1 s1 mv S1 F1 x1 r1 p1 => ?_)
  dsimp only at p1
  by_cases hr : recvOk m v σ1 = true
  · rw [if_pos hr] at p1
    obtain ⟨hT, hd⟩ := recv_at S1 r1 hr
    refine ⟨m.cls, m.id, m.attrs, m.slot, m.typ, hT, hd, ?_⟩
    refine Calls.callWith_builtin (hp _) (args_all (hp _) (hs.bind ok hsc S1 F1 p1 fun vs σ2 ρ2 s2 ms S2 F2 x2 r2 p2 => ?_))
    dsimp only at p2
    cases hm : methM m v vs σ2 with
    | none => rw [hm] at p2; exact p2.elim
    | some q =>
      obtain ⟨r, σ'⟩ := q
      rw [hm] at p2
      exact meth_ok ok S2 (r1.mono x2) r2 hm p2
  · rw [if_neg hr] at p1; exact p1.elim
end
end Mine
/-! A13 -/
namespace Mine
open PySem PySem.W PyProof.Rows
/-! iteration -/
inductive IterOk (ρ : Rho) (h : Heap) (it : Addr) : List V → Prop
  | list {l : Addr} {i : Nat} {ms : Array Value} {vs : List V} : h.IsListIter it l i → h.IsList l ms → l ∉ muts ρ → l ≠ it → VReps ρ h vs (ms.toList.drop i) → IterOk ρ h it vs
  | tup {l : Addr} {i : Nat} {ms : Array Value} {vs : List V} : h.IsTupleIter it l i → h.IsTuple l ms → l ∉ muts ρ → l ≠ it → VReps ρ h vs (ms.toList.drop i) → IterOk ρ h it vs
  | range {x step : Int} {k : Nat} {vs : List V} : IsRangeIter h it x k step → vs = (List.range k).map (fun i : Nat => V.int (x + (i : Int) * step)) → IterOk ρ h it vs
  | str {cs : List Nat} {t : Tok} {i : Nat} {vs : List V} : h.IsStrIter it "str_ascii_iterator" (strV cs) t i → vs = (cs.drop i).map (fun c => V.str [c]) → IterOk ρ h it vs
noncomputable def rangeVs (a b c : Int) : List V := (List.range (Builtin.Range.rangeSize a b c).toNat).map fun i : Nat => V.int (a + (i : Int) * c)
noncomputable def iterV (v : V) : Option (List V) := match v with
  | .list vs => some vs
  | .tup vs => some vs
  | .str cs => if cs.all (· < 128) then some (cs.map fun c => V.str [c]) else .none
  | _ => .none
noncomputable def eIter (f : ME V) : ME (List V) := f.bind fun v => fun _ σ => Res.ofOpt (iterV v) σ
noncomputable def smallB (i : Int) : Bool := decide (i.natAbs < 1000000000000)
noncomputable def eRange1 (f : ME V) : ME (List V) := f.bind fun v => match v with
  | .int b => if smallB b then ME.pure (rangeVs 0 b 1) else ME.stuck
  | _ => ME.stuck
noncomputable def eRange2 (f g : ME V) : ME (List V) := f.bind fun v => g.bind fun u => match v, u with
  | .int a, .int b => if smallB a && smallB b then ME.pure (rangeVs a b 1) else ME.stuck
  | _, _ => ME.stuck
section
variable (W : Wd)
noncomputable def KI (s0 : Heap) (Q : Value → Shared → Prop) (vs : List V) (ρ : Rho) (s : Shared) : Prop := ∀ it, s0.get? it = none → it ∉ muts ρ → IterOk ρ s.heap it vs → Q (.ref it) s
noncomputable def DenI (n : Nat) (sc : Scope) (e : PySem.Expr) (f : ME (List V)) : Prop :=
  ∀ (a : Act), ActOk n a → a.env.scope = sc → ∀ (ρ : Rho) (σ : Sto) (fr : Loc) (s : Shared), St W ρ σ s → FS W a fr ρ s.heap →
    ∀ (Q : Value → Shared → Prop) (E : Value → Shared → Prop), PostG W a ρ s (f fr σ) (KI s.heap Q) E → wpAny (model W.prog W.w) a.A (eval e a.env) (fun x s1 => wpAny (model W.prog W.w) a.A (pyIter x) Q E s1) E s
end
section
variable {W : Wd} {n : Nat} {sc : Scope} {a : Act} {fr : Loc} {ρ ρ' : Rho} {σ : Sto} {h h' : Heap} {s s' : Shared} {D : List Addr} {E : Value → Shared → Prop}
/-- an object that is nobody's: an iterator -/
noncomputable def Scratch (o : Obj) : Prop := softObj o = false ∧ o.cls ≠ .type "list" ∧ o.cls ≠ .type "dict" ∧ o.cls ≠ .type "tuple" ∧ ∀ c, o.cls ≠ .ref c
theorem IterOk.fields {it : Addr} {vs : List V} (x : IterOk ρ h it vs) : ∃ o, h.get? it = some o ∧ Scratch o := by
  cases x with
  | list hi => obtain ⟨o, ho, hc, hd⟩ := hi; exact ⟨o, ho, by simp [softObj, hd], by rw [hc]; decide, by rw [hc]; decide, by rw [hc]; decide, by rw [hc]; simp⟩
  | tup hi => obtain ⟨o, ho, hc, hd⟩ := hi; exact ⟨o, ho, by simp [softObj, hd], by rw [hc]; decide, by rw [hc]; decide, by rw [hc]; decide, by rw [hc]; simp⟩
  | range hi => exact ⟨_, hi, rfl, by simp, by simp, by simp, by simp⟩
  | str hi => obtain ⟨o, ho, hc, hd⟩ := hi; exact ⟨o, ho, by simp [softObj, hd], by rw [hc]; decide, by rw [hc]; decide, by rw [hc]; decide, by rw [hc]; simp⟩
theorem IterOk.vm {it : Addr} {vs : List V} (x : IterOk ρ h it vs) (hn : it ∉ muts ρ) (e : VMon ρ h ρ' h') : IterOk ρ' h' it vs := by
  cases x with
  | list hi hl hm hne r =>
    obtain ⟨o, ho, hc, hd⟩ := hi
    obtain ⟨ol, hol, hcl, k, hdl⟩ := hl
    exact .list ⟨o, e.keep _ _ ho hn (by simp [softObj, hd]), hc, hd⟩ ⟨ol, e.keep _ _ hol hm (by simp [softObj, hdl]), hcl, k, hdl⟩ (e.notin _ _ hol hm) hne (r.vmono e)
  | tup hi hl hm hne r =>
    obtain ⟨o, ho, hc, hd⟩ := hi
    obtain ⟨ol, hol, hcl, k, hdl⟩ := hl
    exact .tup ⟨o, e.keep _ _ ho hn (by simp [softObj, hd]), hc, hd⟩ ⟨ol, e.keep _ _ hol hm (by simp [softObj, hdl]), hcl, k, hdl⟩ (e.notin _ _ hol hm) hne (r.vmono e)
  | range hi hv => exact .range (e.keep _ _ hi hn rfl) hv
  | str hi hv =>
    obtain ⟨o, ho, hc, hd⟩ := hi
    exact .str ⟨o, e.keep _ _ ho hn (by simp [softObj, hd]), hc, hd⟩ hv
theorem IterOk.ext {it : Addr} {vs : List V} (x : IterOk ρ h it vs) (hn : it ∉ muts ρ) (e : Ext D ρ h ρ' h') : IterOk ρ' h' it vs := x.vm hn e.vmon
/-- a change of one object outside the store -/
structure Side (it : Addr) (h h' : Heap) : Prop where
  same : Heap.ExtBut it h h'
  was : ∃ o, h.get? it = some o ∧ Scratch o
theorem Side.ne {it b : Addr} {o : Obj} (x : Side it h h') (e : h.get? b = some o) (q : ¬ Scratch o) : b ≠ it := fun z => by
  obtain ⟨o', e', s⟩ := x.was
  rw [z, e'] at e; cases e; exact q s
theorem Side.get {it b : Addr} {o : Obj} (x : Side it h h') (e : h.get? b = some o) (q : ¬ Scratch o) : h'.get? b = some o := x.same b o (x.ne e q) e
theorem not_scratch_list {o : Obj} (h : o.cls = .type "list") : ¬ Scratch o := fun x => x.2.1 h
theorem not_scratch_dict {o : Obj} (h : o.cls = .type "dict") : ¬ Scratch o := fun x => x.2.2.1 h
theorem not_scratch_tup {o : Obj} (h : o.cls = .type "tuple") : ¬ Scratch o := fun x => x.2.2.2.1 h
theorem not_scratch_inst {o : Obj} {c : Addr} (h : o.cls = .ref c) : ¬ Scratch o := fun x => x.2.2.2.2 c h
theorem not_scratch_soft {o : Obj} (h : softObj o = true) : ¬ Scratch o := fun x => by rw [x.1] at h; cases h
mutual
theorem VRep.side {it : Addr} (x : Side it h h') : ∀ {v : V} {m : Value}, VRep ρ h v m → VRep ρ h' v m
  | _, _, .none => .none
  | _, _, .bool b => .bool b
  | _, _, .int i t => .int i t
  | _, _, .str s t => .str s t
  | _, _, .ref e => .ref e
  | _, _, .tup ho hc hd hn r => .tup (x.get ho (not_scratch_tup hc)) hc hd hn (VReps.side x r)
  | _, _, .list ho hc hd hn r => .list (x.get ho (not_scratch_list hc)) hc hd hn (VReps.side x r)
theorem VReps.side {it : Addr} (x : Side it h h') : ∀ {vs : List V} {ms : List Value}, VReps ρ h vs ms → VReps ρ h' vs ms
  | _, _, .nil => .nil
  | _, _, .cons a r => .cons (VRep.side x a) (VReps.side x r)
end
theorem DictOf.sideAt {K : Type} [DecidableEq K] {knd : KeyKind W.prog W.w K} {it d : Addr} {ks : List (K × Value)} (x : Side it h h') (r : h.DictOf knd d ks) : h'.DictOf knd d ks := by
  obtain ⟨o, es, ep, ho, hx, r⟩ := r
  exact ⟨o, es, ep, x.get ho (not_scratch_dict hx.1), hx, r⟩
theorem ORep.side {it : Addr} {o : O} {p : Addr × Addr} (x : Side it h h') (r : ORep W ρ h o p) : ORep W ρ h' o p := by
  cases o with
  | list vs => obtain ⟨e, ms, k, g, q⟩ := r; exact ⟨e, ms, k, x.get g (not_scratch_list rfl), q.side x⟩
  | dict kd kvs =>
    obtain ⟨e, r⟩ := r
    refine ⟨e, ?_⟩
    cases kd with
    | int => obtain ⟨ks, d, al⟩ := r; exact ⟨ks, DictOf.sideAt x d, al.mono fun _ _ q => ⟨q.1, q.2.side x⟩⟩
    | str => obtain ⟨ks, d, al⟩ := r; exact ⟨ks, DictOf.sideAt x d, al.mono fun _ _ q => ⟨q.1, q.2.side x⟩⟩
    | tup =>
      obtain ⟨ks, ⟨o, es, ep, ho, hx, hd, hl, his, hn⟩, al⟩ := r
      exact ⟨ks, ⟨o, es, ep, x.get ho (not_scratch_dict hx.1), hx, hd, hl, fun y hy => ⟨(his y hy).1.side x, (his y hy).2⟩, hn⟩, al.mono fun _ _ q => ⟨⟨q.1.1, q.1.2.side x⟩, q.2.side x⟩⟩
  | inst c fs =>
    obtain ⟨⟨sl, e⟩, ks, d, al⟩ := r
    exact ⟨⟨sl, x.get e (not_scratch_inst rfl)⟩, ks, DictOf.sideAt x d, al.mono fun _ _ q => ⟨q.1, q.2.side x⟩⟩
theorem St.side {it : Addr} {tk : Nat} (S : St W ρ σ s) (x : Side it s.heap h') (hb : W.h₀.get? it = none) : St W ρ σ { s with heap := h', toks := tk } := by
  refine St.mk (StH.mk (fun b o e => ?_) S.heap.fresh (fun a ha => (let ⟨ob, e, c⟩ := S.heap.hidc a ha; ⟨ob, x.get e (not_scratch_list c), c⟩)) S.heap.nodup S.heap.len fun i o p e e' => (S.heap.objs i o p e e').side x) S.gens S.os
  exact x.same b o (fun z => by rw [z, hb] at e; cases e) (S.heap.base b o e)
theorem Live.side {l : List Env} {it : Addr} (x : Side it h h') (L : Live W l ρ h) : Live W l ρ h' := by
  intro e he
  obtain ⟨k, L, o, hf, hn, hb, ho, hs⟩ := L e he
  exact ⟨k, L, o, hf, hn, hb, x.get ho (not_scratch_soft hs), hs⟩
theorem Ns.sideAt {it L : Addr} {m : PySem.Str → Option Value} (x : Side it h h') (N : h.Ns L m) : h'.Ns L m := by
  obtain ⟨o, es, ep, ho, hd, r⟩ := N
  exact ⟨o, es, ep, x.get ho (not_scratch_soft (by simp [softObj, hd])), hd, r⟩
theorem IsCell.sideAt {it c : Addr} {v : Option Value} (x : Side it h h') (N : h.IsCell c v) : h'.IsCell c v := by
  obtain ⟨o, ho, hd⟩ := N
  exact ⟨o, x.get ho (not_scratch_soft (by simp [softObj, hd])), hd⟩
theorem FS.side {it : Addr} (F : FS W a fr ρ h) (x : Side it h h') : FS W a fr ρ h' := by
  obtain ⟨m, hm, hv⟩ := F.ns
  refine ⟨F.live.side x, ⟨m, Ns.sideAt x hm, fun i v e => ⟨(hv i v e).1, ?_⟩⟩, F.apartL, F.baseL, fun y c hy => ?_, F.apart, F.laid⟩
  · have r := (hv i v e).2
    unfold VarAt at r ⊢
    split at r
    · obtain ⟨mv, hm, hv⟩ := r; exact ⟨mv, hm, hv.side x⟩
    · obtain ⟨c, mv, hl, hcell, hv⟩ := r; exact ⟨c, mv, hl, IsCell.sideAt x hcell, hv.side x⟩
    · obtain ⟨c, mv, hl, hcell, hv⟩ := r; exact ⟨c, mv, hl, IsCell.sideAt x hcell, hv.side x⟩
    · exact r.elim
  · obtain ⟨h1, h2, v, h3⟩ := F.cells y c hy
    exact ⟨h1, h2, v, IsCell.sideAt x h3⟩
theorem drop_head {α : Type} {l : List α} {i : Nat} {x : α} {xs : List α} (e : l.drop i = x :: xs) : l[i]? = some x ∧ l.drop (i + 1) = xs := by
  have h1 : (l.drop i)[0]? = some x := by rw [e]; rfl
  rw [List.getElem?_drop] at h1
  refine ⟨by simpa using h1, ?_⟩
  rw [← List.drop_drop, e]; rfl
theorem range_head {k : Nat} {x step : Int} {v : V} {vs : List V} (e : v :: vs = (List.range k).map (fun i : Nat => V.int (x + (i : Int) * step))) :
    ∃ k', k = k' + 1 ∧ v = .int x ∧ vs = (List.range k').map (fun i : Nat => V.int (x + step + (i : Int) * step)) := by
  cases k with
  | zero => simp at e
  | succ k =>
    rw [List.range_succ_eq_map, List.map_cons, List.map_map] at e
    injection e with e1 e2
    refine ⟨k, rfl, by rw [e1]; simp, ?_⟩
    rw [e2]
    apply List.map_congr_left
    intro i _
    simp only [Function.comp]
    congr 1
    have : ((i.succ : Nat) : Int) = (i : Int) + 1 := by simp
    rw [this, Int.add_mul, Int.one_mul]
    lia
theorem next_item {it : Addr} {v : V} {vs : List V} {Q : Option Value → Shared → Prop} {A : Around} (x : IterOk ρ s.heap it (v :: vs))
    (k : ∀ h' tk mv, IterOk ρ h' it vs → Side it s.heap h' → VRep ρ h' v mv → Q (some mv) { s with heap := h', toks := tk }) : wpAny (model W.prog W.w) A (pyNext (.ref it)) Q E s := by
  have xf := x.fields
  cases x with
  | @list l i ms _ hi hl hm hne r =>
    generalize hd : ms.toList.drop i = ds at r
    cases r with
    | cons r1 r2 =>
      obtain ⟨h1, h2⟩ := drop_head hd
      refine wpAny_pyNext_list_item hi hl (by simpa using h1) fun h' hi' hs => ?_
      have S : Side it s.heap h' := ⟨hs.extBut, xf⟩
      exact k h' s.toks _ (.list hi' (hl.extBut hs.extBut hne) hm hne (h2 ▸ r2.side S)) S (r1.side S)
  | @tup l i ms _ hi hl hm hne r =>
    generalize hd : ms.toList.drop i = ds at r
    cases r with
    | cons r1 r2 =>
      obtain ⟨h1, h2⟩ := drop_head hd
      refine wpAny_pyNext_tuple_item hi hl (by simpa using h1) fun h' hi' hs => ?_
      have S : Side it s.heap h' := ⟨hs.extBut, xf⟩
      exact k h' s.toks _ (.tup hi' (hl.extBut hs.extBut hne) hm hne (h2 ▸ r2.side S)) S (r1.side S)
  | @range x step kk _ hi hv =>
    obtain ⟨k', rfl, rfl, rfl⟩ := range_head hv
    refine wpAny_pyNext_range_item hi (by lia) fun h' hi' hs => ?_
    have S : Side it s.heap h' := ⟨hs.extBut, xf⟩
    exact k h' _ _ (.range (k := k') (by have e : ((k' + 1 : Nat) : Int) - 1 = (k' : Int) := by lia
                                         rw [e] at hi'; exact hi') rfl) S (.int _ _)
  | @str cs t i _ hi hv =>
    cases hd : cs.drop i with
    | nil => rw [hd] at hv; cases hv
    | cons c cs' =>
      rw [hd, List.map_cons] at hv
      injection hv with e1 e2
      subst e1 e2
      obtain ⟨h1, h2⟩ := drop_head hd
      refine wpAny_pyNext_ascii_item hi (c := c) (by simpa [strV] using h1) fun h' hi' hs => ?_
      have S : Side it s.heap h' := ⟨hs.extBut, xf⟩
      exact k h' _ _ (.str hi' (by rw [h2])) S (.str [c] _)
theorem next_end {it : Addr} {Q : Option Value → Shared → Prop} {A : Around} (hh : A.handled = none) (x : IterOk ρ s.heap it [])
    (k : ∀ h', Side it s.heap h' → Q none { s with heap := h' }) : wpAny (model W.prog W.w) A (pyNext (.ref it)) Q E s := by
  have xf := x.fields
  cases x with
  | @list l i ms _ hi hl hm hne r =>
    generalize hd : ms.toList.drop i = ds at r
    cases r
    exact wpAny_pyNext_list_end hh hi hl (by have := List.drop_eq_nil_iff.mp hd; simpa using this) fun h' hs => k h' ⟨hs, xf⟩
  | @tup l i ms _ hi hl hm hne r =>
    generalize hd : ms.toList.drop i = ds at r
    cases r
    exact wpAny_pyNext_tuple_end hh hi hl (by have := List.drop_eq_nil_iff.mp hd; simpa using this) fun h' hs => k h' ⟨hs, xf⟩
  | @range x step kk _ hi hv =>
    have : kk = 0 := by cases kk with | zero => rfl | succ k => rw [List.range_succ_eq_map] at hv; simp at hv
    subst this
    exact wpAny_pyNext_range_end hh hi (by simp) fun h' hs => k h' ⟨hs, xf⟩
  | @str cs t i _ hi hv =>
    have hd : cs.drop i = [] := by simpa using hv.symm
    exact wpAny_pyNext_ascii_end hh hi (by have := List.drop_eq_nil_iff.mp hd; simpa [strV] using this) fun h' hs => k h' ⟨hs, xf⟩
end
end Mine
/-! A14 -/
namespace Mine
open PySem PySem.W PyProof.Rows
section
variable {W : Wd} {n : Nat} {sc : Scope} {a : Act} {fr : Loc} {ρ ρ' : Rho} {σ : Sto} {h h' : Heap} {s s' : Shared} {D : List Addr} {E : Value → Shared → Prop}
theorem Ext.end_none (x : Ext D ρ h ρ' h') : h.get? h'.objs.size = none := by
  cases z : h.get? h'.objs.size with
  | none => rfl
  | some o => obtain ⟨o', e⟩ := x.live _ _ z; rw [get_end] at e; cases e
theorem DenI.expr {e : PySem.Expr} {f : ME V} (hf : DenE W n sc e f) : DenI W n sc e (eIter f) := by
  intro a ok hsc ρ σ fr s S F Q E p
  refine hf.bind ok hsc S F p fun v σ1 ρ1 s1 mv S1 F1 x1 r1 p1 => ?_
  dsimp only at p1
  cases hi : iterV v with
  | none => rw [hi] at p1; exact p1.elim
  | some vs =>
    rw [hi] at p1
    have none0 := x1.end_none
    have notin := S1.heap.new_notin
    unfold iterV at hi
    split at hi
    · cases hi
      cases r1 with
      | @list _ l o ms k ho hc hd hn r =>
      have x2 : Ext [] ρ1 s1.heap ρ1 (s1.heap.push { cls := .type "list_iterator", data := .fields #[.ref l, .int 0 0] }) := Ext.push _ _
      refine wpAny_pyIter_list ⟨o, ho, hc, k, hd⟩ ?_
      refine p1 ρ1 _ (S1.push_ _) x2 s1.heap.objs.size none0 notin (.list (l := l) (i := 0) (ms := ms) ⟨_, Heap.get?_push_size _ rfl, rfl, rfl⟩ ⟨o, Heap.get?_push_of_some _ ho, hc, k, hd⟩ hn (Nat.ne_of_lt (Heap.lt_size ho)) ?_)
      exact r.mono x2
    · cases hi
      cases r1 with
      | @tup _ l o ms k ho hc hd hn r =>
      have x2 : Ext [] ρ1 s1.heap ρ1 (s1.heap.push { cls := .type "tuple_iterator", data := .fields #[.ref l, .int 0 0] }) := Ext.push _ _
      refine wpAny_pyIter_tuple ⟨o, ho, hc, k, hd⟩ ?_
      refine p1 ρ1 _ (S1.push_ _) x2 s1.heap.objs.size none0 notin (.tup (l := l) (i := 0) (ms := ms) ⟨_, Heap.get?_push_size _ rfl, rfl, rfl⟩ ⟨o, Heap.get?_push_of_some _ ho, hc, k, hd⟩ hn (Nat.ne_of_lt (Heap.lt_size ho)) ?_)
      exact r.mono x2
    · rename_i cs
      split at hi
      · rename_i ha
        cases hi
        cases r1 with
        | @str _ t =>
        have x2 : Ext [] ρ1 s1.heap ρ1 (s1.heap.push { cls := .type "str_ascii_iterator", data := .fields #[.str (strV cs) t, .int 0 0] }) := Ext.push _ _
        refine wpAny_pyIter_ascii (by simpa [strV] using ha) ?_
        exact p1 ρ1 _ (S1.push_ _) x2 s1.heap.objs.size none0 notin (.str (cs := cs) (t := t) (i := 0) ⟨_, Heap.get?_push_size _ rfl, rfl, rfl⟩ (by simp))
      · cases hi
    · cases hi
theorem rangeSize_nonneg (a b : Int) : 0 ≤ Builtin.Range.rangeSize a b 1 := by rw [rangeSize_one]; split <;> lia
theorem range_iter {x y : Int} {t u w : Tok} {s1 : Shared} {Q : Value → Shared → Prop} {σ1 : Sto} {ρ1 : Rho} {tk : Nat} (hx : smallB x = true) (hy : smallB y = true) (S1 : St W ρ1 σ1 s1) (x1 : Ext [] ρ s.heap ρ1 s1.heap)
    (p1 : PostG W a ρ1 s1 (.ok (rangeVs x y 1) σ1) (KI s.heap Q) E) :
    wpAny (model W.prog W.w) a.A (pyIter (.ref s1.heap.objs.size)) Q E { s1 with heap := s1.heap.push { cls := .type "range", data := .fields #[.int x t, .int y u, .int 1 w] }, toks := tk } := by
  have hx := of_decide_eq_true hx
  have hy := of_decide_eq_true hy
  have hsz := rangeSize_nonneg x y
  refine wpAny_pyIter_range (IsRange.new ..) (small_one (by lia) (by lia) (by lia) (by lia)) ?_
  have x2 : Ext [] ρ1 s1.heap ρ1 (s1.heap.push { cls := .type "range", data := .fields #[.int x t, .int y u, .int 1 w] }) := Ext.push _ _
  have S2 := S1.push_ (tk := tk) { cls := .type "range", data := .fields #[.int x t, .int y u, .int 1 w] }
  have S3 := S2.push_ (tk := tk) { cls := .type "range_iterator", data := .fields #[rawInt x, rawInt (Builtin.Range.rangeSize x y 1), rawInt 1] }
  have x3 : Ext [] ρ1 (s1.heap.push { cls := .type "range", data := .fields #[.int x t, .int y u, .int 1 w] }) ρ1 ((s1.heap.push { cls := .type "range", data := .fields #[.int x t, .int y u, .int 1 w] }).push { cls := .type "range_iterator", data := .fields #[rawInt x, rawInt (Builtin.Range.rangeSize x y 1), rawInt 1] }) := Ext.push _ _
  refine p1 ρ1 _ S3 (x2.trans x3) _ (x1.trans x2).end_none S2.heap.new_notin (.range (x := x) (step := 1) (k := (Builtin.Range.rangeSize x y 1).toNat) ?_ rfl)
  rw [Int.toNat_of_nonneg hsz]
  exact Heap.get?_push_size _ rfl
theorem load_range {pos : Pos} {Q : Value → Shared → Prop} (ok : ActOk n a) (S : St W ρ σ s) (hx : a.env.scope.names.lookup (PySem.Str.ofString "range") = some .globalImplicit) (e : nsIn W.K mainGlobals (PySem.Str.ofString "range") = some none)
    (h : Q (.type "range") s) : wpAny (model W.prog W.w) a.A (eval (.Name (PySem.Str.ofString "range") pos) a.env) Q E s :=
  load_blt ok S hx e boot_range (by decide) rfl h
theorem DenI.range1 {e1 : PySem.Expr} {np pos : Pos} {f : ME V} (hs : DenEs W n sc [e1] (eList [f])) (hp : PlainArgs pos [e1])
    (hx : sc.names.lookup (PySem.Str.ofString "range") = some .globalImplicit) (e : nsIn W.K mainGlobals (PySem.Str.ofString "range") = some none) :
    DenI W n sc (.Call (.Name (PySem.Str.ofString "range") np) [e1] [] pos) (eRange1 f) := by
  intro a ok hsc ρ σ fr s S F Q E p
  subst hsc
  refine Call_Name rfl (load_range ok S hx e ?_)
  have hff : (eRange1 f fr σ) = ((eList [f]) fr σ).andThen fun vs σ => match vs with | [.int b] => if smallB b then .ok (rangeVs 0 b 1) σ else .stuck | _ => .stuck := by
    unfold eRange1 eList eList ME.bind ME.pure
    cases f fr σ with
    | ok v σ' =>
      simp only [Res.andThen]
      cases v <;> simp only [ME.stuck, ME.pure]
      split <;> rfl
    | exc c σ' => rfl
    | stuck => rfl
  rw [hff] at p
  refine PySem.callWith_type (hp _) (args_all (hp _) (hs.bind ok rfl S F p fun vs σ2 ρ2 s2 ms S2 F2 x2 r2 p2 => ?_))
  split at p2
  · rename_i b
    split at p2
    · rename_i hb
      obtain ⟨m, rfl, r⟩ := r2.one
      cases r
      exact call_range_1 (range_iter (by decide) hb S2 x2 p2)
    · exact p2.elim
  · exact p2.elim
theorem DenI.range2 {e1 e2 : PySem.Expr} {np pos : Pos} {f g : ME V} (hs : DenEs W n sc [e1, e2] (eList [f, g])) (hp : PlainArgs pos [e1, e2])
    (hx : sc.names.lookup (PySem.Str.ofString "range") = some .globalImplicit) (e : nsIn W.K mainGlobals (PySem.Str.ofString "range") = some none) :
    DenI W n sc (.Call (.Name (PySem.Str.ofString "range") np) [e1, e2] [] pos) (eRange2 f g) := by
  intro a ok hsc ρ σ fr s S F Q E p
  subst hsc
  refine Call_Name rfl (load_range ok S hx e ?_)
  have hff : (eRange2 f g fr σ) = ((eList [f, g]) fr σ).andThen fun vs σ => match vs with | [.int a, .int b] => if smallB a && smallB b then .ok (rangeVs a b 1) σ else .stuck | _ => .stuck := by
    unfold eRange2 eList eList eList ME.bind ME.pure
    cases f fr σ with
    | ok v σ' =>
      simp only [Res.andThen]
      cases g fr σ' with
      | ok u σ2 =>
        simp only
        cases v <;> cases u <;> simp only [ME.stuck, ME.pure]
        split <;> rfl
      | exc c σ' => rfl
      | stuck => rfl
    | exc c σ' => rfl
    | stuck => rfl
  rw [hff] at p
  refine PySem.callWith_type (hp _) (args_all (hp _) (hs.bind ok rfl S F p fun vs σ2 ρ2 s2 ms S2 F2 x2 r2 p2 => ?_))
  split at p2
  · rename_i x y
    split at p2
    · rename_i hb
      simp only [Bool.and_eq_true] at hb
      obtain ⟨m, k, rfl, r, q⟩ := r2.two
      cases r; cases q
      exact call_range_2 (range_iter hb.1 hb.2 S2 x2 p2)
    · exact p2.elim
  · exact p2.elim
end
end Mine
/-! A15 -/
namespace Mine
open PySem PySem.W PyProof.Rows
noncomputable def fset (fr : Loc) (i : Nat) (v : V) : Loc := (i, v) :: fr.filter (fun p => !(p.1 == i))
theorem fset_lookup (fr : Loc) (i j : Nat) (v : V) : (fset fr i v).lookup j = if j = i then some v else fr.lookup j := by
  unfold fset
  rw [List.lookup_cons]
  by_cases h : j = i
  · simp [h]
  · simp only [beq_eq_false_iff_ne.mpr h, h, if_false]
    induction fr with
    | nil => rfl
    | cons p fr ih =>
      rw [List.filter_cons]
      obtain ⟨k, u⟩ := p
      by_cases hk : k = i
      · subst hk; simp [List.lookup_cons, beq_eq_false_iff_ne.mpr h, ih]
      · simp only [beq_eq_false_iff_ne.mpr hk, Bool.not_false, if_true, List.lookup_cons, ih]
/-! statements -/
noncomputable def sExpr (f : ME V) : MS := fun fr σ => match f fr σ with
  | .ok _ σ' => .next fr σ' | .exc c σ' => .exc c fr σ' | .stuck => .stuck
noncomputable def sBind {α : Type} (f : ME α) (k : α → MS) : MS := fun fr σ => match f fr σ with
  | .ok v σ' => k v fr σ' | .exc c σ' => .exc c fr σ' | .stuck => .stuck
noncomputable def sRet (f : ME V) : MS := sBind f fun v _ σ => .ret v σ
noncomputable def sIf (t : ME Bool) (f g : MS) : MS := sBind t fun b => if b then f else g
noncomputable def sSeq (f g : MS) : MS := fun fr σ => match f fr σ with | .next fr' σ' => g fr' σ' | r => r
noncomputable def sSkip : MS := fun fr σ => .next fr σ
noncomputable abbrev Tgt := V → Loc → Option Loc
noncomputable def tName (i : Nat) : Tgt := fun v fr => some (fset fr i v)
noncomputable def tNames (is : List Nat) : Tgt := fun v fr => (iterV v).bind fun vs => if vs.length = is.length then some ((is.zip vs).foldl (fun fr p => fset fr p.1 p.2) fr) else none
noncomputable def sAssign (t : Tgt) (f : ME V) : MS := sBind f fun v fr σ => match t v fr with | some fr' => .next fr' σ | none => .stuck
noncomputable def loopM (t : Tgt) (body : MS) : List V → MS
  | [], fr, σ => .next fr σ
  | v :: vs, fr, σ => match t v fr with
    | none => .stuck
    | some fr1 => match body fr1 σ with
      | .next fr2 σ2 => loopM t body vs fr2 σ2
      | .brk fr2 σ2 => .next fr2 σ2
      | .ret v σ2 => .ret v σ2
      | .exc _ _ _ => .stuck
      | .stuck => .stuck
noncomputable def sFor (t : Tgt) (it : ME (List V)) (body : MS) : MS := sBind it fun vs => loopM t body vs
section
variable (W : Wd)
noncomputable def DenT (n : Nat) (sc : Scope) (tgt : PySem.Expr) (t : Tgt) : Prop :=
  ∀ (a : Act), ActOk n a → a.env.scope = sc → ∀ (ρ : Rho) (σ : Sto) (fr : Loc) (s : Shared), St W ρ σ s → FS W a fr ρ s.heap → ∀ (v : V) (mv : Value) (fr' : Loc), VRep ρ s.heap v mv → t v fr = some fr' →
    ∀ (Q : Unit → Shared → Prop) (E : Value → Shared → Prop), (∀ s', St W ρ σ s' → Ext a.D ρ s.heap ρ s'.heap → FS W a fr' ρ s'.heap → Q () s') → wpAny (model W.prog W.w) a.A (assign tgt a.env mv) Q E s
noncomputable def Storable (sc : Scope) (x : PySem.Str) : Bool := sc.names.lookup x == some .local || sc.names.lookup x == some .cell
end
section
variable {W : Wd} {n : Nat} {sc : Scope} {a : Act} {fr : Loc} {ρ ρ' : Rho} {σ : Sto} {h h' : Heap} {s s' : Shared} {D : List Addr} {E : Value → Shared → Prop}
theorem SameBut.get {b L : Addr} {o : Obj} (hs : Heap.SameBut L h h') (e : h.get? b = some o) (hne : b ≠ L) : h'.get? b = some o := (hs.2 b hne).trans e
/-- a change of a dict or cell of the frame's own -/
theorem StH.own {L : Addr} (S : StH W ρ σ h) (hs : Heap.SameBut L h h') (hn : L ∉ muts ρ) (hb : W.h₀.get? L = none) (hD : L ∈ D) (h1 : ∃ o, h.get? L = some o ∧ softObj o = true) (h2 : ∃ o, h'.get? L = some o ∧ softObj o = true) :
    StH W ρ σ h' ∧ Ext D ρ h ρ h' := by
  obtain ⟨o0, e0, q0⟩ := h1
  have hh : L ∉ ρ.hid := fun hm => hn (mem_muts'.mpr (.inr hm))
  have x : Ext D ρ h ρ h' := Ext.sameButD hs hD hh (fun o e => by rw [e0] at e; cases e; exact q0) h2
  refine ⟨StH.mk (fun b o e => SameBut.get hs (S.base b o e) fun z => by rw [z, hb] at e; cases e) S.fresh (fun a ha => (let ⟨ob, e, c⟩ := S.hidc a ha; ⟨ob, x.held a ha ob e, c⟩)) S.nodup S.len fun i o p e e' => ?_, x⟩
  refine (S.objs i o p e e').mono x.vmon (fun ob q => SameBut.get hs q fun z => hn (z ▸ mem_muts e')) fun ob q qs => ⟨ob.slots, SameBut.get hs q fun z => ?_⟩
  rw [z, e0] at q; cases q; rw [q0] at qs; cases qs
theorem store_local {i : Nat} {x : PySem.Str} {v : V} {mv : Value} {Q : Unit → Shared → Prop} (ok : ActOk n a) (hsc : a.env.scope = sc) (S : St W ρ σ s) (F : FS W a fr ρ s.heap) (hi : i < W.nN) (hx : W.nm i = x) (hk : sc.names.lookup x = some .local)
    (r : VRep ρ s.heap v mv) (k : ∀ s', St W ρ σ s' → Ext [a.env.locals] ρ s.heap ρ s'.heap → FS W a (fset fr i v) ρ s'.heap → Q () s') : wpAny (model W.prog W.w) a.A (storeName a.env x mv) Q E s := by
  subst hx
  obtain ⟨m, hm, hv⟩ := F.ns
  have hmL := Ns.soft hm
  have hkk : a.env.kindOf (W.nm i) = some .local := by rw [← hsc] at hk; exact hk
  refine wpAny_storeName_local hkk hm (fun h' hn' hs => ?_) (by rw [ok.kind]; rfl)
  obtain ⟨S', x'⟩ := S.heap.own (D := [a.env.locals]) hs F.apartL F.baseL (by simp) hmL (Ns.soft hn')
  have cellK : ∀ y c, (y, c) ∈ a.env.cells → ∀ u, s.heap.IsCell c u → h'.IsCell c u := fun y c hy u hc => by
    obtain ⟨o, ho, hd⟩ := hc
    refine ⟨o, SameBut.get hs ho fun z => ?_, hd⟩
    obtain ⟨o2, _, _, ho2, hd2, _⟩ := hm
    rw [z, ho2] at ho; cases ho; rw [hd] at hd2; cases hd2
  refine k _ (St.mk S' S.gens S.os) x' ⟨F.live.ext x', ⟨_, hn', fun j u e => ?_⟩, F.apartL, F.baseL, fun y c hy => ?_, F.apart, F.laid⟩
  · rw [fset_lookup] at e
    by_cases hji : j = i
    · subst hji
      rw [if_pos rfl] at e; cases e
      refine ⟨hi, ?_⟩
      unfold VarAt
      rw [hkk]
      exact ⟨mv, by simp, r.mono x'⟩
    · rw [if_neg hji] at e
      obtain ⟨hj, rj⟩ := hv j u e
      refine ⟨hj, ?_⟩
      unfold VarAt at rj ⊢
      split at rj
      · obtain ⟨w, e1, e2⟩ := rj
        exact ⟨w, by show (if W.nm j = W.nm i then some mv else m (W.nm j)) = some w; rw [if_neg fun z => hji (W.inj _ _ hj hi z)]; exact e1, e2.mono x'⟩
      · obtain ⟨c, w, e1, e2, e3⟩ := rj; exact ⟨c, w, e1, cellK _ _ (mem_of_lookup e1) _ e2, e3.mono x'⟩
      · obtain ⟨c, w, e1, e2, e3⟩ := rj; exact ⟨c, w, e1, cellK _ _ (mem_of_lookup e1) _ e2, e3.mono x'⟩
      · exact rj.elim
  · obtain ⟨c1, c2, u, c3⟩ := F.cells y c hy
    exact ⟨c1, c2, u, cellK y c hy u c3⟩
theorem store_ok {i : Nat} {x : PySem.Str} {v : V} {mv : Value} {Q : Unit → Shared → Prop} (ok : ActOk n a) (hsc : a.env.scope = sc) (S : St W ρ σ s) (F : FS W a fr ρ s.heap) (hi : i < W.nN) (hx : W.nm i = x) (hk : Storable sc x = true)
    (r : VRep ρ s.heap v mv) (k : ∀ s', St W ρ σ s' → Ext a.D ρ s.heap ρ s'.heap → FS W a (fset fr i v) ρ s'.heap → Q () s') : wpAny (model W.prog W.w) a.A (storeName a.env x mv) Q E s := by
  subst hx
  obtain ⟨m, hm, hv⟩ := F.ns
  have hmL := Ns.soft hm
  simp only [Storable, Bool.or_eq_true, beq_iff_eq] at hk
  rcases hk with hk | hk
  · exact store_local ok hsc S F hi rfl hk r fun s' S' x' F' => k s' S' (x'.weaken (by simp [Act.D])) F'
  · have hkk : a.env.kindOf (W.nm i) = some .cell := by rw [← hsc] at hk; exact hk
    obtain ⟨c, hc⟩ := F.laid _ hkk
    have hmem := mem_of_lookup hc
    obtain ⟨c1, c2, u0, c3⟩ := F.cells _ _ hmem
    refine wpAny_storeName_cell ok.kind hkk hc c3 fun h' hc' hs => ?_
    obtain ⟨S', x'⟩ := S.heap.own (D := a.D) hs c1 c2 (by simp only [Act.D, List.mem_cons, List.mem_map]; exact .inr ⟨_, hmem, rfl⟩) (IsCell.soft c3) (IsCell.soft hc')
    have cellK : ∀ y d, (y, d) ∈ a.env.cells → d ≠ c → ∀ u, s.heap.IsCell d u → h'.IsCell d u := fun y d hy hne u hc => by
      obtain ⟨o, ho, hd⟩ := hc
      exact ⟨o, SameBut.get hs ho hne, hd⟩
    have nsK : h'.Ns a.env.locals m := by
      obtain ⟨o, es, ep, ho, hd, q⟩ := hm
      refine ⟨o, es, ep, SameBut.get hs ho fun z => ?_, hd, q⟩
      obtain ⟨o2, ho2, hd2⟩ := c3
      rw [z, ho2] at ho; cases ho; rw [hd] at hd2; cases hd2
    have other : ∀ y d, a.env.cells.lookup y = some d → y ≠ W.nm i → d ≠ c := by
      intro y d hy hne z
      subst z
      have h1 := mem_of_lookup hy
      obtain ⟨p1, e1⟩ := List.mem_iff_getElem.mp h1
      obtain ⟨p2, e2⟩ := List.mem_iff_getElem.mp hmem
      obtain ⟨l1, e1⟩ := e1
      obtain ⟨l2, e2⟩ := e2
      have ap := List.pairwise_iff_getElem.mp F.apart
      rcases Nat.lt_trichotomy p1 p2 with hlt | heq | hlt
      · have := ap p1 p2 l1 l2 hlt; rw [e1, e2] at this; exact this rfl
      · subst heq; rw [e1] at e2; exact hne (congrArg Prod.fst e2)
      · have := ap p2 p1 l2 l1 hlt; rw [e1, e2] at this; exact this rfl
    refine k _ (St.mk S' S.gens S.os) x' ⟨F.live.ext x', ⟨_, nsK, fun j u e => ?_⟩, F.apartL, F.baseL, fun y d hy => ?_, F.apart, F.laid⟩
    · rw [fset_lookup] at e
      by_cases hji : j = i
      · subst hji
        rw [if_pos rfl] at e; cases e
        refine ⟨hi, ?_⟩
        unfold VarAt
        rw [hkk]
        exact ⟨c, mv, hc, hc', r.mono x'⟩
      · rw [if_neg hji] at e
        obtain ⟨hj, rj⟩ := hv j u e
        refine ⟨hj, ?_⟩
        have hne : W.nm j ≠ W.nm i := fun z => hji (W.inj _ _ hj hi z)
        unfold VarAt at rj ⊢
        split at rj
        · obtain ⟨w, e1, e2⟩ := rj; exact ⟨w, e1, e2.mono x'⟩
        · obtain ⟨d, w, e1, e2, e3⟩ := rj; exact ⟨d, w, e1, cellK _ _ (mem_of_lookup e1) (other _ _ e1 hne) _ e2, e3.mono x'⟩
        · obtain ⟨d, w, e1, e2, e3⟩ := rj; exact ⟨d, w, e1, cellK _ _ (mem_of_lookup e1) (other _ _ e1 hne) _ e2, e3.mono x'⟩
        · exact rj.elim
    · obtain ⟨d1, d2, u, d3⟩ := F.cells y d hy
      by_cases hdc : d = c
      · subst hdc; exact ⟨d1, d2, _, hc'⟩
      · exact ⟨d1, d2, u, cellK y d hy hdc u d3⟩
theorem DenT.name {x : PySem.Str} {pos : Pos} {i : Nat} (hi : i < W.nN) (hx : W.nm i = x) (hk : Storable sc x = true) : DenT W n sc (.Name x pos) (tName i) := by
  intro a ok hsc ρ σ fr s S F v mv fr' r e Q E k
  cases e
  exact wpAny_assign_Name (store_ok ok hsc S F hi hx hk r k)
/-! passing on -/
theorem DenE.bindS {e : PySem.Expr} {f : ME V} (hE : DenE W n sc e f) (ok : ActOk n a) (hsc : a.env.scope = sc) (S : St W ρ σ s) (F : FS W a fr ρ s.heap)
    {k : V → MS} {QF : Flow → Shared → Prop} {Q : Value → Shared → Prop} {E : Value → Shared → Prop} (p : PostS W a ρ s (sBind f k fr σ) QF E)
    (h : ∀ v σ1 ρ1 s1 mv, St W ρ1 σ1 s1 → FS W a fr ρ1 s1.heap → Ext [] ρ s.heap ρ1 s1.heap → VRep ρ1 s1.heap v mv → PostS W a ρ1 s1 (k v fr σ1) QF E → Q mv s1) :
    wpAny (model W.prog W.w) a.A (eval e a.env) Q E s := by
  unfold sBind at p
  refine hE a ok hsc ρ σ fr s S F Q E ?_
  cases hf : f fr σ with
  | ok v σ1 => rw [hf] at p; exact fun ρ1 s1 S1 x1 mv r1 => h v σ1 ρ1 s1 mv S1 (F.ext x1) x1 r1 (PostS.step x1.of0 p)
  | exc c σ1 => rw [hf] at p; exact fun ρ' s' e B hfl x => p ρ' s' e B (.inl hfl) x.of0 (F.ext (x.ext (hfl.elim (·.2.2.1) (·.2.2.1))))
  | stuck => rw [hf] at p; exact p
theorem DenB.bindS {e : PySem.Expr} {f : ME Bool} (hE : DenB W n sc e f) (ok : ActOk n a) (hsc : a.env.scope = sc) (S : St W ρ σ s) (F : FS W a fr ρ s.heap)
    {k : Bool → MS} {QF : Flow → Shared → Prop} {Q : Bool → Shared → Prop} {E : Value → Shared → Prop} (p : PostS W a ρ s (sBind f k fr σ) QF E)
    (h : ∀ v σ1 ρ1 s1, St W ρ1 σ1 s1 → FS W a fr ρ1 s1.heap → Ext [] ρ s.heap ρ1 s1.heap → PostS W a ρ1 s1 (k v fr σ1) QF E → Q v s1) :
    wpAny (model W.prog W.w) a.A (isTrue e a.env (eval e a.env)) Q E s := by
  unfold sBind at p
  refine hE a ok hsc ρ σ fr s S F Q E ?_
  cases hf : f fr σ with
  | ok v σ1 => rw [hf] at p; exact fun ρ1 s1 S1 x1 => h v σ1 ρ1 s1 S1 (F.ext x1) x1 (PostS.step x1.of0 p)
  | exc c σ1 => rw [hf] at p; exact fun ρ' s' e B hfl x => p ρ' s' e B (.inl hfl) x.of0 (F.ext (x.ext (hfl.elim (·.2.2.1) (·.2.2.1))))
  | stuck => rw [hf] at p; exact p
theorem DenI.bindS {e : PySem.Expr} {f : ME (List V)} (hE : DenI W n sc e f) (ok : ActOk n a) (hsc : a.env.scope = sc) (S : St W ρ σ s) (F : FS W a fr ρ s.heap)
    {k : List V → MS} {QF : Flow → Shared → Prop} {Q : Value → Shared → Prop} {E : Value → Shared → Prop} (p : PostS W a ρ s (sBind f k fr σ) QF E)
    (h : ∀ vs σ1 ρ1 s1 it, St W ρ1 σ1 s1 → FS W a fr ρ1 s1.heap → Ext [] ρ s.heap ρ1 s1.heap → s.heap.get? it = none → it ∉ muts ρ1 → IterOk ρ1 s1.heap it vs → PostS W a ρ s (k vs fr σ1) QF E → Q (.ref it) s1) :
    wpAny (model W.prog W.w) a.A (eval e a.env) (fun x s1 => wpAny (model W.prog W.w) a.A (pyIter x) Q E s1) E s := by
  unfold sBind at p
  refine hE a ok hsc ρ σ fr s S F Q E ?_
  cases hf : f fr σ with
  | ok v σ1 => rw [hf] at p; exact fun ρ1 s1 S1 x1 it h0 hn hI => h v σ1 ρ1 s1 it S1 (F.ext x1) x1 h0 hn hI p
  | exc c σ1 => rw [hf] at p; exact fun ρ' s' e B hfl x => p ρ' s' e B (.inl hfl) x.of0 (F.ext (x.ext (hfl.elim (·.2.2.1) (·.2.2.1))))
  | stuck => rw [hf] at p; exact p
theorem DenSs.nil : DenSs W n sc [] sSkip := by
  intro a ok hsc ρ σ fr s S F Q E p
  exact wpAny_execs_nil (p ρ s S (.refl ..) F)
theorem DenSs.cons {st : Stmt} {sts : List Stmt} {f g : MS} (hf : DenS W n sc st f) (hg : DenSs W n sc sts g) : DenSs W n sc (st :: sts) (sSeq f g) := by
  intro a ok hsc ρ σ fr s S F Q E p
  unfold sSeq at p
  refine wpAny_execs_cons (hf a ok hsc ρ σ fr s S F _ E ?_)
  cases hr : f fr σ with
  | next fr' σ' => rw [hr] at p; exact fun ρ1 s1 S1 x1 F1 => hg a ok hsc ρ1 σ' fr' s1 S1 F1 Q E (PostS.step x1 p)
  | brk fr' σ' => rw [hr] at p; exact p
  | ret v σ' => rw [hr] at p; exact p
  | exc c fr' σ' => rw [hr] at p; exact p
  | stuck => rw [hr] at p; exact p
theorem DenSs.one {st : Stmt} {f : MS} (hf : DenS W n sc st f) : DenSs W n sc [st] f := by
  intro a ok hsc ρ σ fr s S F Q E p
  refine wpAny_execs_cons (hf a ok hsc ρ σ fr s S F _ E ?_)
  cases hr : f fr σ with
  | next fr' σ' => rw [hr] at p; exact fun ρ1 s1 S1 x1 F1 => wpAny_execs_nil (p ρ1 s1 S1 x1 F1)
  | brk fr' σ' => rw [hr] at p; exact p
  | ret v σ' => rw [hr] at p; exact p
  | exc c fr' σ' => rw [hr] at p; exact p
  | stuck => rw [hr] at p; exact p
theorem DenS.if_ {t : PySem.Expr} {b o : List Stmt} {pos : Pos} {ft : ME Bool} {f g : MS} (ht : DenB W n sc t ft) (hb : DenSs W n sc b f) (ho : DenSs W n sc o g) : DenS W n sc (.If t b o pos) (sIf ft f g) := by
  intro a ok hsc ρ σ fr s S F Q E p
  refine wpAny_If (ht.bindS ok hsc S F p fun v σ1 ρ1 s1 S1 F1 x1 p1 => ?_)
  cases v with
  | true => exact hb a ok hsc ρ1 σ1 fr s1 S1 F1 Q E p1
  | false => exact ho a ok hsc ρ1 σ1 fr s1 S1 F1 Q E p1
theorem DenS.ret {e : PySem.Expr} {pos : Pos} {f : ME V} (hf : DenE W n sc e f) : DenS W n sc (.Return (some e) pos) (sRet f) := by
  intro a ok hsc ρ σ fr s S F Q E p
  exact wpAny_Return_some (hf.bindS ok hsc S F p fun v σ1 ρ1 s1 mv S1 F1 x1 r1 p1 => p1 ρ1 s1 mv S1 (.refl ..) r1)
theorem DenS.retNone {pos : Pos} : DenS W n sc (.Return none pos) (sRet (ME.pure .none)) := by
  intro a ok hsc ρ σ fr s S F Q E p
  exact wpAny_Return_none (p ρ s .none S (.refl ..) .none)
theorem DenS.assign {x : PySem.Str} {tp pos : Pos} {e : PySem.Expr} {f : ME V} {i : Nat} (hf : DenE W n sc e f) (hi : i < W.nN) (hx : W.nm i = x) (hk : Storable sc x = true)
    (hs : ∀ env : Env, swapsWith e (some (.Name x tp)) pos.line env = pure false) : DenS W n sc (.Assign [.Name x tp] e pos) (sAssign (tName i) f) := by
  intro a ok hsc ρ σ fr s S F Q E p
  refine wpAny_Assign_Name (hf.bindS ok hsc S F p fun v σ1 ρ1 s1 mv S1 F1 x1 r1 p1 => ?_) (hs _)
  exact store_ok ok hsc S1 F1 hi hx hk r1 fun s' S' x' F' => p1 ρ1 s' S' x' F'
end
end Mine
/-! A16 -/
namespace Mine
open PySem PySem.W PyProof.Rows
section
variable {W : Wd}
theorem putName_isDict {name : PySem.Str} {tk : Tok} {v : Value} {o : Obj} {ks : List (PySem.Str × Value)} (d : o.IsDictOf (strKind W.prog W.w) ks) :
    (Obj.putName name (hashStr W.w name) (.str name tk) v o).IsDictOf (strKind W.prog W.w) (stored ks name v) ∧ softObj (Obj.putName name (hashStr W.w name) (.str name tk) v o) = true ∧
      (∃ es n, (Obj.putName name (hashStr W.w name) (.str name tk) v o).data = .dict es n ∧ es.size ≤ ks.length + 1) := by
  obtain ⟨es, ep, hc, hd, hk, hp, hn⟩ := d
  obtain ⟨c, dd, dt, sl⟩ := o
  simp only at hd
  subst hd
  rw [Obj.putName_eq]
  have hkey : (strKind W.prog W.w).is name (.str name tk) = true := strKind_is _ _ _ _
  have hfun : (fun e : DictEntry => e.key.isStr name) = fun e => (strKind W.prog W.w).is name e.key := by
    funext e
    show _ = Value.isStrOf name e.key
    cases e.key <;> rfl
  have hidx : (es.findIdx? fun e => (strKind W.prog W.w).is name e.key) = ks.findIdx? fun kv => decide (kv.1 = name) := by
    rw [← hp.findIdx name]; obtain ⟨l⟩ := es; simp
  have hlen : es.size = ks.length := by have := hp.length; simpa using this
  unfold Obj.putNameByArray
  simp only
  rw [hfun]
  cases hi : es.findIdx? fun e => (strKind W.prog W.w).is name e.key with
  | some i =>
    refine ⟨⟨_, _, hc, rfl, hk.modify _ _, ?_, ?_⟩, rfl, _, _, rfl, by simp [hlen]⟩
    · rw [stored, if_pos (any_of_findIdx_some (hidx ▸ hi))]
      have hl : (es.toList.findIdx? fun e => (strKind W.prog W.w).is name e.key) = some i := by rw [← hi]; obtain ⟨l⟩ := es; simp
      have := hp.modify hn hl v
      obtain ⟨l⟩ := es
      simpa using this
    · rw [stored, if_pos (any_of_findIdx_some (hidx ▸ hi)), keys_map_store]; exact hn
  | none =>
    have hnot : name ∉ ks.map (·.1) := not_mem_of_findIdx_none (hidx ▸ hi)
    have hany : ¬ (ks.any fun kv => decide (kv.1 = name)) = true := by
      rw [List.any_eq_true]; rintro ⟨kv, hkv, he⟩
      exact hnot (List.mem_map.mpr ⟨kv, hkv, of_decide_eq_true he⟩)
    refine ⟨⟨_, _, hc, rfl, hk.push hkey _, ?_, ?_⟩, rfl, _, _, rfl, by simp [hlen]⟩
    · rw [stored, if_neg hany]
      have := hp.append hkey (hashStr W.w name) v
      obtain ⟨l⟩ := es
      simpa using this
    · rw [stored, if_neg hany, List.map_append, List.nodup_append]
      refine ⟨hn, by simp, ?_⟩
      intro a ha b hb
      simp only [List.map_cons, List.map_nil, List.mem_singleton] at hb
      subst hb
      exact fun e => hnot (e ▸ ha)
theorem osa_own {A : Around} {s : Shared} {R : Result → Shared → Prop} {x C dx : Addr} {od : Obj} {sl : Array (Option Value)} {name : PySem.Str} {tk : Tok} {v : Value} {ks : List (PySem.Str × Value)} (X : W.K.In s.heap)
    (hx : s.heap.get? x = some ⟨.ref C, some dx, .plain, sl⟩) (hdx : s.heap.get? dx = some od) (d : od.IsDictOf (strKind W.prog W.w) ks) (hp : plainOver W.K C = true) (ht : takerIn W.K C name = some none) (hh : hasDictIn W.K C = true)
    (hz : ks.length ≤ 1000)
    (h : ∀ h' od', h'.get? dx = some od' → od'.IsDictOf (strKind W.prog W.w) (stored ks name v) → Heap.SameBut dx s.heap h' → R (.ok (.ret .none)) { s with heap := h', toks := s.toks + 1 }) :
    codeAny (model W.prog W.w) A (.call (.builtin "object.__setattr__") ⟨[.ref x, .str name tk, v], []⟩) R s := by
  have I : InstAt s.heap x ⟨.ref C, some dx, .plain, sl⟩ C (some od) := ⟨hx, rfl, rfl, hdx⟩
  refine osa_open X I hp ht fun b => ?_
  obtain ⟨cd, hc, hd'⟩ := any_some hh
  refine wpAny_bind (wpAny_pure (wpAny_bind (wpAny_bind (wpAny_loadPart hx (wpAny_bind ((looks_clsIn X hc).here ?_))))))
  rw [hd']
  refine wpAny_pure (a := some dx) (wpAny_bind (wpAny_pure (wpAny_bind ?_)))
  unfold nsSet
  refine wpAny_bind (wpAny_bind (wpAny_askSetting (wpAny_pure (wpAny_bind (wpAny_mkText (wpAny_bind (wpAny_loadPart hdx ?_)))))))
  obtain ⟨d', _, es', n', e', hz'⟩ := putName_isDict (W := W) (name := name) (tk := s.toks) (v := v) d
  have hl := lookIn_of (W := W) (name := name) d
  unfold lookIn at hl
  split at hl
  · rename_i es₀ n₀ q
    rw [q]
    dsimp only
    have c : (!es₀.any (·.key.isStr name) && es₀.any (·.refKey)) = false := by
      rw [← Array.any_toList, ← Array.any_toList]
      split at hl
      · rename_i en he
        rw [List.any_eq_true.mpr ⟨en, List.mem_of_find?_eq_some he, List.find?_some he⟩]; rfl
      · split at hl
        · cases hl
        · rename_i z; rw [Bool.not_eq_true] at z; rw [z, Bool.and_false]
    rw [aRefKeyMayBeTheName_at, c]
    have g' : (s.heap.update dx (Obj.putName name (hashStr W.w name) (.str name s.toks) v)).get? dx = some (Obj.putName name (hashStr W.w name) (.str name s.toks) v od) :=
      Heap.get?_update_self _ hdx (Obj.isFreed_of_dict e')
    refine wpAny_updatePart hdx ?_
    refine wpAny_bind (wpAny_lookBehind g' (by rw [e']; exact pastItsLine_dict (by rw [sizeLine_eq]; lia)) ?_)
    exact wpAny_pure (h _ _ g' d' (Heap.SameBut.update ..))
  · cases hl
end
noncomputable def fsetA (fs : List (Nat × V)) (x : Nat) (v : V) : List (Nat × V) := if fs.any (fun p => p.1 == x) then fs.map (fun p => if p.1 == x then (p.1, v) else p) else fs ++ [(x, v)]
structure ClsSet (W : Wd) (c : Nat) : Prop where
  set : findIn W.K (.ref (W.cls c)) "__setattr__" = some (some (.builtin "object.__setattr__"))
  plain : plainOver W.K (W.cls c) = true
  dict : hasDictIn W.K (W.cls c) = true
noncomputable def setAttrM (c x : Nat) (v u : V) (σ : Sto) : Option Sto := (instOf σ c v).bind fun p => if decide (p.2.length ≤ 1000) then some (σ.set p.1 (.inst c (fsetA p.2 x u))) else .none
noncomputable def sSetAttr (c x : Nat) (fo fv : ME V) : MS := sBind fv fun u => sBind fo fun o fr σ => match setAttrM c x o u σ with | some σ' => .next fr σ' | none => .stuck
noncomputable def setItemM (o i u : V) (σ : Sto) : Option Sto := match o with
  | .ref j => match σ[j]? with
    | some (.dict kd kvs) => if keyOk kd i && szOk kvs.length then some (σ.set j (.dict kd (dset kvs i u))) else .none
    | some (.list vs) => match i with
      | .int k => if decide (0 ≤ k) && decide (k < vs.length) && szOk vs.length then some (σ.set j (.list (vs.set k.toNat u))) else .none
      | _ => .none
    | _ => .none
  | _ => .none
noncomputable def sSetItem (fo fi fv : ME V) : MS := sBind fv fun u => sBind fo fun o => sBind fi fun i fr σ => match setItemM o i u σ with | some σ' => .next fr σ' | none => .stuck
section
variable {W : Wd} {n : Nat} {sc : Scope} {a : Act} {fr : Loc} {ρ ρ' : Rho} {σ : Sto} {h h' : Heap} {s s' : Shared} {D : List Addr} {E : Value → Shared → Prop}
theorem All2.fset {fs : List (Nat × V)} {ks : List (PySem.Str × Value)} {x : Nat} {v : V} {m : Value} (hx : x < W.nN) (al : All2 (fun kv km => (kv.1 < W.nN ∧ km.1 = W.nm kv.1) ∧ VRep ρ h kv.2 km.2) fs ks) (r : VRep ρ h v m) :
    All2 (fun kv km => (kv.1 < W.nN ∧ km.1 = W.nm kv.1) ∧ VRep ρ h kv.2 km.2) (fsetA fs x v) (stored ks (W.nm x) m) := by
  have key : ∀ (kv : Nat × V) (km : PySem.Str × Value), ((kv.1 < W.nN ∧ km.1 = W.nm kv.1) ∧ VRep ρ h kv.2 km.2) → (kv.1 == x) = decide (km.1 = W.nm x) := by
    intro kv km q
    rw [q.1.2]
    by_cases hk : kv.1 = x
    · rw [hk]; simp
    · have : W.nm kv.1 ≠ W.nm x := fun z => hk (W.inj _ _ q.1.1 hx z)
      simp [hk, this]
  have ha : fs.any (fun p => p.1 == x) = ks.any (fun km => decide (km.1 = W.nm x)) := by
    induction al with
    | nil => rfl
    | cons r _ ih => simp only [List.any_cons, ih, key _ _ r]
  unfold fsetA stored
  rw [ha]
  by_cases hb : ks.any (fun km => decide (km.1 = W.nm x)) = true
  · rw [if_pos hb, if_pos hb]
    clear ha hb
    induction al with
    | nil => exact .nil
    | @cons kv km as bs q _ ih =>
      simp only [List.map_cons]
      refine .cons ?_ ih
      rw [key _ _ q]
      by_cases hq : km.1 = W.nm x
      · simp only [hq, decide_true, if_true]; exact ⟨⟨q.1.1, by rw [← hq]; exact q.1.2⟩, r⟩
      · simp only [hq, decide_false, if_false]; exact q
  · rw [if_neg hb, if_neg hb]
    exact al.append (.cons ⟨⟨hx, rfl⟩, r⟩ .nil)
theorem setAttr_ok {c x : Nat} {o u : V} {mo mu : Value} {σ' : Sto} {Q : Unit → Shared → Prop} (hc : ClsSet W c) (hx : x < W.nN) (ht : takerIn W.K (W.cls c) (W.nm x) = some none) (S : St W ρ σ s) (ro : VRep ρ s.heap o mo) (ru : VRep ρ s.heap u mu)
    (e : setAttrM c x o u σ = some σ') (k : ∀ s', St W ρ σ' s' → Ext [] ρ s.heap ρ s'.heap → Q () s') : wpAny (model W.prog W.w) a.A (setAttr mo (W.nm x) mu) Q E s := by
  unfold setAttrM at e
  cases hio : instOf σ c o with
  | none => rw [hio] at e; cases e
  | some q =>
    obtain ⟨j, fs⟩ := q
    rw [hio, Option.bind_some] at e
    split at e
    · rename_i hz
      cases e
      have hz := of_decide_eq_true hz
      obtain ⟨pp, rfl, hp, hσ, rfl, sl, od, ks, g1, g2, d, al⟩ := inst_at S.heap ro hio
      have I : InstAt s.heap pp.1 ⟨.ref (W.cls c), some pp.2, .plain, sl⟩ (W.cls c) (some od) := ⟨g1, rfl, rfl, g2⟩
      have X := W.X.keeps S.heap.base
      refine set_plain X I hc.set (osa_own (s := { s with toks := s.toks + 1 }) X g1 g2 d hc.plain ht hc.dict (by rw [← al.length]; exact hz) fun h' od' g' d' hs => ?_)
      have x0 : Ext [] ρ s.heap ρ h' := Ext.sameBut hs (mem_muts hp) (S.heap.not_hid hp) ⟨_, g'⟩
      have hne : pp.1 ≠ pp.2 := fun z => by
        rw [z, g2] at g1; cases g1
        obtain ⟨_, _, _, hd, _⟩ := d
        cases hd
      obtain ⟨S', x'⟩ := S.set_ (tk := s.toks + 1 + 1) (o' := .inst c (fsetA fs x u)) hp hs ⟨⟨sl, SameBut.get hs g1 hne⟩, _, Heap.dictOf_iff.mpr ⟨_, g', d'⟩,
        All2.fset hx (al.mono fun _ _ q => ⟨q.1, q.2.mono x0⟩) (ru.mono x0)⟩
      exact k _ S' x'
    · cases e
theorem assign_attr {M : Model} {A : Around} {env : Env} {o : PySem.Expr} {x : PySem.Str} {ap : Pos} {v : Value} {Q : Flow → Shared → Prop} (h : wpAny M A (eval o env) (fun ov s2 => wpAny M A (PySem.setAttr ov x v) (fun _ => Q .next) E s2) E s) :
    wpAny M A (assignAll v ((assignEach [.Attribute o x ap] env).map (·.2))) (fun _ => Q .next) E s := by
  show wpAny M A (assign (.Attribute o x ap) env v) (fun _ => Q .next) E s
  rw [arm_assign_Attribute]
  refine wpAny_bind (wpAny_holding (wpAny_mono h (fun ov s2 h2 => wpAny_bind (wpAny_standAt (wpAny_bind (wpAny_holding (wpAny_mono h2 (fun _ s3 h3 => wpAny_release h3) fun _ _ x => x))))) fun _ _ x => x))
theorem DenS.setAttr {o e : PySem.Expr} {x : PySem.Str} {ap pos : Pos} {c i : Nat} {fo fv : ME V} (ho : DenE W n sc o fo) (hv : DenE W n sc e fv) (hc : ClsSet W c) (hi : i < W.nN) (hx : W.nm i = x) (ht : takerIn W.K (W.cls c) x = some none)
    (hs : ∀ env : Env, swapsWithSole [.Attribute o x ap] e pos.line env = pure false) (hw : ∀ env : Env, swappedStores [.Attribute o x ap] e env = pure none) :
    DenS W n sc (.Assign [.Attribute o x ap] e pos) (sSetAttr c i fo fv) := by
  intro a ok hsc ρ σ fr s S F Q E p
  subst hx
  refine wpAny_Assign_stores (hv.bindS ok hsc S F p fun u σ1 ρ1 s1 mu S1 F1 x1 r1 p1 => ?_) (hs _) (hw _)
  refine assign_attr (ho.bindS ok hsc S1 F1 p1 fun v σ2 ρ2 s2 mv S2 F2 x2 r2 p2 => ?_)
  cases hm : setAttrM c i v u σ2 with
  | none => rw [hm] at p2; exact p2.elim
  | some σ' =>
    rw [hm] at p2
    exact setAttr_ok hc hi ht S2 r2 (r1.mono x2) hm fun s' S' x' => p2 ρ2 s' S' x'.of0 (F2.ext x')
theorem setItem_list_exact {l : Addr} {items : Array Value} {n : Nat} {k : Int} {t : Tok} {v : Value} {Q : Unit → Shared → Prop} {A : Around} {prog : Program} {w : World} (ho : s.heap.get? l = some ⟨.type "list", none, .seq items n, #[]⟩)
    (h0 : 0 ≤ k) (hfit : k < 2 ^ 63) (hn : k < items.size)
    (hQ : Q () { s with heap := s.heap.update l (Obj.mapSeq (·.setIfInBounds k.toNat v)) }) :
    wpAny (model prog w) A (setItem (.ref l) (.int k t) v) Q E s := by
  have hl : s.heap.IsList l items := ⟨_, ho, rfl, n, rfl⟩
  unfold setItem
  try with_reducible refine wpAny_holding ?_
  first | refine wpAny_bind (wpAny_pure ?_) | skip
  refine wpAny_bind (wpAny_sequenceKey hl.typeIs (by decide) ?_)
  refine wpAny_bind (wpAny_callSpecial?_slot (name := Str.ofString "__setitem__") hl.typeIs slot_list_setitem
    (wpAny_call_entry slot_list_setitem hl.typeIs entry_list_setitem ?_ (args_list_setitem _ _ _)))
  show wpAny _ _ (Builtin.List.listSubscript? (.int k t) >>= _) _ _ s
  refine wpAny_bind (wpAny_listSubscript_int (fitsIndex_of h0 hfit) ?_)
  clear hfit
  obtain ⟨j, rfl⟩ := Int.eq_ofNat_of_zero_le h0
  have hj : j < items.size := by lia
  have hx' : items[j]? = some items[j] := Array.getElem?_eq_getElem hj
  show wpAny _ _ ((seqItemAt l j >>= fun r => pure (r.map (j, ·))) >>= _) _ _ s
  refine wpAny_bind (wpAny_bind (wpAny_seqItemAt ho rfl (wpAny_pure ?_)))
  rw [hx']
  show wpAny _ _ (setSeqItemAt l j v >>= _) _ _ s
  refine wpAny_bind (wpAny_setSeqItemAt ho rfl ?_)
  first
    | exact wpAny_bind (wpAny_pure (wpAny_pure ⟨.none, rfl, wpAny_pure hQ⟩))
    | exact wpAny_pure ⟨.none, rfl, wpAny_pure hQ⟩
theorem VReps.set {vs : List V} {ms : List Value} (r : VReps ρ h vs ms) (j : Nat) {v : V} {m : Value} (rv : VRep ρ h v m) : VReps ρ h (vs.set j v) (ms.set j m) := by
  induction j generalizing vs ms with
  | zero => cases r with
    | nil => exact .nil
    | cons a b => exact .cons rv b
  | succ j ih => cases r with
    | nil => exact .nil
    | cons a b => exact .cons a (ih b)
theorem setItem_ok {o i u : V} {mo mi mu : Value} {σ' : Sto} {Q : Unit → Shared → Prop} (ok : ActOk n a) (S : St W ρ σ s) (ro : VRep ρ s.heap o mo) (ri : VRep ρ s.heap i mi) (ru : VRep ρ s.heap u mu)
    (e : setItemM o i u σ = some σ') (k : ∀ s', St W ρ σ' s' → Ext [] ρ s.heap ρ s'.heap → Q () s') : wpAny (model W.prog W.w) a.A (setItem mo mi mu) Q E s := by
  unfold setItemM at e
  split at e
  · rename_i j
    obtain ⟨p, hp, rfl⟩ := ro.ref_inv
    split at e
    · rename_i kd kvs hσ
      split at e
      · rename_i hz
        cases e
        simp only [Bool.and_eq_true] at hz
        exact dset_set (by have := ok.units; lia) S hσ hp ri ru hz.1 hz.2 fun s' _ S' x' => k s' S' x'
      · cases e
    · rename_i vs hσ
      split at e
      · rename_i kk
        split at e
        · rename_i hz
          cases e
          simp only [Bool.and_eq_true, decide_eq_true_eq] at hz
          cases ri
          obtain ⟨e1, ms, n, g, q⟩ := S.heap.objs _ _ _ hσ hp
          have hsz : vs.length = ms.size := by rw [q.length]; simp
          have := of_decide_eq_true hz.2
          rw [e1]
          refine setItem_list_exact g hz.1.1 (by lia) (by rw [← hsz]; exact hz.1.2) ?_
          obtain ⟨S', x'⟩ := list_set (tk := s.toks) (g := fun xs => xs.setIfInBounds kk.toNat mu) (ws := vs.set kk.toNat u) S hp e1 g (by rw [Array.toList_setIfInBounds]; exact VReps.set q _ ru)
          exact k _ S' x'
        · cases e
      · cases e
    · cases e
  · cases e
theorem DenS.setItem {o i e : PySem.Expr} {tp pos : Pos} {fo fi fv : ME V} (ho : DenE W n sc o fo) (hi : DenE W n sc i fi) (hv : DenE W n sc e fv)
    (hs : ∀ env : Env, swapsWith e (some (.Subscript o i tp)) pos.line env = pure false) : DenS W n sc (.Assign [.Subscript o i tp] e pos) (sSetItem fo fi fv) := by
  intro a ok hsc ρ σ fr s S F Q E p
  refine wpAny_Assign_Subscript (hv.bindS ok hsc S F p fun u σ1 ρ1 s1 mu S1 F1 x1 r1 p1 => ?_) (hs _)
  refine ho.bindS ok hsc S1 F1 p1 fun v σ2 ρ2 s2 mv S2 F2 x2 r2 p2 => ?_
  refine hi.bindS ok hsc S2 F2 p2 fun w σ3 ρ3 s3 mw S3 F3 x3 r3 p3 => ?_
  cases hm : setItemM v w u σ3 with
  | none => rw [hm] at p3; exact p3.elim
  | some σ' =>
    rw [hm] at p3
    exact setItem_ok ok S3 (r2.mono x3) r3 (r1.mono (x2.trans x3)) hm fun s' S' x' => p3 ρ3 s' S' x'.of0 (F3.ext x')
end
end Mine
/-! A17 -/
namespace Mine
open PySem PySem.W PyProof.Rows
noncomputable def V.isRef : V → Bool
  | .ref _ => true | .tup _ => true | .list _ => true | _ => false
noncomputable def sExprV (f : ME V) : MS := sBind f fun v fr σ => if v.isRef then .stuck else .next fr σ
noncomputable def whileM (t : ME Bool) (body : MS) : Nat → MS
  | 0, _, _ => .stuck
  | k + 1, fr, σ => match t fr σ with
    | .ok true σ1 => (match body fr σ1 with
      | .next fr2 σ2 => whileM t body k fr2 σ2
      | .brk fr2 σ2 => .next fr2 σ2
      | .ret v σ2 => .ret v σ2
      | .exc _ _ _ => .stuck
      | .stuck => .stuck)
    | .ok false σ1 => .next fr σ1
    | .exc _ _ => .stuck
    | .stuck => .stuck
noncomputable def sWhile (k : Nat) (t : ME Bool) (body : MS) : MS := whileM t body k
noncomputable def sUnpack (t : Tgt) (f : ME V) : MS := sBind f fun v fr σ => match t v fr with | some fr' => .next fr' σ | none => .stuck
/-- the stores exchanged -/
noncomputable def tSwap (is : List Nat) : Tgt := fun v fr => (iterV v).bind fun vs => if vs.length = is.length then some (((is.zip vs).reverse).foldl (fun fr p => fset fr p.1 p.2) fr) else none
section
variable {W : Wd} {n : Nat} {sc : Scope} {a : Act} {fr : Loc} {ρ ρ' : Rho} {σ : Sto} {h h' : Heap} {s s' : Shared} {D : List Addr} {E : Value → Shared → Prop}
theorem not_inter (ok : ActOk n a) : interactive a.env = false := by unfold interactive; rw [ok.kind]; rfl
theorem DenS.expr {e : PySem.Expr} {pos : Pos} {f : ME V} (hf : DenE W n sc e f) (hs : ∀ env : Env, swapsWith e none pos.line env = pure false) : DenS W n sc (.Expr e pos) (sExprV f) := by
  intro a ok hsc ρ σ fr s S F Q E p
  refine wpAny_Expr (hf.bindS ok hsc S F p fun v σ1 ρ1 s1 mv S1 F1 x1 r1 p1 => ?_) (not_inter ok) (hs _)
  by_cases hr : v.isRef = true
  · rw [if_pos hr] at p1; exact p1.elim
  · rw [if_neg hr] at p1
    have := p1 ρ1 s1 S1 (.refl ..) F1
    cases r1 <;> first | exact this | exact (hr rfl).elim
/-- for -/
theorem loop_ok {tgt : PySem.Expr} {t : Tgt} {body : List Stmt} {fb : MS} (ht : DenT W n sc tgt t) (hb : DenSs W n sc body fb) (ok : ActOk n a) (hsc : a.env.scope = sc) (it : Addr) (s0 : Shared) (ρ0 : Rho) (hit0 : s0.heap.get? it = none) (hbase : W.h₀.get? it = none)
    (hlet : ∀ v, letOwnedTupleGo tgt (.ref it) v = pure ()) {Q : Flow → Shared → Prop} {R : Result → Shared → Prop}
    (hR : ∀ f s', Q f s' → R (.ok f) s') {vs0 : List V} {fr0 : Loc} {σ0 : Sto} {s1 : Shared} {ρ1 : Rho} (S1 : St W ρ1 σ0 s1) (F1 : FS W a fr0 ρ1 s1.heap) (x1 : Ext a.D ρ0 s0.heap ρ1 s1.heap) (hn1 : it ∉ muts ρ1) (I1 : IterOk ρ1 s1.heap it vs0)
    (p : PostS W a ρ0 s0 (loopM t fb vs0 fr0 σ0) Q E) :
    codeAny (model W.prog W.w) a.A (.forLoop tgt (.ref it) body [] a.env) R s1 := by
  refine codeAny_forLoop (fun k s => ∃ vs fr σ ρ, k = vs.length ∧ St W ρ σ s ∧ FS W a fr ρ s.heap ∧ Ext a.D ρ0 s0.heap ρ s.heap ∧ it ∉ muts ρ ∧ IterOk ρ s.heap it vs ∧ PostS W a ρ0 s0 (loopM t fb vs fr σ) Q E)
    ?_ vs0.length ⟨vs0, fr0, σ0, ρ1, rfl, S1, F1, x1, hn1, I1, p⟩ hlet
  rintro k s ⟨vs, fr, σ, ρ, rfl, S, F, x, hn, I, p⟩
  cases vs with
  | nil =>
    refine next_end ok.hand I fun h' sd => wpAny_execs_nil ?_
    exact hR _ _ (p ρ _ (S.side (tk := s.toks) sd hbase) (x.side (fun b o hne e => sd.same b o hne e) hit0) (F.side sd))
  | cons v vs =>
    refine next_item I fun h' tk mv I' sd rv => ?_
    have S' := S.side (tk := tk) sd hbase
    have F' := F.side sd
    have x' : Ext a.D ρ0 s0.heap ρ h' := x.side (fun b o hne e => sd.same b o hne e) hit0
    unfold loopM at p
    cases hf : t v fr with
    | none => rw [hf] at p; exact p.elim
    | some fr1 =>
      rw [hf] at p
      simp only at p
      refine ht a ok hsc ρ σ fr _ S' F' v mv fr1 rv hf _ _ fun s2 S2 x2 F2 => ?_
      have I2 := I'.ext hn x2
      have n2 : it ∉ muts ρ := hn
      refine hb a ok hsc ρ σ fr1 s2 S2 F2 _ _ ?_
      cases hr : fb fr1 σ with
      | next fr2 σ2 =>
        rw [hr] at p
        obtain ⟨oi, hoi, _⟩ := I2.fields
        exact fun ρ3 s3 S3 x3 F3 => ⟨vs.length, by simp, vs, fr2, σ2, ρ3, rfl, S3, F3, (x'.trans x2).trans x3, x3.notin hoi hn, I2.ext hn x3, p⟩
      | brk fr2 σ2 => rw [hr] at p; exact fun ρ3 s3 S3 x3 F3 => hR _ _ (p ρ3 s3 S3 ((x'.trans x2).trans x3) F3)
      | ret v σ2 => rw [hr] at p; exact fun ρ3 s3 mv S3 x3 r3 => hR _ _ (p ρ3 s3 mv S3 ((x'.trans x2).trans x3) r3)
      | exc c fr2 σ2 => rw [hr] at p; exact p.elim
      | stuck => rw [hr] at p; exact p.elim
theorem DenS.for_ {tgt it : PySem.Expr} {body : List Stmt} {pos : Pos} {t : Tgt} {fi : ME (List V)} {fb : MS} (ht : DenT W n sc tgt t) (hi : DenI W n sc it fi) (hb : DenSs W n sc body fb)
    (hlet : ∀ v w, letOwnedTupleGo tgt w v = pure ()) (hs : ∀ (env : Env) x, foldedSetIterable it env x = pure x) : DenS W n sc (.For tgt it body [] pos) (sFor t fi fb) := by
  intro a ok hsc ρ σ fr s S F Q E p
  refine wpAny_For (hi.bindS ok hsc S F p fun vs σ1 ρ1 s1 ita S1 F1 x1 h0 hn I p1 => ?_) (hs _)
  have hbase : W.h₀.get? ita = none := by
    cases z : W.h₀.get? ita with
    | none => rfl
    | some o => have := S.heap.base _ _ z; rw [h0] at this; cases this
  exact loop_ok ht hb ok hsc ita s ρ h0 hbase (fun v => hlet v _) (fun f s' h => h) S1 F1 x1.of0 hn I p1
theorem DenS.while_ {t : PySem.Expr} {body : List Stmt} {pos : Pos} {ft : ME Bool} {fb : MS} (k : Nat) (ht : DenB W n sc t ft) (hb : DenSs W n sc body fb) : DenS W n sc (.While t body [] pos) (sWhile k ft fb) := by
  intro a ok hsc ρ0 σ0 fr0 s0 S0 F0 Q E p
  refine wpAny_While (codeAny_whileLoop (fun k s => ∃ fr σ ρ, St W ρ σ s ∧ FS W a fr ρ s.heap ∧ Ext a.D ρ0 s0.heap ρ s.heap ∧ PostS W a ρ0 s0 (whileM ft fb k fr σ) Q E) ?_ k ⟨fr0, σ0, ρ0, S0, F0, .refl .., p⟩)
  rintro k s ⟨fr, σ, ρ, S, F, x, p⟩
  cases k with
  | zero => exact p.elim
  | succ k =>
    unfold whileM at p
    refine ht a ok hsc ρ σ fr s S F _ _ ?_
    cases hf : ft fr σ with
    | exc c σ1 => rw [hf] at p; exact p.elim
    | stuck => rw [hf] at p; exact p.elim
    | ok b σ1 =>
      rw [hf] at p
      intro ρ1 s1 S1 x1
      have F1 := F.ext x1
      have x1' := x.trans (x1.of0 (D := a.D))
      cases b with
      | false => exact wpAny_execs_nil (p ρ1 s1 S1 x1' F1)
      | true =>
        refine hb a ok hsc ρ1 σ1 fr s1 S1 F1 _ _ ?_
        cases hr : fb fr σ1 with
        | next fr2 σ2 => simp only [hr] at p; exact fun ρ3 s3 S3 x3 F3 => ⟨k, Nat.lt_succ_self k, fr2, σ2, ρ3, S3, F3, x1'.trans x3, p⟩
        | brk fr2 σ2 => simp only [hr] at p; exact fun ρ3 s3 S3 x3 F3 => p ρ3 s3 S3 (x1'.trans x3) F3
        | ret v σ2 => simp only [hr] at p; exact fun ρ3 s3 mv S3 x3 r3 => p ρ3 s3 mv S3 (x1'.trans x3) r3
        | exc c fr2 σ2 => simp only [hr] at p; exact p.elim
        | stuck => simp only [hr] at p; exact p.elim
end
end Mine
/-! A18 -/
namespace Mine
open PySem PySem.W PyProof.Rows
section
variable {prog : Program} {w : World} {A : Around} {E : Value → Shared → Prop} {s : Shared}
theorem draw_list {it t : Addr} {items : Array Value} (hne : t ≠ it) : ∀ (n i : Nat) (s : Shared) (Q : List Value → Shared → Prop), s.heap.IsListIter it t i → s.heap.IsList t items → i + n ≤ items.size →
    (∀ h', h'.IsListIter it t (i + n) → Heap.SameBut it s.heap h' → Q ((items.toList.drop i).take n) { s with heap := h' }) → wpAny (model prog w) A (draw (.ref it) n) Q E s
  | 0, i, s, Q, hit, _, _, hQ => by
    show wpAny _ _ (pure []) Q E s
    exact wpAny_pure (by simpa using hQ s.heap hit (Heap.SameBut.refl ..))
  | n + 1, i, s, Q, hit, ht, hle, hQ => by
    have hlt : i < items.size := by lia
    show wpAny _ _ (pyNext (.ref it) >>= _) Q E s
    refine wpAny_bind (wpAny_pyNext_list_item hit ht (x := items[i]) (by simp [hlt]) fun h₁ hit₁ hs₁ => ?_)
    refine wpAny_bind (wpAny_holding (draw_list hne n (i + 1) _ _ hit₁ (ht.extBut hs₁.extBut hne) (by lia) fun h₂ hit₂ hs₂ => wpAny_pure ?_))
    have hd : items.toList.drop i = items[i] :: items.toList.drop (i + 1) := by simp [List.drop_eq_getElem_cons, hlt]
    have := hQ h₂ (by rw [show i + (n + 1) = i + 1 + n by lia]; exact hit₂) (hs₁.trans hs₂)
    rw [hd, List.take_succ_cons] at this
    exact this
theorem unpackItems_list {t : Addr} {items : Array Value} {Q : List Value → Shared → Prop} (hh : A.handled = none) (ht : s.heap.IsList t items)
    (hQ : ∀ h', Heap.ExtBut s.heap.objs.size s.heap h' → Q items.toList { s with heap := h' }) : wpAny (model prog w) A (unpackItems (.ref t) items.size none) Q E s := by
  have hlt : t ≠ s.heap.objs.size := by obtain ⟨o, ho, _⟩ := ht; exact Nat.ne_of_lt (Heap.lt_size ho)
  unfold unpackItems
  refine wpAny_bind ?_
  · unfold notIterableAtAll
    refine wpAny_bind (wpAny_specialOf ht.typeIs slot_list_iter.lookup ?_)
    refine wpAny_pure ?_
    simp only [Bool.false_eq_true, if_false]
    refine wpAny_bind (wpAny_holding (wpAny_pyIter_list ht ?_))
    refine wpAny_bind (wpAny_holding (draw_list hlt items.size 0 _ _ ⟨_, Heap.get?_push_size _ rfl, rfl, rfl⟩ (ht.push _) (by lia) fun h₁ hit₁ hs₁ => ?_))
    have hall : List.take items.size (List.drop 0 items.toList) = items.toList := by
      rw [List.drop_zero]; exact List.take_of_length_le (by simp)
    rw [hall]
    rw [if_neg (by simp)]
    have ht₁ : h₁.IsList t items := (ht.push _).extBut hs₁.extBut hlt
    refine wpAny_bind (wpAny_holding (wpAny_pyNext_list_end hh hit₁ ht₁ (by simp) fun h₂ he₂ => ?_))
    simp only [Option.isSome_none, Bool.false_eq_true, if_false]
    refine wpAny_pure (hQ h₂ fun b o hb e => he₂ b o hb (hs₁.extBut b o hb (Heap.get?_push_of_some _ e)))
end
noncomputable def seqV (v : V) : Option (List V) := match v with | .list vs => some vs | .tup vs => some vs | _ => .none
noncomputable def tTuple (is : List Nat) : Tgt := fun v fr => (seqV v).bind fun vs => if vs.length = is.length then some ((is.zip vs).foldl (fun fr p => fset fr p.1 p.2) fr) else none
noncomputable def tSwapped (is : List Nat) : Tgt := fun v fr => (seqV v).bind fun vs => if vs.length = is.length then some ((is.reverse.zip vs.reverse).foldl (fun fr p => fset fr p.1 p.2) fr) else none
section
variable {W : Wd} {n : Nat} {sc : Scope} {a : Act} {fr : Loc} {ρ ρ' : Rho} {σ : Sto} {h h' : Heap} {s s' : Shared} {D : List Addr} {E : Value → Shared → Prop}
theorem unpack_ok {v : V} {mv : Value} {vs : List V} {k : Nat} {Q : List Value → Shared → Prop} (ok : ActOk n a) (S : St W ρ σ s) (r : VRep ρ s.heap v mv) (e : seqV v = some vs) (hk : vs.length = k)
    (hQ : ∀ s' ms, St W ρ σ s' → Ext [] ρ s.heap ρ s'.heap → VReps ρ s'.heap vs ms → Q ms s') : wpAny (model W.prog W.w) a.A (unpackItems mv k none) Q E s := by
  subst hk
  have keep : ∀ h' : Heap, Heap.ExtBut s.heap.objs.size s.heap h' → ∀ b o, s.heap.get? b = some o → h'.get? b = some o := fun h' x b o e => x b o (Nat.ne_of_lt (Heap.lt_size e)) e
  unfold seqV at e
  split at e
  · cases e
    cases r with
    | @list _ l o ms kk ho hc hd hn r =>
    have : vs.length = ms.size := by rw [r.length]; simp
    rw [this]
    refine unpackItems_list ok.hand ⟨o, ho, hc, kk, hd⟩ fun h' x => ?_
    obtain ⟨S', x'⟩ := S.kept (tk := s.toks) (keep h' x)
    exact hQ _ _ S' x' (r.mono x')
  · cases e
    cases r with
    | @tup _ l o ms kk ho hc hd hn r =>
    have : vs.length = ms.size := by rw [r.length]; simp
    rw [this]
    refine wpAny_unpackItems_tuple ok.hand ⟨o, ho, hc, kk, hd⟩ fun h' x => ?_
    obtain ⟨S', x'⟩ := S.kept (tk := s.toks) (keep h' x)
    exact hQ _ _ S' x' (r.mono x')
  · cases e
noncomputable def NamesOk (W : Wd) (sc : Scope) (is : List Nat) : Prop := ∀ i ∈ is, i < W.nN ∧ Storable sc (W.nm i) = true
noncomputable def StoreLike (W : Wd) (env : Env) (i : Nat) (st : Value → Sem Unit) : Prop := ∀ (A : Around) (E : Value → Shared → Prop) (mv : Value) (Q : Unit → Shared → Prop) (s : Shared), wpAny (model W.prog W.w) A (storeName env (W.nm i) mv) Q E s → wpAny (model W.prog W.w) A (st mv) Q E s
theorem stores_ok : ∀ (is : List Nat) (sts : List (Value → Sem Unit)) (vs : List V) (ms : List Value) (fr : Loc) (s : Shared), ActOk n a → a.env.scope = sc → NamesOk W sc is → All2 (StoreLike W a.env) is sts → vs.length = is.length → St W ρ σ s → FS W a fr ρ s.heap → VReps ρ s.heap vs ms →
    ∀ (Q : Unit → Shared → Prop), (∀ s', St W ρ σ s' → Ext a.D ρ s.heap ρ s'.heap → FS W a ((is.zip vs).foldl (fun fr p => fset fr p.1 p.2) fr) ρ s'.heap → Q () s') → wpAny (model W.prog W.w) a.A (assignInOrder sts ms) Q E s
  | [], _, [], ms, fr, s, ok, hsc, hN, .nil, hl, S, F, r, Q, k => by
    cases r
    exact wpAny_pure (k s S (.refl ..) F)
  | i :: is, _, v :: vs, _, fr, s, ok, hsc, hN, .cons (b := st) (bs := sts) hst hsts, hl, S, F, .cons (m := m) (ms := ms) r1 r2, Q, k => by
    have h1 := hN i (by simp)
    unfold assignInOrder
    refine wpAny_bind (wpAny_holding (hst _ _ m _ s (store_ok ok hsc S F h1.1 rfl h1.2 r1 fun s1 S1 x1 F1 => ?_)))
    exact stores_ok is sts vs ms _ s1 ok hsc (fun j hj => hN j (by simp [hj])) hsts (by simpa using hl) S1 F1 (r2.mono x1) Q fun s2 S2 x2 F2 => k s2 S2 (x1.trans x2) F2
  | [], _, _ :: _, _, _, _, _, _, _, _, hl, _, _, _, _, _ => by cases hl
  | _ :: _, _, [], _, _, _, _, _, _, _, hl, _, _, _, _, _ => by cases hl
theorem StoreLike.name {env : Env} {x : PySem.Str} {p : Pos} {i : Nat} (hx : W.nm i = x) : StoreLike W env i (assign (.Name x p) env) := by
  intro A E mv Q s h; subst hx; exact wpAny_assign_Name h
theorem StoreLike.bind {env : Env} {x : PySem.Str} {i : Nat} (hx : W.nm i = x) : StoreLike W env i (fun v => bindName env x v) := by
  intro A E mv Q s h; subst hx; exact wpAny_bindName h
theorem DenT.tuple {elts : List PySem.Expr} {k : Nat} {pos : Pos} {is : List Nat} (hN : NamesOk W sc is) (hA : ∀ env : Env, All2 (StoreLike W env) is ((assignEach elts env).map (·.2)))
    (hstar : ∀ env : Env, (assignEach elts env).findIdx? (·.1) = none) : DenT W n sc (.Tuple elts k pos) (tTuple is) := by
  intro a ok hsc ρ σ fr s S F v mv fr' r e Q E k'
  unfold tTuple at e
  cases hv : seqV v with
  | none => rw [hv] at e; cases e
  | some vs =>
    rw [hv, Option.bind_some] at e
    split at e
    · rename_i hl
      cases e
      have hlen : (assignEach elts a.env).length = is.length := by
        have := (hA a.env).length
        simpa using this.symm
      rw [arm_assign_Tuple]
      refine wpAny_bind (wpAny_standAt ?_)
      unfold unpack
      rw [hlen, hstar]
      refine wpAny_bind (wpAny_holding (unpack_ok ok S r hv hl fun s1 ms S1 x1 r1 => ?_))
      exact stores_ok is _ vs ms fr s1 ok hsc hN (hA _) hl S1 (F.ext x1) r1 Q fun s2 S2 x2 F2 => k' s2 S2 (x1.of0.trans x2) F2
    · cases e
theorem DenS.unpack {elts : List PySem.Expr} {k : Nat} {tp pos : Pos} {e : PySem.Expr} {f : ME V} {t : Tgt} (ht : DenT W n sc (.Tuple elts k tp) t) (hf : DenE W n sc e f)
    (hs : ∀ env : Env, swapsWithSole [.Tuple elts k tp] e pos.line env = pure false) (hw : ∀ env : Env, env.scope = sc → swappedStores [.Tuple elts k tp] e env = pure none) :
    DenS W n sc (.Assign [.Tuple elts k tp] e pos) (sUnpack t f) := by
  intro a ok hsc ρ σ fr s S F Q E p
  refine Assign_Tuple (hf.bindS ok hsc S F p fun v σ1 ρ1 s1 mv S1 F1 x1 r1 p1 => ?_) (hs _) (hw _ hsc)
  cases hm : t v fr with
  | none => rw [hm] at p1; exact p1.elim
  | some fr' =>
    rw [hm] at p1
    exact ht a ok hsc ρ1 σ1 fr s1 S1 F1 v mv fr' r1 hm _ _ fun s' S' x' F' => p1 ρ1 s' S' x' F'
theorem All2.map_left {α β γ : Type} {R : β → γ → Prop} {f : α → β} {as : List α} {bs : List γ} (r : All2 (fun a b => R (f a) b) as bs) : All2 R (as.map f) bs := by
  induction r with
  | nil => exact .nil
  | cons h _ ih => exact .cons h ih
theorem VReps.reverse {vs : List V} {ms : List Value} (r : VReps ρ h vs ms) : VReps ρ h vs.reverse ms.reverse := by
  have key : ∀ {vs : List V} {ms : List Value}, VReps ρ h vs ms → ∀ {us : List V} {ns : List Value}, VReps ρ h us ns → VReps ρ h (vs.reverseAux us) (ms.reverseAux ns) := by
    intro vs
    induction vs with
    | nil => intro ms r us ns q; cases r; exact q
    | cons v vs ih => intro ms r us ns q; cases r with | cons a b => exact ih b (.cons a q)
  exact key r .nil
theorem DenS.unpackSwapped {elts : List PySem.Expr} {k : Nat} {tp pos : Pos} {e : PySem.Expr} {f : ME V} {is : List Nat} (hf : DenE W n sc e f) (hN : NamesOk W sc is)
    (hs : ∀ env : Env, swapsWithSole [.Tuple elts k tp] e pos.line env = pure false) (hw : ∀ env : Env, env.scope = sc → swappedStores [.Tuple elts k tp] e env = pure (some (is.map W.nm))) :
    DenS W n sc (.Assign [.Tuple elts k tp] e pos) (sUnpack (tSwapped is) f) := by
  intro a ok hsc ρ σ fr s S F Q E p
  refine Assign_Tuple_swapped (names := is.map W.nm) (hf.bindS ok hsc S F p fun v σ1 ρ1 s1 mv S1 F1 x1 r1 p1 => ?_) (hs _) (hw _ hsc)
  unfold tSwapped at p1
  cases hv : seqV v with
  | none => rw [hv] at p1; exact p1.elim
  | some vs =>
    rw [hv, Option.bind_some] at p1
    by_cases hl : vs.length = is.length
    · rw [if_pos hl] at p1
      refine unpack_ok ok S1 r1 hv (by simpa using hl) fun s2 ms S2 x2 r2 => ?_
      refine stores_ok is.reverse _ vs.reverse ms.reverse fr s2 ok hsc (fun i hi => hN i (by simpa using hi)) ?_ (by simpa using hl) S2 (F1.ext x2) r2.reverse _ fun s3 S3 x3 F3 => p1 ρ1 s3 S3 (x2.of0.trans x3) F3
      rw [← List.map_reverse, List.map_map]
      have : ∀ js : List Nat, All2 (StoreLike W a.env) js (js.map ((fun n => bindName a.env n) ∘ W.nm)) := by
        intro js
        induction js with
        | nil => exact .nil
        | cons j js ih => exact .cons (StoreLike.bind rfl) ih
      exact this _
    · rw [if_neg hl] at p1; exact p1.elim
end
end Mine
/-! A19 -/
namespace Mine
open PySem PySem.W PyProof.Rows
/-! comprehensions: the parts -/
noncomputable def cap (fr : Loc) (caps : List Nat) : Loc := fr.filter fun p => caps.contains p.1
theorem cap_lookup {fr : Loc} {caps : List Nat} {j : Nat} {v : V} (e : (cap fr caps).lookup j = some v) : j ∈ caps ∧ fr.lookup j = some v := by
  induction fr with
  | nil => simp [cap] at e
  | cons p fr ih =>
    obtain ⟨k, u⟩ := p
    unfold cap at e
    rw [List.filter_cons] at e
    by_cases hk : caps.contains k = true
    · simp only [hk, if_true, List.lookup_cons] at e ⊢
      by_cases hj : j = k
      · subst hj; simp at e; subst e; exact ⟨by simpa using hk, by simp⟩
      · simp only [beq_eq_false_iff_ne.mpr hj] at e ⊢; exact ih e
    · simp only [hk, Bool.false_eq_true, if_false] at e
      have := ih e
      refine ⟨this.1, ?_⟩
      rw [List.lookup_cons]
      have hj : j ≠ k := fun z => hk (by simpa [z] using this.1)
      simp only [beq_eq_false_iff_ne.mpr hj]; exact this.2
noncomputable def compM (t : Tgt) (test : Option (ME Bool)) (elt : ME V) (frc : Loc) : List V → Sto → List V → Res (List V)
  | [], σ, acc => .ok acc σ
  | v :: vs, σ, acc => match t v frc with
    | none => .stuck
    | some fr1 => (match test with | none => Res.ok true σ | some tt => tt fr1 σ).andThen fun b σ1 =>
      if b then (if szOk acc.length then (elt fr1 σ1).andThen fun u σ2 => compM t test elt frc vs σ2 (acc ++ [u]) else .stuck)
      else compM t test elt frc vs σ1 acc
noncomputable def eComp (caps : List Nat) (t : Tgt) (fi : ME (List V)) (test : Option (ME Bool)) (elt : ME V) : ME V := fun fr σ => (fi fr σ).andThen fun vs σ1 => (compM t test elt (cap fr caps) vs σ1 []).andThen fun us σ2 => .ok (.list us) σ2
noncomputable def relab (csc sc : Scope) : Scope := { csc with names := csc.names.map fun (n, k) => if (k == .free && sc.kind == .function && sc.names.lookup n == some .cell) then (n, .cell) else (n, k) }
noncomputable def clOf (cells : List (PySem.Str × Addr)) : List (PySem.Str × NameKind) → List (PySem.Str × Addr) → List (PySem.Str × Addr)
  | [], acc => acc
  | x :: r, acc => clOf cells r (if x.2 == .free then (x.1, (cells.lookup x.1).getD 0) :: acc else acc)
structure CompScope (W : Wd) (csc sc : Scope) (caps : List Nat) : Prop where
  kind : csc.kind = .function
  locals : ∀ x ∈ csc.names, x.2 = .local → csc.names.lookup x.1 = some .local
  nocell : ∀ x ∈ csc.names, x.2 ≠ .cell
  nodup : (csc.names.map (·.1)).Nodup
  free : ∀ x ∈ csc.names, x.2 = .free → sc.names.lookup x.1 = some .cell
  caps : ∀ j ∈ caps, (W.nm j, NameKind.free) ∈ csc.names ∧ (relab csc sc).names.lookup (W.nm j) = some .cell
theorem closure_eq {env : Env} : ∀ (names : List (PySem.Str × NameKind)) (acc : List (PySem.Str × Addr)), (∀ x ∈ names, x.2 = .free → ∃ c, env.cells.lookup x.1 = some c) →
    (forIn names acc fun x cs => if x.2 == NameKind.free then do let a ← cellOf env x.1; pure (ForInStep.yield ((x.1, a) :: cs)) else (pure (ForInStep.yield cs) : Sem (ForInStep (List (PySem.Str × Addr))))) = pure (clOf env.cells names acc)
  | [], acc, _ => rfl
  | x :: r, acc, h => by
    rw [List.forIn_cons]
    have hr := fun y hy => h y (List.mem_cons_of_mem _ hy)
    by_cases hx : x.2 = .free
    · obtain ⟨c, hc⟩ := h x (List.mem_cons_self ..) hx
      have hb : (x.2 == NameKind.free) = true := by rw [hx]; rfl
      have h1 : cellOf env x.1 = pure c := by unfold cellOf; rw [hc]
      simp only [hb, if_true, h1, pure_bind]
      rw [closure_eq r _ hr]
      show _ = pure (clOf env.cells r (if x.2 == .free then _ else acc))
      rw [hb, if_pos rfl, hc]; rfl
    · have hb : (x.2 == NameKind.free) = false := by simpa using hx
      simp only [hb, Bool.false_eq_true, if_false, pure_bind]
      rw [closure_eq r _ hr]
      show _ = pure (clOf env.cells r (if x.2 == .free then _ else acc))
      rw [hb]; rfl
theorem closureFor_eq {csc : Scope} {env : Env} (h : ∀ x ∈ csc.names, x.2 = .free → ∃ c, env.cells.lookup x.1 = some c) : closureFor csc env = pure (clOf env.cells csc.names []) := by
  unfold closureFor
  exact (congrArg (· >>= fun cs => pure cs) (closure_eq csc.names [] h)).trans (by simp)
theorem clOf_mem {cells : List (PySem.Str × Addr)} : ∀ {names : List (PySem.Str × NameKind)} {acc : List (PySem.Str × Addr)} {x : PySem.Str} {c : Addr}, (x, c) ∈ clOf cells names acc → (x, c) ∈ acc ∨ ((x, NameKind.free) ∈ names ∧ c = (cells.lookup x).getD 0)
  | [], _, _, _, h => .inl h
  | y :: r, acc, x, c, h => by
    rcases clOf_mem (names := r) h with h | ⟨h1, h2⟩
    · by_cases hy : (y.2 == NameKind.free) = true
      · rw [if_pos hy] at h
        rcases List.mem_cons.mp h with h | h
        · injection h with e1 e2
          refine .inr ⟨?_, by rw [e2, e1]⟩
          have : y.2 = .free := by simpa using hy
          rw [e1, ← this]; exact List.mem_cons_self ..
        · exact .inl h
      · rw [if_neg hy] at h; exact .inl h
    · exact .inr ⟨List.mem_cons_of_mem _ h1, h2⟩
theorem clOf_has {cells : List (PySem.Str × Addr)} : ∀ {names : List (PySem.Str × NameKind)} {acc : List (PySem.Str × Addr)} {x : PySem.Str}, ((∃ c, (x, c) ∈ acc) ∨ (x, NameKind.free) ∈ names) → ∃ c, (x, c) ∈ clOf cells names acc
  | [], _, _, h => h.elim id fun z => nomatch z
  | y :: r, acc, x, h => by
    refine clOf_has (names := r) ?_
    rcases h with ⟨c, h⟩ | h
    · left
      by_cases hy : (y.2 == NameKind.free) = true
      · rw [if_pos hy]; exact ⟨c, List.mem_cons_of_mem _ h⟩
      · rw [if_neg hy]; exact ⟨c, h⟩
    · rcases List.mem_cons.mp h with h | h
      · left; subst h; exact ⟨(cells.lookup x).getD 0, by simp⟩
      · exact .inr h
theorem lookup_of_mem {l : List (PySem.Str × Addr)} {x : PySem.Str} {c : Addr} (h : (x, c) ∈ l) : ∃ d, l.lookup x = some d := by
  induction l with
  | nil => cases h
  | cons p l ih =>
    obtain ⟨y, d⟩ := p
    rw [List.lookup_cons]
    by_cases hx : x = y
    · exact ⟨d, by simp [hx]⟩
    · simp only [beq_eq_false_iff_ne.mpr hx]
      rcases List.mem_cons.mp h with h | h
      · injection h with e1 _; exact absurd e1 hx
      · exact ih h
theorem clOf_lookup {cells : List (PySem.Str × Addr)} {names : List (PySem.Str × NameKind)} {x : PySem.Str} (h : (x, NameKind.free) ∈ names) : (clOf cells names []).lookup x = some ((cells.lookup x).getD 0) := by
  obtain ⟨c, hc⟩ := clOf_has (cells := cells) (acc := []) (.inr h)
  obtain ⟨d, hd⟩ := lookup_of_mem hc
  rw [hd]
  rcases clOf_mem (mem_of_lookup hd) with h | ⟨_, h⟩
  · cases h
  · rw [h]
theorem clOf_names {cells : List (PySem.Str × Addr)} : ∀ {names : List (PySem.Str × NameKind)} {acc : List (PySem.Str × Addr)}, (names.map (·.1)).Nodup → acc.Pairwise (fun x y => x.1 ≠ y.1) → (∀ x ∈ acc, x.1 ∉ names.map (·.1)) →
    (clOf cells names acc).Pairwise fun x y => x.1 ≠ y.1
  | [], _, _, h, _ => h
  | y :: r, acc, hn, h, hd => by
    rw [List.map_cons, List.nodup_cons] at hn
    have hd' : ∀ x ∈ acc, x.1 ∉ r.map (·.1) := fun x hx z => hd x hx (List.mem_cons_of_mem _ z)
    refine clOf_names (names := r) hn.2 ?_ ?_
    · by_cases hy : (y.2 == NameKind.free) = true
      · rw [if_pos hy, List.pairwise_cons]
        exact ⟨fun x hx z => hd x hx (by rw [← z]; simp), h⟩
      · rw [if_neg hy]; exact h
    · by_cases hy : (y.2 == NameKind.free) = true
      · rw [if_pos hy]
        intro x hx
        rcases List.mem_cons.mp hx with rfl | hx
        · exact hn.1
        · exact hd' x hx
      · rw [if_neg hy]; exact hd'
theorem apart_mem {cells : List (PySem.Str × Addr)} (h : cells.Pairwise fun x y => x.2 ≠ y.2) {x y : PySem.Str × Addr} (hx : x ∈ cells) (hy : y ∈ cells) (hne : x.1 ≠ y.1) : x.2 ≠ y.2 := by
  induction cells with
  | nil => cases hx
  | cons p l ih =>
    rw [List.pairwise_cons] at h
    rcases List.mem_cons.mp hx with ex | hx <;> rcases List.mem_cons.mp hy with ey | hy
    · exact absurd (by rw [ex, ey]) hne
    · rw [ex]; exact h.1 _ hy
    · rw [ey]; exact (h.1 _ hx).symm
    · exact ih h.2 hx hy
theorem relabel_eq (csc : Scope) (env : Env) : relabel csc env = relab csc env.scope := rfl
section
variable {M : Model} {A : Around} {E : Value → Shared → Prop} {s : Shared} {env : Env}
theorem wpAny_comprehension_x {e : PySem.Expr} {scope : Scope} {pos : Pos} {newAcc first : Sem Value} {g : Comprehension} {gs : List Comprehension} {cl : List (PySem.Str × Addr)}
    {Q : Value → Shared → Prop}
    (hcl : clausesOf e = g :: gs) (hs : ∀ x, foldedSetIterable g.iter env x = pure x) (hclos : closureFor scope env = pure cl)
    (hkind : scope.kind = .function) (hnames : ∀ x ∈ scope.names, x.2 = .local → scope.names.lookup x.1 = some .local)
    (h : wpAny M A first (fun x s₁ => wpAny M A (pyIter x) (fun it s₂ => wpAny M A newAcc (fun acc s₃ =>
      wpAny M A (newFunctionEnv scope env.globals cl [] env.qual none .none (some env)) (fun cenv s₄ =>
        codeAny M A (.compStart e 0 it acc { cenv with scope := relabel scope env }) (fun r s' => ∃ m, s'.heap.Ns cenv.locals m ∧ ∀ h', Heap.SameBut cenv.locals s'.heap h' →
          match r with | .ok _ => Q acc { s' with heap := h' } | .error x => wpAny M A (passOn "comprehension.variables-let-go" x { cenv with scope := relabel scope env }) Q E { s' with heap := h' }) s₄) E s₃) E s₂) E s₁) E s) :
    wpAny M A (comprehension e scope env pos newAcc false first) Q E s := by
  unfold comprehension
  rw [hclos, hcl]
  refine wpAny_bind (wpAny_mono h (fun x s₁ h₁ => wpAny_bind (wpAny_standAt (wpAny_bind (wpAny_of_eq (hs x) (wpAny_bind (wpAny_holding (wpAny_mono h₁ (fun it s₂ h₂ =>
    wpAny_standIf (wpAny_bind (wpAny_mono h₂ (fun acc s₃ h₃ => wpAny_bind (wpAny_pure (wpAny_bind (wpAny_mono h₃ (fun cenv s₄ h₄ => ?_) fun _ _ h' => h')))) fun _ _ h' => h')))
      fun _ _ h' => h'))))))) fun _ _ h' => h')
  dsimp only
  have hv : ∀ x ∈ (scope.names.filter fun x => (x.2 == .local || x.2 == .cell) && x.1 != (".0" : PySem.Str)).reverse, x.2 = .local →
      Env.kindOf { cenv with scope := relabel scope env } x.1 = some .local := fun x hx hl => lookup_relabel_local (hnames x (List.mem_filter.mp (List.mem_reverse.mp hx)).1 hl)
  refine wpAny_holding (wpAny_bind (wpAny_attempt (wpAny_holding (wpAny_run (codeAny_mono h₄ fun r s' hr => ?_)))))
  obtain ⟨m, hn, hr⟩ := hr
  cases r with
  | ok f => exact wpAny_bind (wpAny_holding (wpAny_comp_letGo (cenv := { cenv with scope := relabel scope env }) hkind _ s' m hv hn fun h' m' _ hs' => wpAny_pure (hr h' hs')))
  | error x => exact wpAny_bind (wpAny_holding (wpAny_comp_letGo (cenv := { cenv with scope := relabel scope env }) hkind _ s' m hv hn fun h' m' _ hs' => hr h' hs'))
end
end Mine
/-! A20 -/
namespace Mine
open PySem PySem.W PyProof.Rows
noncomputable def Rho.hide (ρ : Rho) (d : Addr) : Rho := ⟨ρ.objs, d :: ρ.hid⟩
noncomputable def Rho.un (ρ : Rho) (H : List Addr) : Rho := ⟨ρ.objs, H⟩
section
variable {W : Wd} {n : Nat} {sc : Scope} {a : Act} {fr : Loc} {ρ ρ' : Rho} {σ : Sto} {h h' : Heap} {s s' : Shared} {D : List Addr} {E : Value → Shared → Prop} {d : Addr}
theorem mem_hide {b : Addr} : b ∈ muts (ρ.hide d) ↔ b = d ∨ b ∈ muts ρ := by
  simp only [mem_muts', Rho.hide, List.mem_cons]
  constructor
  · rintro (h | h | h)
    · exact .inr (.inl h)
    · exact .inl h
    · exact .inr (.inr h)
  · rintro (h | h | h)
    · exact .inr (.inl h)
    · exact .inl h
    · exact .inr (.inr h)
theorem VMon.hide (k : ∀ b o, h.get? b = some o → h'.get? b = some o) (hd : h.get? d = none) : VMon ρ h (ρ.hide d) h' :=
  ⟨fun _ _ e => e, fun b o e _ _ => k b o e, fun b o e hn hm => by
    rcases mem_hide.mp hm with z | z
    · rw [z, hd] at e; cases e
    · exact hn z⟩
theorem StH.hide (S : StH W ρ σ h) (k : ∀ b o, h.get? b = some o → h'.get? b = some o) (hd : h.get? d = none) (hl : ∃ ob, h'.get? d = some ob ∧ ob.cls = .type "list") : StH W (ρ.hide d) σ h' := by
  have hnew : d ∉ muts ρ := fun hm => by obtain ⟨ob, e, _⟩ := S.mut_cls hm; rw [hd] at e; cases e
  refine ⟨fun b o e => k _ _ (S.base b o e), fun a ha => ?_, fun a ha => ?_, ?_, S.len, fun i o p e e' => ?_⟩
  · rcases mem_hide.mp ha with rfl | ha
    · cases z : W.h₀.get? a with
      | none => rfl
      | some o => have := S.base _ _ z; rw [hd] at this; cases this
    · exact S.fresh a ha
  · rcases List.mem_cons.mp ha with rfl | ha
    · exact hl
    · obtain ⟨ob, e, c⟩ := S.hidc a ha; exact ⟨ob, k _ _ e, c⟩
  · have hn := S.nodup
    unfold muts at hn ⊢
    rw [List.nodup_append] at hn ⊢
    obtain ⟨n1, n2, n3⟩ := hn
    rw [mem_muts', not_or] at hnew
    refine ⟨n1, List.nodup_cons.mpr ⟨hnew.2, n2⟩, fun x hx y hy => ?_⟩
    rcases List.mem_cons.mp hy with rfl | hy
    · exact fun z => hnew.1 (z ▸ hx)
    · exact n3 x hx y hy
  · exact (S.objs i o p e e').mono (VMon.hide k hd) (fun ob z => k _ _ z) fun ob z _ => ⟨ob.slots, k _ _ z⟩
theorem un_sub {H : List Addr} (hh : ρ.hid = d :: H) {b : Addr} (hm : b ∈ muts (ρ.un H)) : b ∈ muts ρ := by
  rw [mem_muts'] at hm ⊢
  rw [hh]
  exact hm.imp id fun z => List.mem_cons_of_mem _ z
theorem un_iff {H : List Addr} (hh : ρ.hid = d :: H) {b : Addr} : b ∈ muts ρ ↔ b = d ∨ b ∈ muts (ρ.un H) := by
  rw [mem_muts', mem_muts', hh, List.mem_cons]
  constructor
  · rintro (h | h | h)
    · exact .inr (.inl h)
    · exact .inl h
    · exact .inr (.inr h)
  · rintro (h | h | h)
    · exact .inr (.inl h)
    · exact .inl h
    · exact .inr (.inr h)
theorem StH.un {H : List Addr} (S : StH W ρ σ h) (hh : ρ.hid = d :: H) : StH W (ρ.un H) σ h := by
  have vm : VMon ρ h (ρ.un H) h := ⟨fun _ _ e => e, fun _ _ e _ _ => e, fun b o e hn hm => hn (un_sub hh hm)⟩
  refine ⟨S.base, fun a ha => S.fresh a (un_sub hh ha), fun a ha => S.hidc a (by rw [hh]; exact List.mem_cons_of_mem _ ha), ?_, S.len, fun i o p e e' => (S.objs i o p e e').mono vm (fun ob z => z) fun ob z _ => ⟨ob.slots, z⟩⟩
  have hn := S.nodup
  unfold muts at hn ⊢
  rw [hh] at hn
  rw [List.nodup_append] at hn ⊢
  obtain ⟨n1, n2, n3⟩ := hn
  exact ⟨n1, (List.nodup_cons.mp n2).2, fun x hx y hy => n3 x hx y (List.mem_cons_of_mem _ hy)⟩
theorem VReps.un {H : List Addr} (hh : ρ.hid = d :: H) {vs : List V} {ms : List Value} (r : VReps ρ h vs ms) : VReps (ρ.un H) h vs ms :=
  r.vmono (show VMon ρ h (ρ.un H) h from ⟨fun _ _ e => e, fun _ _ e _ _ => e, fun b o e hn hm => hn (un_sub hh hm)⟩)
theorem Ext.un {H : List Addr} (x : Ext D ρ h ρ' h') (hh : ρ.hid = d :: H) : Ext D (ρ.un H) h (ρ'.un H) h' := by
  have hne : ∀ b, b ∉ muts (ρ.un H) → b ≠ d → b ∉ muts ρ := fun b hb hd hm => by
    rcases (un_iff hh).mp hm with z | z
    · exact hd z
    · exact hb z
  refine ⟨x.more, rfl, fun a ha o e => x.held a (by rw [hh]; exact List.mem_cons_of_mem _ ha) o e, x.live, fun b o e hb q => ?_, fun b o e hb hD q => ?_, fun b o e hb q => ?_⟩
  · by_cases hd : b = d
    · exact x.held b (by rw [hh, hd]; exact List.mem_cons_self ..) o e
    · exact x.keep b o e (hne b hb hd) q
  · by_cases hd : b = d
    · exact ⟨o.slots, x.held b (by rw [hh, hd]; exact List.mem_cons_self ..) o e⟩
    · exact x.slot b o e (hne b hb hd) hD q
  · by_cases hd : b = d
    · exact ⟨o, x.held b (by rw [hh, hd]; exact List.mem_cons_self ..) o e, q⟩
    · exact x.soft b o e (hne b hb hd) q
theorem XExt.un {F H : List Addr} {B : Heap} (x : XExt D F ρ h ρ' B h') (hh : ρ.hid = d :: H) : XExt D F (ρ.un H) h (ρ'.un H) B h' := by
  have hne : ∀ b, b ∉ muts (ρ.un H) → b ≠ d → b ∉ muts ρ := fun b hb hd hm => by
    rcases (un_iff hh).mp hm with z | z
    · exact hd z
    · exact hb z
  have hdd : d ∈ ρ.hid := by rw [hh]; exact List.mem_cons_self ..
  refine ⟨x.more, rfl, fun a ha o e => x.held a (by rw [hh]; exact List.mem_cons_of_mem _ ha) o e, fun b o e hb q => ?_, fun b o e hb hD q => ?_, fun b o e hb q => ?_, x.stays⟩
  · by_cases hd : b = d
    · exact x.held b (hd ▸ hdd) o e
    · exact x.keep b o e (hne b hb hd) q
  · by_cases hd : b = d
    · exact ⟨o.slots, fun _ => x.held b (hd ▸ hdd) o e, fun _ => x.stays _ _ (x.held b (hd ▸ hdd) o e)⟩
    · exact x.slot b o e (hne b hb hd) hD q
  · by_cases hd : b = d
    · exact ⟨o, q, fun _ => x.held b (hd ▸ hdd) o e, fun _ => x.stays _ _ (x.held b (hd ▸ hdd) o e)⟩
    · exact x.soft b o e (hne b hb hd) q
theorem Ext.drop {D' : List Addr} (x : Ext D ρ h ρ' h') (hd : ∀ b o, h.get? b = some o → b ∈ D → b ∈ D') : Ext D' ρ h ρ' h' :=
  ⟨x.more, x.hid, x.held, x.live, x.keep, fun b o e hb q s => x.slot b o e hb (fun z => q (hd b o e z)) s, x.soft⟩
/-! a list under way has grown -/
structure Grown (d : Addr) (ρ : Rho) (h h' : Heap) : Prop where
  same : Heap.SameBut d h h'
  mem : d ∈ ρ.hid
  was : ∃ o, h.get? d = some o ∧ o.cls = .type "list" ∧ softObj o = false
  is : ∃ o, h'.get? d = some o ∧ o.cls = .type "list"
theorem Grown.vmon (x : Grown d ρ h h') : VMon ρ h ρ h' :=
  ⟨fun _ _ e => e, fun b o e hn _ => SameBut.get x.same e fun z => hn (mem_muts'.mpr (.inr (z ▸ x.mem))), fun _ _ _ hn => hn⟩
theorem Grown.soft {b : Addr} {o : Obj} (x : Grown d ρ h h') (e : h.get? b = some o) (q : softObj o = true) : h'.get? b = some o := SameBut.get x.same e fun z => by
  obtain ⟨o', e', _, q'⟩ := x.was
  rw [z, e'] at e; cases e; rw [q'] at q; cases q
theorem StH.grown (S : StH W ρ σ h) (x : Grown d ρ h h') : StH W ρ σ h' := by
  have hm : d ∈ muts ρ := mem_muts'.mpr (.inr x.mem)
  refine ⟨fun b o e => SameBut.get x.same (S.base b o e) fun z => S.base_notin e (z ▸ hm), S.fresh, fun a ha => ?_, S.nodup, S.len, fun i o p e e' => ?_⟩
  · by_cases hz : a = d
    · rw [hz]; exact x.is
    · obtain ⟨ob, e, c⟩ := S.hidc a ha; exact ⟨ob, SameBut.get x.same e hz, c⟩
  · have ro := S.objs i o p e e'
    refine ro.mono x.vmon (fun ob z => SameBut.get x.same z fun y => S.not_hid e' (y ▸ x.mem)) fun ob z zs => ⟨ob.slots, SameBut.get x.same z fun y => ?_⟩
    cases o with
    | list vs => exact S.not_hid e' (ro.1 ▸ y ▸ x.mem)
    | dict k kvs => exact S.not_hid e' (ro.1 ▸ y ▸ x.mem)
    | inst c fs =>
      obtain ⟨⟨sl, e1⟩, _⟩ := ro
      obtain ⟨o', e2, c2, _⟩ := x.was
      rw [y, e2] at e1; cases e1; cases c2
theorem FS.grown (F : FS W a fr ρ h) (x : Grown d ρ h h') : FS W a fr ρ h' := by
  have nsK : ∀ {L : Addr} {m : PySem.Str → Option Value}, h.Ns L m → h'.Ns L m := fun {L m} hN => by
    obtain ⟨o, es, ep, ho, hd, r⟩ := hN
    exact ⟨o, es, ep, x.soft ho (by simp [softObj, hd]), hd, r⟩
  have cellK : ∀ {c : Addr} {v : Option Value}, h.IsCell c v → h'.IsCell c v := fun {c v} hC => by
    obtain ⟨o, ho, hd⟩ := hC
    exact ⟨o, x.soft ho (by simp [softObj, hd]), hd⟩
  obtain ⟨m, hm, hv⟩ := F.ns
  refine ⟨fun e he => ?_, ⟨m, nsK hm, fun i v e => ⟨(hv i v e).1, ?_⟩⟩, F.apartL, F.baseL, fun y c hy => ?_, F.apart, F.laid⟩
  · obtain ⟨k, L, o, hf, hn, hb, ho, hs⟩ := F.live e he
    exact ⟨k, L, o, hf, hn, hb, x.soft ho hs, hs⟩
  · have r := (hv i v e).2
    unfold VarAt at r ⊢
    split at r
    · obtain ⟨mv, hm, hv⟩ := r; exact ⟨mv, hm, hv.vmono x.vmon⟩
    · obtain ⟨c, mv, hl, hcell, hv⟩ := r; exact ⟨c, mv, hl, cellK hcell, hv.vmono x.vmon⟩
    · obtain ⟨c, mv, hl, hcell, hv⟩ := r; exact ⟨c, mv, hl, cellK hcell, hv.vmono x.vmon⟩
    · exact r.elim
  · obtain ⟨h1, h2, v, h3⟩ := F.cells y c hy
    exact ⟨h1, h2, v, cellK h3⟩
theorem FS.sub {fr' : Loc} (F : FS W a fr ρ h) (k : ∀ j u, fr'.lookup j = some u → fr.lookup j = some u) : FS W a fr' ρ h := by
  obtain ⟨m, hm, hv⟩ := F.ns
  exact ⟨F.live, ⟨m, hm, fun i v e => hv i v (k i v e)⟩, F.apartL, F.baseL, F.cells, F.apart, F.laid⟩
theorem DenI.bind {e : PySem.Expr} {f : ME (List V)} (hE : DenI W n sc e f) (ok : ActOk n a) (hsc : a.env.scope = sc) (S : St W ρ σ s) (F : FS W a fr ρ s.heap)
    {β : Type} {k : List V → Sto → Res β} {K : β → Rho → Shared → Prop} {Q : Value → Shared → Prop} {E : Value → Shared → Prop} (p : PostG W a ρ s ((f fr σ).andThen k) K E)
    (h : ∀ vs σ1 ρ1 s1 it, St W ρ1 σ1 s1 → FS W a fr ρ1 s1.heap → Ext [] ρ s.heap ρ1 s1.heap → s.heap.get? it = none → it ∉ muts ρ1 → IterOk ρ1 s1.heap it vs → PostG W a ρ s (k vs σ1) K E → Q (.ref it) s1) :
    wpAny (model W.prog W.w) a.A (eval e a.env) (fun x s1 => wpAny (model W.prog W.w) a.A (pyIter x) Q E s1) E s := by
  refine hE a ok hsc ρ σ fr s S F Q E ?_
  cases hf : f fr σ with
  | ok v σ1 => rw [hf] at p; exact fun ρ1 s1 S1 x1 it h0 hn hI => h v σ1 ρ1 s1 it S1 (F.ext x1) x1 h0 hn hI p
  | exc c σ1 => rw [hf] at p; exact p
  | stuck => rw [hf] at p; exact p
noncomputable def DenTL (W : Wd) (n : Nat) (sc : Scope) (tgt : PySem.Expr) (t : Tgt) : Prop :=
  ∀ (a : Act), ActOk n a → a.env.scope = sc → ∀ (ρ : Rho) (σ : Sto) (fr : Loc) (s : Shared), St W ρ σ s → FS W a fr ρ s.heap → ∀ (v : V) (mv : Value) (fr' : Loc), VRep ρ s.heap v mv → t v fr = some fr' →
    ∀ (Q : Unit → Shared → Prop) (E : Value → Shared → Prop), (∀ s', St W ρ σ s' → Ext [a.env.locals] ρ s.heap ρ s'.heap → FS W a fr' ρ s'.heap → Q () s') → wpAny (model W.prog W.w) a.A (assign tgt a.env mv) Q E s
theorem DenTL.name {x : PySem.Str} {pos : Pos} {i : Nat} (hi : i < W.nN) (hx : W.nm i = x) (hk : sc.names.lookup x = some .local) : DenTL W n sc (.Name x pos) (tName i) := by
  intro a ok hsc ρ σ fr s S F v mv fr' r e Q E k
  cases e
  exact wpAny_assign_Name (store_local ok hsc S F hi hx hk r k)
noncomputable def TgtApart (t : Tgt) (caps : List Nat) : Prop := ∀ fr v fr1, t v (cap fr caps) = some fr1 → ∀ j u, (cap fr caps).lookup j = some u → fr1.lookup j = some u
theorem TgtApart.name {i : Nat} {caps : List Nat} (h : i ∉ caps) : TgtApart (tName i) caps := by
  intro fr v fr1 e j u hj
  cases e
  have hne : j ≠ i := fun z => h (by rw [← z]; exact (cap_lookup hj).1)
  rw [fset_lookup, if_neg hne]
  exact hj
theorem iter_self {it : Addr} {vs : List V} {Q : Value → Shared → Prop} {A : Around} (x : IterOk ρ s.heap it vs) (hq : Q (.ref it) s) : wpAny (model W.prog W.w) A (pyIter (.ref it)) Q E s := by
  cases x with
  | list hi => exact wpAny_pyIter_listiter hi hq
  | tup hi => exact wpAny_pyIter_tupleiter hi hq
  | range hi => exact wpAny_pyIter_rangeiter hi hq
  | str hi => exact wpAny_pyIter_striter_ascii hi hq
end
end Mine
/-! A21 -/
namespace Mine
open PySem PySem.W PyProof.Rows
section
variable {W : Wd} {n : Nat} {sc : Scope} {a : Act} {fr : Loc} {ρ ρ' : Rho} {σ : Sto} {h h' : Heap} {s s' : Shared} {D : List Addr} {E : Value → Shared → Prop} {d : Addr}
/-! exceptions: looked at, passed on -/
noncomputable def Thrown (W : Wd) (l : List Env) (c : Nat) (ρ : Rho) (σ : Sto) (s : Shared) (e : Addr) (B : Heap) : Prop := Flown W l c ρ σ s e B ∨ Held W l c ρ σ s e B
theorem noted_ok {env : Env} {c : Nat} {e : Addr} {B : Heap} {F D : List Addr} {ρ0 : Rho} {h0 : Heap} {Q : Unit → Shared → Prop} (ok : ActOk n a) (hf : env.frame = a.env.frame) (t : Thrown W a.l c ρ σ s e B) (x : XExt D F ρ0 h0 ρ B s.heap)
    (k : ∀ s', Held W a.l c ρ σ s' e B → XExt D F ρ0 h0 ρ B s'.heap → s.heap.UpToSlots s'.heap → Q () s') : wpAny (model W.prog W.w) a.A (noteFrame (.ref e) env) Q E s := by
  obtain ⟨fe, outer, L, hl, hfe, hL⟩ := ok.head
  have hfr : a.A.frames = some (fe :: outer) := by rw [← hl]; exact ok.frames
  have hnf : noteFrame (.ref e) env = noteFrame (.ref e) fe := by
    unfold noteFrame PySem.frameOf
    rw [hf, hL, hfe]
  rcases t with ⟨g, o, S, a0, R⟩ | ⟨g, o, S, env', outer', L', a0, hl', hf', R⟩
  · rw [hnf]
    rw [hl] at R
    refine wpAny_looks_onW hfr hfe R fun h' H up => ?_
    exact k _ ⟨g, o, S, fe, outer, L, a0, hl, hfe, by rw [hl]; exact H⟩ (x.up up H.1) up
  · rw [hl] at hl'
    injection hl' with e1 e2
    subst e1 e2
    rw [hfe] at hf'; injection hf' with hf'; subst hf'
    rw [hnf]
    exact wpAny_noteFrame_againW hfe R.2.2.2 (k s ⟨g, o, S, fe, outer, L, a0, hl, hfe, R⟩ x (.refl _))
theorem setFlight_held {M : Model} {A : Around} {base : Heap} {l : List Env} {e L : Addr} {cls a0 : Value} {Q : Unit → Shared → Prop} (R : Heap.HeldW base l e cls a0 L s.heap)
    (h : ∀ h', Heap.HeldW base l e cls a0 L h' → s.heap.UpToSlots h' → Q () { s with heap := h' }) : wpAny M A (setFlight (.ref e) (some L)) Q E s := by
  obtain ⟨hkb, hen, hl, oe, vs, T, oT, ts, he, hcls, hd, h1, hnT, hTe, hT, hdT, h3⟩ := R
  have hsz3 : 3 < ts.size := (Array.getElem?_eq_some_iff.mp h3).1
  have other : ∀ b, b ≠ T → (s.heap.update T (Obj.mapFields (·.setIfInBounds 3 ((some L).elim Value.none fun f => rawInt f)))).get? b = s.heap.get? b :=
    fun b hb => Heap.get?_update_other _ _ (Ne.symm hb)
  have noRecord : ∀ b o, s.heap.get? b = some o → (∀ vs, o.data ≠ .fields vs) → b ≠ T := fun b o hb hnf q => by
    rw [q, hT] at hb; injection hb with hb; subst hb; exact hnf ts hdT
  unfold setFlight
  refine wpAny_bind (wpAny_field he hd h1 ?_)
  rw [if_pos (show (Value.ref T != Value.none) = true from by simp)]
  refine wpAny_setField hT hdT hsz3 (h _ ⟨fun b o hbo => (other b fun q => by rw [q, hnT] at hbo; cases hbo).trans (hkb b o hbo), hen,
    hl.of_keeps fun b o hb hnf => ⟨o, (other b (noRecord b o hb hnf)).trans hb, rfl⟩, ?_⟩ fun b o hb hnf => ⟨o.slots, (other b (noRecord b o hb hnf)).trans hb⟩)
  exact ⟨oe, vs, T, _, _, (other e (Ne.symm hTe)).trans he, hcls, hd, h1, hnT, hTe, Heap.get?_update_self _ hT (Obj.isFreed_of_fields (Obj.data_mapFields hdT _)), Obj.data_mapFields hdT _, by simp [hsz3]⟩
theorem passOn_ok {env : Env} {what : String} {c : Nat} {e : Addr} {B : Heap} {F D : List Addr} {ρ0 : Rho} {h0 : Heap} {Q : Value → Shared → Prop} (ok : ActOk n a) (hf : env.frame = a.env.frame) (t : Held W a.l c ρ σ s e B) (x : XExt D F ρ0 h0 ρ B s.heap)
    (k : ∀ s', Held W a.l c ρ σ s' e B → XExt D F ρ0 h0 ρ B s'.heap → E (.ref e) s') : wpAny (model W.prog W.w) a.A (PySem.passOn what (.ref e) env) Q E s := by
  obtain ⟨fe, outer, L, hl, hfe, hL⟩ := ok.head
  obtain ⟨g, o, S, env', outer', L', a0, hl', hf', R⟩ := t
  rw [hl] at hl'
  injection hl' with e1 e2
  subst e1 e2
  rw [hfe] at hf'; injection hf' with hf'; subst hf'
  obtain ⟨_, _, _, oe, ws, T, oT, ts, he, hc, hd, h1, _⟩ := id R
  unfold PySem.passOn
  refine wpAny_bind (wpAny_field he hd h1 ?_)
  rw [if_neg (show ¬ ((Value.ref T == Value.none) = true) from by simp), hf, hL]
  have fin : ∀ h', Heap.HeldW B a.l e (.ref (W.cls c)) a0 L h' → s.heap.UpToSlots h' → E (.ref e) { s with heap := h' } := fun h' H up => k _ ⟨g, o, S, fe, outer, L, a0, hl, hfe, H⟩ (x.up up H.1)
  first
    | exact wpAny_bind (wpAny_pure (wpAny_bind (setFlight_held R fun h' H up => wpAny_throw (fin h' H up))))
    | exact wpAny_bind (setFlight_held R fun h' H up => wpAny_throw (fin h' H up))
/-- hiding a dict of nobody's -/
theorem StH.hideC {C : Addr} (S : StH W ρ σ h) (hC : C ∉ muts ρ) (hb : W.h₀.get? C = none) (hs : ∀ o, h.get? C = some o → softObj o = true) : StH W ρ σ (hideAll h [C]) := by
  have g : ∀ b o, h.get? b = some o → b ≠ C → (hideAll h [C]).get? b = some o := fun b o e hne => hideAll_get _ e (by simpa using hne)
  have vm : VMon ρ h ρ (hideAll h [C]) := ⟨fun _ _ e => e, fun b o e hn q => g b o e fun z => (by rw [hs o (z ▸ e)] at q; cases q), fun _ _ _ hn => hn⟩
  refine ⟨fun b o e => g b o (S.base b o e) fun z => (by rw [z, hb] at e; cases e), S.fresh, fun b hb' => ?_, S.nodup, S.len, fun i o p e e' => ?_⟩
  · obtain ⟨ob, e, c⟩ := S.hidc b hb'
    exact ⟨ob, g _ _ e fun z => hC (mem_muts'.mpr (.inr (z ▸ hb'))), c⟩
  · refine (S.objs i o p e e').mono vm (fun ob z => g _ _ z fun y => hC (y ▸ mem_muts e')) fun ob z zs => ⟨ob.slots, g _ _ z fun y => ?_⟩
    rw [hs ob (y ▸ z)] at zs; cases zs
theorem XExt.hideC {F : List Addr} {B h1 h2 : Heap} {C : Addr} (x : XExt [C] F ρ h ρ' B h1) (hC : h.get? C = none) (hs : Heap.SameBut C h1 h2) : XExt [] F ρ h ρ' (hideAll B [C]) h2 := by
  have ne : ∀ b o, h.get? b = some o → b ≠ C := fun b o e z => by rw [z, hC] at e; cases e
  have g : ∀ b o, B.get? b = some o → b ≠ C → (hideAll B [C]).get? b = some o := fun b o e hne => hideAll_get _ e (by simpa using hne)
  have gi : ∀ b o, (hideAll B [C]).get? b = some o → b ≠ C := fun b o e z => by
    rw [z, hideAll_none [C] (List.mem_cons_self ..)] at e; cases e
  refine ⟨x.more, x.hid, fun b hb o e => g b o (x.held b hb o e) (ne b o e), fun b o e hb q => g b o (x.keep b o e hb q) (ne b o e), fun b o e hb _ q => ?_, fun b o e hb q => ?_, fun b o e => ?_⟩
  · obtain ⟨sl, h1', h2'⟩ := x.slot b o e hb (by simpa using ne b o e) q
    exact ⟨sl, fun z => g b _ (h1' z) (ne b o e), fun z => SameBut.get hs (h2' z) (ne b o e)⟩
  · obtain ⟨o', q', h1', h2'⟩ := x.soft b o e hb q
    exact ⟨o', q', fun z => g b _ (h1' z) (ne b o e), fun z => SameBut.get hs (h2' z) (ne b o e)⟩
  · exact SameBut.get hs (x.stays _ _ (of_hideAll _ e)) (gi b o e)
theorem Held.hideC {l : List Env} {c : Nat} {e C : Addr} {B h2 : Heap} (t : Held W l c ρ σ s e B) (hC : C ∉ muts ρ) (hb : W.h₀.get? C = none) (hBs : ∀ o, B.get? C = some o → softObj o = true) (hF : C ∉ frs l) (hsC : ∃ o, s.heap.get? C = some o ∧ softObj o = true) (hs : Heap.SameBut C s.heap h2) {tk : Nat} :
    Held W l c ρ σ { s with heap := h2, toks := tk } e (hideAll B [C]) := by
  obtain ⟨g, o, S, env, outer, L, a0, hl, hf, R⟩ := t
  have st : (hideAll B [C]).StaysIn B := fun b o e => of_hideAll _ e
  have R' := heldW_base st R
  obtain ⟨r1, r2, r3, oe, vs, T, oT, ts, he, hcls, hd, h1, hnT, hTe, hT, hdT, h3⟩ := R'
  obtain ⟨oC, eC, qC⟩ := hsC
  have gi : ∀ b o, (hideAll B [C]).get? b = some o → b ≠ C := fun b o e z => by
    rw [z, hideAll_none [C] (List.mem_cons_self ..)] at e; cases e
  have nf : ∀ b o, s.heap.get? b = some o → softObj o = false → b ≠ C := fun b o e q z => by rw [z, eC] at e; cases e; rw [qC] at q; cases q
  refine ⟨g, o, S.hideC hC hb hBs, env, outer, L, a0, hl, hf, fun b o e => SameBut.get hs (r1 b o e) (gi b o e), r2, ?_, oe, vs, T, oT, ts, SameBut.get hs he (nf _ _ he (by simp [softObj, hd])), hcls, hd, h1, hnT, hTe, SameBut.get hs hT (nf _ _ hT (by simp [softObj, hdT])), hdT, h3⟩
  have key : ∀ {l : List Env}, (∀ L ∈ frs l, L ≠ C) → s.heap.FunFrames (hideAll B [C]) l → h2.FunFrames (hideAll B [C]) l := by
    intro l
    induction l with
    | nil => intro _ _; trivial
    | cons env rest ih =>
      rintro hne ⟨hk, ⟨L, o, hf, hn, ho, hd⟩, hr⟩
      have hL : L ∈ frs (env :: rest) := by simp [frs, hf]
      refine ⟨hk, ⟨L, o, hf, hn, SameBut.get hs ho (hne L hL), hd⟩, ih (fun L' h' => hne L' ?_) hr⟩
      unfold frs at h' ⊢
      rw [List.filterMap_cons, hf]; exact List.mem_cons_of_mem _ h'
  exact key (fun L hL z => hF (z ▸ hL)) r3
end
end Mine
/-! A22 -/
namespace Mine
open PySem PySem.W PyProof.Rows
section
variable {W : Wd} {n : Nat} {sc : Scope} {a : Act} {fr : Loc} {ρ ρ' : Rho} {σ : Sto} {h h' : Heap} {s s' : Shared} {D : List Addr} {E : Value → Shared → Prop} {d : Addr}
theorem VMon.but {C : Addr} (hs : Heap.SameBut C h h') (hq : ∀ o, h.get? C = some o → softObj o = true) : VMon ρ h ρ h' :=
  ⟨fun _ _ e => e, fun b o e _ q => SameBut.get hs e fun z => (by rw [hq o (z ▸ e)] at q; cases q), fun _ _ _ hn => hn⟩
theorem StH.but {C : Addr} (S : StH W ρ σ h) (hC : C ∉ muts ρ) (hb : W.h₀.get? C = none) (hq : ∀ o, h.get? C = some o → softObj o = true) (hs : Heap.SameBut C h h') : StH W ρ σ h' := by
  refine ⟨fun b o e => SameBut.get hs (S.base b o e) fun z => (by rw [z, hb] at e; cases e), S.fresh, fun b hb' => ?_, S.nodup, S.len, fun i o p e e' => ?_⟩
  · obtain ⟨ob, e, c⟩ := S.hidc b hb'
    exact ⟨ob, SameBut.get hs e fun z => hC (mem_muts'.mpr (.inr (z ▸ hb'))), c⟩
  · refine (S.objs i o p e e').mono (VMon.but hs hq) (fun ob z => SameBut.get hs z fun y => hC (y ▸ mem_muts e')) fun ob z zs => ⟨ob.slots, SameBut.get hs z fun y => ?_⟩
    rw [hq ob (y ▸ z)] at zs; cases zs
/-- the frame of a comprehension -/
theorem comp_frame {csc : Scope} {caps : List Nat} {C dd : Addr} {m : PySem.Str → Option Value} (ok : ActOk n a) (hcs : CompScope W csc a.env.scope caps) (S : StH W ρ σ h) (F : FS W a fr ρ h) (k : ∀ b o, h.get? b = some o → h'.get? b = some o) (hC : h.get? C = none) (hd : h.get? dd = none)
    (hCd : C ≠ dd) (hN : h'.Ns C m) :
    FS W ⟨a.A, compEnvC csc (clOf a.env.cells csc.names []) C a.env, a.l⟩ (cap fr caps) (ρ.hide dd) h' := by
  have vm : VMon ρ h (ρ.hide dd) h' := VMon.hide k hd
  have hCn : C ∉ muts (ρ.hide dd) := fun hm => by
    rcases mem_hide.mp hm with z | z
    · exact hCd z
    · obtain ⟨ob, e, _⟩ := S.mut_cls z; rw [hC] at e; cases e
  have free_c : ∀ x, (x, NameKind.free) ∈ csc.names → ∃ c, a.env.cells.lookup x = some c := fun x hx => F.laid x (hcs.free _ hx rfl)
  have mem_c : ∀ x c, (x, c) ∈ clOf a.env.cells csc.names [] → (x, c) ∈ a.env.cells := fun x c hm => by
    rcases clOf_mem hm with z | ⟨z1, z2⟩
    · cases z
    · obtain ⟨c', hc'⟩ := free_c x z1
      rw [hc'] at z2
      rw [z2]; exact mem_of_lookup hc'
  refine ⟨fun e he => ?_, ⟨m, hN, fun j v e => ?_⟩, hCn, ?_, fun x c hx => ?_, ?_, fun x hx => ?_⟩
  · obtain ⟨kk, L, o, hf, hn, hb, ho, hs⟩ := F.live e he
    exact ⟨kk, L, o, hf, vm.notin _ _ ho hn, hb, k _ _ ho, hs⟩
  · obtain ⟨hj, hl⟩ := cap_lookup e
    obtain ⟨hj1, hj2⟩ := hcs.caps j hj
    obtain ⟨_, _, hv⟩ := F.ns
    obtain ⟨hi, rv⟩ := hv j v hl
    refine ⟨hi, ?_⟩
    have hk : a.env.kindOf (W.nm j) = some .cell := hcs.free _ hj1 rfl
    unfold VarAt at rv ⊢
    rw [hk] at rv
    obtain ⟨c, mv, e1, e2, e3⟩ := rv
    have hk' : (compEnvC csc (clOf a.env.cells csc.names []) C a.env).kindOf (W.nm j) = some .cell := hj2
    rw [hk']
    refine ⟨c, mv, ?_, ?_, e3.vmono vm⟩
    · show (clOf a.env.cells csc.names []).lookup (W.nm j) = some c
      rw [clOf_lookup hj1, e1]; rfl
    · obtain ⟨o, ho, hd⟩ := e2
      exact ⟨o, k _ _ ho, hd⟩
  · cases z : W.h₀.get? C with
    | none => exact z
    | some o => have := S.base _ _ z; rw [hC] at this; cases this
  · obtain ⟨c1, c2, v, o, ho, hdat⟩ := F.cells x c (mem_c x c hx)
    exact ⟨vm.notin _ _ ho c1, c2, v, o, k _ _ ho, hdat⟩
  · have h1 := clOf_names (cells := a.env.cells) (acc := []) hcs.nodup .nil (by simp)
    exact List.Pairwise.imp_of_mem (fun {x y} hx hy hne => apart_mem F.apart (mem_c x.1 x.2 hx) (mem_c y.1 y.2 hy) hne) h1
  · have hx' : (relab csc a.env.scope).names.lookup x = some .cell := hx
    have hm : (x, NameKind.cell) ∈ (relab csc a.env.scope).names := mem_of_lookup hx'
    obtain ⟨y, hy, ey⟩ := List.mem_map.mp hm
    obtain ⟨yn, yk⟩ := y
    simp only at ey
    by_cases hc : (yk == NameKind.free && a.env.scope.kind == .function && a.env.scope.names.lookup yn == some .cell) = true
    · rw [if_pos hc] at ey
      simp only [Bool.and_eq_true] at hc
      have hyk : yk = .free := by simpa using hc.1.1
      injection ey with e1 _
      subst e1 hyk
      exact ⟨_, clOf_lookup hy⟩
    · rw [if_neg hc] at ey
      injection ey with e1 e2
      exact absurd e2 (hcs.nocell _ hy)
theorem un_self {ρ1 : Rho} {H : List Addr} {dd : Addr} (e : ρ1.hid = H) : (ρ1.hide dd).un H = ρ1 := by
  obtain ⟨o, hd⟩ := ρ1
  simp only [Rho.hide, Rho.un] at e ⊢
  rw [e]
noncomputable def TestOk (W : Wd) (n : Nat) (sc : Scope) (test : Option (ME Bool)) (ifs : List PySem.Expr) : Prop := match test, ifs with
  | none, [] => True
  | some tt, [c] => DenB W n sc c tt
  | _, _ => False
structure CompEnd (W : Wd) (a : Act) (ρ : Rho) (s : Shared) (C dd : Addr) (ρc : Rho) (us : List V) (σ' : Sto) (s' : Shared) (items : Array Value) (nn : Nat) : Prop where
  hid : ρc.hid = dd :: ρ.hid
  st : St W ρc σ' s'
  apart : C ∉ muts ρc
  base : W.h₀.get? C = none
  ns : ∃ m, s'.heap.Ns C m
  newC : s.heap.get? C = none
  ne : dd ≠ C
  newD : s.heap.get? dd = none
  at_ : s'.heap.get? dd = some ⟨.type "list", none, .seq items nn, #[]⟩
  reps : VReps ρc s'.heap us items.toList
  ext : Ext [C] ρ s.heap (ρc.un ρ.hid) s'.heap
/-- the comprehension's own act -/
noncomputable def cEnv (a : Act) (csc : Scope) (C : Addr) : Env := compEnvC csc (clOf a.env.cells csc.names []) C a.env
noncomputable def cAct (a : Act) (csc : Scope) (C : Addr) : Act := ⟨a.A, cEnv a csc C, a.l⟩
noncomputable def CompErr (W : Wd) (a : Act) (csc : Scope) (C : Addr) (Q E : Value → Shared → Prop) (x : Value) (s' : Shared) : Prop := ∃ m, s'.heap.Ns C m ∧ ∀ h', Heap.SameBut C s'.heap h' →
  wpAny (model W.prog W.w) a.A (PySem.passOn "comprehension.variables-let-go" x (cEnv a csc C)) Q E { s' with heap := h' }
set_option genInjectivity false in
set_option genSizeOfSpec false in
structure CompFix where
  a : Act
  ρ : Rho
  s : Shared
  csc : Scope
  C : Addr
  dd : Addr
  it : Addr
  frc : Loc
  t : Tgt
  test : Option (ME Bool)
  fe : ME V
  K : List V × Sto → Rho → Shared → Prop
  E : Value → Shared → Prop
noncomputable def CompFix.post (X : CompFix) (W : Wd) (vs : List V) (σ : Sto) (acc : List V) : Prop := PostG W X.a X.ρ X.s ((compM X.t X.test X.fe X.frc vs σ acc).andThen fun us σ2 => .ok (us, σ2) σ2) X.K X.E
structure CompAt (W : Wd) (X : CompFix) (vs : List V) (σ : Sto) (ρc : Rho) (acc : List V) (items : Array Value) (nn : Nat) (s' : Shared) : Prop where
  hh : ρc.hid = X.dd :: X.ρ.hid
  S : St W ρc σ s'
  F : FS W (cAct X.a X.csc X.C) X.frc ρc s'.heap
  xx : Ext [X.C] X.ρ X.s.heap (ρc.un X.ρ.hid) s'.heap
  hn : X.it ∉ muts ρc
  I : IterOk ρc s'.heap X.it vs
  hD : s'.heap.get? X.dd = some ⟨.type "list", none, .seq items nn, #[]⟩
  r : VReps ρc s'.heap acc items.toList
  p : X.post W vs σ acc
noncomputable def CompInv (W : Wd) (X : CompFix) (k : Nat) (s' : Shared) : Prop := ∃ vs σ ρc acc items nn, k = vs.length ∧ CompAt W X vs σ ρc acc items nn s'
noncomputable def CompLt (W : Wd) (X : CompFix) (n : Nat) (s' : Shared) : Prop := ∃ m, m < n ∧ CompInv W X m s'
structure CompCtx (W : Wd) (n : Nat) (X : CompFix) (elt tgt : PySem.Expr) (ifs : List PySem.Expr) : Prop where
  ok : ActOk n X.a
  ok' : ActOk n (cAct X.a X.csc X.C)
  hsC : X.s.heap.get? X.C = none
  hsD : X.s.heap.get? X.dd = none
  hCF : X.C ∉ frs X.a.l
  hbit : W.h₀.get? X.it = none
  h0 : X.s.heap.get? X.it = none
  hDC : X.dd ≠ X.C
  ht : DenTL W n (relab X.csc X.a.env.scope) tgt X.t
  hap : ∀ v fr1, X.t v X.frc = some fr1 → ∀ j u, X.frc.lookup j = some u → fr1.lookup j = some u
  htest : TestOk W n (relab X.csc X.a.env.scope) X.test ifs
  he : DenE W n (relab X.csc X.a.env.scope) elt X.fe
section
variable {X : CompFix} {elt tgt : PySem.Expr} {ifs : List PySem.Expr} {Q : Value → Shared → Prop}
theorem comp_exc (H : CompCtx W n X elt tgt ifs) {c : Nat} {ρc : Rho} {sc4 : Shared} {frx : Loc} {ρ' : Rho} {σ' : Sto} {s' : Shared} {e : Addr} {B : Heap} (hh : ρc.hid = X.dd :: X.ρ.hid) (FC : FS W (cAct X.a X.csc X.C) frx ρc sc4.heap)
    (x4 : Ext [X.C] X.ρ X.s.heap (ρc.un X.ρ.hid) sc4.heap) (T : Thrown W X.a.l c ρ' σ' s' e B) (x : XExt [] (frs X.a.l) ρc sc4.heap ρ' B s'.heap)
    (kE : ∀ ρ' s' e B, Thrown W X.a.l c ρ' σ' s' e B → XExt [] (frs X.a.l) X.ρ X.s.heap ρ' B s'.heap → X.E (.ref e) s') :
    notedBy (model W.prog W.w) X.a.A (cEnv X.a X.csc X.C) (fun x s' => CompErr W X.a X.csc X.C Q X.E x s') (.ref e) s' := by
  refine noted_ok (a := X.a) (n := n) (env := cEnv X.a X.csc X.C) H.ok rfl T x fun s5 Hd x5 up => ?_
  have SB : StH W ρ' σ' B := Hd.2.2.1
  have e5 := x5.ext SB
  obtain ⟨m, hm, _⟩ := FC.ns
  have hm5 : s5.heap.Ns X.C m := ns_ext e5 FC.apartL hm
  refine ⟨m, hm5, fun h' hsb => ?_⟩
  obtain ⟨oC, eC, qC⟩ := Ns.soft hm
  have hCn' : X.C ∉ muts ρ' := x5.notin eC FC.apartL
  obtain ⟨o', q', hB, _⟩ := x5.soft X.C oC eC FC.apartL qC
  have := Hd.hideC hCn' FC.baseL (fun o eo => by rw [hB H.hCF] at eo; cases eo; exact q') H.hCF (Ns.soft hm5) hsb (tk := s5.toks)
  exact passOn_ok H.ok rfl (show Held W X.a.l c (ρ'.un X.ρ.hid) σ' { s5 with heap := h', toks := s5.toks } e (hideAll B [X.C]) from ⟨this.1, this.2.1, this.2.2.1.un (x5.hid.trans hh), this.2.2.2⟩) ((((x5.un hh).of0 (D := [X.C])).pre x4).hideC H.hsC hsb) fun s7 Hd7 X7 => kE _ _ _ _ (.inr Hd7) X7
/-- behind the test -/
structure CompIn (W : Wd) (X : CompFix) (fr1 : Loc) (ρ4 : Rho) (σ4 : Sto) (vs acc : List V) (items : Array Value) (nn : Nat) (s4 : Shared) : Prop where
  hh : ρ4.hid = X.dd :: X.ρ.hid
  S : St W ρ4 σ4 s4
  F : FS W (cAct X.a X.csc X.C) fr1 ρ4 s4.heap
  xx : Ext [X.C] X.ρ X.s.heap (ρ4.un X.ρ.hid) s4.heap
  hn : X.it ∉ muts ρ4
  I : IterOk ρ4 s4.heap X.it vs
  hD : s4.heap.get? X.dd = some ⟨.type "list", none, .seq items nn, #[]⟩
  r : VReps ρ4 s4.heap acc items.toList
theorem CompIn.ext {fr1 : Loc} {ρ4 ρ5 : Rho} {σ4 σ5 : Sto} {vs acc : List V} {items : Array Value} {nn : Nat} {s4 s5 : Shared} (c : CompIn W X fr1 ρ4 σ4 vs acc items nn s4) (S : St W ρ5 σ5 s5) (x : Ext [] ρ4 s4.heap ρ5 s5.heap) : CompIn W X fr1 ρ5 σ5 vs acc items nn s5 := by
  have ddh : X.dd ∈ ρ4.hid := by rw [c.hh]; exact List.mem_cons_self ..
  obtain ⟨oi, hoi, _⟩ := c.I.fields
  exact ⟨x.hid.trans c.hh, S, c.F.ext x, c.xx.trans ((x.un c.hh).of0), x.notin hoi c.hn, c.I.ext c.hn x, x.held _ ddh _ c.hD, c.r.mono x⟩
noncomputable def CompErrs (W : Wd) (X : CompFix) (Q : Value → Shared → Prop) : Value → Shared → Prop := notedBy (model W.prog W.w) X.a.A (cEnv X.a X.csc X.C) fun x s' => CompErr W X.a X.csc X.C Q X.E x s'
theorem comp_put (H : CompCtx W n X elt tgt ifs) {v : V} {vs acc : List V} {fr1 : Loc} {u : V} {mu : Value} {ρ5 : Rho} {σ' : Sto} {items : Array Value} {nn : Nat} {s5 : Shared} (hf : X.t v X.frc = some fr1) (c : CompIn W X fr1 ρ5 σ' vs acc items nn s5) (ru : VRep ρ5 s5.heap u mu) (hz : szOk acc.length = true)
    (p : X.post W vs σ' (acc ++ [u])) : wpAny (model W.prog W.w) X.a.A (call (.builtin "list.append") [.ref X.dd, mu]) (fun _ s => CompLt W X (v :: vs).length s) (CompErrs W X Q) s5 := by
  have ddh5 : X.dd ∈ ρ5.hid := by rw [c.hh]; exact List.mem_cons_self ..
  have hsz : acc.length = items.size := by rw [c.r.length]; simp
  refine call_meets PySem.F.slot_list_append ⟨_, c.hD, rfl⟩ PySem.F.entry_list_append (PySem.F.args_list_append_2 _ _) (list_append _ items nn mu (by rw [← hsz]; exact szOk_le hz)) ⟨c.hD, ?_⟩
  have hD6 := IsL.update c.hD (fun xs => xs.push mu)
  have gr : Grown X.dd ρ5 s5.heap (s5.heap.update X.dd (Obj.mapSeq fun xs => xs.push mu)) := ⟨Heap.SameBut.update .., ddh5, ⟨_, c.hD, rfl, rfl⟩, ⟨_, hD6, rfl⟩⟩
  refine ⟨vs.length, Nat.lt_succ_self _, vs, σ', ρ5, acc ++ [u], items.push mu, _, rfl, c.hh, St.mk (c.S.heap.grown gr) c.S.gens c.S.os, (c.F.grown gr).sub (H.hap v fr1 hf), c.xx.side (fun b o hne e => SameBut.get gr.same e hne) H.hsD, c.hn, c.I.vm c.hn gr.vmon, hD6, ?_, p⟩
  have := (c.r.vmono gr.vmon).append (.cons (ru.vmono gr.vmon) .nil)
  simpa using this
theorem comp_cont (H : CompCtx W n X elt tgt ifs) {v : V} {vs acc : List V} {fr1 : Loc} {b : Bool} {ρ4 : Rho} {σ4 : Sto} {items : Array Value} {nn : Nat} {s4 : Shared} (hf : X.t v X.frc = some fr1) (c : CompIn W X fr1 ρ4 σ4 vs acc items nn s4)
    (p : PostG W X.a X.ρ X.s ((if b then (if szOk acc.length then (X.fe fr1 σ4).andThen fun u σ2 => compM X.t X.test X.fe X.frc vs σ2 (acc ++ [u]) else .stuck) else compM X.t X.test X.fe X.frc vs σ4 acc).andThen fun us σ2 => .ok (us, σ2) σ2) X.K X.E) :
    if b = true then wpAny (model W.prog W.w) X.a.A (eval elt (cEnv X.a X.csc X.C)) (fun x s₄ => wpAny (model W.prog W.w) X.a.A (call (.builtin "list.append") [.ref X.dd, x]) (fun _ s₅ => CompLt W X (v :: vs).length s₅) (CompErrs W X Q) s₄) (CompErrs W X Q) s4
    else CompLt W X (v :: vs).length s4 := by
  cases b with
  | false =>
    rw [if_neg (by decide)]
    simp only [Bool.false_eq_true, if_false] at p
    exact ⟨vs.length, Nat.lt_succ_self _, vs, σ4, ρ4, acc, items, nn, rfl, c.hh, c.S, c.F.sub (H.hap v fr1 hf), c.xx, c.hn, c.I, c.hD, c.r, p⟩
  | true =>
    rw [if_pos rfl]
    simp only [if_true] at p
    by_cases hz : szOk acc.length = true
    · rw [if_pos hz] at p
      refine H.he (cAct X.a X.csc X.C) H.ok' rfl ρ4 σ4 fr1 s4 c.S c.F _ _ ?_
      cases hr : X.fe fr1 σ4 with
      | stuck => rw [hr] at p; exact p.elim
      | exc k σ' => rw [hr] at p; exact fun ρ' s' e B T x => comp_exc H c.hh c.F c.xx T x p
      | ok u σ' =>
        rw [hr] at p
        exact fun ρ5 s5 S5 x5 mu ru => comp_put H hf (c.ext S5 x5) ru hz p
    · rw [if_neg hz] at p; exact p.elim
theorem comp_turn (H : CompCtx W n X elt tgt ifs) {G : Value → Addr → Shared → Prop} (hG : ∀ C dd ρc us σ' s' items nn, CompEnd W X.a X.ρ X.s C dd ρc us σ' s' items nn → PostG W X.a X.ρ X.s (.ok (us, σ') σ') X.K X.E → G (.ref dd) C s') (k : Nat) (s' : Shared) (h : CompInv W X k s') :
    wpAny (model W.prog W.w) X.a.A (pyNext (.ref X.it)) (fun r s₁ => match r with
      | none => G (.ref X.dd) X.C s₁
      | some v => wpAny (model W.prog W.w) X.a.A (PySem.assign tgt (cEnv X.a X.csc X.C) v) (fun _ s₂ =>
          wpAny (model W.prog W.w) X.a.A (forIn ifs true fun c r => if r = true then do let ok ← isTrue c (cEnv X.a X.csc X.C) (eval c (cEnv X.a X.csc X.C)); pure (ForInStep.yield ok) else pure (ForInStep.yield r)) (fun ok s₃ =>
            if ok = true then wpAny (model W.prog W.w) X.a.A (eval elt (cEnv X.a X.csc X.C)) (fun x s₄ => wpAny (model W.prog W.w) X.a.A (call (.builtin "list.append") [.ref X.dd, x]) (fun _ s₅ => CompLt W X k s₅) (CompErrs W X Q) s₄) (CompErrs W X Q) s₃
            else CompLt W X k s₃) (CompErrs W X Q) s₂) (CompErrs W X Q) s₁) (CompErrs W X Q) s' := by
  obtain ⟨vs, σ, ρc, acc, items, nn, rfl, hh, S, FC, x4, hn, I, hD, r, p⟩ := h
  cases vs with
  | nil =>
    refine next_end H.ok.hand I fun h' sd => ?_
    have F' := FC.side sd
    obtain ⟨m, hm, _⟩ := F'.ns
    exact hG X.C X.dd ρc acc σ { s' with heap := h' } items nn ⟨hh, S.side (tk := s'.toks) sd H.hbit, F'.apartL, F'.baseL, ⟨m, hm⟩, H.hsC, H.hDC, H.hsD, sd.get hD (not_scratch_list rfl), r.side sd, x4.side (fun b o hne e => sd.same b o hne e) H.h0⟩ p
  | cons v vs =>
    refine next_item I fun h' tk mv I' sd rv => ?_
    unfold CompFix.post compM at p
    cases hf : X.t v X.frc with
    | none => rw [hf] at p; exact p.elim
    | some fr1 =>
    rw [hf] at p
    simp only at p
    refine H.ht (cAct X.a X.csc X.C) H.ok' rfl ρc σ X.frc _ (S.side (tk := tk) sd H.hbit) (FC.side sd) v mv fr1 rv hf _ _ fun s3 S3 x3 F3 => ?_
    have ddh : X.dd ∈ ρc.hid := by rw [hh]; exact List.mem_cons_self ..
    have c3 : CompIn W X fr1 ρc σ vs acc items nn s3 := ⟨hh, S3, F3, (x4.side (fun b o hne e => sd.same b o hne e) H.h0).trans (x3.un hh), hn, I'.ext hn x3, x3.held _ ddh _ (sd.get hD (not_scratch_list rfl)), (r.side sd).mono x3⟩
    have pass : ∀ {α : Type} (r : Res α) (f : α → Sto → Res (List V)), (r.andThen f).andThen (fun us σ2 => Res.ok (us, σ2) σ2) = r.andThen fun x σ => (f x σ).andThen fun us σ2 => .ok (us, σ2) σ2 := by
      intro α r f; cases r <;> rfl
    rw [pass] at p
    have htest := H.htest
    cases htt : X.test with
    | none =>
      rw [htt] at htest p
      cases ifs with
      | nil => exact wpAny_tests_nil (comp_cont H (b := true) hf c3 (by rw [htt]; exact p))
      | cons c cs => exact htest.elim
    | some tt =>
      rw [htt] at htest p
      cases ifs with
      | nil => exact htest.elim
      | cons c cs =>
        cases cs with
        | cons _ _ => exact htest.elim
        | nil =>
          refine wpAny_tests_one (htest (cAct X.a X.csc X.C) H.ok' rfl ρc σ fr1 s3 S3 F3 _ _ ?_)
          cases hr : tt fr1 σ with
          | stuck => simp only [hr] at p; exact p.elim
          | exc c σ' => simp only [hr] at p; exact fun ρ' s' e B T x => comp_exc H hh F3 c3.xx T x p
          | ok b σ' => simp only [hr] at p; exact fun ρ4 s4 S4 x4 => comp_cont H (b := b) hf (c3.ext S4 x4) (by rw [htt]; exact p)
end
theorem comp_core {elt iter tgt : PySem.Expr} {ifs : List PySem.Expr} {csc : Scope} {pos : Pos} {caps : List Nat} {t : Tgt} {test : Option (ME Bool)} {fe : ME V} {Q : Value → Shared → Prop}
    {K : List V × Sto → Rho → Shared → Prop} {G : Value → Addr → Shared → Prop}
    (hcs : CompScope W csc a.env.scope caps) (ht : DenTL W n (relab csc a.env.scope) tgt t) (hap : TgtApart t caps) (htest : TestOk W n (relab csc a.env.scope) test ifs) (he : DenE W n (relab csc a.env.scope) elt fe)
    (hlet : ∀ v w, letOwnedTupleGo tgt w v = pure ()) (ok : ActOk n a) (S : St W ρ σ s) (F : FS W a fr ρ s.heap) {vs : List V} {σ1 : Sto} {ρ1 : Rho} {s1 : Shared} {it : Addr} (S1 : St W ρ1 σ1 s1) (F1 : FS W a fr ρ1 s1.heap)
    (x1 : Ext [] ρ s.heap ρ1 s1.heap) (h0 : s.heap.get? it = none) (hn1 : it ∉ muts ρ1) (I1 : IterOk ρ1 s1.heap it vs)
    (p1 : PostG W a ρ s ((compM t test fe (cap fr caps) vs σ1 []).andThen fun us σ2 => .ok (us, σ2) σ2) K E)
    (hG : ∀ C dd ρc us σ' s' items nn, CompEnd W a ρ s C dd ρc us σ' s' items nn → PostG W a ρ s (.ok (us, σ') σ') K E → G (.ref dd) C s') :
    wpAny (model W.prog W.w) a.A (newList []) (fun acc s₃ => wpAny (model W.prog W.w) a.A (newFunctionEnv csc a.env.globals (clOf a.env.cells csc.names []) [] a.env.qual none .none (some a.env)) (fun cenv s₄ =>
      codeAny (model W.prog W.w) a.A (.compStart (.ListComp elt [⟨tgt, iter, ifs, 0⟩] csc pos) 0 (.ref it) acc { cenv with scope := relabel csc a.env }) (fun r s' => match r with
        | .ok _ => G acc cenv.locals s'
        | .error x => ∃ m, s'.heap.Ns cenv.locals m ∧ ∀ h', Heap.SameBut cenv.locals s'.heap h' → wpAny (model W.prog W.w) a.A (PySem.passOn "comprehension.variables-let-go" x { cenv with scope := relabel csc a.env }) Q E { s' with heap := h' }) s₄) E s₃) E s1 := by
  refine wpAny_newObj_type (wpAny_newFunctionEnv hcs.nocell (by intro y hy; simp at hy) (fun h₁ hns₁ hsb₁ => ?_) hcs.kind)
  dsimp only at hns₁ hsb₁ ⊢
  generalize hH2 : s1.heap.push { cls := .type "list", dict := none, data := .seq ([] : List Value).toArray } = H2 at hns₁ hsb₁ ⊢
  have hC : H2.objs.size = s1.heap.objs.size + 1 := by rw [← hH2, Heap.size_push]
  have hDC : s1.heap.objs.size ≠ H2.objs.size := by rw [hC]; exact Nat.ne_of_lt (Nat.lt_succ_self _)
  have hk : ∀ b o, s1.heap.get? b = some o → h₁.get? b = some o := fun b o e =>
    hsb₁.extBut b o (by rw [hC]; exact Nat.ne_of_lt (Nat.lt_succ_of_lt (Heap.lt_size e))) (Heap.get?_push_of_some _ (hH2 ▸ Heap.get?_push_of_some _ e))
  have hDg : h₁.get? s1.heap.objs.size = some ⟨.type "list", none, .seq #[] 0, #[]⟩ := hsb₁.extBut _ _ hDC (Heap.get?_push_of_some _ (hH2 ▸ Heap.get?_push_size _ rfl))
  have hDnone := get_end s1.heap
  have hCnone : s1.heap.get? H2.objs.size = none := by
    cases z : s1.heap.get? H2.objs.size with
    | none => rfl
    | some o => exact absurd (Heap.lt_size z) (by rw [hC]; exact Nat.not_lt.mpr (Nat.le_succ _))
  generalize hCC : H2.objs.size = C at hns₁ hsb₁ hDC hCnone ⊢
  generalize hDD : s1.heap.objs.size = dd at hDg hDnone hDC ⊢
  clear hsb₁ hH2
  have hsC : s.heap.get? C = none := by
    cases z : s.heap.get? C with
    | none => rfl
    | some o => obtain ⟨o', e'⟩ := x1.live _ _ z; rw [hCnone] at e'; cases e'
  have hsD : s.heap.get? dd = none := by
    cases z : s.heap.get? dd with
    | none => rfl
    | some o => obtain ⟨o', e'⟩ := x1.live _ _ z; rw [hDnone] at e'; cases e'
  have hbit : W.h₀.get? it = none := by
    cases z : W.h₀.get? it with
    | none => rfl
    | some o => have := S.heap.base _ _ z; rw [h0] at this; cases this
  have ok' : ActOk n ⟨a.A, compEnvC csc (clOf a.env.cells csc.names []) C a.env, a.l⟩ := ⟨⟨ok.hand, ok.frames, ok.depth, ok.units⟩, ok.head, hcs.kind, ok.glob, ok.blt⟩
  have hCF : C ∉ frs a.l := fun hm => by
    obtain ⟨e, he, hf⟩ := List.mem_filterMap.mp hm
    obtain ⟨_, L, o, hf', _, _, ho, _⟩ := F.live e he
    rw [hf] at hf'; injection hf' with hf'
    rw [← hf', hsC] at ho; cases ho
  have F2 := comp_frame ok hcs S1.heap F1 hk hCnone hDnone (Ne.symm hDC) hns₁
  obtain ⟨oit, hoit, _⟩ := I1.fields
  have hn2 : it ∉ muts (ρ1.hide dd) := fun hm => by
    rcases mem_hide.mp hm with z | z
    · rw [z, hDnone] at hoit; cases hoit
    · exact hn1 z
  let X : CompFix := ⟨a, ρ, s, csc, C, dd, it, cap fr caps, t, test, fe, K, E⟩
  have H : CompCtx W n X elt tgt ifs := ⟨ok, ok', hsC, hsD, hCF, hbit, h0, hDC, ht, hap fr, htest, he⟩
  have loop : ∀ s4 : Shared, s4.heap = h₁ → s4.gens = s1.gens → s4.os = s1.os →
      codeAny (model W.prog W.w) a.A (.compLoop (.ListComp elt [⟨tgt, iter, ifs, 0⟩] csc pos) 0 (.ref it) (.ref dd) (cEnv a csc C))
        (fun r s' => match r with | .ok _ => G (.ref dd) C s' | .error x => CompErr W a csc C Q E x s') s4 := fun s4 hs4 hg4 ho4 =>
    codeAny_compLoop_tests (CompInv W X) (comp_turn H hG) vs.length
      ⟨vs, σ1, ρ1.hide dd, [], #[], 0, rfl, by show dd :: ρ1.hid = dd :: ρ.hid; rw [← x1.hid], St.mk (by rw [hs4]; exact S1.heap.hide hk hDnone ⟨_, hDg, rfl⟩) (hg4.trans S1.gens) (ho4.trans S1.os), by rw [hs4]; exact F2,
        by show Ext [C] ρ s.heap ((ρ1.hide dd).un ρ.hid) s4.heap; rw [un_self x1.hid, hs4]; exact x1.of0.trans (Ext.of_keeps hk), hn2, by rw [hs4]; exact I1.vm hn1 (VMon.hide hk hDnone), by rw [hs4]; exact hDg, .nil, p1⟩ (fun v => hlet v _)
  exact codeAny_compStart_list (loop _ rfl rfl rfl) (iter_self (I1.vm hn1 (VMon.hide hk hDnone)) (loop _ rfl rfl rfl))
theorem CompEnd.fin {C dd : Addr} {ρc : Rho} {us : List V} {σ' : Sto} {items : Array Value} {nn : Nat} (c : CompEnd W a ρ s C dd ρc us σ' s' items nn) {h'' : Heap} (hsb : Heap.SameBut C s'.heap h'') :
    StH W ρc σ' h'' ∧ Ext [] ρ s.heap (ρc.un ρ.hid) h'' ∧ h''.get? dd = some ⟨.type "list", none, .seq items nn, #[]⟩ ∧ VReps ρc h'' us items.toList := by
  obtain ⟨m, hm⟩ := c.ns
  obtain ⟨oC, eC, qC⟩ := Ns.soft hm
  have hq : ∀ o, s'.heap.get? C = some o → softObj o = true := fun o e => by rw [eC] at e; cases e; exact qC
  have S'' := c.st.heap.but c.apart c.base hq hsb
  refine ⟨S'', (c.ext.side (fun b o hne e => SameBut.get hsb e hne) c.newC).drop fun b o e hm => ?_, SameBut.get hsb c.at_ c.ne, c.reps.vmono (VMon.but hsb hq)⟩
  rw [List.mem_singleton.mp hm, c.newC] at e; cases e
theorem hid_notin {ρc : Rho} {H : List Addr} {dd : Addr} (S : StH W ρc σ h) (hh : ρc.hid = dd :: H) : dd ∉ muts (ρc.un H) := by
  have nd := S.nodup
  unfold muts at nd
  rw [hh] at nd
  rw [List.nodup_append] at nd
  intro hm
  rcases mem_muts'.mp hm with z | z
  · exact nd.2.2 dd z dd (List.mem_cons_self ..) rfl
  · exact (List.nodup_cons.mp nd.2.1).1 z
/-- the hidden list made one of the store -/
theorem StH.reveal {ρc : Rho} {H : List Addr} {dd : Addr} {us : List V} {items : Array Value} {nn : Nat} (S : StH W ρc σ h) (hh : ρc.hid = dd :: H) (hD : h.get? dd = some ⟨.type "list", none, .seq items nn, #[]⟩) (r : VReps ρc h us items.toList) :
    StH W ((ρc.un H).add (dd, dd)) (σ ++ [.list us]) h := by
  have mem : ∀ b, b ∈ muts ((ρc.un H).add (dd, dd)) ↔ b ∈ muts ρc := fun b => by
    simp only [mem_muts', Rho.add, Rho.un, List.map_append, List.mem_append, List.map_cons, List.map_nil, hh, List.mem_cons, List.not_mem_nil, or_false]
    constructor
    · rintro ((h | h) | h)
      · exact .inl h
      · exact .inr (.inl h)
      · exact .inr (.inr h)
    · rintro (h | h | h)
      · exact .inl (.inl h)
      · exact .inl (.inr h)
      · exact .inr h
  have vm : VMon ρc h ((ρc.un H).add (dd, dd)) h := ⟨fun i p e => by
    simp only [Rho.add, Rho.un]
    rw [List.getElem?_append_left (List.getElem?_eq_some_iff.mp e).1]; exact e, fun _ _ e _ _ => e, fun b o e hn hm => hn ((mem b).mp hm)⟩
  refine ⟨S.base, fun b hb => S.fresh b ((mem b).mp hb), fun b hb => S.hidc b (by rw [hh]; exact List.mem_cons_of_mem _ hb), ?_, by simp [Rho.add, Rho.un, S.len], fun i o p e e' => ?_⟩
  · have nd := S.nodup
    unfold muts at nd ⊢
    rw [hh] at nd
    simp only [Rho.add, Rho.un, List.map_append, List.map_cons, List.map_nil]
    rw [List.append_assoc]; exact nd
  · by_cases hj : i < σ.length
    · rw [List.getElem?_append_left hj] at e
      simp only [Rho.add, Rho.un] at e'
      rw [List.getElem?_append_left (by rw [S.len]; exact hj)] at e'
      exact (S.objs i o p e e').mono vm (fun ob z => z) fun ob z _ => ⟨ob.slots, z⟩
    · have hj' : σ.length ≤ i := by omega
      rw [List.getElem?_append_right hj'] at e
      simp only [Rho.add, Rho.un] at e'
      rw [List.getElem?_append_right (by rw [S.len]; exact hj')] at e'
      rw [S.len] at e'
      cases z : i - σ.length with
      | zero => rw [z] at e e'; simp at e e'; subst e e'; exact ⟨rfl, items, nn, hD, r.vmono vm⟩
      | succ n => rw [z] at e; simp at e
theorem DenE.comp {elt iter tgt : PySem.Expr} {ifs : List PySem.Expr} {csc : Scope} {pos : Pos} {caps : List Nat} {t : Tgt} {fi : ME (List V)} {test : Option (ME Bool)} {fe : ME V}
    (hi : DenI W n sc iter fi) (hcs : CompScope W csc sc caps) (ht : DenTL W n (relab csc sc) tgt t) (hap : TgtApart t caps) (htest : TestOk W n (relab csc sc) test ifs) (he : DenE W n (relab csc sc) elt fe)
    (hlet : ∀ v w, letOwnedTupleGo tgt w v = pure ()) (hs : ∀ (env : Env) x, foldedSetIterable iter env x = pure x) :
    DenE W n sc (.ListComp elt [⟨tgt, iter, ifs, 0⟩] csc pos) (eComp caps t fi test fe) := by
  intro a ok hsc ρ σ fr s S F Q E p
  subst hsc
  have hfree : ∀ x ∈ csc.names, x.2 = .free → ∃ c, a.env.cells.lookup x.1 = some c := fun x hx hk => F.laid _ (hcs.free x hx hk)
  rw [eval_ListComp]
  refine wpAny_comprehension_x (cl := clOf a.env.cells csc.names []) rfl (hs a.env) (closureFor_eq hfree) hcs.kind hcs.locals (hi.bind ok rfl S F p fun vs σ1 ρ1 s1 it S1 F1 x1 h0 hn1 I1 p1 => ?_)
  have p2 : PostG W a ρ s ((compM t test fe (cap fr caps) vs σ1 []).andThen fun us σ2 => .ok (us, σ2) σ2) (fun u ρ s => KV Q (.list u.1) ρ s) E := by
    cases hr : compM t test fe (cap fr caps) vs σ1 [] with
    | ok us σ' => simp only [hr] at p1; exact p1
    | exc c σ' => simp only [hr] at p1; exact p1
    | stuck => simp only [hr] at p1; exact p1
  refine wpAny_mono (comp_core (Q := Q) (G := fun acc C s' => ∃ m, s'.heap.Ns C m ∧ ∀ h', Heap.SameBut C s'.heap h' → Q acc { s' with heap := h' }) hcs ht hap htest he hlet ok S F S1 F1 x1 h0 hn1 I1 p2 fun C dd ρc us σ' s' items nn c q => ?_) (fun acc s₃ h₃ => wpAny_mono h₃ (fun cenv s₄ h₄ => codeAny_mono h₄ fun r s' hr => ?_) fun _ _ h => h) fun _ _ h => h
  · obtain ⟨m, hm⟩ := c.ns
    refine ⟨m, hm, fun h'' hsb => ?_⟩
    obtain ⟨S'', X'', hD'', r''⟩ := c.fin hsb
    exact q (ρc.un ρ.hid) { s' with heap := h'' } (St.mk (S''.un c.hid) c.st.gens c.st.os) X'' _ (.list hD'' rfl rfl (hid_notin S'' c.hid) (r''.un c.hid))
  · cases r with
    | ok f => exact hr
    | error x => exact hr
/-- a comprehension whose list is changed later -/
noncomputable def eCompR (caps : List Nat) (t : Tgt) (fi : ME (List V)) (test : Option (ME Bool)) (elt : ME V) : ME V := fun fr σ => (fi fr σ).andThen fun vs σ1 => (compM t test elt (cap fr caps) vs σ1 []).andThen fun us σ2 => .ok (.ref σ2.length) (σ2 ++ [.list us])
theorem DenE.compR {elt iter tgt : PySem.Expr} {ifs : List PySem.Expr} {csc : Scope} {pos : Pos} {caps : List Nat} {t : Tgt} {fi : ME (List V)} {test : Option (ME Bool)} {fe : ME V}
    (hi : DenI W n sc iter fi) (hcs : CompScope W csc sc caps) (ht : DenTL W n (relab csc sc) tgt t) (hap : TgtApart t caps) (htest : TestOk W n (relab csc sc) test ifs) (he : DenE W n (relab csc sc) elt fe)
    (hlet : ∀ v w, letOwnedTupleGo tgt w v = pure ()) (hs : ∀ (env : Env) x, foldedSetIterable iter env x = pure x) :
    DenE W n sc (.ListComp elt [⟨tgt, iter, ifs, 0⟩] csc pos) (eCompR caps t fi test fe) := by
  intro a ok hsc ρ σ fr s S F Q E p
  subst hsc
  have hfree : ∀ x ∈ csc.names, x.2 = .free → ∃ c, a.env.cells.lookup x.1 = some c := fun x hx hk => F.laid _ (hcs.free x hx hk)
  rw [eval_ListComp]
  refine wpAny_comprehension_x (cl := clOf a.env.cells csc.names []) rfl (hs a.env) (closureFor_eq hfree) hcs.kind hcs.locals (hi.bind ok rfl S F p fun vs σ1 ρ1 s1 it S1 F1 x1 h0 hn1 I1 p1 => ?_)
  have p2 : PostG W a ρ s ((compM t test fe (cap fr caps) vs σ1 []).andThen fun us σ2 => .ok (us, σ2) σ2)
      (fun u _ s' => ∀ ρ'', St W ρ'' (u.2 ++ [.list u.1]) s' → Ext [] ρ s.heap ρ'' s'.heap → KV Q (.ref u.2.length) ρ'' s') E := by
    cases hr : compM t test fe (cap fr caps) vs σ1 [] with
    | ok us σ' => simp only [hr] at p1; exact fun ρ' s' _ _ ρ'' S'' x'' => p1 ρ'' s' S'' x''
    | exc c σ' => simp only [hr] at p1; exact p1
    | stuck => simp only [hr] at p1; exact p1
  refine wpAny_mono (comp_core (Q := Q) (G := fun acc C s' => ∃ m, s'.heap.Ns C m ∧ ∀ h', Heap.SameBut C s'.heap h' → Q acc { s' with heap := h' }) hcs ht hap htest he hlet ok S F S1 F1 x1 h0 hn1 I1 p2 fun C dd ρc us σ' s' items nn c q => ?_) (fun acc s₃ h₃ => wpAny_mono h₃ (fun cenv s₄ h₄ => codeAny_mono h₄ fun r s' hr => ?_) fun _ _ h => h) fun _ _ h => h
  · obtain ⟨m, hm⟩ := c.ns
    refine ⟨m, hm, fun h'' hsb => ?_⟩
    obtain ⟨S'', X'', hD'', r''⟩ := c.fin hsb
    have SR := S''.reveal c.hid hD'' r''
    have x3 : Ext [] ρ s.heap ((ρc.un ρ.hid).add (dd, dd)) h'' := by
      obtain ⟨u, hu1, hu⟩ := X''.more
      refine ⟨⟨u ++ [(dd, dd)], by simp only [Rho.add]; rw [hu1]; simp, fun b hb => ?_⟩, X''.hid, X''.held, X''.live, X''.keep, X''.slot, X''.soft⟩
      rw [List.map_append] at hb
      rcases List.mem_append.mp hb with z | z
      · exact hu b z
      · simp at z; rw [z]; exact c.newD
    refine q (ρc.un ρ.hid) { s' with heap := h'' } (St.mk (S''.un c.hid) c.st.gens c.st.os) X'' _ (St.mk SR c.st.gens c.st.os) x3 _ (.ref (p := (dd, dd)) ?_)
    have hl : (ρc.un ρ.hid).objs.length = σ'.length := S''.len
    show ((ρc.un ρ.hid).objs ++ [(dd, dd)])[σ'.length]? = some (dd, dd)
    rw [← hl]; simp
  · cases r with
    | ok f => exact hr
    | error x => exact hr
end
end Mine
/-! A23 -/
namespace Mine
open PySem PySem.W PyProof.Rows
section
variable {M : Model} {A : Around} {E : Value → Shared → Prop} {s : Shared} {env : Env}
theorem wpAny_comprehension_u {e : PySem.Expr} {scope : Scope} {pos : Pos} {newAcc first : Sem Value} {g : Comprehension} {gs : List Comprehension} {cl : List (PySem.Str × Addr)} {u : Value → Sem Unit}
    {Q : Value → Shared → Prop}
    (hcl : clausesOf e = g :: gs) (hs : ∀ x, foldedSetIterable g.iter env x = pure x) (hclos : closureFor scope env = pure cl)
    (hkind : scope.kind = .function) (hnames : ∀ x ∈ scope.names, x.2 = .local → scope.names.lookup x.1 = some .local)
    (h : wpAny M A first (fun x s₁ => wpAny M A (pyIter x) (fun it s₂ => wpAny M A newAcc (fun acc s₃ =>
      wpAny M A (newFunctionEnv scope env.globals cl [] env.qual none .none (some env)) (fun cenv s₄ =>
        codeAny M A (.compStart e 0 it acc { cenv with scope := relabel scope env }) (fun r s' =>
          match r with
          | .ok _ => wpAny M A (u acc) (fun _ s'' => ∃ m, s''.heap.Ns cenv.locals m ∧ ∀ h', Heap.SameBut cenv.locals s''.heap h' → Q .none { s'' with heap := h' }) E s'
          | .error x => ∃ m, s'.heap.Ns cenv.locals m ∧ ∀ h', Heap.SameBut cenv.locals s'.heap h' → wpAny M A (PySem.passOn "comprehension.variables-let-go" x { cenv with scope := relabel scope env }) Q E { s' with heap := h' }) s₄) E s₃) E s₂) E s₁) E s) :
    wpAny M A (comprehension e scope env pos newAcc false first (some u)) Q E s := by
  unfold comprehension
  rw [hclos, hcl]
  refine wpAny_bind (wpAny_mono h (fun x s₁ h₁ => wpAny_bind (wpAny_standAt (wpAny_bind (wpAny_of_eq (hs x) (wpAny_bind (wpAny_holding (wpAny_mono h₁ (fun it s₂ h₂ =>
    wpAny_standIf (wpAny_bind (wpAny_mono h₂ (fun acc s₃ h₃ => wpAny_bind (wpAny_pure (wpAny_bind (wpAny_mono h₃ (fun cenv s₄ h₄ => ?_) fun _ _ h' => h')))) fun _ _ h' => h')))
      fun _ _ h' => h'))))))) fun _ _ h' => h')
  dsimp only
  have hv : ∀ x ∈ (scope.names.filter fun x => (x.2 == .local || x.2 == .cell) && x.1 != (".0" : PySem.Str)).reverse, x.2 = .local →
      Env.kindOf { cenv with scope := relabel scope env } x.1 = some .local := fun x hx hl => lookup_relabel_local (hnames x (List.mem_filter.mp (List.mem_reverse.mp hx)).1 hl)
  have hv' : ∀ x ∈ (scope.names.filter fun x => (x.2 == .local || x.2 == .cell) && x.1 != (".0" : PySem.Str)).reverse.drop 1 ++ (scope.names.filter fun x => (x.2 == .local || x.2 == .cell) && x.1 != (".0" : PySem.Str)).reverse.take 1,
      x.2 = .local → Env.kindOf { cenv with scope := relabel scope env } x.1 = some .local := fun x hx hl => by
    rcases List.mem_append.mp hx with h1 | h1
    · exact hv x (List.mem_of_mem_drop h1) hl
    · exact hv x (List.mem_of_mem_take h1) hl
  refine wpAny_holding (wpAny_bind (wpAny_attempt (wpAny_holding (wpAny_run (codeAny_mono h₄ fun r s' hr => ?_)))))
  cases r with
  | ok f =>
    refine wpAny_bind (wpAny_rule (wpAny_bind (wpAny_holding (wpAny_mono hr (fun _ s'' hr' => ?_) fun _ _ h' => h'))))
    obtain ⟨m, hn, hr'⟩ := hr'
    exact wpAny_bind (wpAny_comp_letGo (cenv := { cenv with scope := relabel scope env }) hkind _ s'' m hv' hn fun h' m' _ hs' => wpAny_pure (hr' h' hs'))
  | error x =>
    obtain ⟨m, hn, hr⟩ := hr
    exact wpAny_bind (wpAny_holding (wpAny_comp_letGo (cenv := { cenv with scope := relabel scope env }) hkind _ s' m hv hn fun h' m' _ hs' => hr h' hs'))
end
section
variable {W : Wd} {n : Nat} {sc : Scope} {a : Act} {fr : Loc} {ρ ρ' : Rho} {σ : Sto} {h h' : Heap} {s s' : Shared} {D : List Addr} {E : Value → Shared → Prop} {d : Addr}
theorem FS.but {C : Addr} {fr0 : Loc} {ρ0 : Rho} {h0 : Heap} (F0 : FS W a fr0 ρ0 h0) (hC : h0.get? C = none) (F : FS W a fr ρ h) (hs : Heap.SameBut C h h') (hq : ∀ o, h.get? C = some o → softObj o = true) : FS W a fr ρ h' := by
  have vm : VMon ρ h ρ h' := VMon.but hs hq
  have ne : ∀ b o, h0.get? b = some o → b ≠ C := fun b o e z => by rw [z, hC] at e; cases e
  obtain ⟨m0, ⟨oL, _, _, hoL, _⟩, _⟩ := F0.ns
  have cellK : ∀ y c u, (y, c) ∈ a.env.cells → h.IsCell c u → h'.IsCell c u := fun y c u hy ⟨o, ho, hd⟩ => by
    obtain ⟨_, _, _, o2, ho2, _⟩ := F0.cells y c hy
    exact ⟨o, SameBut.get hs ho (ne _ _ ho2), hd⟩
  obtain ⟨m, ⟨o, es, ep, ho, hd, q⟩, hv⟩ := F.ns
  refine ⟨fun e he => ?_, ⟨m, ⟨o, es, ep, SameBut.get hs ho (ne _ _ hoL), hd, q⟩, fun i v e => ⟨(hv i v e).1, ?_⟩⟩, F.apartL, F.baseL, fun y c hy => ?_, F.apart, F.laid⟩
  · obtain ⟨k, L, o, hf, hn, hb, ho, hs'⟩ := F.live e he
    obtain ⟨_, L2, o2, hf2, _, _, ho2, _⟩ := F0.live e he
    rw [hf] at hf2; injection hf2 with hf2
    exact ⟨k, L, o, hf, hn, hb, SameBut.get hs ho (ne _ _ (hf2 ▸ ho2)), hs'⟩
  · have r := (hv i v e).2
    unfold VarAt at r ⊢
    split at r
    · obtain ⟨mv, hm, hv⟩ := r; exact ⟨mv, hm, hv.vmono vm⟩
    · obtain ⟨c, mv, hl, hcell, hv⟩ := r; exact ⟨c, mv, hl, cellK _ _ _ (mem_of_lookup hl) hcell, hv.vmono vm⟩
    · obtain ⟨c, mv, hl, hcell, hv⟩ := r; exact ⟨c, mv, hl, cellK _ _ _ (mem_of_lookup hl) hcell, hv.vmono vm⟩
    · exact r.elim
  · obtain ⟨h1, h2, v, h3⟩ := F.cells y c hy
    exact ⟨h1, h2, v, cellK y c v hy h3⟩
/-- x = [..], the stores exchanged -/
theorem DenS.assignComp {elt iter tgt : PySem.Expr} {ifs : List PySem.Expr} {csc : Scope} {pos : Pos} {caps : List Nat} {t : Tgt} {fi : ME (List V)} {test : Option (ME Bool)} {fe : ME V} {y : PySem.Str} {py spos : Pos} {i : Nat}
    (hi : DenI W n sc iter fi) (hcs : CompScope W csc sc caps) (ht : DenTL W n (relab csc sc) tgt t) (hap : TgtApart t caps) (htest : TestOk W n (relab csc sc) test ifs) (he : DenE W n (relab csc sc) elt fe)
    (hlet : ∀ v w, letOwnedTupleGo tgt w v = pure ()) (hs : ∀ (env : Env) x, foldedSetIterable iter env x = pure x)
    (hyi : i < W.nN) (hy : W.nm i = y) (hyk : sc.names.lookup y = some .local)
    (hsw : ∀ env : Env, env.scope = sc → swapsWith (.ListComp elt [⟨tgt, iter, ifs, 0⟩] csc pos) (some (.Name y py)) spos.line env = pure true) :
    DenS W n sc (.Assign [.Name y py] (.ListComp elt [⟨tgt, iter, ifs, 0⟩] csc pos) spos) (sAssign (tName i) (eComp caps t fi test fe)) := by
  intro a ok hsc ρ σ fr s S F Q E p
  have hsw' := hsw a.env hsc
  subst hsc
  have hfree : ∀ x ∈ csc.names, x.2 = .free → ∃ c, a.env.cells.lookup x.1 = some c := fun x hx hk => F.laid _ (hcs.free x hx hk)
  rw [exec_Assign_Name_used _ _ _ _ hsw']
  refine wpAny_bind (wpAny_standAt (wpAny_bind ?_))
  show wpAny _ _ (do let _ ← comprehension (.ListComp elt [⟨tgt, iter, ifs, 0⟩] csc pos) csc a.env _ (newList []) false (eval iter a.env) (some (PySem.assign (.Name y py) a.env))) _ _ s
  have p0 : PostS W a ρ s (sBind fi (fun vs fr σ1 => match compM t test fe (cap fr caps) vs σ1 [] with | .ok us σ' => .next (fset fr i (.list us)) σ' | .exc c σ' => .exc c fr σ' | .stuck => .stuck) fr σ) Q E := by
    unfold sAssign sBind eComp tName at p
    unfold sBind
    cases hf : fi fr σ with
    | stuck => rw [hf] at p; exact p
    | exc c σ' => rw [hf] at p; exact p
    | ok vs σ1 =>
      rw [hf] at p
      simp only [Res.andThen] at p ⊢
      cases hr : compM t test fe (cap fr caps) vs σ1 [] with
      | ok us σ' => simp only [hr] at p ⊢; exact p
      | exc c σ' => simp only [hr] at p ⊢; exact p
      | stuck => simp only [hr] at p ⊢; exact p
  refine wpAny_bind (wpAny_mono (wpAny_comprehension_u (u := PySem.assign (.Name y py) a.env) (Q := fun _ s' => Q .next s') (cl := clOf a.env.cells csc.names []) rfl (hs a.env) (closureFor_eq hfree) hcs.kind hcs.locals
    (hi.bindS ok rfl S F p0 fun vs σ1 ρ1 s1 it S1 F1 x1 h0 hn1 I1 p1 => ?_)) (fun _ s' hq => wpAny_pure (wpAny_pure hq)) fun _ _ e => e)
  have p2 : PostG W a ρ s ((compM t test fe (cap fr caps) vs σ1 []).andThen fun us σ2 => .ok (us, σ2) σ2)
      (fun u ρ' _ => ∀ s3, St W ρ' u.2 s3 → Ext a.D ρ s.heap ρ' s3.heap → FS W a (fset fr i (.list u.1)) ρ' s3.heap → Q .next s3) E := by
    cases hr : compM t test fe (cap fr caps) vs σ1 [] with
    | ok us σ' =>
      simp only [hr] at p1
      exact fun ρ' s' _ _ s3 S' x' F' => p1 ρ' s3 S' x' F'
    | exc c σ' => simp only [hr] at p1; exact fun ρ' s' e B T x => p1 ρ' s' e B (.inl T) x.of0 (F.ext (x.ext (T.elim (·.2.2.1) (·.2.2.1))))
    | stuck => simp only [hr] at p1; exact p1
  refine comp_core (Q := fun _ s' => Q .next s') (G := fun acc C s' => wpAny (model W.prog W.w) a.A (PySem.assign (.Name y py) a.env acc) (fun _ s'' => ∃ m, s''.heap.Ns C m ∧ ∀ h', Heap.SameBut C s''.heap h' → Q .next { s'' with heap := h' }) E s') hcs ht hap htest he hlet ok S F S1 F1 x1 h0 hn1 I1 p2
    fun C dd ρc us σ' s' items nn c q => ?_
  have x0 : Ext [] ρ s.heap (ρc.un ρ.hid) s'.heap := c.ext.drop fun b o e hm => by rw [List.mem_singleton.mp hm, c.newC] at e; cases e
  have SU : St W (ρc.un ρ.hid) σ' s' := St.mk (c.st.heap.un c.hid) c.st.gens c.st.os
  have FU := F.ext x0
  have rv : VRep (ρc.un ρ.hid) s'.heap (.list us) (.ref dd) := .list c.at_ rfl rfl (hid_notin c.st.heap c.hid) (c.reps.un c.hid)
  obtain ⟨mC, hmC⟩ := c.ns
  have hCn : C ∉ muts (ρc.un ρ.hid) := fun hm => c.apart (un_sub c.hid hm)
  refine wpAny_assign_Name (store_local ok rfl SU FU hyi hy hyk rv fun s2 S2 x2 F2 => ?_)
  obtain ⟨m0, ⟨oL, _, _, hoL, _⟩, _⟩ := F.ns
  have hCL : C ≠ a.env.locals := fun z => by rw [← z, c.newC] at hoL; cases hoL
  have hm2 : s2.heap.Ns C mC := by
    obtain ⟨o, es, ep, ho, hd, r⟩ := hmC
    obtain ⟨sl, e⟩ := x2.slot _ _ ho hCn (by simpa using hCL) (by simp [softObj, hd])
    exact ⟨_, es, ep, e, hd, r⟩
  refine ⟨mC, hm2, fun h' hsb => ?_⟩
  obtain ⟨oC, eC, qC⟩ := Ns.soft hm2
  have hq : ∀ o, s2.heap.get? C = some o → softObj o = true := fun o e => by rw [eC] at e; cases e; exact qC
  have x3 : Ext a.D ρ s.heap (ρc.un ρ.hid) h' := (x0.of0.trans (x2.weaken (by simp [Act.D]))).side (fun b o hne e => SameBut.get hsb e hne) c.newC
  exact q (ρc.un ρ.hid) s' SU x0 { s2 with heap := h' } (St.mk (S2.heap.but hCn c.base hq hsb) S2.gens S2.os) x3 (F.but c.newC F2 hsb hq)
end
end Mine
/-! A24 -/
namespace Mine
open PySem PySem.W PyProof.Rows
/-! calls -/
noncomputable def outcome (r : SRes) : Res V := match r with
  | .next _ σ => .ok .none σ | .ret v σ => .ok v σ | .exc c _ σ => .exc c σ | .brk _ _ => .stuck | .stuck => .stuck
noncomputable def callM (params : List Nat) (g : MS) (vs : List V) (σ : Sto) : Res V := if vs.length = params.length then outcome (g (params.zip vs) σ) else .stuck
theorem bindL_skip {kindOf : PySem.Str → Option NameKind} {x : PySem.Str} : ∀ (r : List (PySem.Str × Value)) (m : PySem.Str → Option Value), (∀ y ∈ r, y.1 ≠ x) → bindL kindOf r m x = m x
  | [], _, _ => rfl
  | (n, v) :: r, m, h => by
    unfold bindL
    rw [bindL_skip r _ fun y hy => h y (List.mem_cons_of_mem _ hy)]
    have hn : x ≠ n := fun z => h (n, v) (List.mem_cons_self ..) z.symm
    split
    · show (if x = n then some v else m x) = m x
      rw [if_neg hn]
    · rfl
theorem bindC_skip {kindOf : PySem.Str → Option NameKind} {x : PySem.Str} : ∀ (r : List (PySem.Str × Value)) (m : PySem.Str → Option Value), (∀ y ∈ r, y.1 ≠ x) → bindC kindOf r m x = m x
  | [], _, _ => rfl
  | (n, v) :: r, m, h => by
    unfold bindC
    rw [bindC_skip r _ fun y hy => h y (List.mem_cons_of_mem _ hy)]
    have hn : x ≠ n := fun z => h (n, v) (List.mem_cons_self ..) z.symm
    split
    · rfl
    · show (if x = n then some v else m x) = m x
      rw [if_neg hn]
section
variable {W : Wd} {n : Nat} {sc : Scope} {a : Act} {fr : Loc} {ρ ρ' : Rho} {σ : Sto} {h h' : Heap} {s s' : Shared} {D : List Addr} {E : Value → Shared → Prop} {d : Addr}
theorem bind_get {kindOf : PySem.Str → Option NameKind} : ∀ {ps : List Nat} {vs : List V} {ms : List Value} {j : Nat} {v : V}, VReps ρ h vs ms → ps.Nodup → (∀ p ∈ ps, p < W.nN) → (ps.zip vs).lookup j = some v →
    ∃ mv, VRep ρ h v mv ∧ j ∈ ps ∧ (kindOf (W.nm j) = some .local → ∀ m, bindL kindOf ((ps.map W.nm).zip ms) m (W.nm j) = some mv) ∧ (kindOf (W.nm j) ≠ some .local → ∀ m, bindC kindOf ((ps.map W.nm).zip ms) m (W.nm j) = some mv)
  | [], _, _, _, _, _, _, _, e => by simp at e
  | p :: ps, [], _, _, _, _, _, _, e => by simp at e
  | p :: ps, u :: vs, _, j, v, .cons (m := mu) (ms := ms) r1 r2, hn, hp, e => by
    rw [List.nodup_cons] at hn
    have hnot : ∀ q ∈ (ps.map W.nm).zip ms, q.1 ≠ W.nm p := fun q hq z => by
      have := (List.of_mem_zip hq).1
      obtain ⟨i, hi, ei⟩ := List.mem_map.mp this
      rw [z] at ei
      exact hn.1 (W.inj _ _ (hp i (List.mem_cons_of_mem _ hi)) (hp p (List.mem_cons_self ..)) ei ▸ hi)
    rw [List.zip_cons_cons, List.lookup_cons] at e
    by_cases hj : j = p
    · subst hj
      simp at e
      subst e
      refine ⟨mu, r1, List.mem_cons_self .., fun hk m => ?_, fun hk m => ?_⟩
      · simp only [List.map_cons, List.zip_cons_cons]
        unfold bindL
        rw [bindL_skip _ _ hnot, if_pos hk]; simp
      · simp only [List.map_cons, List.zip_cons_cons]
        unfold bindC
        rw [bindC_skip _ _ hnot, if_neg hk]; simp
    · simp only [beq_eq_false_iff_ne.mpr hj] at e
      obtain ⟨mv, h1, h2, h3, h4⟩ := bind_get r2 hn.2 (fun q hq => hp q (List.mem_cons_of_mem _ hq)) e
      exact ⟨mv, h1, List.mem_cons_of_mem _ h2, fun hk m => by simp only [List.map_cons, List.zip_cons_cons]; unfold bindL; exact h3 hk _, fun hk m => by simp only [List.map_cons, List.zip_cons_cons]; unfold bindC; exact h4 hk _⟩
theorem cellsFrom_mem : ∀ {names : List (PySem.Str × NameKind)} {k : Nat} {acc : List (PySem.Str × Addr)} {x : PySem.Str} {c : Addr}, (x, c) ∈ cellsFrom k names acc → (x, c) ∈ acc ∨ (x, NameKind.cell) ∈ names
  | [], _, _, _, _, h => .inl h
  | (y, kd) :: r, k, acc, x, c, h => by
    unfold cellsFrom at h
    by_cases hy : (kd == NameKind.cell) = true
    · rw [if_pos hy] at h
      rcases cellsFrom_mem (names := r) h with h | h
      · rcases List.mem_cons.mp h with h | h
        · injection h with e1 _
          have : kd = .cell := by simpa using hy
          rw [e1, ← this]; exact .inr (List.mem_cons_self ..)
        · exact .inl h
      · exact .inr (List.mem_cons_of_mem _ h)
    · rw [if_neg hy] at h
      exact (cellsFrom_mem (names := r) h).imp id (List.mem_cons_of_mem _)
theorem cellsFrom_has : ∀ {names : List (PySem.Str × NameKind)} {k : Nat} {acc : List (PySem.Str × Addr)} {x : PySem.Str}, ((∃ c, (x, c) ∈ acc) ∨ (x, NameKind.cell) ∈ names) → ∃ c, (x, c) ∈ cellsFrom k names acc
  | [], _, _, _, h => h.elim id fun z => nomatch z
  | (y, kd) :: r, k, acc, x, h => by
    unfold cellsFrom
    by_cases hy : (kd == NameKind.cell) = true
    · rw [if_pos hy]
      refine cellsFrom_has (names := r) ?_
      rcases h with ⟨c, h⟩ | h
      · exact .inl ⟨c, List.mem_cons_of_mem _ h⟩
      · rcases List.mem_cons.mp h with h | h
        · injection h with e1 _; left; exact ⟨k, by rw [e1]; exact List.mem_cons_self ..⟩
        · exact .inr h
    · rw [if_neg hy]
      refine cellsFrom_has (names := r) ?_
      rcases h with h | h
      · exact .inl h
      · rcases List.mem_cons.mp h with h | h
        · injection h with _ e2; rw [← e2] at hy; exact absurd rfl hy
        · exact .inr h
theorem cellsFrom_names : ∀ {names : List (PySem.Str × NameKind)} {k : Nat} {acc : List (PySem.Str × Addr)}, (names.map (·.1)).Nodup → acc.Pairwise (fun x y => x.1 ≠ y.1) → (∀ x ∈ acc, x.1 ∉ names.map (·.1)) →
    (cellsFrom k names acc).Pairwise fun x y => x.1 ≠ y.1
  | [], _, _, _, h, _ => h
  | (y, kd) :: r, k, acc, hn, h, hd => by
    rw [List.map_cons, List.nodup_cons] at hn
    have hd' : ∀ x ∈ acc, x.1 ∉ r.map (·.1) := fun x hx z => hd x hx (List.mem_cons_of_mem _ z)
    unfold cellsFrom
    by_cases hy : (kd == NameKind.cell) = true
    · rw [if_pos hy]
      refine cellsFrom_names (names := r) hn.2 ?_ ?_
      · rw [List.pairwise_cons]
        exact ⟨fun x hx z => hd x hx (by rw [← z]; simp), h⟩
      · intro x hx
        rcases List.mem_cons.mp hx with rfl | hx
        · exact hn.1
        · exact hd' x hx
    · rw [if_neg hy]
      exact cellsFrom_names (names := r) hn.2 h hd'
theorem lookup_of_apart {l : List (PySem.Str × Addr)} (h : l.Pairwise fun x y => x.1 ≠ y.1) {x : PySem.Str} {c : Addr} (hm : (x, c) ∈ l) : l.lookup x = some c := by
  induction l with
  | nil => cases hm
  | cons p l ih =>
    obtain ⟨y, d⟩ := p
    rw [List.pairwise_cons] at h
    rw [List.lookup_cons]
    rcases List.mem_cons.mp hm with e | hm
    · injection e with e1 e2; subst e1 e2; simp
    · have : x ≠ y := fun z => h.1 _ hm z.symm
      simp only [beq_eq_false_iff_ne.mpr this]
      exact ih h.2 hm
/-- what a def asks -/
structure FnOk (W : Wd) (fd : FuncData) (body : List Stmt) (sc : Scope) (params : List Nat) : Prop where
  body : fd.body = .stmts body
  scope : fd.scope = sc
  globals : fd.globals = mainGlobals
  closure : fd.closure = []
  builtins : fd.builtins = builtinsNs
  code : codeIn W.K fd.code fd.qualname = true
  co : sc.isCoroutine = false
  gen : sc.isGenerator = false
  kind : sc.kind = .function
  names : (sc.names.map (·.1)).Nodup
  small : ∀ p ∈ params, p < W.nN
  nodup : params.Nodup
  kinds : ∀ p ∈ params, Storable sc (W.nm p) = true
  bind : ∀ ms : List Value, ms.length = params.length → bindArgs fd ⟨ms, []⟩ = pure ((params.map W.nm).zip ms)
theorem storable_cases {x : PySem.Str} (h : Storable sc x = true) : sc.names.lookup x = some .local ∨ sc.names.lookup x = some .cell := by
  simpa [Storable] using h
theorem call_ok {f : Addr} {o : Obj} {fd : FuncData} {body : List Stmt} {params : List Nat} {g : MS} (hf : W.K.lookup f = some o) (hd : o.data = .func fd) (H : FnOk W fd body sc params) (hb : DenSs W n sc body g) :
    CallOk W (n + 1) f (callM params g) := by
  intro A l room ρ σ s vs ms S L r R p
  have X := W.X.keeps S.heap.base
  unfold callM at p
  by_cases hlen : vs.length = params.length
  case neg => rw [if_neg hlen] at p; exact p.elim
  rw [if_pos hlen] at p
  have hms : ms.length = params.length := by rw [← r.length]; exact hlen
  refine codeAny_call_function (by have := room.depth; show A.depth < 1000; lia) (X _ _ hf) hd (by rw [H.scope]; exact H.co) (by rw [H.scope]; exact H.gen) H.body (codeRec_of X H.code) ?_
  rw [H.bind ms hms]
  refine wpAny_pure ?_
  rw [H.closure]
  refine wpAny_newFunctionEnv_cells (by rw [H.scope]; exact H.kind) (fun x hx => ?_) (fun env henv s1 x1 => ?_)
  · have hx1 := (List.of_mem_zip hx).1
    obtain ⟨i, hi, ei⟩ := List.mem_map.mp hx1
    rw [H.scope, ← ei]
    rcases storable_cases (H.kinds i hi) with h1 | h1
    · exact .inl h1
    · refine .inr ⟨h1, ?_⟩
      obtain ⟨c, hc⟩ := cellsFrom_has (k := s.heap.objs.size + 1) (acc := []) (.inr (mem_of_lookup h1))
      obtain ⟨d, hd⟩ := lookup_of_mem hc
      rw [hd]; rfl
  · obtain ⟨h1, tk, rfl⟩ := x1.toInCall.same
    have hk : ∀ b o, s.heap.get? b = some o → h1.get? b = some o := x1.toInCall.keep
    refine ⟨W.T.nolimit.keeps fun b o e => hk _ _ (S.heap.base b o e), ?_⟩
    have hcells : env.cells = cellsFrom (s.heap.objs.size + 1) fd.scope.names [] := by rw [henv]; rfl
    have hloc : env.locals = s.heap.objs.size := by rw [henv]; rfl
    have hscope : env.scope = sc := by rw [henv]; exact H.scope
    have hframe : env.frame = some env.locals := by rw [henv]; rfl
    have hglob : env.globals = mainGlobals := by rw [henv]; exact H.globals
    have hblt : env.builtins = builtinsNs := by rw [henv]; exact H.builtins
    have hLn : s.heap.get? env.locals = none := by rw [hloc]; exact get_end _
    have cell_new : ∀ x c, (x, c) ∈ env.cells → s.heap.get? c = none := fun x c hx => by
      have h2 := x1.above x c hx
      cases z : s.heap.get? c with
      | none => rfl
      | some o => exact absurd (Heap.lt_size z) (Nat.not_lt.mpr (Nat.le_of_lt (Nat.lt_of_le_of_lt x1.toInCall.fresh h2)))
    have base_new : ∀ b, s.heap.get? b = none → b ∉ muts ρ ∧ W.h₀.get? b = none := fun b hb => by
      refine ⟨fun hm => ?_, ?_⟩
      · obtain ⟨ob, e, _⟩ := S.heap.mut_cls hm; rw [hb] at e; cases e
      · cases z : W.h₀.get? b with
        | none => rfl
        | some o => have := S.heap.base _ _ z; rw [hb] at this; cases this
    obtain ⟨S1, e1⟩ := S.kept (tk := tk) hk
    have nsL := x1.toInCall.ns
    obtain ⟨oL, eL, qL⟩ := Ns.soft nsL
    have hapart : env.cells.Pairwise fun x y => x.1 ≠ y.1 := by
      rw [hcells]
      exact cellsFrom_names (by rw [H.scope]; exact H.names) .nil (by simp)
    have L1 : Live W (env :: l) ρ h1 := fun e he => by
      rcases List.mem_cons.mp he with rfl | he
      · exact ⟨by rw [hscope, H.kind]; decide, e.locals, oL, hframe, (base_new _ hLn).1, (base_new _ hLn).2, eL, qL⟩
      · obtain ⟨k, L', o, hf, hn, hb, ho, hs⟩ := L e he
        exact ⟨k, L', o, hf, hn, hb, hk _ _ ho, hs⟩
    have ok : ActOk n ⟨A.deeper env, env, env :: l⟩ := by
      refine ⟨⟨?_, Around.frames_deeper room.frames, ?_, ?_⟩, ⟨env, l, env.locals, rfl, hframe, hframe⟩, ?_, hglob, hblt⟩
      · exact room.hand
      · have := room.depth; show A.depth + 1 + n ≤ 990; lia
      · have := room.units; show A.units + 3 + 40 * n + 400 ≤ cLine; lia
      · show env.scope.kind = .function
        rw [hscope]; exact H.kind
    have F1 : FS W ⟨A.deeper env, env, env :: l⟩ (params.zip vs) ρ h1 := by
      refine ⟨L1, ⟨_, nsL, fun j v ej => ?_⟩, (base_new _ hLn).1, (base_new _ hLn).2, fun x c hx => ?_, x1.apart, fun x hx => ?_⟩
      · obtain ⟨mv, rv, hj, k1, k2⟩ := bind_get (kindOf := env.kindOf) (r.mono e1) H.nodup H.small ej
        refine ⟨H.small j hj, ?_⟩
        unfold VarAt
        rcases storable_cases (H.kinds j hj) with h2 | h2
        · have hkk : env.kindOf (W.nm j) = some .local := by rw [← hscope] at h2; exact h2
          rw [hkk]
          exact ⟨mv, k1 hkk _, rv⟩
        · have hkk : env.kindOf (W.nm j) = some .cell := by rw [← hscope] at h2; exact h2
          rw [hkk]
          obtain ⟨c, hc⟩ := cellsFrom_has (k := s.heap.objs.size + 1) (acc := []) (.inr (mem_of_lookup h2))
          have hl : env.cells.lookup (W.nm j) = some c := lookup_of_apart hapart (by rw [hcells, H.scope]; exact hc)
          refine ⟨c, mv, hl, ?_, rv⟩
          have := x1.cell _ c hl
          rw [k2 (by rw [hkk]; decide)] at this
          exact this
      · have hl := lookup_of_apart hapart hx
        exact ⟨(base_new _ (cell_new x c hx)).1, (base_new _ (cell_new x c hx)).2, _, x1.cell _ c hl⟩
      · have hx' : sc.names.lookup x = some .cell := by rw [← hscope]; exact hx
        obtain ⟨c, hc⟩ := cellsFrom_has (k := s.heap.objs.size + 1) (acc := []) (.inr (mem_of_lookup hx'))
        exact ⟨c, lookup_of_apart hapart (by rw [hcells, H.scope]; exact hc)⟩
    have newD : ∀ b o, s.heap.get? b = some o → b ∉ Act.D ⟨A.deeper env, env, env :: l⟩ := fun b o e hm => by
      simp only [Act.D, List.mem_cons, List.mem_map] at hm
      rcases hm with rfl | ⟨q, hq, rfl⟩
      · rw [hLn] at e; cases e
      · rw [cell_new q.1 q.2 hq] at e; cases e
    have frames_iff : ∀ b o, s.heap.get? b = some o → (b ∈ frs (env :: l) ↔ b ∈ frs l) := fun b o e => by
      unfold frs
      rw [List.filterMap_cons, hframe]
      simp only [List.mem_cons]
      exact ⟨fun z => z.elim (fun y => by rw [y, hLn] at e; cases e) id, .inr⟩
    refine codeAny_func (hb ⟨A.deeper env, env, env :: l⟩ ok hscope ρ σ (params.zip vs) _ S1 F1 _ _ ?_)
    cases hr : g (params.zip vs) σ with
    | stuck => rw [hr] at p; exact p.elim
    | brk fr' σ' => rw [hr] at p; exact p.elim
    | next fr' σ' => rw [hr] at p; exact fun ρ' s' S' x' F' => p ρ' s' .none S' ((e1.of0.trans x').drop fun b o e hm => absurd hm (newD b o e)) .none
    | ret v σ' => rw [hr] at p; exact fun ρ' s' mv S' x' r' => p ρ' s' mv S' ((e1.of0.trans x').drop fun b o e hm => absurd hm (newD b o e)) r'
    | exc c fr' σ' =>
      rw [hr] at p
      intro ρ' s' e B T x' F'
      have hfr : (A.deeper env).frames = some (env :: l) := Around.frames_deeper room.frames
      have fin : ∀ h', B.StaysIn h' → s'.heap.UpToSlots h' → XExt [] (frs l) ρ s.heap ρ' B h' := fun h' st up => ((x'.pre e1.of0).up up st).drop fun b o e => ⟨fun hm => absurd hm (newD b o e), frames_iff b o e⟩
      rcases T with (⟨g1, o1, SB, a0, R1⟩ | ⟨g1, o1, SB, env', outer', L', a0, hl', hf', R1⟩) | ⟨g1, o1, SB, oe, vs', a0, st, hen, he, hc, hdd, h1', h0', ff⟩
      · exact wpAny_leaves_onW hfr hframe R1 fun h' R' up => p ρ' _ e B ⟨g1, o1, SB, a0, R'⟩ (fin h' R'.1 up)
      · injection hl' with e1 e2
        subst e1 e2
        rw [hframe] at hf'; injection hf' with hf'; subst hf'
        unfold leaving
        refine wpAny_bind (wpAny_noteFrame_againW hframe R1.2.2.2 (wpAny_landsW R1 fun h' R' up => ?_))
        obtain ⟨k1, k2, ⟨_, _, k3⟩, k4⟩ := R'
        exact p ρ' _ e B ⟨g1, o1, SB, a0, k1, k2, k3, k4⟩ (fin h' k1 up)
      · refine wpAny_leaving_firstW hfr ff hframe he st hen hdd h1' h0' fun h' hL => ?_
        obtain ⟨k1, ⟨_, _, k2⟩, k3, k4⟩ := hL
        rw [hc] at k3
        exact p ρ' _ e B ⟨g1, o1, SB, a0, k1, hen, k2, k3⟩ (fin h' k1 k4)
end
end Mine
/-! A25 -/
namespace Mine
open PySem PySem.W PyProof.Rows
noncomputable def eCall (g : List V → Sto → Res V) (fs : List (ME V)) : ME V := (eList fs).bind fun vs _ σ => g vs σ
noncomputable def eMCall (c m : Nat) (g : List V → Sto → Res V) (fo : ME V) (fs : List (ME V)) : ME V := fo.bind fun v fr σ => match instOf σ c v with
  | some (_, ffs) => if (ffs.lookup m).isNone then ((eList fs).bind fun vs _ σ => g (v :: vs) σ) fr σ else .stuck
  | none => .stuck
/-- a new instance -/
noncomputable def newM (c : Nat) (g : List V → Sto → Res V) (vs : List V) (σ : Sto) : Res V := (g (.ref σ.length :: vs) (σ ++ [.inst c []])).andThen fun v σ' => match v with | .none => .ok (.ref σ.length) σ' | _ => .stuck
section
variable {W : Wd} {n : Nat} {sc : Scope} {a : Act} {fr : Loc} {ρ ρ' : Rho} {σ : Sto} {h h' : Heap} {s s' : Shared} {D : List Addr} {E : Value → Shared → Prop} {d : Addr}
theorem call_post {f : Addr} {g : List V → Sto → Res V} {vs : List V} {ms : List Value} {Q : Value → Shared → Prop} (ok : ActOk n a) (hg : CallOk W n f g) (S : St W ρ σ s) (F : FS W a fr ρ s.heap) (r : VReps ρ s.heap vs ms)
    (p : PostE W a ρ s (g vs σ) Q E) : wpAny (model W.prog W.w) a.A (call (.ref f) ms) Q E s := by
  refine wpAny_call (hg a.A a.l ok.toRoom ρ σ s vs ms S F.live r _ ?_)
  cases hr : g vs σ with
  | ok v σ' => rw [hr] at p; exact fun ρ' s' mv S' x' r' => p ρ' s' S' x' mv r'
  | exc c σ' => rw [hr] at p; exact fun ρ' s' e B T x => p ρ' s' e B (.inl T) x
  | stuck => rw [hr] at p; exact p
theorem DenE.call {x : PySem.Str} {np pos : Pos} {es : List PySem.Expr} {fs : List (ME V)} {f : Addr} {g : List V → Sto → Res V} (hs : DenEs W n sc es (eList fs)) (hp : PlainArgs pos es) (hg : CallOk W n f g) (hk : keepIn W.K (.ref f) = true)
    (hx : sc.names.lookup x = some .globalImplicit) (e : nsIn W.K mainGlobals x = some (some (.ref f))) (hd : (x == ("__debug__" : PySem.Str)) = false) :
    DenE W n sc (.Call (.Name x np) es [] pos) (eCall g fs) := by
  intro a ok hsc ρ σ fr s S F Q E p
  subst hsc
  refine Call_Name rfl (load_glob ok S hx e hd ?_)
  refine callWith_of (P := W.K.In) (by rw [hp]; rfl) (keeps_K hk) (args_all (hp _) (hs.bind ok rfl S F p fun vs σ2 ρ2 s2 ms S2 F2 x2 r2 p2 => ⟨W.X.keeps S2.heap.base, ?_⟩))
  exact call_post ok hg S2 F2 r2 p2
structure MethOf (W : Wd) (c : Nat) (x : PySem.Str) (f : Addr) : Prop where
  find : findIn W.K (.ref (W.cls c)) x = some (some (.ref f))
  typ : typeIn W.K (.ref f) = some (.type "function")
  keep : keepIn W.K (.ref f) = true
theorem DenE.mcall {o : PySem.Expr} {x : PySem.Str} {apos pos : Pos} {es : List PySem.Expr} {fo : ME V} {fs : List (ME V)} {f : Addr} {c m : Nat} {g : List V → Sto → Res V} (ho : DenE W n sc o fo) (hs : DenEs W n sc es (eList fs)) (hp : PlainArgs pos es)
    (hg : CallOk W n f g) (hc : ClsGet W c) (hm : m < W.nN) (hx : W.nm m = x) (hf : MethOf W c x f)
    (he : ∀ env : Env, ∃ pl : Sem Bool, eval (.Call (.Attribute o x apos) es [] pos) env = (do
      let ov ← eval o env
      standAt apos.atName
      let (f, first) ← holding [ov] (getMethod ov x pl)
      callWith pos f first (backTo pos (starEach es env)) [])) :
    DenE W n sc (.Call (.Attribute o x apos) es [] pos) (eMCall c m g fo fs) := by
  intro a ok hsc ρ σ fr s S F Q E p
  obtain ⟨pl, he⟩ := he a.env
  refine MethodCall_ (pl := pl) (ho.bind ok hsc S F p fun v σ1 ρ1 s1 mv S1 F1 x1 r1 p1 => ?_) he
  dsimp only at p1
  cases hio : instOf σ1 c v with
  | none => rw [hio] at p1; exact p1.elim
  | some q =>
    obtain ⟨j, ffs⟩ := q
    rw [hio] at p1
    dsimp only at p1
    by_cases hl : (ffs.lookup m).isNone = true
    · rw [if_pos hl] at p1
      obtain ⟨pp, rfl, hp1, hσ, rfl, sl, od, ks, g1, g2, dd, al⟩ := inst_at S1.heap r1 hio
      have I : InstAt s1.heap pp.1 ⟨.ref (W.cls c), some pp.2, .plain, sl⟩ (W.cls c) (some od) := ⟨g1, rfl, rfl, g2⟩
      have hgs := fs_get hm al
      rw [Option.isNone_iff_eq_none] at hl
      rw [hl] at hgs
      have hv : valueAt ks (W.nm m) = none := by
        cases z : valueAt ks (W.nm m) with
        | none => rfl
        | some _ => rw [z] at hgs; exact hgs.elim
      refine method_fn (W.X.keeps S1.heap.base) I (plainGet_of hc.2).1 (plainGet_of hc.2).2 hf.find hf.typ (by show (lookIn x od).map _ = _; rw [lookIn_of dd, ← hx, hv]; rfl) ?_
      refine callWith_of (P := W.K.In) (by rw [hp]; rfl) (keeps_K hf.keep) (args_all (hp _) (hs.bind ok hsc S1 F1 p1 fun vs σ2 ρ2 s2 ms S2 F2 x2 r2 p2 => ⟨W.X.keeps S2.heap.base, ?_⟩))
      exact call_post ok hg S2 F2 (.cons (r1.mono x2) r2) p2
    · rw [if_neg hl] at p1; exact p1.elim
theorem class_ok {c : Nat} {fI : Addr} {g : List V → Sto → Res V} (hm : makesIn W.K (W.cls c) = true) (hi : findIn W.K (.ref (W.cls c)) "__init__" = some (some (.ref fI))) (hf : typeIn W.K (.ref fI) = some (.type "function")) (hg : CallOk W n fI g) :
    CallOk W (n + 1) (W.cls c) (newM c g) := by
  intro A l room ρ σ s vs ms S L r R p
  have X := W.X.keeps S.heap.base
  obtain ⟨hh, gg, dr, tk, os⟩ := s
  refine make_core (makes_of X hm) (looks_findIn X hi) (fun self => bind_fn X self hf) (.inl rfl) ?_
  have k : ∀ b o, hh.get? b = some o → ((hh.push emptyDict).push (instObj (W.cls c) hh.objs.size)).get? b = some o := fun b o e => Heap.get?_push_of_some _ (Heap.get?_push_of_some _ e)
  have hx : ((hh.push emptyDict).push (instObj (W.cls c) hh.objs.size)).get? (hh.objs.size + 1) = some (instObj (W.cls c) hh.objs.size) := by
    have := Heap.get?_push_size (o := instObj (W.cls c) hh.objs.size) (hh.push emptyDict) rfl
    rwa [Heap.size_push] at this
  have hd : ((hh.push emptyDict).push (instObj (W.cls c) hh.objs.size)).get? hh.objs.size = some emptyDict := Heap.get?_push_of_some _ (Heap.get?_push_size _ rfl)
  have dd : ((hh.push emptyDict).push (instObj (W.cls c) hh.objs.size)).DictOf (strKind W.prog W.w) hh.objs.size [] :=
    ⟨emptyDict, #[], 0, hd, ⟨rfl, rfl, rfl⟩, rfl, fun e he => by simp at he, .nil, List.nodup_nil⟩
  obtain ⟨S1, x1⟩ := S.heap.alloc (p := (hh.objs.size + 1, hh.objs.size)) (o' := .inst c []) k (get_end _) ⟨⟨#[], hx⟩, [], dd, .nil⟩
  have room' : Room n (A.under (.builtin "type.__call__" ⟨.ref (W.cls c) :: ms, []⟩)) l := by
    refine ⟨room.hand, room.frames, ?_, ?_⟩
    · have := room.depth; show A.depth + 1 + n ≤ 990; lia
    · have := room.units; show A.units + 1 + 40 * n + 400 ≤ cLine; lia
  have hr : (ρ.add (hh.objs.size + 1, hh.objs.size)).objs[σ.length]? = some (hh.objs.size + 1, hh.objs.size) := by
    rw [← S.heap.len]; simp [Rho.add]
  refine hg _ l room' _ (σ ++ [.inst c []]) ⟨(hh.push emptyDict).push (instObj (W.cls c) hh.objs.size), gg, dr, tk, os⟩ (.ref σ.length :: vs) (.ref (hh.objs.size + 1) :: ms) (St.mk S1 S.gens S.os) (L.ext x1) (.cons (.ref (p := (hh.objs.size + 1, hh.objs.size)) hr) (r.mono x1)) _ ?_
  unfold newM at p
  cases hres : g (.ref σ.length :: vs) (σ ++ [.inst c []]) with
  | stuck => rw [hres] at p; exact p.elim
  | exc c' σ' => rw [hres] at p; exact fun ρ' s' e B T x => p ρ' s' e B T (x.pre x1)
  | ok v σ' =>
    rw [hres] at p
    intro ρ' s' mv S' x' r'
    cases v <;> first | exact p.elim | skip
    cases r'
    exact ⟨rfl, p ρ' s' _ S' (x1.trans x') (.ref (p := (hh.objs.size + 1, hh.objs.size)) (x'.get hr))⟩
end
end Mine
/-! A26 -/
namespace Mine
open PySem PySem.W PyProof.Rows
noncomputable def eNeg (f : ME V) : ME V := f.bind fun v => match v with | .int i => ME.pure (.int (-i)) | _ => ME.stuck
noncomputable def eDict0 (k : DK) : ME V := fun _ σ => .ok (.ref σ.length) (σ ++ [.dict k []])
noncomputable def eDict3 (k1 k2 k3 : List Nat) (f1 f2 f3 : ME V) : ME V := fun fr σ => (f1 fr (σ ++ [.dict .str []])).andThen fun v1 σ1 => (f2 fr σ1).andThen fun v2 σ2 => (f3 fr σ2).andThen fun v3 σ' => match σ'[σ.length]? with
  | some (.dict .str []) => .ok (.ref σ.length) (σ'.set σ.length (.dict .str (dset (dset (dset [] (.str k1) v1) (.str k2) v2) (.str k3) v3)))
  | _ => .stuck
noncomputable def sStuck : MS := fun _ _ => .stuck
theorem stored_if (ks : List (PySem.Str × Value)) (k : PySem.Str) (v : Value) : stored ks k v = if ks.any (fun km => decide (km.1 = k)) then ks.map (fun km => if decide (km.1 = k) = true then (km.1, v) else km) else ks ++ [(k, v)] := by
  simp [stored]
section
variable {W : Wd} {n : Nat} {sc : Scope} {a : Act} {fr : Loc} {ρ ρ' : Rho} {σ : Sto} {h h' : Heap} {s s' : Shared} {D : List Addr} {E : Value → Shared → Prop} {d : Addr}
theorem DenS.stuck {st : Stmt} : DenS W n sc st sStuck := fun _ _ _ _ _ _ _ _ _ _ _ p => p.elim
theorem DenSs.stuck {st : List Stmt} : DenSs W n sc st sStuck := fun _ _ _ _ _ _ _ _ _ _ _ p => p.elim
theorem DenE.stuck {e : PySem.Expr} : DenE W n sc e ME.stuck := fun _ _ _ _ _ _ _ _ _ _ _ p => p.elim
theorem DenE.neg {e : PySem.Expr} {pos : Pos} {f : ME V} (hf : DenE W n sc e f) : DenE W n sc (.UnaryOp .USub e pos) (eNeg f) := by
  intro a ok hsc ρ σ fr s S F Q E p
  refine wpAny_UnaryOp (hf.bind ok hsc S F p fun v σ1 ρ1 s1 mv S1 F1 x1 r1 p1 => ?_)
  cases v <;> first | exact p1.elim | skip
  cases r1
  exact P.neg_int (PostE.val (s' := { s1 with toks := s1.toks + 1 }) p1 S1.heap_eq (.refl ..) (.int _ _))
theorem dict_new {kd : DK} (S : St W ρ σ s) : St W (ρ.add (s.heap.objs.size, s.heap.objs.size)) (σ ++ [.dict kd []]) { s with heap := s.heap.push { cls := .type "dict", data := .dict #[] } } ∧
      Ext [] ρ s.heap (ρ.add (s.heap.objs.size, s.heap.objs.size)) (s.heap.push { cls := .type "dict", data := .dict #[] }) ∧
      VRep (ρ.add (s.heap.objs.size, s.heap.objs.size)) (s.heap.push { cls := .type "dict", data := .dict #[] }) (.ref σ.length) (.ref s.heap.objs.size) := by
  have k : ∀ b o, s.heap.get? b = some o → (s.heap.push { cls := .type "dict", data := .dict #[] }).get? b = some o := fun _ _ e => Heap.get?_push_of_some _ e
  have g : (s.heap.push { cls := .type "dict", data := .dict #[] }).get? s.heap.objs.size = some { cls := .type "dict", data := .dict #[] } := Heap.get?_push_size _ rfl
  obtain ⟨S', x⟩ := S.heap.alloc (p := (s.heap.objs.size, s.heap.objs.size)) (o' := .dict kd []) k (get_end _) (by
    refine ⟨rfl, ?_⟩
    cases kd with
    | int => exact ⟨[], ⟨_, #[], 0, g, ⟨rfl, rfl, rfl⟩, rfl, fun e he => by simp at he, .nil, List.nodup_nil⟩, .nil⟩
    | str => exact ⟨[], ⟨_, #[], 0, g, ⟨rfl, rfl, rfl⟩, rfl, fun e he => by simp at he, .nil, List.nodup_nil⟩, .nil⟩
    | tup => exact ⟨[], ⟨_, #[], 0, g, ⟨rfl, rfl, rfl⟩, rfl, rfl, fun e he => (nomatch he), List.nodup_nil⟩, .nil⟩)
  refine ⟨St.mk S' S.gens S.os, x, .ref (p := (s.heap.objs.size, s.heap.objs.size)) ?_⟩
  rw [← S.heap.len]; simp [Rho.add]
theorem DenE.dict0 {pos : Pos} (kd : DK) : DenE W n sc (.Dict [] [] pos) (eDict0 kd) := by
  intro a ok hsc ρ σ fr s S F Q E p
  obtain ⟨S', x', r'⟩ := dict_new (kd := kd) S
  exact wpAny_Dict_empty (PostE.val p S' x' r')
theorem DenE.dict3 {k1 k2 k3 : List Nat} {s1 s2 s3 : String} {kk1 kk2 kk3 : Nat} {kp1 kp2 kp3 pos : Pos} {e1 e2 e3 : PySem.Expr} {f1 f2 f3 : ME V} (h1 : DenE W n sc e1 f1) (h2 : DenE W n sc e2 f2) (h3 : DenE W n sc e3 f3)
    (hk1 : PySem.Str.ofString s1 = strV k1) (hk2 : PySem.Str.ofString s2 = strV k2) (hk3 : PySem.Str.ofString s3 = strV k3) :
    DenE W n sc (.Dict [some (.Constant (.str (PySem.Str.ofString s1)) kk1 kp1), some (.Constant (.str (PySem.Str.ofString s2)) kk2 kp2), some (.Constant (.str (PySem.Str.ofString s3)) kk3 kp3)] [e1, e2, e3] pos) (eDict3 k1 k2 k3 f1 f2 f3) := by
  intro a ok hsc ρ σ fr s S F Q E p
  rw [hk1, hk2, hk3]
  refine wpAny_Dict_pairs (knd := strKind W.prog W.w) (pairs := [(eval (.Constant (.str (strV k1)) kk1 kp1) a.env, do let x ← eval e1 a.env; standAt pos; pure x), (eval (.Constant (.str (strV k2)) kk2 kp2) a.env, do let x ← eval e2 a.env; standAt pos; pure x),
    (eval (.Constant (.str (strV k3)) kk3 kp3) a.env, do let x ← eval e3 a.env; standAt pos; pure x)]) rfl (by simp) (by simp) ?_
  obtain ⟨S0, x0, r0⟩ := dict_new (kd := .str) S
  have F0 := F.ext x0
  have p0 : PostG W a ρ s ((f1 fr (σ ++ [.dict .str []])).andThen fun v1 σ1 => (f2 fr σ1).andThen fun v2 σ2 => (f3 fr σ2).andThen fun v3 σ' => match σ'[σ.length]? with
      | some (.dict .str []) => .ok (.ref σ.length) (σ'.set σ.length (.dict .str (dset (dset (dset [] (.str k1) v1) (.str k2) v2) (.str k3) v3)))
      | _ => .stuck) (KV Q) E := p
  have p1 := PostG.step (s' := { s with heap := s.heap.push { cls := .type "dict", data := .dict #[] }, toks := s.toks + 1 }) x0 p0
  refine evalPairs_cons (wpAny_mkText ?_)
  have S0' : St W (ρ.add (s.heap.objs.size, s.heap.objs.size)) (σ ++ [.dict .str []]) { s with heap := s.heap.push { cls := .type "dict", data := .dict #[] }, toks := s.toks + 1 } := S0.heap_eq
  refine wpAny_bind (h1.bind ok hsc S0' F0 p1 fun v1 σ1 ρ1 t1 m1 T1 G1 y1 r1 q1 => wpAny_bind (wpAny_standAt (wpAny_pure ?_)))
  refine evalPairs_cons (wpAny_mkText ?_)
  have T1' : St W ρ1 σ1 { t1 with toks := t1.toks + 1 } := T1.heap_eq
  refine wpAny_bind (h2.bind ok hsc T1' G1 (PostG.step (s' := { t1 with toks := t1.toks + 1 }) (.refl ..) q1) fun v2 σ2 ρ2 t2 m2 T2 G2 y2 r2 q2 => wpAny_bind (wpAny_standAt (wpAny_pure ?_)))
  refine evalPairs_cons (wpAny_mkText ?_)
  have T2' : St W ρ2 σ2 { t2 with toks := t2.toks + 1 } := T2.heap_eq
  refine wpAny_bind (h3.bind ok hsc T2' G2 (PostG.step (s' := { t2 with toks := t2.toks + 1 }) (.refl ..) q2) fun v3 σ3 ρ3 t3 m3 T3 G3 y3 r3 q3 => wpAny_bind (wpAny_standAt (wpAny_pure ?_)))
  refine evalPairs_nil ?_
  have y12 : Ext [] (ρ.add (s.heap.objs.size, s.heap.objs.size)) (s.heap.push { cls := .type "dict", data := .dict #[] }) ρ3 t3.heap := (y1.trans y2).trans y3
  split at q3
  · rename_i hd
    have hp : ρ3.objs[σ.length]? = some (s.heap.objs.size, s.heap.objs.size) := by
      refine y12.get ?_
      rw [← S.heap.len]; simp [Rho.add]
    obtain ⟨_, ks, dd, al⟩ := T3.heap.objs _ _ _ hd hp
    cases al
    refine ⟨[(strV k1, m1), (strV k2, m2), (strV k3, m3)], ⟨strKind_is _ _ _ _, rfl, strKind_is _ _ _ _, rfl, strKind_is _ _ _ _, rfl, trivial⟩, dd, fun h' d' hs => ?_⟩
    have xs : Ext [] ρ3 t3.heap ρ3 h' := Ext.sameBut hs (mem_muts hp) (T3.heap.not_hid hp) (let ⟨o, _, _, e, _⟩ := d'; ⟨o, e⟩)
    have key : ∀ (k : List Nat) (kv : V × V) (km : PySem.Str × Value), ((∃ x, kv.1 = .str x ∧ km.1 = strV x) ∧ VRep ρ3 h' kv.2 km.2) → V.beq kv.1 (.str k) = decide (km.1 = strV k) := by
      rintro k kv km ⟨⟨x, e, e'⟩, _⟩
      rw [e, e']
      simp only [V.beq_str]
      by_cases hx : x = k
      · subst hx; simp
      · have : strV x ≠ strV k := fun z => hx (by have := congrArg PySem.Str.cps z; simpa [strV] using this)
        simp [hx, this]
    have R1 : VRep ρ3 h' v1 m1 := ((r1.mono y2).mono y3).mono xs
    have R2 : VRep ρ3 h' v2 m2 := (r2.mono y3).mono xs
    have R3 : VRep ρ3 h' v3 m3 := r3.mono xs
    have A0 : All2 (fun (kv : V × V) (km : PySem.Str × Value) => (∃ x, kv.1 = .str x ∧ km.1 = strV x) ∧ VRep ρ3 h' kv.2 km.2) [] [] := .nil
    have A1 := A0.dset (q := fun km => decide (km.1 = strV k1)) (f := fun km => (km.1, m1)) (new := (strV k1, m1)) (k := .str k1) (v := v1) (fun kv km q => key k1 kv km q) (fun kv km q _ => ⟨q.1, R1⟩) ⟨⟨k1, rfl, rfl⟩, R1⟩
    rw [← stored_if] at A1
    have A2 := A1.dset (q := fun km => decide (km.1 = strV k2)) (f := fun km => (km.1, m2)) (new := (strV k2, m2)) (k := .str k2) (v := v2) (fun kv km q => key k2 kv km q) (fun kv km q _ => ⟨q.1, R2⟩) ⟨⟨k2, rfl, rfl⟩, R2⟩
    rw [← stored_if] at A2
    have A3 := A2.dset (q := fun km => decide (km.1 = strV k3)) (f := fun km => (km.1, m3)) (new := (strV k3, m3)) (k := .str k3) (v := v3) (fun kv km q => key k3 kv km q) (fun kv km q _ => ⟨q.1, R3⟩) ⟨⟨k3, rfl, rfl⟩, R3⟩
    rw [← stored_if] at A3
    obtain ⟨S', x'⟩ := T3.set_ (tk := t3.toks + 3) (o' := .dict .str (dset (dset (dset [] (.str k1) v1) (.str k2) v2) (.str k3) v3)) hp hs ⟨rfl, _, d', A3⟩
    exact PostE.val q3 S' x' (.ref (p := (s.heap.objs.size, s.heap.objs.size)) hp)
  · exact q3.elim
end
end Mine
/-! A27 -/
namespace Mine
open PySem PySem.W PyProof.Rows
/-- try: .. except c: return True -/
noncomputable def sTryTrue (c : Nat) (f : MS) : MS := fun fr σ => match f fr σ with
  | .exc c' _ σ' => if c' = c then .ret (.bool true) σ' else .stuck
  | r => r
section
variable {W : Wd} {n : Nat} {sc : Scope} {a : Act} {fr : Loc} {ρ ρ' : Rho} {σ : Sto} {h h' : Heap} {s s' : Shared} {D : List Addr} {E : Value → Shared → Prop} {d : Addr}
theorem note_raised {c : Nat} {e : Addr} {B : Heap} {F D : List Addr} {ρ0 : Rho} {h0 : Heap} {Q : Unit → Shared → Prop} (ok : ActOk n a) (t : Raised W a.l c ρ σ s e B) (x : XExt D F ρ0 h0 ρ B s.heap)
    (k : ∀ s', Held W a.l c ρ σ s' e B → XExt D F ρ0 h0 ρ B s'.heap → Q () s') : wpAny (model W.prog W.w) a.A (noteFrame (.ref e) a.env) Q E s := by
  obtain ⟨fe, outer, L, hl, hfe, hL⟩ := ok.head
  have hfr : a.A.frames = some (fe :: outer) := by rw [← hl]; exact ok.frames
  have hnf : noteFrame (.ref e) a.env = noteFrame (.ref e) fe := by
    unfold noteFrame PySem.frameOf
    rw [hL, hfe]
  obtain ⟨g, o, S, oe, vs, a0, st, hen, he, hc, hd, h1, h0', ff⟩ := t
  rw [hnf]
  unfold noteFrame
  simp only [hfe]
  refine wpAny_bind (wpAny_field he hd h1 ?_)
  rw [if_neg (by decide)]
  rw [hl] at ff
  refine wpAny_entryW hfr ff hfe he st hen hd (Array.getElem?_eq_some_iff.mp h1).1 h0' fun h' hN => ?_
  obtain ⟨k1, k2, k3, k4⟩ := hN
  rw [hc] at k3
  exact k _ ⟨g, o, S, fe, outer, L, a0, hl, hfe, by rw [hl]; exact ⟨k1, hen, k2, k3⟩⟩ (x.up k4 k1)
variable {nm qn : PySem.Str} {N : Addr} {bs bm : List Value} {hdct : Bool} {sn : List PySem.Str} {sub : List Value} {ab : Bool} {col : Option Bool} {dd : Option Addr} {k0 k1 k2 k3 k5 : Option Value} {newId : String}
theorem DenS.tryTrue {body : List Stmt} {f : MS} {x : PySem.Str} {np rp hpos pos kp : Pos} {kk c : Nat} (hb : DenSs W n sc body f) (hx : sc.names.lookup x = some .globalImplicit) (e : nsIn W.K mainGlobals x = some (some (.ref (W.cls c)))) (hd : (x == ("__debug__" : PySem.Str)) = false)
    (hK : W.K.lookup (W.cls c) = some (excClassObj nm qn (W.cls c) N bs bm hdct sn sub ab col dd k0 k1 k2 k3 k5 newId)) (hbase : bm.contains (.type "BaseException") = true) :
    DenS W n sc (.Try body [.ExceptHandler (some (.Name x np)) none [.Return (some (.Constant (.bool true) kk kp)) rp] hpos] [] [] pos) (sTryTrue c f) := by
  intro a ok hsc ρ σ fr s S F Q E p
  subst hsc
  unfold sTryTrue at p
  refine wpAny_Try_except (hb a ok rfl ρ σ fr s S F _ _ ?_)
  cases hr : f fr σ with
  | next fr' σ' => rw [hr] at p; exact fun ρ' s' S' x' F' => wpAny_execs_nil (p ρ' s' S' x' F')
  | brk fr' σ' => rw [hr] at p; exact p
  | ret v σ' => rw [hr] at p; exact p
  | stuck => rw [hr] at p; exact p
  | exc c' fr' σ' =>
    rw [hr] at p
    simp only at p
    by_cases hc : c' = c
    · subst hc
      rw [if_pos rfl] at p
      intro ρ' s' ea B T x' F'
      have caught : ∀ s4, Held W a.l c' ρ' σ' s4 ea B → XExt a.D (frs a.l) ρ s.heap ρ' B s4.heap → wpAny (model W.prog W.w) a.A (setFlight (.ref ea) none) (fun _ s₃ => wpAny (model W.prog W.w) a.A
          (handleBy (.ref ea) a.env [.ExceptHandler (some (.Name x np)) none [.Return (some (.Constant (.bool true) kk kp)) rp] hpos]) Q E s₃) E s4 := by
        rintro s4 ⟨g, o, SB, env', outer', L', a0, hl', hf', R⟩ x4
        refine wpAny_landsW R fun h5 hfl up5 => ?_
        have x5 := x4.up up5 hfl.1
        obtain ⟨ob, hob, hobc⟩ := hfl.there
        have st : W.h₀.StaysIn h5 := fun b o e => hfl.1 _ _ (SB.base b o e)
        refine wpAny_handleBy_cons (codeAny_handlers_test (Calls.Name_function_global ok.kind hx (Calls.loadGlobal_global (by rw [ok.glob]; exact W.T.g.keeps st) (mg_of W.X W.T.g e) ?_) hd)) (by intro q; cases q)
        have hC := (W.X.keeps st) _ _ hK
        refine wpAny_excMatches_sub_self hC hob hobc hbase (codeAny_handlers_suite ?_)
        refine lands_againW hfl fun h6 hfl6 up6 => ?_
        have x6 := x5.up up6 hfl6.1
        refine wpAny_execs_cons (wpAny_Return_some (wpAny_pure ?_))
        exact p ρ' { s4 with heap := h6 } (.bool true) (St.mk (SB.keeps hfl6.1) g o) (x6.ext SB) (.bool true)
      rcases T with T | T
      · exact noted_ok ok rfl T x' fun s4 H4 x4 _ => caught s4 H4 x4
      · exact note_raised ok T x' fun s4 H4 x4 => caught s4 H4 x4
    · rw [if_neg hc] at p; exact p.elim
end
end Mine
/-! A28 -/
namespace Mine
open PySem PySem.W PyProof.Rows
/-- an own exception class with an own __init__: what is wanted of the names above it -/
structure OwnExc (bm : List Value) : Prop where
  hasB : bm.contains (.type "Exception") = true
  hasBase : bm.contains (.type "BaseException") = true
  noAttr : bm.contains (.type "AttributeError") = false
  noName : bm.contains (.type "NameError") = false
section
variable {M : Model} {A : Around} {E : Value → Shared → Prop} {h : PySem.Heap} {g : Array GenState} {d : Drawn} {t : Nat} {os : OsState}
variable {nm q : PySem.Str} {C N : Addr} {bs bm bmB : List Value} {hdct : Bool} {sn : List PySem.Str} {sub : List Value} {ab : Bool} {col : Option Bool} {dd : Option Addr} {k0 k1 k2 k3 k5 : Option Value} {newId initId : String}
theorem own_check_new (F : ExcBaseFacts "Exception" newId initId bmB) (T : OwnExc bm) {rest : List Value} {Q : Unit → Shared → Prop} (hC : h.get? C = some (excClassObj nm q C N bs bm hdct sn sub ab col dd k0 k1 k2 k3 k5 newId))
    (hq : Q () ⟨h, g, d, t, os⟩) : wpAny M A (checkBuiltinCall newId ⟨.ref C :: rest, []⟩) Q E ⟨h, g, d, t, os⟩ := by
  have hcont : (Value.ref C :: bm).contains (.type "Exception") = true := by rw [List.contains_cons, T.hasB, Bool.or_true]
  have hstar := F.noStar
  simp only [checkBuiltinCall, F.newKind, F.newSplit, F.newRow]
  repeat (first | refine wpAny_loadPart_at hC ?_ | (refine wpAny_isSubtype_exc hC ?_; rw [hcont]) | refine wpAny_staticBase_exc hC ?_ | refine wpAny_madeBy_exc hC ?_ | simp only [bne_self_eq_false, Bool.false_eq_true, if_false] | wp_step)
  exact hq
end
section
variable {prog : Program} {w : World} {A : Around} {R : Result → Shared → Prop} {h : PySem.Heap} {g : Array GenState} {d : Drawn} {t : Nat} {os : OsState}
variable {nm q : PySem.Str} {C N : Addr} {bs bm bmB : List Value} {hdct : Bool} {sn : List PySem.Str} {sub : List Value} {ab : Bool} {col : Option Bool} {dd : Option Addr} {k0 k1 k2 k3 k5 : Option Value} {newId initId : String}
noncomputable abbrev excObj (C : Addr) (m : Addr) : Obj := { cls := .ref C, data := .fields #[.ref m, .none, .none, .none, .bool false, .none] }
noncomputable abbrev seqObj (vs : List Value) : Obj := { cls := .type "tuple", data := .seq vs.toArray }
theorem own_exc_new (F : ExcBaseFacts "Exception" newId initId bmB) (T : OwnExc bm) {rest : List Value} (hC : h.get? C = some (excClassObj nm q C N bs bm hdct sn sub ab col dd k0 k1 k2 k3 k5 newId))
    (hq : R (.ok (.ret (.ref (h.objs.size + 1)))) ⟨(h.push (seqObj rest)).push (excObj C h.objs.size), g, d, t, os⟩) (hrest : rest.length ≤ sizeLine := by size_fits) :
    codeAny (model prog w) A (.builtin newId ⟨.ref C :: rest, []⟩) R ⟨h, g, d, t, os⟩ := by
  have hends := F.ends
  have hcB : (Value.ref C :: bm).contains (.type "Exception") = true := by rw [List.contains_cons, T.hasB, Bool.or_true]
  have hcA : (Value.ref C :: bm).contains (.type "AttributeError") = false := by rw [List.contains_cons, T.noAttr]; rfl
  have hcN : (Value.ref C :: bm).contains (.type "NameError") = false := by rw [List.contains_cons, T.noName]; rfl
  refine codeAny_builtinAt F.entry ?_
  unfold Builtin.«BaseException.__new__»
  refine _root_.PySem.wpAt_bind ?_
  show _root_.PySem.wpAt _ _ _ (stack >>= _) _ _ _
  refine _root_.PySem.wpAt_bind (_root_.PySem.wpAt_stack fun p below => _root_.PySem.wpAt_of_wpAny ?_)
  wp_walk
  refine _root_.PySem.wpAt_of_wpAny ?_
  rw [F.owner]
  repeat (first | with_reducible refine wpAny_madeHere_exc F.canon hC ?_ | with_reducible refine wpAny_loadPart_at hC ?_ | (with_reducible refine wpAny_isSubtype_exc hC ?_; first | rw [hcB] | rw [hcA] | rw [hcN]) | wp_step)
  show R _ _
  rw [PySem.Heap.size_push]
  exact hq
end
section
variable {prog : Program} {w : World} {A : Around} {E : Value → Shared → Prop} {h : PySem.Heap} {g : Array GenState} {d : Drawn} {t : Nat} {os : OsState}
variable {nm q : PySem.Str} {C N f2 : Addr} {bs bm bmB : List Value} {hdct : Bool} {sn : List PySem.Str} {sub : List Value} {ab : Bool} {col : Option Bool} {dd : Option Addr} {k0 k1 k2 k3 k5 : Option Value} {newId initId : String}
/-- the class called: the object is made, and __init__ is called upon it; its answer is None -/
theorem own_type_call (F : ExcBaseFacts "Exception" newId initId bmB) (T : OwnExc bm) {rest : List Value} {Q : Fin → Shared → Prop}
    (hC : h.get? C = some (excClassObj nm q C N bs bm hdct sn sub ab col dd k0 k1 k2 k3 k5 newId))
    (hi : Looks (model prog w) h (typeLookup (.ref C) "__init__") (some (.ref f2)))
    (hb : ∀ self, Looks (model prog w) h (bindSpecial (.ref f2) self) (.ref f2, [self]))
    (hcall : codeAny (model prog w) A (.call (.ref f2) ⟨.ref (h.objs.size + 1) :: rest, []⟩) (fun r s' => match r with | .ok (.ret v) => v = .none ∧ Q (.done (.ret (.ref (h.objs.size + 1)))) s' | .error e => E e s' | _ => False)
      ⟨(h.push (seqObj rest)).push (excObj C h.objs.size), g, d, t, os⟩)
    (hrest : rest.length ≤ sizeLine := by size_fits) :
    wpAny (model prog w) A (Builtin.«type.__call__» ⟨.ref C :: rest, []⟩) Q E ⟨h, g, d, t, os⟩ := by
  repeat (first | with_reducible refine wpAny_loadPart_at hC ?_ | with_reducible refine wpAny_madeBy_exc hC ?_ | wp_step)
  refine codeAny_call_builtin_code (Code.quiet_builtin _ F.quiet) (own_check_new F T hC ?_)
  refine own_exc_new F T hC ?_ hrest
  show wpAny _ _ _ _ _ _
  have k : ∀ b o, h.get? b = some o → ((h.push (seqObj rest)).push (excObj C h.objs.size)).get? b = some o := fun b o e => PySem.Heap.get?_push_of_some _ (PySem.Heap.get?_push_of_some _ e)
  have hC₁ := k _ _ hC
  have hget : ((h.push (seqObj rest)).push (excObj C h.objs.size)).get? (h.objs.size + 1) = some (excObj C h.objs.size) := by heap_get
  have hcC : (Value.ref C :: bm).contains (.ref C) = true := by simp
  have i1 := hi.keeps k
  have b1 := (hb (.ref (h.objs.size + 1))).keeps k
  unfold isInstance
  repeat (first | with_reducible refine wpAny_loadPart_at hget ?_ | (with_reducible refine wpAny_isSubtype_exc hC₁ ?_; rw [hcC]) | wp_step)
  show wpAny _ _ (typeLookup (.ref C) _) _ _ _
  refine i1.at ?_
  dsimp only
  refine wpAny_holding (wpAny_bind (b1.at ?_))
  dsimp only
  refine wpAny_bind (wpAny_call (codeAny_mono hcall fun r s' z => ?_))
  rcases r with e | (v | _ | _ | _) <;> first | exact z | exact z.elim | skip
  obtain ⟨rfl, z⟩ := z
  exact wpAny_pure (wpAny_pure z)
theorem own_call (F : ExcBaseFacts "Exception" newId initId bmB) (T : OwnExc bm) {rest : List Value} {Q : Value → Shared → Prop}
    (hC : h.get? C = some (excClassObj nm q C N bs bm hdct sn sub ab col dd k0 k1 k2 k3 k5 newId))
    (hi : Looks (model prog w) h (typeLookup (.ref C) "__init__") (some (.ref f2)))
    (hb : ∀ self, Looks (model prog w) h (bindSpecial (.ref f2) self) (.ref f2, [self]))
    (hcall : codeAny (model prog w) (A.under (.builtin "type.__call__" ⟨.ref C :: rest, []⟩)) (.call (.ref f2) ⟨.ref (h.objs.size + 1) :: rest, []⟩) (fun r s' => match r with | .ok (.ret v) => v = .none ∧ Q (.ref (h.objs.size + 1)) s' | .error e => E e s' | _ => False)
      ⟨(h.push (seqObj rest)).push (excObj C h.objs.size), g, d, t, os⟩)
    (hrest : rest.length ≤ sizeLine := by size_fits) :
    wpAny (model prog w) A (call (.ref C) rest) Q E ⟨h, g, d, t, os⟩ := by
  have f1 := _root_.PySem.tc_lookup
  have f2' := _root_.PySem.tc_bind (.ref C)
  have hT : (⟨h, g, d, t, os⟩ : Shared).TypeIs (.ref C) "type" := ⟨_, hC, rfl⟩
  refine wpAny_call (codeAny_of_tree ?_)
  show wpAny _ _ (callAny (.ref C) _) _ _ _
  repeat (any_goals (first | assumption | with_reducible refine wpAny_loadPart_at hC ?_ | wp_step))
  refine ⟨rfl, ?_⟩
  refine codeAny_call_builtin_at (Code.quiet_builtin _ (by decide +kernel)) _root_.PySem.entry_typeCall (_root_.PySem.wpAny_check_type_call_sub hC (own_type_call (hrest := hrest) F T hC hi hb ?_))
  refine codeAny_mono hcall fun r s' z => ?_
  rcases r with e | (v | _ | _ | _) <;> first | exact z | exact z.elim
end
end Mine
/-! A29 -/
namespace Mine
open PySem PySem.W PyProof.Rows
theorem ow_slot_wd_get : Slot "wrapper_descriptor" "__get__" "wrapper_descriptor.__get__" := .of (owner := "wrapper_descriptor") (n := "__get__") (by rw [typeLookup_type, builtinLookup_eq_fast]; kernel_rfl) (by decide +kernel) (by decide +kernel) (by decide +kernel)
  (by first | exact .inl (by decide +kernel) | exact .inr (by decide +kernel)) (by rw [isSubtype_type]; kernel_rfl)
theorem ow_entry_wd_get : entryFor table "wrapper_descriptor.__get__" = some Builtin.«wrapper_descriptor.__get__» := entryFor_of_tree (by kernel_rfl)
theorem ow_getArgs_wd (a b c : Value) : argsOk "wrapper_descriptor.__get__" ⟨[a, b, c], []⟩ := by unfold argsOk; kernel_rfl
theorem ow_type_init : typeOf (.builtin "Exception.__init__") = pure (.type "wrapper_descriptor") := by kernel_rfl
section
variable {prog : Program} {w : World} {M : Model} {A : Around} {E : Value → Shared → Prop} {h : PySem.Heap} {g : Array GenState} {d : Drawn} {t : Nat} {os : OsState}
noncomputable abbrev wrapObj (id : String) (x : Addr) : Obj := { cls := .type "method-wrapper", data := .fields #[.builtin id, .ref x] }
theorem own_wd_get {x C : Addr} {ox : Obj} {id : String} {Q : Fin → Shared → Prop} (hid : id = "Exception.__init__") (hx : h.get? x = some ox) (hxc : ox.cls = .ref C)
    (hsub : Looks (model prog w) h (isSubtype (.ref C) (.type "Exception")) true)
    (hq : Q (.done (.ret (.ref h.objs.size))) ⟨h.push (wrapObj id x), g, d, t, os⟩) :
    wpAny (model prog w) A (Builtin.«wrapper_descriptor.__get__» ⟨[.builtin id, .ref x, .ref C], []⟩) Q E ⟨h, g, d, t, os⟩ := by
  subst hid
  have e0 : ".".intercalate ("Exception.__init__".cutAt '.').dropLast = "Exception" := by decide +kernel
  unfold Builtin.«wrapper_descriptor.__get__»
  repeat (first
    | (with_reducible refine wpAny_loadPart_at hx ?_; rw [hxc])
    | (rw [e0]; with_reducible refine Looks.at hsub ?_)
    | wp_step
    | dsimp only)
  all_goals exact hq
theorem own_super_ga {so D x C : Addr} {ox : Obj} {id : String} {l₀ l : List Value} {K : Frag} {name : PySem.Str} {tk : Tok} {Q : Fin → Shared → Prop} (hid : id = "Exception.__init__")
    (hso : h.get? so = some { cls := .type "super", dict := none, data := .fields #[.ref D, .ref x, .ref C], slots := #[] }) (hno : Looks (model prog w) h (opaqueClassAbove (.ref C)) none)
    (hC : Looks (model prog w) h (mroOf (.ref C)) l₀) (hl : (l₀.dropWhile (· != .ref D)).drop 1 = l) (X : K.In h)
    (hf : alongIn K name l = some (some (.builtin id))) (hx : h.get? x = some ox) (hxc : ox.cls = .ref C)
    (hsub : Looks (model prog w) h (isSubtype (.ref C) (.type "Exception")) true) (hxC : x ≠ C) (hn : (name == ("__class__" : PySem.Str)) = false)
    (hq : Q (.done (.ret (.ref h.objs.size))) ⟨h.push (wrapObj id x), g, d, t, os⟩) :
    wpAny (model prog w) A (Builtin.«super.__getattribute__» ⟨[.ref so, .str name tk], []⟩) Q E ⟨h, g, d, t, os⟩ := by
  have hlk := ow_slot_wd_get.lookup
  have hne : (Value.ref x == Value.ref C) = false := by simp [hxC]
  have hTf : (⟨h, g, d, t, os⟩ : Shared).TypeIs (.builtin id) "wrapper_descriptor" := by subst hid; exact ow_type_init
  have hdt : ({ cls := .type "super", dict := none, data := .fields #[.ref D, .ref x, .ref C], slots := #[] } : Obj).data = .fields #[.ref D, .ref x, .ref C] := rfl
  have f0 : (#[.ref D, .ref x, .ref C] : Array Value)[0]? = some (.ref D) := rfl
  have f1 : (#[.ref D, .ref x, .ref C] : Array Value)[1]? = some (.ref x) := rfl
  have f2 : (#[.ref D, .ref x, .ref C] : Array Value)[2]? = some (.ref C) := rfl
  unfold Builtin.«super.__getattribute__»
  repeat (first
    | (with_reducible refine wpAny_field hso hdt f0 ?_) | (with_reducible refine wpAny_field hso hdt f1 ?_) | (with_reducible refine wpAny_field hso hdt f2 ?_)
    | (with_reducible refine ks_wpAny_notOpaque hno ?_)
    | (with_reducible refine Looks.at hC ?_; rw [hl])
    | (refine ks_forIn_along X (fun _ _ => rfl) rfl ?_ hf)
    | (with_reducible refine wpAny_typeOf hTf ?_)
    | (with_reducible refine wpAny_call_entry ow_slot_wd_get hTf ow_entry_wd_get ?_ (ow_getArgs_wd _ _ _))
    | (with_reducible refine own_wd_get hid hx hxc hsub ?_)
    | (with_reducible refine ⟨_, rfl, ?_⟩)
    | (simp only [hn, hne, Bool.or_false, Bool.false_eq_true, if_false])
    | wp_step
    | dsimp only)
  all_goals exact hq
theorem own_getMethod {so D x C : Addr} {ox : Obj} {id : String} {l₀ l : List Value} {K : Frag} {name : PySem.Str} {pl : Sem Bool} {Q : Value × List Value → Shared → Prop} (hid : id = "Exception.__init__")
    (hso : h.get? so = some { cls := .type "super", dict := none, data := .fields #[.ref D, .ref x, .ref C], slots := #[] }) (hno : Looks (model prog w) h (opaqueClassAbove (.ref C)) none)
    (hC : Looks (model prog w) h (mroOf (.ref C)) l₀) (hl : (l₀.dropWhile (· != .ref D)).drop 1 = l) (X : K.In h)
    (hf : alongIn K name l = some (some (.builtin id))) (hx : h.get? x = some ox) (hxc : ox.cls = .ref C)
    (hsub : Looks (model prog w) h (isSubtype (.ref C) (.type "Exception")) true) (hxC : x ≠ C) (hn : (name == ("__class__" : PySem.Str)) = false)
    (hq : Q (.ref h.objs.size, []) ⟨h.push (wrapObj id x), g, d, t + 1, os⟩) :
    wpAny (model prog w) A (getMethod (.ref so) name pl) Q E ⟨h, g, d, t, os⟩ := by
  have hlk := PySem.F.ks_slot_super_ga.lookup
  have hcan := PySem.F.ks_canon_super_ga
  have hT : ∀ t', (⟨h, g, d, t', os⟩ : Shared).TypeIs (.ref so) "super" := fun _ => ⟨_, hso, rfl⟩
  unfold getMethod
  refine wpAny_bind (wpAny_specialOf (hT _) hlk ?_)
  show wpAny _ _ (if (Manifest.canonical "super.__getattribute__" != "object.__getattribute__") = true then _ else _) _ _ _
  rw [if_pos hcan]
  unfold PySem.getAttr getAttrBy
  refine wpAny_bind (wpAny_bind (wpAny_mkText (wpAny_holding (wpAny_bind (wpAny_typeOf (hT _) (wpAny_bind (wpAny_of_eq hlk ?_)))))))
  show wpAny _ _ (getAttrByItsOwn (.ref so) (.str name t) (.type "super") (.builtin "super.__getattribute__") true false) _ _ _
  unfold getAttrByItsOwn hookBefore callGetattribute boundAndCalled
  refine wpAny_bind (wpAny_of_eq (show (if onTheHeap (.type "super") then typeLookup (.type "super") "__getattr__" else pure none) = pure none from rfl) ?_)
  refine wpAny_bind (wpAny_attempt (wpAny_holding ?_))
  show wpAny _ _ (bindSpecial (.builtin "super.__getattribute__") (.ref so) >>= _) _ _ _
  refine wpAny_bind (wpAny_of_eq (PySem.F.ks_slot_super_ga.bind _) ?_)
  refine wpAny_mono (Q := fun v s' => v = .ref h.objs.size ∧ s' = ⟨h.push (wrapObj id x), g, d, t + 1, os⟩) (E := fun _ _ => False)
    (wpAny_call_entry PySem.F.ks_slot_super_ga (hT _) PySem.F.ks_entry_super_ga (own_super_ga hid hso hno hC hl X hf hx hxc hsub hxC hn ⟨_, rfl, rfl, rfl⟩) (PySem.F.ks_gaArgs_super _ _)) (fun v s' hv => ?_) fun _ _ z => z.elim
  obtain ⟨rfl, rfl⟩ := hv
  exact wpAny_pure (wpAny_pure hq)
end
end Mine
/-! A30 -/
namespace Mine
open PySem PySem.W PyProof.Rows
section
variable {prog : Program} {w : World} {A : Around} {R : Result → Shared → Prop} {h : PySem.Heap} {g : Array GenState} {d : Drawn} {t : Nat} {os : OsState}
variable {nm q : PySem.Str} {C N b e m : Addr} {bs bm bmB : List Value} {hdct : Bool} {sn : List PySem.Str} {sub : List Value} {ab : Bool} {col : Option Bool} {dd : Option Addr} {k0 k1 k2 k3 k5 : Option Value} {newId initId : String}
theorem own_bound_init (F : ExcBaseFacts "Exception" newId initId bmB) (T : OwnExc bm) {rest : List Value}
    (hC : h.get? C = some (excClassObj nm q C N bs bm hdct sn sub ab col dd k0 k1 k2 k3 k5 newId)) (hb : h.get? b = some (wrapObj initId e)) (he : h.get? e = some (excObj C m))
    (hq : R (.ok (.ret .none)) ⟨(h.push (seqObj rest)).update e (Obj.mapFields fun x => x.setIfInBounds 0 (.ref h.objs.size)), g, d, t, os⟩) (hrest : rest.length ≤ sizeLine := by size_fits) :
    codeAny (model prog w) A (.call (.ref b) ⟨rest, []⟩) R ⟨h, g, d, t, os⟩ := by
  have hcB : (Value.ref C :: bm).contains (.type "Exception") = true := by rw [List.contains_cons, T.hasB, Bool.or_true]
  have hshort := F.noStar
  refine codeAny_of_tree ?_
  show wpAny _ _ (callAny (.ref b) _) _ _ _
  unfold callAny
  refine wpAny_bind (wpAny_load hb ?_)
  dsimp only [wrapObj]
  have hupd : ∀ h', h' = h.push (seqObj rest) → h'.get? e = some (excObj C m) := by
    rintro h' rfl
    exact PySem.Heap.get?_push_of_some _ he
  have hch : wpAny (model prog w) (A.under (Code.call (Value.ref b) { pos := rest })) (checkBoundCall initId { pos := Value.ref e :: rest }) (fun _ s' => s' = ⟨h, g, d, t, os⟩) (fun _ _ => False) ⟨h, g, d, t, os⟩ := by
    simp only [checkBoundCall, F.initKind, F.initRow]
    rw [if_pos (by rfl)]
    unfold Bind.checkArgs
    repeat (first | with_reducible refine wpAny_loadPart_at he ?_ | with_reducible refine wpAny_loadPart_at hC ?_ | (with_reducible refine wpAny_isSubtype_exc hC ?_; rw [hcB]) | wp_step)
    refine wpAny_onRaise ?_
    rw [show ∀ (a b : String) (n : Nat), Bind.check ⟨.positional, "*", "Exception", .self, [⟨"args", .varPos, false⟩]⟩ a b n (List.map (fun x => x.fst) ({ pos := Value.ref e :: rest } : Args).kw) = pure () from
      fun a b n => check_star_args _ _ _ _ _ _]
    exact wpAny_pure rfl
  repeat (first
    | (refine wpAny_bind (wpAny_mono hch (fun _ s' z => ?_) fun _ _ z => z.elim); subst z)
    | wp_step)
  refine ⟨plainId_quiet F.init.plain _, ?_⟩
  refine _root_.PySem.codeAny_builtinAt F.initEntry (_root_.PySem.wpAt_of_wpAny ?_)
  unfold Builtin.«BaseException.__init__»
  have he' := hupd _ rfl
  wp_walk
  exact hq
end
end Mine
/-! A31 -/
namespace Mine
open PySem PySem.W PyProof.Rows PySem.Builtin.ObjectAttr
noncomputable def onlyExc : List Value → Bool
  | [] => false
  | v :: r => (v :: r) == [.type "Exception", .type "BaseException", .type "object"] || match v with
    | .ref _ => onlyExc r
    | _ => false
theorem refuse_exc0 (self : Value) : refuseLoop self "__setattr__" [.type "Exception", .type "BaseException", .type "object"] = pure () := by kernel_rfl
theorem onlyExc_ind {P : List Value → Prop} (h0 : P [.type "Exception", .type "BaseException", .type "object"]) (h1 : ∀ c r, onlyExc r = true → P r → P (.ref c :: r)) : ∀ l : List Value, onlyExc l = true → P l := by
  intro l
  induction l with
  | nil => intro e; cases e
  | cons v r ih =>
    intro e
    rcases Bool.or_eq_true_iff.mp e with e | e
    · rw [eq_of_beq e]; exact h0
    · cases v with
      | ref c => exact h1 c r e (ih e)
      | _ => cases e
theorem refuse_exc (self : Value) {l : List Value} (e : onlyExc l = true) : refuseLoop self "__setattr__" l = pure () :=
  onlyExc_ind (P := fun l => refuseLoop self "__setattr__" l = pure ()) (refuse_exc0 self) (fun c r _ h => by rw [refuseLoop_ref]; exact h) l e
theorem exc_has {l : List Value} (e : onlyExc l = true) : l.contains (.type "object") = true :=
  onlyExc_ind (P := fun l => l.contains (.type "object") = true) (by decide +kernel) (fun c r _ h => by rw [List.contains_cons, h, Bool.or_true]) l e
theorem exc_ne {l : List Value} (e : onlyExc l = true) : l.isEmpty = false :=
  onlyExc_ind (P := fun l => l.isEmpty = false) rfl (fun c r _ _ => rfl) l e
section
variable {prog : Program} {w : World} {A : Around} {K : Frag} {C x m : Addr} {s : Shared} {R : Result → Shared → Prop}
theorem exc_osa {cd : ClassData} {name : PySem.Str} {tk : Tok} {v : Value} (X : K.In s.heap) (hx : s.heap.get? x = some (excObj C m)) (hc : clsIn K C = some cd) (ho : onlyExc cd.mro = true) (hd : cd.hasDict = true) (ht : takerIn K C name = some none)
    (h : ∀ h' dx, (∀ b o, b ≠ x → s.heap.get? b = some o → h'.get? b = some o) → h'.get? x = some { excObj C m with dict := some dx } → R (.ok (.ret .none)) { s with heap := h', toks := s.toks + 1 }) :
    codeAny (model prog w) A (.call (.builtin "object.__setattr__") ⟨[.ref x, .str name tk, v], []⟩) R s := by
  have SF := PySem.F.store_object
  have I : InstAt s.heap x (excObj C m) C none := ⟨hx, rfl, rfl, trivial⟩
  have sub : Looks (model prog w) s.heap (isInstance (.ref x) (.type "object")) true := I.type.andThen (looks_mroIn X (by unfold mroIn; rw [hc, Option.bind_some, if_neg (by rw [exc_ne ho]; decide), exc_has ho]))
  refine codeAny_call_builtin SF.slot.plain SF.entry (@check_slot (model prog w) _ _ s "object.__setattr__" "object" "__setattr__" (.ref x) [.str name tk, v] [] _ SF.kind SF.split sub (SF.args (.ref x) (.str name tk) v) ?_)
  obtain ⟨attr, ha, hr⟩ := Option.bind_eq_some_iff.mp ht
  have hm : Looks (model prog w) s.heap (mroOf (.ref C)) cd.mro := (looks_clsIn X hc).andThen .now
  have L3 : Looks (model prog w) s.heap (storeTaker? attr) none := by
    cases attr with
    | none => exact .now
    | some a =>
      obtain ⟨b, hb, hr⟩ := Option.map_eq_some_iff.mp hr
      refine (looks_takesIn X hb).andThen ?_
      cases b with
      | true => cases hr
      | false => exact .now
  rw [osa_eq, refuse_eq]
  refine wpAny_bind (wpAny_bind (I.type.here (wpAny_bind (hm.here ?_))))
  rw [refuse_exc _ ho]
  refine wpAny_pure (wpAny_bind (I.type.here (wpAny_bind ((looks_findIn X ha).here (wpAny_bind (L3.here ?_))))))
  refine wpAny_bind (wpAny_pure (wpAny_bind (wpAny_bind (wpAny_loadPart hx (wpAny_bind ((looks_clsIn X hc).here ?_))))))
  rw [hd]
  obtain ⟨hh, g, d, t, os⟩ := s
  have hx1 := PySem.Heap.get?_push_of_some emptyDict hx
  have hx2 : ((hh.push emptyDict).update x fun o => { o with dict := some hh.objs.size }).get? x = some { excObj C m with dict := some hh.objs.size } := PySem.Heap.get?_update_self _ hx1 rfl
  dsimp only
  repeat (first | wp_step | dsimp only)
  have hne : x ≠ hh.objs.size := Nat.ne_of_lt (PySem.Heap.lt_size hx)
  have hdx : ((hh.push { cls := Value.type "dict", data := Data.dict #[] }).update x fun o => { o with dict := some hh.objs.size }).get? hh.objs.size = some emptyDict := by
    rw [PySem.Heap.get?_update_other _ _ hne]
    exact PySem.Heap.get?_push_size _ rfl
  refine wpAny_askSetting (wpAny_pure (wpAny_bind (wpAny_mkText (wpAny_bind (wpAny_loadPart hdx ?_)))))
  dsimp only
  rw [if_neg (by rw [aRefKeyMayBeTheName_at]; simp)]
  refine wpAny_updatePart hdx ?_
  generalize hhs : (if name.cps.isEmpty = true then 0 else reduceHash ((model prog w).w.params.strHash name.cps)) = hsh
  obtain ⟨es, n, e', hz⟩ : ∃ es n, (Obj.putName name hsh (.str name t) v emptyDict).data = .dict es n ∧ es.size ≤ 1 := by
    rw [Obj.putName_eq]
    unfold Obj.putNameByArray emptyDict
    dsimp only
    rw [Array.findIdx?_empty]
    exact ⟨_, _, rfl, by simp⟩
  have g' : (((hh.push { cls := Value.type "dict", data := Data.dict #[] }).update x fun o => { o with dict := some hh.objs.size }).update hh.objs.size (Obj.putName name hsh (.str name t) v)).get? hh.objs.size = some (Obj.putName name hsh (.str name t) v emptyDict) :=
    PySem.Heap.get?_update_self _ hdx (Obj.isFreed_of_dict e')
  refine wpAny_bind (wpAny_lookBehind g' (by rw [e']; exact pastItsLine_dict (by rw [sizeLine_eq]; omega)) ?_)
  refine wpAny_pure (h _ hh.objs.size (fun b o hb e => ?_) ?_)
  · have hb2 : b ≠ hh.objs.size := Nat.ne_of_lt (PySem.Heap.lt_size e)
    rw [PySem.Heap.get?_update_other _ _ hb2.symm, PySem.Heap.get?_update_other _ _ hb.symm]
    exact PySem.Heap.get?_push_of_some _ e
  · rw [PySem.Heap.get?_update_other _ _ hne.symm]
    exact hx2
end
end Mine
/-! A32 -/
namespace Mine
open PySem PySem.W PyProof.Rows PySem.Calls
noncomputable abbrev initBody (sx wx ax : PySem.Str) (p0 p1 p2 p3 p4 p5 p6 p7 p8 p9 : Pos) : List Stmt :=
  [.Expr (.Call (.Attribute (.Call (.Name "super" p0) [] [] p1) "__init__" p2) [.Name wx p3] [] p4) p5, .Assign [.Attribute (.Name sx p6) ax p7] (.Name wx p8) p9]
section
variable {M : Model} {A : Around} {E : Value → Shared → Prop} {s : Shared}
theorem callWith_wrap {pos : Pos} {u e : Addr} {id : String} {args : List (Bool × Sem Value)} {Q : Value → Shared → Prop} (hplain : args.any (·.1) = false)
    (h : wpAny M A (evalArgs (.ref u) true args []) (fun x s₁ => s₁.heap.get? u = some (wrapObj id e) ∧ wpAny M A (call (.ref u) x.pos x.kw) Q E s₁) E s) : wpAny M A (callWith pos (.ref u) [] args []) Q E s := by
  unfold callWith
  refine wpAny_bind (wpAny_holding (wpAny_mono h (fun x s₁ h₁ => wpAny_bind (wpAny_standAt ?_)) fun _ _ x => x))
  obtain ⟨ho, hcall⟩ := h₁
  simp only [hplain, List.any_nil, Bool.or_false]
  refine wpAny_bind (m := keeperOf (.ref u)) ?_
  unfold keeperOf
  refine wpAny_bind (wpAny_load ho ?_)
  simp only [show (Value.type "method-wrapper" != Value.type "method") = true by decide, show (Value.type "method-wrapper" == Value.type "builtin_function_or_method" || Value.type "method-wrapper" == Value.type "method-wrapper") = true by decide, if_true]
  refine wpAny_pure ?_
  exact wpAny_bind (wpAny_mono hcall (fun r s₂ hr => wpAny_bind (wpAny_holding (wpAny_point (wpAny_pure hr)))) fun _ _ x => x)
end
section
variable {W : Wd} {A : Around} {R : Result → Shared → Prop} {s : Shared}
variable {name qual : PySem.Str} {params : Arguments} {sc : Scope} {dV kV doc pm cdv ct oc : Value} {an od : Option Addr} {osl : Array (Option Value)} {f2 cc cda C D e m : Addr} {ar : Arg}
variable {vs : Array Value} {file sx wx ax : PySem.Str} {tf : Tok} {ccl cl : Value} {cdd cld : Option Addr} {ccs csl : Array (Option Value)} {cdD cd : ClassData} {p0 p1 p2 p3 p4 p5 p6 p7 p8 p9 : Pos} {mm : Value}
variable {nm q : PySem.Str} {N : Addr} {bs bm bmB : List Value} {hdct : Bool} {sn : List PySem.Str} {sub : List Value} {ab : Bool} {col : Option Bool} {dd : Option Addr} {k0 k1 k2 k3 k5 : Option Value} {newId : String}
theorem exc_init (hb : W.h₀.StaysIn s.heap) (he : s.heap.get? e = some (excObj C m)) (hbe : W.h₀.get? e = none) (hroom : A.depth < recursionLimit)
    (hf : W.K.lookup f2 = some ⟨oc, od, .func (ksFn name qual params (initBody sx wx ax p0 p1 p2 p3 p4 p5 p6 p7 p8 p9) sc dV kV doc pm an (.ref cda) ct cc), osl⟩)
    (hcd : codeIn W.K (.ref cda) qual = true)
    (hev : ∀ env : Env, ∃ pl : Sem Bool, eval (.Call (.Attribute (.Call (.Name "super" p0) [] [] p1) "__init__" p2) [.Name wx p3] [] p4) env = (do
      let ov ← attributeBase (.Call (.Name "super" p0) [] [] p1) "__init__" env (eval (.Call (.Name "super" p0) [] [] p1) env)
      standAt p2.atName
      let (f, first) ← holding [ov] (getMethod ov "__init__" pl)
      callWith p4 f first (backTo p4 (starEach [.Name wx p3] env)) []))
    (hbind : ∀ a b, bindArgs (ksFn name qual params (initBody sx wx ax p0 p1 p2 p3 p4 p5 p6 p7 p8 p9) sc dV kV doc pm an (.ref cda) ct cc) ⟨[a, b], []⟩ = pure [(sx, a), (wx, b)])
    (hp : (params.posonlyargs ++ params.args).head? = some ar) (har : ar.arg = sx) (hne : sx ≠ wx) (hsd : (sx == ("__debug__" : PySem.Str)) = false) (hwd : (wx == ("__debug__" : PySem.Str)) = false)
    (hcode : W.K.lookup cda = some ⟨ccl, cdd, .fields vs, ccs⟩) (hvs : vs[2]? = some (.str file tf)) (hfile : ((W.prog.main.file : PySem.Str) == file) = true)
    (hcell : W.K.lookup cc = some ⟨cl, cld, .cell (some (.ref D)), csl⟩) (hD : clsIn W.K D = some cdD) (hsub : mroIn W.K C (.ref D) = some true) (hsuper : nsIn W.K mainGlobals "super" = some none)
    (hks : sc.names.lookup ("super" : PySem.Str) = some .globalImplicit) (hkc : sc.names.lookup ("__class__" : PySem.Str) = some .free) (hks1 : sc.names.lookup sx = some .local) (hkw : sc.names.lookup wx = some .local)
    (hnc : ∀ x ∈ sc.names, x.2 ≠ .cell) (hco : sc.isCoroutine = false) (hgen : sc.isGenerator = false) (hk : sc.kind = .function)
    (htop : (W.prog.main.scope.names.lookup ("super" : PySem.Str)).isSome = false) (hboot : bootBuiltins "super" = some (.type "super"))
    (hst : nsIn W.K cStatics "thirdparty.any" = some none) (hcC : clsIn W.K C = some cd)
    (hal : alongIn W.K "__init__" ((cd.mro.dropWhile (· != .ref D)).drop 1) = some (some (.builtin "Exception.__init__")))
    (hC : W.K.lookup C = some (excClassObj nm q C N bs bm hdct sn sub ab col dd k0 k1 k2 k3 k5 newId)) (F : ExcBaseFacts "Exception" newId "Exception.__init__" bmB) (T : OwnExc bm)
    (hsE : mroIn W.K C (.type "Exception") = some true)
    (ho : onlyExc cd.mro = true) (hd : cd.hasDict = true) (ht : takerIn W.K C ax = some none) (hsa : findIn W.K (.ref C) "__setattr__" = some (some (.builtin "object.__setattr__")))
    (h : ∀ h' t' oe vs a0, (∀ b o, b ≠ e → s.heap.get? b = some o → h'.get? b = some o) → h'.get? e = some oe → oe.cls = .ref C → oe.data = .fields vs → vs[1]? = some .none → vs[0]? = some a0 → R (.ok (.ret .none)) { s with heap := h', toks := t' }) :
    codeAny (model W.prog W.w) A (.call (.ref f2) ⟨[.ref e, mm], []⟩) R s := by
  have X := W.X.keeps hb
  refine ks_codeAny_call_defAt (fd := ksFn name qual params (initBody sx wx ax p0 p1 p2 p3 p4 p5 p6 p7 p8 p9) sc dV kV doc pm an (.ref cda) ct cc) (body := initBody sx wx ax p0 p1 p2 p3 p4 p5 p6 p7 p8 p9) (binds := [(sx, .ref e), (wx, mm)])
    hroom (X _ _ hf) rfl (W.T.nolimit.keeps hb) (codeRec_of X hcd) rfl (.of_eq (hbind _ _)) hnc (fun x hx => ?_) (fun h₁ hns hk₁ => ?_) hco hgen hk
  · simp only [List.mem_cons, List.not_mem_nil, or_false] at hx
    rcases hx with rfl | rfl
    · exact hks1
    · exact hkw
  have hb1 : W.h₀.StaysIn h₁ := fun b o z => hk₁ b o (hb b o z)
  have he1 := hk₁ _ _ he
  have hLe : s.heap.objs.size ≠ e := (Nat.ne_of_lt (PySem.Heap.lt_size he)).symm
  generalize hL : s.heap.objs.size = L at *
  have X1 := W.X.keeps hb1
  have hbq : (sx == wx) = false := beq_eq_false_iff_ne.mpr hne
  have hls : List.lookup sx [(sx, Value.ref e), (wx, mm)].reverse = some (.ref e) := by
    show List.lookup sx [(wx, mm), (sx, Value.ref e)] = _
    simp [List.lookup_cons, hbq]
  have hlw : List.lookup wx [(sx, Value.ref e), (wx, mm)].reverse = some mm := by
    show List.lookup wx [(wx, mm), (sx, Value.ref e)] = _
    simp
  have hie : interactive (ksEnv qual sc L f2 (.ref cda) cc) = false := by unfold interactive; rw [show (ksEnv qual sc L f2 (.ref cda) cc).scope.kind = .function from hk]; rfl
  obtain ⟨pl, hev⟩ := hev (ksEnv qual sc L f2 (.ref cda) cc)
  show _root_.PySem.wpAt _ (A.deeper (ksEnv qual sc L f2 (.ref cda) cc)) (.func _ (ksEnv qual sc L f2 (.ref cda) cc)) (execs _ (ksEnv qual sc L f2 (.ref cda) cc)) _ _ _
  refine ks_wpAt_execs_cons (ks_wpAt_Expr_any (hi := hie) (ks_wpAt_MethodCall (pl := pl) (he := hev) (ks_wpAt_super_base (env := ksEnv qual sc L f2 (.ref cda) cc) hks hkc (by decide) rfl (X1 _ _ hf) rfl hp rfl (X1 _ _ hcode) rfl hvs hfile htop ?_)))
  refine ks_loadName_global hk hks (loadGlobal_builtin (env := ksEnv qual sc L f2 (.ref cda) cc) (W.T.g.keeps hb1) (mg_none_of W.X W.T.g hsuper) (W.T.b.keeps hb1) ((W.T.builtins _ (by decide +kernel)).trans hboot) ⟨rfl, ?_⟩)
  refine wpAny_loadName_free hk hkc rfl ⟨_, X1 _ _ hcell, rfl⟩ ?_
  rw [har]
  refine wpAny_loadName_local hk hks1 hns hls ?_
  obtain ⟨oD, hD1, hD2⟩ : ∃ oD, h₁.get? D = some oD ∧ oD.data = .cls cdD := by
    unfold clsIn at hD
    split at hD
    · rename_i c d cd' sl ho
      cases hD
      exact ⟨_, X1 _ _ ho, rfl⟩
    · cases hD
  refine ks_wpAny_isType_cls hD1 hD2 ⟨rfl, ?_⟩
  refine ks_wpAny_call_super hD1 hD2 he1 rfl (fun c z => by cases z) (looks_mroIn X1 hsub) (fun h2 es2 k2 => ?_)
  have hb2 : W.h₀.StaysIn h2 := fun b o z => k2 b o (hb1 b o z)
  have X2 := W.X.keeps hb2
  have he2 := k2 _ _ he1
  have hxC : e ≠ C := by
    rintro rfl
    have := W.X _ _ hC
    rw [hbe] at this
    cases this
  have hns2 : h2.Ns L fun x => List.lookup x [(sx, Value.ref e), (wx, mm)].reverse := by
    obtain ⟨oL, es, ep, z, r⟩ := hns
    exact ⟨oL, es, ep, k2 _ _ z, r⟩
  refine own_getMethod (l₀ := cd.mro) rfl es2 (looks_opaque X2 hst) ((looks_clsIn X2 hcC).andThen .now) rfl X2 hal he2 rfl (looks_mroIn X2 hsE) hxC (by decide) ?_
  have k3 : ∀ b o, h2.get? b = some o → (h2.push (wrapObj "Exception.__init__" e)).get? b = some o := fun b o z => PySem.Heap.get?_push_of_some _ z
  have hw3 : (h2.push (wrapObj "Exception.__init__" e)).get? h2.objs.size = some (wrapObj "Exception.__init__" e) := PySem.Heap.get?_push_size _ rfl
  generalize hh3 : h2.push (wrapObj "Exception.__init__" e) = h3 at *
  generalize hww : h2.objs.size = wa at *
  have hns3 : h3.Ns L fun x => List.lookup x [(sx, Value.ref e), (wx, mm)].reverse := by
    obtain ⟨oL, es, ep, z, r⟩ := hns2
    exact ⟨oL, es, ep, k3 _ _ z, r⟩
  have he3 := k3 _ _ he2
  have hb3 : W.h₀.StaysIn h3 := fun b o z => k3 b o (hb2 b o z)
  have X3 := W.X.keeps hb3
  refine callWith_wrap (id := "Exception.__init__") (e := e) (by rfl) (args_all (by rfl) (args_cons (wpAny_Name (wpAny_loadName_local hk hkw hns3 hlw ?_) hwd)))
  refine args_nil ⟨hw3, wpAny_call (own_bound_init F T (X3 _ _ hC) hw3 he3 ?_)⟩
  have k4 : ∀ b o, b ≠ e → h3.get? b = some o → ((h3.push (seqObj [mm])).update e (Obj.mapFields fun x => x.setIfInBounds 0 (.ref h3.objs.size))).get? b = some o := fun b o hbe z => by
    rw [PySem.Heap.get?_update_other _ _ hbe.symm]
    exact PySem.Heap.get?_push_of_some _ z
  have he4 : ((h3.push (seqObj [mm])).update e (Obj.mapFields fun x => x.setIfInBounds 0 (.ref h3.objs.size))).get? e = some (excObj C h3.objs.size) := by
    rw [PySem.Heap.get?_update_self _ (PySem.Heap.get?_push_of_some _ he3) rfl]
    rfl
  show _root_.PySem.wpAt _ (A.deeper (ksEnv qual sc L f2 (.ref cda) cc)) (.func _ (ksEnv qual sc L f2 (.ref cda) cc)) (execs [.Assign [.Attribute (.Name sx p6) ax p7] (.Name wx p8) p9] (ksEnv qual sc L f2 (.ref cda) cc)) _ _
    { heap := (h3.push (seqObj [mm])).update e (Obj.mapFields fun x => x.setIfInBounds 0 (.ref h3.objs.size)), gens := s.gens, drawn := s.drawn, toks := s.toks + [(sx, Value.ref e), (wx, mm)].length + 1, os := s.os }
  generalize hh4 : (h3.push (seqObj [mm])).update e (Obj.mapFields fun x => x.setIfInBounds 0 (.ref h3.objs.size)) = h4 at *
  have hns4 : h4.Ns L fun x => List.lookup x [(sx, Value.ref e), (wx, mm)].reverse := by
    obtain ⟨oL, es, ep, z, r⟩ := hns3
    exact ⟨oL, es, ep, k4 _ _ hLe z, r⟩
  have hb4 : W.h₀.StaysIn h4 := fun b o z => k4 b o (fun q => by rw [q, hbe] at z; cases z) (hb3 b o z)
  have X4 := W.X.keeps hb4
  refine ks_wpAt_execs_cons (ks_wpAt_Assign_Attr (wpAt_of_wpAny (wpAny_Name (wpAny_loadName_local hk hkw hns4 hlw ?_) hwd)))
  refine wpAny_Name (wpAny_loadName_local hk hks1 hns4 hls ?_) hsd
  have I : InstAt h4 e (excObj C h3.objs.size) C none := ⟨he4, rfl, rfl, trivial⟩
  refine set_plain X4 I hsa (exc_osa (s := { s with heap := h4, toks := _ }) X4 he4 hcC ho hd ht fun h5 dx k5 he5 => ?_)
  show _root_.PySem.wpAt _ (A.deeper (ksEnv qual sc L f2 (.ref cda) cc)) (.func _ (ksEnv qual sc L f2 (.ref cda) cc)) (execs [] (ksEnv qual sc L f2 (.ref cda) cc)) _ _ _
  refine _root_.PySem.wpAt_of_wpAny (wpAny_execs_nil (h h5 _ _ _ _ (fun b o hbne z => ?_) he5 rfl rfl rfl rfl))
  exact k5 b o hbne (k4 b o hbne (k3 b o (k2 b o (hk₁ b o z))))
end
end Mine
/-! A33 -/
namespace Mine
open PySem PySem.W PyProof.Rows PySem.Calls
/-- what a call of an own exception class upon one value brings -/
structure ExcCls (W : Wd) (C : Addr) : Prop where
  run : ∀ (A : Around) (E : Value → Shared → Prop) (Q : Value → Shared → Prop) (s : Shared) (mm : Value), W.h₀.StaysIn s.heap → A.depth + 2 < recursionLimit →
    (∀ h' t' e oe vs a0, (∀ b o, s.heap.get? b = some o → h'.get? b = some o) → s.heap.get? e = none → h'.get? e = some oe → oe.cls = .ref C → oe.data = .fields vs → vs[1]? = some .none → vs[0]? = some a0 →
      Q (.ref e) { s with heap := h', toks := t' }) → wpAny (model W.prog W.w) A (call (.ref C) [mm]) Q E s
section
variable {W : Wd} {A : Around} {R : Result → Shared → Prop} {s : Shared}
variable {name qual : PySem.Str} {params : Arguments} {sc : Scope} {dV kV doc pm cdv ct oc : Value} {an od : Option Addr} {osl : Array (Option Value)} {f2 cc cda C D e m : Addr} {ar : Arg}
variable {vs : Array Value} {file sx wx ax : PySem.Str} {tf : Tok} {ccl cl : Value} {cdd cld : Option Addr} {ccs csl : Array (Option Value)} {cdD cd : ClassData} {p0 p1 p2 p3 p4 p5 p6 p7 p8 p9 : Pos} {mm : Value}
variable {nm q : PySem.Str} {N : Addr} {bs bm bmB : List Value} {hdct : Bool} {sn : List PySem.Str} {sub : List Value} {ab : Bool} {col : Option Bool} {dd : Option Addr} {k0 k1 k2 k3 k5 : Option Value} {newId : String}
theorem excCls_make
    (hf : W.K.lookup f2 = some ⟨oc, od, .func (ksFn name qual params (initBody sx wx ax p0 p1 p2 p3 p4 p5 p6 p7 p8 p9) sc dV kV doc pm an (.ref cda) ct cc), osl⟩)
    (hcd : codeIn W.K (.ref cda) qual = true)
    (hev : ∀ env : Env, ∃ pl : Sem Bool, eval (.Call (.Attribute (.Call (.Name "super" p0) [] [] p1) "__init__" p2) [.Name wx p3] [] p4) env = (do
      let ov ← attributeBase (.Call (.Name "super" p0) [] [] p1) "__init__" env (eval (.Call (.Name "super" p0) [] [] p1) env)
      standAt p2.atName
      let (f, first) ← holding [ov] (getMethod ov "__init__" pl)
      callWith p4 f first (backTo p4 (starEach [.Name wx p3] env)) []))
    (hbind : ∀ a b, bindArgs (ksFn name qual params (initBody sx wx ax p0 p1 p2 p3 p4 p5 p6 p7 p8 p9) sc dV kV doc pm an (.ref cda) ct cc) ⟨[a, b], []⟩ = pure [(sx, a), (wx, b)])
    (hp : (params.posonlyargs ++ params.args).head? = some ar) (har : ar.arg = sx) (hne : sx ≠ wx) (hsd : (sx == ("__debug__" : PySem.Str)) = false) (hwd : (wx == ("__debug__" : PySem.Str)) = false)
    (hcode : W.K.lookup cda = some ⟨ccl, cdd, .fields vs, ccs⟩) (hvs : vs[2]? = some (.str file tf)) (hfile : ((W.prog.main.file : PySem.Str) == file) = true)
    (hcell : W.K.lookup cc = some ⟨cl, cld, .cell (some (.ref D)), csl⟩) (hD : clsIn W.K D = some cdD) (hsub : mroIn W.K C (.ref D) = some true) (hsuper : nsIn W.K mainGlobals "super" = some none)
    (hks : sc.names.lookup ("super" : PySem.Str) = some .globalImplicit) (hkc : sc.names.lookup ("__class__" : PySem.Str) = some .free) (hks1 : sc.names.lookup sx = some .local) (hkw : sc.names.lookup wx = some .local)
    (hnc : ∀ x ∈ sc.names, x.2 ≠ .cell) (hco : sc.isCoroutine = false) (hgen : sc.isGenerator = false) (hk : sc.kind = .function)
    (htop : (W.prog.main.scope.names.lookup ("super" : PySem.Str)).isSome = false) (hboot : bootBuiltins "super" = some (.type "super"))
    (hst : nsIn W.K cStatics "thirdparty.any" = some none) (hcC : clsIn W.K C = some cd)
    (hal : alongIn W.K "__init__" ((cd.mro.dropWhile (· != .ref D)).drop 1) = some (some (.builtin "Exception.__init__")))
    (hC : W.K.lookup C = some (excClassObj nm q C N bs bm hdct sn sub ab col dd k0 k1 k2 k3 k5 newId)) (F : ExcBaseFacts "Exception" newId "Exception.__init__" bmB) (T : OwnExc bm)
    (hsE : mroIn W.K C (.type "Exception") = some true)
    (ho : onlyExc cd.mro = true) (hd : cd.hasDict = true) (ht : takerIn W.K C ax = some none) (hsa : findIn W.K (.ref C) "__setattr__" = some (some (.builtin "object.__setattr__")))
    (hi : findIn W.K (.ref C) "__init__" = some (some (.ref f2))) (hfn : typeIn W.K (.ref f2) = some (.type "function")) : ExcCls W C := by
  refine ⟨fun A E Q s mm hb hroom h => ?_⟩
  have X := W.X.keeps hb
  obtain ⟨hh, g, d, t, os⟩ := s
  have hbe : W.h₀.get? (hh.objs.size + 1) = none := by
    cases z : W.h₀.get? (hh.objs.size + 1) with
    | none => rfl
    | some o => exact absurd (PySem.Heap.lt_size (hb _ _ z)) (by show ¬ hh.objs.size + 1 < hh.objs.size; lia)
  have k : ∀ b o, hh.get? b = some o → ((hh.push (seqObj [mm])).push (excObj C hh.objs.size)).get? b = some o := fun b o e => PySem.Heap.get?_push_of_some _ (PySem.Heap.get?_push_of_some _ e)
  have hget : ((hh.push (seqObj [mm])).push (excObj C hh.objs.size)).get? (hh.objs.size + 1) = some (excObj C hh.objs.size) := by heap_get
  have hnew : hh.get? (hh.objs.size + 1) = none := by
    cases z : hh.get? (hh.objs.size + 1) with
    | none => rfl
    | some o => exact absurd (PySem.Heap.lt_size z) (by show ¬ hh.objs.size + 1 < hh.objs.size; lia)
  refine own_call F T (X _ _ hC) (looks_findIn X hi) (fun self => bind_fn X self hfn) ?_
  refine exc_init (s := ⟨(hh.push (seqObj [mm])).push (excObj C hh.objs.size), g, d, t, os⟩) (fun b o z => k b o (hb b o z)) hget hbe (by show A.depth + 1 < recursionLimit; lia) hf hcd hev hbind hp har hne hsd hwd hcode hvs hfile hcell hD hsub hsuper hks hkc hks1 hkw hnc hco hgen hk htop hboot hst hcC hal hC F T hsE ho hd ht hsa
    fun h' t' oe vs a0 keep he hc hdt h1 h0 => ⟨rfl, ?_⟩
  exact h h' t' (hh.objs.size + 1) oe vs a0 (fun b o z => keep b o (fun q => by rw [q, hnew] at z; cases z) (k b o z)) hnew he hc hdt h1 h0
end
end Mine
/-! A34 -/
namespace Mine
open PySem PySem.W PyProof.Rows
section
variable {M : Model} {A : Around} {E : Value → Shared → Prop} {env : Env} {C : Addr}
variable {nm qn : PySem.Str} {N : Addr} {bs bm : List Value} {hdct : Bool} {sn : List PySem.Str} {sub : List Value} {ab : Bool} {col : Option Bool} {dd : Option Addr} {k0 k1 k2 k3 k5 : Option Value} {newId : String}
theorem raise_own {s : Shared} {x : Sem Value} {Q : Flow → Shared → Prop} (hh : A.handled = none) (hbase : bm.contains (.type "BaseException") = true)
    (h : wpAny M A x (fun v s₁ => ∃ e oe, v = .ref e ∧ s₁.heap.get? C = some (excClassObj nm qn C N bs bm hdct sn sub ab col dd k0 k1 k2 k3 k5 newId) ∧
      s₁.heap.get? e = some oe ∧ oe.cls = .ref C ∧ (∃ vs, oe.data = .fields vs ∧ vs[1]? = some .none) ∧ E (.ref e) s₁) E s) :
    wpAny M A (raiseStmt env (some x) none) Q E s := by
  unfold raiseStmt
  refine wpAny_bind (wpAny_mono h (fun v s₁ h₁ => ?_) fun _ _ x => x)
  obtain ⟨e, oe, rfl, hC, he, hc, ⟨vs, hdt, hv1⟩, hE⟩ := h₁
  have hcB : (Value.ref C :: bm).contains (.type "BaseException") = true := by rw [List.contains_cons, hbase, Bool.or_true]
  obtain ⟨hp, g, d, tk, os⟩ := s₁
  obtain ⟨oc, od, oda, osl⟩ := oe
  dsimp only at hc hdt
  subst hc hdt
  repeat (first | with_reducible refine wpAny_loadPart_at he ?_ | with_reducible refine wpAny_loadPart_at hC ?_ | (with_reducible refine wpAny_isSubtype_exc hC ?_; rw [hcB]) | wp_step)
  rw [hv1]
  refine wpAny_pure ?_
  rw [if_neg (by decide)]
  exact wpAny_pure (wpAny_raiseNew_none hh hE)
end
noncomputable def sRaise (c : Nat) : MS := fun fr σ => .exc c fr σ
section
variable {W : Wd} {n : Nat} {sc : Scope} {a : Act} {fr : Loc} {ρ ρ' : Rho} {σ : Sto} {h h' : PySem.Heap} {s s' : Shared} {D : List Addr} {E : Value → Shared → Prop}
theorem mem_frs {l : List Env} {L : Addr} : L ∈ frs l ↔ ∃ e ∈ l, e.frame = some L := by
  unfold frs
  rw [List.mem_filterMap]
theorem Live.mem {l : List Env} {L : Addr} (V : Live W l ρ h) (hm : L ∈ frs l) : L ∉ muts ρ ∧ W.h₀.get? L = none ∧ ∃ o, h.get? L = some o ∧ softObj o = true := by
  obtain ⟨e, he, hf⟩ := mem_frs.mp hm
  obtain ⟨_, L', o, hf', hn, hb, ho, hs⟩ := V e he
  rw [hf] at hf'
  cases hf'
  exact ⟨hn, hb, o, ho, hs⟩
theorem StH.hideF {l : List Env} (S : StH W ρ σ h) (V : Live W l ρ h) : StH W ρ σ (hideAll h (frs l)) := by
  have g : ∀ b o, h.get? b = some o → b ∉ frs l → (hideAll h (frs l)).get? b = some o := fun b o e hne => hideAll_get _ e hne
  have soft : ∀ b o, h.get? b = some o → softObj o = false → b ∉ frs l := fun b o e q hm => by
    obtain ⟨_, _, o', ho, hs⟩ := V.mem hm
    rw [e] at ho; cases ho
    rw [hs] at q; cases q
  have mutn : ∀ b, b ∈ muts ρ → b ∉ frs l := fun b hb hm => (V.mem hm).1 hb
  have vm : VMon ρ h ρ (hideAll h (frs l)) := ⟨fun _ _ e => e, fun b o e hn q => g b o e (soft b o e q), fun _ _ _ hn => hn⟩
  refine ⟨fun b o e => g b o (S.base b o e) fun hm => (by rw [(V.mem hm).2.1] at e; cases e), S.fresh, fun b hb' => ?_, S.nodup, S.len, fun i o p e e' => ?_⟩
  · obtain ⟨ob, e, c⟩ := S.hidc b hb'
    exact ⟨ob, g _ _ e (mutn _ (mem_muts'.mpr (.inr hb'))), c⟩
  · exact (S.objs i o p e e').mono vm (fun ob z => g _ _ z (mutn _ (mem_muts e'))) fun ob z zs => ⟨ob.slots, g _ _ z (soft _ _ z zs)⟩
end
end Mine
/-! A35 -/
namespace Mine
open PySem PySem.W PyProof.Rows
section
variable {W : Wd} {n : Nat} {sc : Scope} {a : Act} {fr : Loc} {ρ ρ' : Rho} {σ : Sto} {h h' : PySem.Heap} {s s' : Shared} {D : List Addr} {E : Value → Shared → Prop}
theorem soft_nofields {o : Obj} (h : softObj o = true) : ∀ vs, o.data ≠ .fields vs := by
  intro vs q
  unfold softObj at h
  rw [q] at h
  cases h
theorem live_funFrames {h' : PySem.Heap} {as : List Addr} (keep : ∀ b o, h.get? b = some o → h'.get? b = some o) : ∀ {l : List Env}, Live W l ρ h → (∀ L ∈ frs l, L ∈ as) → h'.FunFrames (hideAll h as) l
  | [], _, _ => trivial
  | env :: l, V, hin => by
    obtain ⟨hk, L, o, hf, hn, hb, ho, hs⟩ := V env (.head _)
    refine ⟨hk, ⟨L, o, hf, hideAll_none _ (hin L (mem_frs.mpr ⟨env, .head _, hf⟩)), keep _ _ ho, soft_nofields hs⟩, live_funFrames keep (fun e he => V e (.tail _ he)) fun L' hL' => ?_⟩
    obtain ⟨e, he, hfe⟩ := mem_frs.mp hL'
    exact hin L' (mem_frs.mpr ⟨e, .tail _ he, hfe⟩)
variable {nm qn : PySem.Str} {N : Addr} {bs bm : List Value} {hdct : Bool} {sn : List PySem.Str} {sub : List Value} {ab : Bool} {col : Option Bool} {dd : Option Addr} {k0 k1 k2 k3 k5 : Option Value} {newId : String}
theorem DenS.raise {x : PySem.Str} {c : Nat} {me : PySem.Expr} {np cpos pos : Pos} (hx : sc.names.lookup x = some .globalImplicit) (e : nsIn W.K mainGlobals x = some (some (.ref (W.cls c)))) (hd : (x == ("__debug__" : PySem.Str)) = false)
    (hK : W.K.lookup (W.cls c) = some (excClassObj nm qn (W.cls c) N bs bm hdct sn sub ab col dd k0 k1 k2 k3 k5 newId)) (hbase : bm.contains (.type "BaseException") = true) (X : ExcCls W (W.cls c)) (hk : keepIn W.K (.ref (W.cls c)) = true) (hp : PlainArgs cpos [me])
    (he : ∀ env : Env, starEach [me] env = (false, eval me env) :: starEach [] env)
    (hm : ∀ (a : Act), ActOk n a → a.env.scope = sc → ∀ (ρ : Rho) (σ : Sto) (s : Shared), St W ρ σ s → ∀ (Q : Value → Shared → Prop) (E : Value → Shared → Prop), (∀ mv tk, Q mv { s with toks := tk }) → wpAny (model W.prog W.w) a.A (eval me a.env) Q E s) :
    DenS W n sc (.Raise (some (.Call (.Name x np) [me] [] cpos)) none pos) (sRaise c) := by
  intro a ok hsc ρ σ fr s S F Q E p
  subst hsc
  rw [arm_exec_Raise]
  show wpAny _ _ (do
    standAt pos
    raiseStmt a.env (some (do let v ← eval (.Call (.Name x np) [me] [] cpos) a.env; standAt pos; pure v)) none) Q E s
  refine wpAny_bind (wpAny_standAt (raise_own (C := W.cls c) (nm := nm) (qn := qn) (N := N) (bs := bs) (bm := bm) (hdct := hdct) (sn := sn) (sub := sub) (ab := ab) (col := col) (dd := dd) (k0 := k0) (k1 := k1) (k2 := k2) (k3 := k3) (k5 := k5) (newId := newId) ok.hand hbase ?_))
  refine wpAny_bind (wpAny_mono (Q := fun v s' => ∃ e oe, v = .ref e ∧ s'.heap.get? (W.cls c) = some (excClassObj nm qn (W.cls c) N bs bm hdct sn sub ab col dd k0 k1 k2 k3 k5 newId) ∧
      s'.heap.get? e = some oe ∧ oe.cls = .ref (W.cls c) ∧ (∃ vs, oe.data = .fields vs ∧ vs[1]? = some .none) ∧ E (.ref e) s') (Call_Name rfl (load_glob ok S hx e hd ?_)) (fun v s3 h3 => wpAny_bind (wpAny_standAt (wpAny_pure h3))) fun _ _ x => x)
  refine callWith_of (P := W.K.In) (by rw [hp]; rfl) (keeps_K hk) (args_all (hp _) (args_cons (hm a ok rfl ρ σ s S _ _ fun mv tk => ?_) (he _)))
  refine args_nil ⟨W.X.keeps S.heap.base, ?_⟩
  have S1 : St W ρ σ { s with toks := tk } := ⟨S.heap, S.gens, S.os⟩
  refine X.run _ _ _ _ _ S1.heap.base (by have := ok.depth; show a.A.depth + 2 < 1000; lia) fun h' t' ea oe vs a0 keep new he' hc hdt h1 h0 => ?_
  have keep : ∀ b o, s.heap.get? b = some o → h'.get? b = some o := keep
  refine ⟨ea, oe, rfl, keep _ _ (W.X.keeps S.heap.base _ _ hK), he', hc, ⟨vs, hdt, h1⟩, ?_⟩
  have V := F.live
  have gB : ∀ b o, s.heap.get? b = some o → b ∉ frs a.l → (hideAll s.heap (frs a.l)).get? b = some o := fun b o e hne => hideAll_get _ e hne
  refine p ρ _ ea (hideAll s.heap (frs a.l)) (.inr ⟨S.gens, S.os, S.heap.hideF V, oe, vs, a0, fun b o z => keep b o (of_hideAll _ z), ?_, he', hc, hdt, h1, h0, ?_⟩) ?_ (F.ext (Ext.of_keeps keep))
  · cases z : (hideAll s.heap (frs a.l)).get? ea with
    | none => rfl
    | some o => have := of_hideAll _ z; rw [show s.heap.get? ea = none from new] at this; cases this
  · exact live_funFrames keep V fun _ z => z
  · have mutn : ∀ b, b ∈ muts ρ → b ∉ frs a.l := fun b hb hm => (V.mem hm).1 hb
    refine ⟨⟨[], by simp, by simp⟩, rfl, fun b hb o z => gB _ _ z (mutn _ (mem_muts'.mpr (.inr hb))), fun b o z _ q => gB _ _ z fun hm => ?_, fun b o z _ _ _ => ⟨o.slots, fun hn => gB _ _ z hn, fun _ => keep _ _ z⟩,
      fun b o z _ q => ⟨o, q, fun hn => gB _ _ z hn, fun _ => keep _ _ z⟩, fun b o z => keep b o (of_hideAll _ z)⟩
    obtain ⟨_, _, o', ho, hs⟩ := V.mem hm
    rw [z] at ho; cases ho
    rw [hs] at q; cases q
end
end Mine
/-! A36 -/
namespace Mine
open PySem PySem.W PyProof.Rows
section
variable {W : Wd} {n : Nat} {sc : Scope}
/-- the message of a raise: a text, a number by its name, a text -/
theorem msg_three {s1 s2 x : PySem.Str} {i : Int} {t : Tok} {k1 k2 : Nat} {q1 q2 q3 np pos : Pos} (hx : sc.names.lookup x = some .globalImplicit) (e : nsIn W.K mainGlobals x = some (some (.int i t))) (hd : (x == ("__debug__" : PySem.Str)) = false)
    (hi : i.natAbs.log2 < 1920) (h1 : (PySem.Str.empty ++ s1).length ≤ sizeLine) (h2 : (PySem.Str.empty ++ s1 ++ (toString i : String)).length ≤ sizeLine) (h3 : (PySem.Str.empty ++ s1 ++ (toString i : String) ++ s2).length ≤ sizeLine) :
    ∀ (a : Act), ActOk n a → a.env.scope = sc → ∀ (ρ : Rho) (σ : Sto) (s : Shared), St W ρ σ s → ∀ (Q : Value → Shared → Prop) (E : Value → Shared → Prop), (∀ mv tk, Q mv { s with toks := tk }) →
      wpAny (model W.prog W.w) a.A (eval (.JoinedStr [.Constant (.str s1) k1 q1, .FormattedValue (.Name x np) (-1) none q2, .Constant (.str s2) k2 q3] pos) a.env) Q E s := by
  intro a ok hsc ρ σ s S Q E h
  subst hsc
  refine JoinedStr_many (joinParts_cons ?_)
  refine wpAny_mkText ⟨h1, joinParts_cons (FormattedValue_plain ?_)⟩
  have S1 : St W ρ σ { s with toks := s.toks + 1 } := ⟨S.heap, S.gens, S.os⟩
  refine load_glob ok S1 hx e hd (formatField_int_small hi ⟨h2, joinParts_cons (wpAny_mkText ⟨h3, joinParts_nil (h _ _) h3⟩)⟩)
end
end Mine
/-! A37 -/
namespace Mine
open PySem PySem.SetTable
/-- the row of probes -/
noncomputable def stp (t : SetTable) (h : Int) : Nat → Probe
  | 0 => t.probeStart h
  | k + 1 => t.advance (stp t h k)
theorem advance_dummy (t : SetTable) (p : Probe) : (t.advance p).dummy = p.dummy := by
  unfold SetTable.advance
  split
  · rfl
  · rfl
theorem stp_dummy (t : SetTable) (h : Int) : ∀ k, (stp t h k).dummy = none
  | 0 => rfl
  | k + 1 => by rw [stp, advance_dummy, stp_dummy t h k]
/-- probing from the k-th on, the K-th being the first free one -/
theorem probe_row {t : SetTable} {h : Int} {hashAt : Nat → Int} {K : Nat} (hK : t.slot (stp t h K).j = .empty) : ∀ (fuel k : Nat), k ≤ K → K - k < fuel → (∀ m, k ≤ m → m < K → ∃ i, t.slot (stp t h m).j = .live i) →
    SetTable.probe.go t hashAt h fuel (stp t h k) = some (.empty (stp t h K).j none) ∨
      ∃ m i, k ≤ m ∧ m < K ∧ t.slot (stp t h m).j = .live i ∧ hashAt i = h ∧ SetTable.probe.go t hashAt h fuel (stp t h k) = some (.candidate (stp t h m).j i (stp t h (m + 1)))
  | 0, k, _, hf, _ => absurd hf (Nat.not_lt_zero _)
  | fuel + 1, k, hk, hf, live => by
    by_cases hkK : k = K
    · subst hkK
      left
      rw [SetTable.probe.go, hK]
      simp only
      rw [stp_dummy]
    · have hlt : k < K := by lia
      obtain ⟨i, hi⟩ := live k (Nat.le_refl _) hlt
      by_cases hh : hashAt i = h
      · right
        refine ⟨k, i, Nat.le_refl _, hlt, hi, hh, ?_⟩
        rw [SetTable.probe.go, hi]
        simp only [hh, beq_self_eq_true, if_true]
        rfl
      · have e : SetTable.probe.go t hashAt h (fuel + 1) (stp t h k) = SetTable.probe.go t hashAt h fuel (stp t h (k + 1)) := by
          rw [SetTable.probe.go, hi]
          have hb : (hashAt i == h) = false := beq_eq_false_iff_ne.mpr hh
          simp only [hb, Bool.false_eq_true, if_false]
          rfl
        rw [e]
        rcases probe_row hK fuel (k + 1) hlt (by lia) (fun m h1 h2 => live m (by lia) h2) with h1 | ⟨m, i', h1, h2, h3, h4, h5⟩
        · exact .inl h1
        · exact .inr ⟨m, i', by lia, h2, h3, h4, h5⟩
/-- the first of the row that is free -/
theorem first_free {t : SetTable} {h : Int} {K : Nat} (hK : t.slot (stp t h K).j = .empty) (nd : ∀ j, t.slot j ≠ .dummy) : ∃ K', K' ≤ K ∧ t.slot (stp t h K').j = .empty ∧ ∀ m, m < K' → ∃ i, t.slot (stp t h m).j = .live i := by
  induction K using Nat.strongRecOn with
  | _ K ih =>
    by_cases hx : ∃ m, m < K ∧ t.slot (stp t h m).j = .empty
    · obtain ⟨m, hm, he⟩ := hx
      obtain ⟨K', h1, h2, h3⟩ := ih m hm he
      exact ⟨K', by lia, h2, h3⟩
    · refine ⟨K, Nat.le_refl _, hK, fun m hm => ?_⟩
      cases z : t.slot (stp t h m).j with
      | empty => exact absurd ⟨m, hm, z⟩ hx
      | dummy => exact absurd z (nd _)
      | live i => exact ⟨i, rfl⟩
end Mine
/-! A38 -/
namespace Mine
open PySem PySem.SetTable
noncomputable def blockI (t : SetTable) (h : Int) : Nat → Nat
  | 0 => bits h % (t.mask + 1)
  | b + 1 => (blockI t h b * 5 + 1 + bits h / 32 ^ b / 32) % (t.mask + 1)
noncomputable def blockP (t : SetTable) (h : Int) (b r : Nat) : Probe := { j := blockI t h b + r, more := runEnd t.mask (blockI t h b) - blockI t h b - r, i := blockI t h b, perturb := bits h / 32 ^ b, dummy := none }
theorem run_le (mask i : Nat) : runEnd mask i - i ≤ 9 := by
  unfold runEnd
  split <;> lia
theorem advance_run (t : SetTable) (h : Int) (b r : Nat) (hr : r < runEnd t.mask (blockI t h b) - blockI t h b) : t.advance (blockP t h b r) = blockP t h b (r + 1) := by
  unfold SetTable.advance blockP
  rw [if_pos (by dsimp only; lia)]
  dsimp only
  congr 1
theorem advance_leap (t : SetTable) (h : Int) (b : Nat) : t.advance (blockP t h b (runEnd t.mask (blockI t h b) - blockI t h b)) = blockP t h (b + 1) 0 := by
  unfold SetTable.advance blockP
  rw [if_neg (by dsimp only; lia)]
  simp only [leap, blockI, Nat.sub_zero, Nat.add_zero, Nat.pow_succ, Nat.div_div_eq_div_mul]
theorem run_all (t : SetTable) (h : Int) (b k : Nat) (e : stp t h k = blockP t h b 0) : ∀ r, r ≤ runEnd t.mask (blockI t h b) - blockI t h b → stp t h (k + r) = blockP t h b r
  | 0, _ => e
  | r + 1, hr => by
    rw [show k + (r + 1) = (k + r) + 1 from rfl, stp, run_all t h b k e r (by lia), advance_run _ _ _ _ (by lia)]
theorem block_at (t : SetTable) (h : Int) : ∀ b, ∃ k, k ≤ 10 * b ∧ stp t h k = blockP t h b 0
  | 0 => ⟨0, Nat.le_refl _, by simp [stp, SetTable.probeStart, blockP, blockI]⟩
  | b + 1 => by
    obtain ⟨k, hk, e⟩ := block_at t h b
    refine ⟨k + (runEnd t.mask (blockI t h b) - blockI t h b) + 1, ?_, ?_⟩
    · have := run_le t.mask (blockI t h b); lia
    · rw [stp, run_all t h b k e _ (Nat.le_refl _), advance_leap]
theorem bits_lt (h : Int) : bits h < 2 ^ 64 := by
  unfold bits
  have h1 := Int.emod_nonneg h (show (2 ^ 64 : Int) ≠ 0 by decide)
  have h2 := Int.emod_lt_of_pos h (show (0 : Int) < 2 ^ 64 by decide)
  lia
theorem bits_gone (h : Int) {b : Nat} (hb : 13 ≤ b) : bits h / 32 ^ b = 0 := by
  refine Nat.div_eq_of_lt (Nat.lt_of_lt_of_le (bits_lt h) ?_)
  calc 2 ^ 64 ≤ 32 ^ 13 := by decide
    _ ≤ 32 ^ b := Nat.pow_le_pow_right (by decide) hb
noncomputable def cyc (mask i : Nat) : Nat → Nat
  | 0 => i
  | m + 1 => (cyc mask i m * 5 + 1) % (mask + 1)
theorem block_cyc (t : SetTable) (h : Int) : ∀ m, blockI t h (13 + m) = cyc t.mask (blockI t h 13) m
  | 0 => rfl
  | m + 1 => by
    rw [show 13 + (m + 1) = (13 + m) + 1 from rfl, blockI, bits_gone h (by lia), block_cyc t h m, cyc]
theorem cyc_all7 : ∀ i < 8, ∀ j < 8, ∃ m, m < 8 ∧ cyc 7 i m = j := by decide +kernel
theorem cyc_all31 : ∀ i < 32, ∀ j < 32, ∃ m, m < 32 ∧ cyc 31 i m = j := by decide +kernel
theorem slot_out {t : SetTable} (hd : t.dummies = #[]) {j : Nat} (hj : j ∉ t.place.toList) : t.slot j = .empty := by
  unfold SetTable.slot
  have h1 : ¬ ((t.place[below t.place j]? == some j) = true) := fun e => by
    rw [beq_iff_eq] at e
    exact hj (by rw [← Array.mem_def]; exact Array.mem_of_getElem? e)
  rw [hd]
  simp only [if_neg h1]
  rw [if_neg (by simp [SetTable.has])]
theorem room_at {mask : Nat} : ∀ (l : List Nat), l.length ≤ mask → ∃ j, j ≤ mask ∧ j ∉ l := by
  intro l hl
  by_cases hx : ∃ j, j ≤ mask ∧ j ∉ l
  · exact hx
  · exfalso
    have sub : List.range (mask + 1) ⊆ l := fun j hj => by
      by_cases hm : j ∈ l
      · exact hm
      · exact absurd ⟨j, by have := List.mem_range.mp hj; lia, hm⟩ hx
    have := (List.nodup_range (n := mask + 1)).length_le_of_subset sub
    rw [List.length_range] at this
    lia
/-- an empty slot is met in time -/
theorem probe_meets {t : SetTable} (hm : t.mask = 7 ∨ t.mask = 31) (hd : t.dummies = #[]) (hp : t.place.size ≤ t.mask) (h : Int) : ∃ K, K < 10 * turns t.mask ∧ t.slot (stp t h K).j = .empty := by
  obtain ⟨j, hj, hjn⟩ := room_at t.place.toList (by simpa using hp)
  have hi : blockI t h 13 < t.mask + 1 := by rw [show (13 : Nat) = 12 + 1 from rfl, blockI]; exact Nat.mod_lt _ (Nat.succ_pos _)
  obtain ⟨m, hmm, hc⟩ : ∃ m, m < t.mask + 1 ∧ cyc t.mask (blockI t h 13) m = j := by
    rcases hm with e | e
    · rw [e] at hi hj ⊢; exact cyc_all7 _ hi j (by lia)
    · rw [e] at hi hj ⊢; exact cyc_all31 _ hi j (by lia)
  obtain ⟨k, hk, e⟩ := block_at t h (13 + m)
  refine ⟨k, ?_, ?_⟩
  · unfold turns; lia
  · rw [e]
    show t.slot (blockI t h (13 + m) + 0) = _
    rw [Nat.add_zero, block_cyc, hc]
    exact slot_out hd hjn
end Mine
/-! A39 -/
namespace Mine
open PySem PySem.W PyProof.Rows
section
variable {W : Wd} {A : Around} {E : Value → Shared → Prop} {s : Shared} {a x : Addr} {k : List V} {o : Obj} {es : Array (Int × Value)} {ep : Nat} {t : SetTable}
theorem slot_live {t : SetTable} {j i : Nat} (e : t.slot j = .live i) : i < t.place.size := by
  unfold SetTable.slot at e
  dsimp only at e
  split at e
  · rename_i hc
    cases e
    rw [beq_iff_eq] at hc
    exact (Array.getElem?_eq_some_iff.mp hc).1
  · split at e <;> cases e
theorem search_tup (ho : s.heap.get? a = some o) (hd : o.data = .set es ep t) (hf : t.place.size = es.size) (hm : t.mask = 7 ∨ t.mask = 31) (hdum : t.dummies = #[]) (hsz : t.place.size ≤ t.mask)
    (room : (vtup W).room A) (hx : (vtup W).is s.heap k x) (hel : ∀ e ∈ es.toList, ∃ k' p, e.2 = .ref p ∧ (vtup W).is s.heap k' p ∧ k' ≠ k)
    (hseen : ∀ (st : List Value) (Q : Bool → Shared → Prop), (∀ v ∈ st, ∃ e ∈ es.toList, e.2 = v) → Q false s → wpAny (model W.prog W.w) A (searchCouldBeSeen (.ref x) st) Q E s)
    {K : Nat} (hK : t.slot (stp t ((vtup W).hash k) K).j = .empty) (live : ∀ m, m < K → ∃ i, t.slot (stp t ((vtup W).hash k) m).j = .live i) (hKt : K < 10 * SetTable.turns t.mask)
    {Q : SetFound → Shared → Prop} (hq : ∀ j, t.slot j = .empty → Q (.free j false) s) :
    ∀ (fuel m : Nat) (stand : Option SetTable.Probe), m ≤ K → K - m < fuel → stand.getD (t.probeStart ((vtup W).hash k)) = stp t ((vtup W).hash k) m →
      wpAny (model W.prog W.w) A (setSearchFrom a (.ref x) ((vtup W).hash k) true fuel stand) Q E s
  | 0, m, _, _, hfu, _ => absurd hfu (Nat.not_lt_zero _)
  | fuel + 1, m, stand, hmK, hfu, hst => by
    have hfill : ¬ ((t.place.size != es.size || decide (t.fill > t.mask)) = true) := by
      simp [hf, SetTable.fill, hdum]
      lia
    have st : ∀ {P : Array (Int × Value) × Nat × SetTable → Shared → Prop}, P (es, ep, t) s → wpAny (model W.prog W.w) A (setState a) P E s := fun h => by
      unfold setState
      refine wpAny_bind (wpAny_load ho ?_)
      rw [hd]
      dsimp only
      rw [if_neg hfill]
      exact wpAny_pure h
    have hgw : t.gaveWay = false := by
      unfold SetTable.gaveWay
      rcases hm with e | e <;> rw [e] <;> rfl
    unfold setSearchFrom
    refine wpAny_bind (st ?_)
    dsimp only
    rw [hgw]
    simp only [Bool.false_eq_true, if_false, hst]
    have go : ∀ {hashAt : Nat → Int} {met : SetTable.Met}, t.probe hashAt ((vtup W).hash k) (stp t ((vtup W).hash k) m) = some met → met = .empty (stp t ((vtup W).hash k) K).j none ∨
        ∃ m' i, m ≤ m' ∧ m' < K ∧ t.slot (stp t ((vtup W).hash k) m').j = .live i ∧ met = .candidate (stp t ((vtup W).hash k) m').j i (stp t ((vtup W).hash k) (m' + 1)) := fun {hashAt met} e => by
      rcases probe_row (hashAt := hashAt) hK (10 * SetTable.turns t.mask) m hmK (by lia) (fun m' _ h2 => live m' h2) with z | ⟨m', i, h1, h2, h3, _, z⟩
      · rw [SetTable.probe, z] at e; cases e; exact .inl rfl
      · rw [SetTable.probe, z] at e; cases e; exact .inr ⟨m', i, h1, h2, h3, rfl⟩
    have no : ∀ {hashAt : Nat → Int}, (∀ met, t.probe hashAt ((vtup W).hash k) (stp t ((vtup W).hash k) m) = some met → False) → False := fun {hashAt} e => by
      rcases probe_row (hashAt := hashAt) hK (10 * SetTable.turns t.mask) m hmK (by lia) (fun m' _ h2 => live m' h2) with z | ⟨m', i, h1, h2, h3, _, z⟩ <;> exact e _ z
    split
    · rename_i met hmet
      rcases go hmet with rfl | ⟨m', i, h1, h2, h3, rfl⟩
      · exact wpAny_pure (hq _ hK)
      · have hi : i < es.size := by rw [← hf]; exact slot_live h3
        obtain ⟨k', p, e2, hp, hne⟩ := hel es[i] (by rw [← Array.mem_def]; exact Array.getElem_mem hi)
        have hes : es[i]? = some (es[i].1, .ref p) := by rw [Array.getElem?_eq_getElem hi, ← e2]
        have tail : wpAny (model W.prog W.w) A (do
            let equal ← holding [Value.ref p] (eqBool (Value.ref p) (Value.ref x))
            let (es', _, t') ← setState a
            if true && equal then return .there none
            let some same := t'.sameMemory t.moves t.mask | unsupported "set.changed-during-lookup:is-the-new-block-at-the-old-address"
            let still ← match (if same then t'.slot (stp t ((vtup W).hash k) m').j else .empty) with
              | .live i' => match es'[i']? with
                | some (_, y') => do pure (if ← isSame y' (Value.ref p) then some i' else none)
                | none => pure none
              | _ => pure none
            match still with
            | none => rule "set.search.anew"; setSearchFrom a (.ref x) ((vtup W).hash k) true fuel none
            | some i' => if equal then return .there (some i') else setSearchFrom a (.ref x) ((vtup W).hash k) true fuel (some (stp t ((vtup W).hash k) (m' + 1)))) Q E s := by
          refine wpAny_bind (wpAny_holding ((vtup W).eqBool room hp hx ?_))
          rw [decide_eq_false hne]
          refine wpAny_bind (st ?_)
          have sm : t.sameMemory t.moves t.mask = some true := by unfold SetTable.sameMemory; rw [if_pos (by simp)]
          dsimp only
          rw [if_neg (by decide), sm]
          dsimp only
          rw [if_pos rfl, h3]
          dsimp only
          rw [hes]
          dsimp only
          refine wpAny_bind (m := isSame (.ref p) (.ref p)) ?_
          unfold isSame
          dsimp only
          rw [if_pos (by simp)]
          refine wpAny_pure (wpAny_bind (wpAny_pure ?_))
          exact search_tup ho hd hf hm hdum hsz room hx hel hseen hK live hKt hq fuel (m' + 1) (some _) h2 (by lia) rfl
        dsimp only
        by_cases hl : (!t.led) = true
        · rw [if_pos hl]
          refine wpAny_bind (hseen _ _ (fun v hv => ?_) ?_)
          · obtain ⟨e, he, rfl⟩ := List.mem_map.mp hv
            exact ⟨e, by rw [Array.mem_toList_iff] at he ⊢; exact (Array.mem_filter.mp he).1, rfl⟩
          · rw [if_neg (by decide), hes]
            exact tail
        · rw [if_neg hl, hes]
          exact tail
    · rename_i hno
      exact (no hno).elim
end
end Mine
/-! A40 -/
namespace Mine
open PySem PySem.W PyProof.Rows
section
variable {prog : Program} {w : World} {A : Around} {E : Value → Shared → Prop} {s : Shared} {x : Addr} {o : Obj} {xs : Array Value} {n : Nat}
theorem hashByValue_text {y : PySem.Str} {t : Tok} {r : List Value} {Q : Bool → Shared → Prop} (ho : s.heap.get? x = some o) (hc : o.cls = .type "tuple") (hd : o.data = .seq xs n) (hx : xs.toList = .str y t :: r) (hq : Q false s) :
    wpAny (model prog w) A (hashByValue 8 (.ref x)) Q E s := by
  have hT : s.TypeIs (.ref x) "tuple" := ⟨o, ho, hc⟩
  have hl : typeLookup (.type "tuple") "__hash__" = pure (some (.builtin "tuple.__hash__")) := by rw [typeLookup_type, builtinLookup_eq_fast]; kernel_rfl
  show wpAny _ _ (specialOf (.ref x) "__hash__" >>= _) _ _ _
  refine wpAny_bind (wpAny_specialOf hT hl ?_)
  dsimp only
  unfold seqItems?
  refine wpAny_bind (wpAny_bind (wpAny_load ho ?_))
  rw [hd]
  refine wpAny_pure ?_
  dsimp only [Option.getD]
  obtain ⟨l⟩ := xs
  simp only at hx
  subst hx
  rw [← Array.forIn_toList]
  rw [List.forIn_cons]
  refine wpAny_bind (wpAny_bind (wpAny_bind ?_))
  rw [show hashByValue 7 (.str y t) = pure false from rfl]
  exact wpAny_pure (wpAny_pure (wpAny_pure (wpAny_pure hq)))
end
end Mine
/-! A41 -/
namespace Mine
open PySem PySem.W PyProof.Rows
section
variable {M : Model} {A : Around} {E : Value → Shared → Prop} {s : Shared} {x : Addr} {o : Obj} {xs : Array Value} {n : Nat}
theorem class_val (d : Nat) {v : Value} (h : ∀ a, v ≠ .ref a) : ofAClassStatement d v = pure false := by
  cases v <;> first | exact absurd rfl (h _) | (cases d <;> rfl)
theorem class_loop {l : List Value} (h : ∀ v ∈ l, ∀ a, v ≠ .ref a) {Q : Bool → Shared → Prop} (hq : Q false s) :
    wpAny M A (do for y in l do { if ← ofAClassStatement 7 y then return true }; return false) Q E s := by
  induction l with
  | nil => exact wpAny_pure hq
  | cons v l ih =>
    rw [List.forIn_cons, class_val 7 (h v (.head _))]
    exact ih fun v hv => h v (.tail _ hv)
theorem class_flat {Q : Bool → Shared → Prop} (ho : s.heap.get? x = some o) (hc : o.cls = .type "tuple") (hd : o.data = .seq xs n) (hx : ∀ v ∈ xs.toList, ∀ a, v ≠ .ref a) (hq : Q false s) :
    wpAny M A (ofAClassStatement 8 (.ref x)) Q E s := by
  unfold ofAClassStatement
  refine wpAny_bind (wpAny_typeOf (T := "tuple") (show s.TypeIs (.ref x) "tuple" from ⟨o, ho, hc⟩) ?_)
  dsimp only
  rw [if_pos (by decide)]
  refine wpAny_bind (wpAny_pure ?_)
  rw [if_neg (by decide)]
  unfold seqItems?
  refine wpAny_bind (wpAny_bind (wpAny_load ho ?_))
  rw [hd]
  refine wpAny_pure ?_
  dsimp only
  rw [← Array.forIn_toList]
  exact class_loop hx hq
end
end Mine
/-! A42 -/
namespace Mine
open PySem PySem.W PyProof.Rows
noncomputable def Flat (h : PySem.Heap) (p : Addr) : Prop := ∃ o xs n, h.get? p = some o ∧ o.cls = .type "tuple" ∧ o.data = .seq xs n ∧ ∀ v ∈ xs.toList, ∀ a, v ≠ Value.ref a
section
variable {W : Wd} {A : Around} {E : Value → Shared → Prop} {s : Shared} {x : Addr} {k : List V}
theorem seen_flat (hx : (vtup W).is s.heap k x) (fx : Flat s.heap x) {st : List Value} (hst : ∀ v ∈ st, ∃ p k', v = .ref p ∧ (vtup W).is s.heap k' p ∧ Flat s.heap p) {Q : Bool → Shared → Prop} (hq : Q false s) :
    wpAny (model W.prog W.w) A (searchCouldBeSeen (.ref x) st) Q E s := by
  obtain ⟨ox, xs, n, ho, hc, hd, hf⟩ := fx
  unfold searchCouldBeSeen
  refine wpAny_bind ?_
  refine wpAny_mono (Q := fun r s' => r = (none, ()) ∧ s' = s) ?_ (fun r s' z => by obtain ⟨rfl, rfl⟩ := z; exact wpAny_pure hq) fun _ _ z => z
  induction st with
  | nil => exact wpAny_pure ⟨rfl, rfl⟩
  | cons v l ih =>
    obtain ⟨p, k', rfl, hp, op, ys, m, ho', hc', hd', hf'⟩ := hst v (.head _)
    have next := ih fun u hu => hst u (.tail _ hu)
    rw [List.forIn_cons]
    dsimp only
    by_cases hv : (x == p || carriedByValue (.ref x) && carriedByValue (.ref p)) = true
    · rw [if_pos hv]
      exact next
    · rw [if_neg hv]
      refine wpAny_bind (wpAny_bind ((vtup W).quiet hx ?_))
      rw [if_neg (by decide)]
      refine wpAny_bind ((vtup W).quiet hp ?_)
      rw [if_neg (by decide)]
      refine wpAny_bind (class_flat ho hc hd hf ?_)
      rw [if_neg (by decide)]
      refine wpAny_bind (class_flat ho' hc' hd' hf' ?_)
      rw [if_neg (by decide)]
      exact wpAny_pure next
end
end Mine
/-! A43 -/
namespace Mine
open PySem PySem.SetTable
/-! a table laid anew: every place is found -/
noncomputable def blkI (mask : Nat) (h : Int) : Nat → Nat
  | 0 => bits h % (mask + 1)
  | b + 1 => (blkI mask h b * 5 + 1 + bits h / 32 ^ b / 32) % (mask + 1)
theorem blkI_cyc (mask : Nat) (h : Int) : ∀ m, blkI mask h (13 + m) = cyc mask (blkI mask h 13) m
  | 0 => rfl
  | m + 1 => by
    rw [show 13 + (m + 1) = (13 + m) + 1 from rfl, blkI, bits_gone h (by lia), blkI_cyc mask h m, cyc]
theorem blkI_le (mask : Nat) (h : Int) (b : Nat) : blkI mask h b ≤ mask := by
  cases b with
  | zero => exact Nat.le_of_lt_succ (Nat.mod_lt _ (Nat.succ_pos _))
  | succ b => exact Nat.le_of_lt_succ (Nat.mod_lt _ (Nat.succ_pos _))
theorem free_some {mask : Nat} {owner : Array (Option Nat)} : ∀ (fuel i p j : Nat), layClean.free mask owner fuel i p = some j → owner.getD j (some 0) = none
  | 0, _, _, _, e => by simp [layClean.free] at e
  | fuel + 1, i, p, j, e => by
    rw [layClean.free] at e
    split at e
    · rename_i k hk
      cases e
      have := List.find?_some hk
      simpa using this
    · exact free_some fuel _ _ j e
theorem free_there {mask : Nat} {h : Int} {owner : Array (Option Nat)} {b' : Nat} (hb : owner.getD (blkI mask h b') (some 0) = none) : ∀ (fuel b : Nat), b ≤ b' → b' < b + fuel →
    ∃ j, layClean.free mask owner fuel (blkI mask h b) (bits h / 32 ^ b) = some j
  | 0, b, h1, h2 => absurd h2 (by lia)
  | fuel + 1, b, h1, h2 => by
    rw [layClean.free]
    split
    · exact ⟨_, rfl⟩
    · rename_i hn
      by_cases hbb : b = b'
      · subst hbb
        have := List.find?_eq_none.mp hn 0 (by
          rw [List.mem_range]
          unfold runEnd
          split <;> lia)
        rw [Nat.add_zero, hb] at this
        exact absurd rfl this
      · obtain ⟨j, hj⟩ := free_there hb fuel (b + 1) (by lia) (by lia)
        refine ⟨j, ?_⟩
        simp only [leap]
        rw [blkI] at hj
        rw [Nat.pow_succ, ← Nat.div_div_eq_div_mul] at hj
        exact hj
theorem free_at31 {h : Int} {owner : Array (Option Nat)} {j : Nat} (hj : j < 32) (e : owner.getD j (some 0) = none) : ∃ j', layClean.free 31 owner (turns 31) (bits h % 32) (bits h) = some j' := by
  have hi : blkI 31 h 13 < 32 := Nat.lt_succ_of_le (blkI_le 31 h 13)
  obtain ⟨m, hm, hc⟩ := cyc_all31 _ hi j hj
  have := free_there (mask := 31) (h := h) (owner := owner) (b' := 13 + m) (by rw [blkI_cyc, hc]; exact e) (turns 31) 0 (Nat.zero_le _) (by unfold turns; lia)
  simpa [blkI] using this
/-- what the owners are -/
structure Owned (owner : Array (Option Nat)) (k : Nat) : Prop where
  size : owner.size = 32
  perm : (owner.toList.filterMap id).Perm (List.range k)
theorem filterMap_le {l : List (Option Nat)} (h : ∀ o ∈ l, o ≠ none) : (l.filterMap id).length = l.length := by
  induction l with
  | nil => rfl
  | cons o l ih =>
    cases o with
    | none => exact absurd rfl (h none (.head _))
    | some k => simp [ih fun o ho => h o (.tail _ ho)]
theorem Owned.room {owner : Array (Option Nat)} {k : Nat} (o : Owned owner k) (hk : k < 32) : ∃ j, j < 32 ∧ owner.getD j (some 0) = none := by
  by_cases hx : ∃ j, j < 32 ∧ owner.getD j (some 0) = none
  · exact hx
  · exfalso
    have : ∀ x ∈ owner.toList, x ≠ none := fun x hx' e => by
      subst e
      obtain ⟨j, hj, hje⟩ := List.getElem_of_mem hx'
      rw [Array.length_toList] at hj
      refine hx ⟨j, by rw [← o.size]; exact hj, ?_⟩
      simp only [Array.getElem_toList] at hje
      simp [Array.getD, hj, hje]
    have h1 := filterMap_le this
    rw [o.perm.length_eq, List.length_range, Array.length_toList, o.size] at h1
    lia
theorem set_perm : ∀ (l : List (Option Nat)) (j k : Nat), l[j]? = some none → ((l.set j (some k)).filterMap id).Perm (k :: l.filterMap id)
  | [], j, k, e => by simp at e
  | o :: l, 0, k, e => by
    simp at e
    subst e
    simp
  | o :: l, j + 1, k, e => by
    simp only [List.getElem?_cons_succ] at e
    have ih := set_perm l j k e
    rw [List.set_cons_succ]
    cases o with
    | none => simpa using ih
    | some i =>
      simp only [List.filterMap_cons, id]
      exact (ih.cons i).trans (List.Perm.swap ..)
theorem Owned.set {owner : Array (Option Nat)} {k j : Nat} (o : Owned owner k) (e : owner.getD j (some 0) = none) : Owned (owner.setIfInBounds j (some k)) (k + 1) := by
  have hj : owner[j]? = some none := by
    unfold Array.getD at e
    split at e
    · rename_i h
      rw [Array.getElem?_eq_getElem h]
      exact congrArg some e
    · cases e
  refine ⟨by rw [Array.size_setIfInBounds]; exact o.size, ?_⟩
  rw [Array.toList_setIfInBounds, List.range_succ]
  refine (set_perm _ _ _ (by rw [Array.getElem?_toList]; exact hj)).trans ?_
  refine (o.perm.cons k).trans ?_
  exact (List.perm_append_singleton k (List.range k)).symm
theorem lay_fold : ∀ (hs : List Int) (owner : Array (Option Nat)) (k : Nat), Owned owner k → k + hs.length ≤ 31 →
    ∃ owner', hs.foldl (fun acc h => do
      let (owner, k) ← acc
      let j ← layClean.free 31 owner (turns 31) (bits h % (31 + 1)) (bits h)
      pure (owner.setIfInBounds j (some k), k + 1)) (some (owner, k)) = some (owner', k + hs.length) ∧ Owned owner' (k + hs.length)
  | [], owner, k, o, _ => ⟨owner, rfl, o⟩
  | h :: hs, owner, k, o, hl => by
    rw [List.length_cons] at hl
    obtain ⟨j, hj, e⟩ := o.room (by lia)
    obtain ⟨j', hj'⟩ := free_at31 (h := h) hj e
    have o' := o.set (free_some _ _ _ _ hj')
    obtain ⟨owner', h1, h2⟩ := lay_fold hs _ (k + 1) o' (by lia)
    refine ⟨owner', ?_, ?_⟩
    · rw [List.foldl_cons]
      have : (do
          let (owner, k) ← some (owner, k)
          let j ← layClean.free 31 owner (turns 31) (bits h % (31 + 1)) (bits h)
          pure (owner.setIfInBounds j (some k), k + 1)) = some (owner.setIfInBounds j' (some k), k + 1) := by
        show (layClean.free 31 owner (turns 31) (bits h % 32) (bits h) >>= fun j => pure (owner.setIfInBounds j (some k), k + 1)) = _
        rw [hj']; rfl
      rw [this, h1, List.length_cons, Nat.add_assoc, Nat.add_comm 1]
    · rw [List.length_cons, Nat.add_comm hs.length 1, ← Nat.add_assoc]; exact h2
theorem Owned.fresh : Owned (Array.replicate 32 none) 0 := ⟨by simp, by simp⟩
theorem lay_clean (hashes : Array Int) (hs : hashes.size ≤ 31) : ∃ owner, layClean 31 hashes = some owner ∧ Owned owner hashes.size := by
  obtain ⟨owner, h1, h2⟩ := lay_fold hashes.toList _ 0 Owned.fresh (by simpa using hs)
  refine ⟨owner, ?_, by simpa using h2⟩
  unfold layClean
  rw [← Array.foldl_toList]
  have h1' := congrArg (Option.map Prod.fst) h1
  exact h1'
theorem owner_live {owner : Array (Option Nat)} : ∀ (n : Nat), n = owner.size → ((List.range n).filterMap fun j => (owner.getD j none).map (j, ·)).map (·.2) = owner.toList.filterMap id := by
  intro n hn
  subst hn
  rw [List.map_filterMap]
  have : owner.toList = (List.range owner.size).map fun j => owner.getD j none := by
    apply List.ext_getElem
    · simp
    · intro i h1 h2
      simp at h1 h2
      simp [Array.getD, h1]
  rw [this, List.filterMap_map]
  congr 1
  funext j
  simp only [Function.comp, id]
  cases owner.getD j none <;> rfl
theorem laid_ok (finger moves : Nat) (led plain : Bool) (hashes : Array Int) (hs : hashes.size ≤ 31) :
    ∃ place order, laid 31 finger moves led plain hashes = some ({ mask := 31, place, dummies := #[], finger, led, moves, plain }, order) ∧ place.size = hashes.size ∧ order.toList.Perm (List.range hashes.size) := by
  obtain ⟨owner, h1, h2⟩ := lay_clean hashes hs
  refine ⟨_, _, by unfold laid; rw [h1]; rfl, ?_, ?_⟩
  · have := owner_live (owner := owner) 32 h2.size.symm
    have h3 := congrArg List.length this
    rw [List.length_map, h2.perm.length_eq, List.length_range] at h3
    simpa using h3
  · have := owner_live (owner := owner) 32 h2.size.symm
    rw [List.toList_toArray, this]
    exact h2.perm
theorem range_all {α : Type} : ∀ l : List α, (List.range l.length).filterMap (fun i => l[i]?) = l
  | [] => rfl
  | x :: l => by
    rw [List.length_cons, List.range_succ_eq_map, List.filterMap_cons]
    simp only [List.getElem?_cons_zero, List.filterMap_map]
    congr 1
    exact range_all l
theorem order_perm {α : Type} {es : Array α} {order : Array Nat} (h : order.toList.Perm (List.range es.size)) : (order.filterMap (es[·]?)).toList.Perm es.toList := by
  rw [Array.toList_filterMap]
  refine (h.filterMap _).trans ?_
  have := range_all es.toList
  simp only [Array.getElem?_toList, Array.length_toList] at this
  rw [this]
end Mine
/-! A44 -/
namespace Mine
open PySem PySem.W PyProof.Rows
theorem insertAt_size {α : Type} (xs : Array α) (p : Nat) (x : α) (hp : p ≤ xs.size) : (SetTable.insertAt xs p x).size = xs.size + 1 := by
  unfold SetTable.insertAt
  simp
  lia
theorem insertAt_perm {α : Type} (xs : Array α) (p : Nat) (x : α) : (SetTable.insertAt xs p x).toList.Perm (xs.toList ++ [x]) := by
  unfold SetTable.insertAt
  have e : ((xs.extract 0 p).push x ++ xs.extract p xs.size).toList = xs.toList.take p ++ x :: xs.toList.drop p := by
    simp
    rw [List.take_of_length_le (by simp)]
  rw [e]
  refine (List.perm_middle).trans ?_
  rw [List.take_append_drop]
  exact (List.perm_append_singleton x xs.toList).symm
theorem below_go_le (xs : Array Nat) (j : Nat) : ∀ (fuel lo hi : Nat), lo ≤ xs.size → hi ≤ xs.size → SetTable.below.go xs j fuel lo hi ≤ xs.size
  | 0, lo, hi, h1, _ => by rw [SetTable.below.go]; exact h1
  | fuel + 1, lo, hi, h1, h2 => by
    rw [SetTable.below.go]
    split
    · dsimp only
      split
      · exact below_go_le xs j fuel _ _ (by lia) h2
      · exact below_go_le xs j fuel _ _ h1 (by lia)
    · exact h1
theorem below_le (xs : Array Nat) (j : Nat) : SetTable.below xs j ≤ xs.size := below_go_le xs j _ _ _ (Nat.zero_le _) (Nat.le_refl _)
theorem has_nil (j : Nat) : SetTable.has #[] j = false := by
  unfold SetTable.has
  simp
noncomputable def byText (W : Wd) : Bool := W.w.params.followText "set-order"
structure TabIs (W : Wd) (es : Array (Int × Value)) (t : SetTable) (ps : List Addr) : Prop where
  fit : t.place.size = es.size
  mask : t.mask = 7 ∨ t.mask = 31
  dum : t.dummies = #[]
  room : es.size * 5 < t.mask * 3
  led : t.led = !byText W
  plain : 0 < es.size → t.plain = false
  elems : (es.toList.map (·.2)).Perm (ps.map .ref)
noncomputable def TSet (W : Wd) (h : PySem.Heap) (a : Addr) (ps : List Addr) : Prop := ∃ o es ep t, h.get? a = some o ∧ o.ExactSet ∧ o.data = .set es ep t ∧ TabIs W es t ps
section
variable {W : Wd} {A : Around} {E : Value → Shared → Prop} {s : Shared} {a x : Addr} {k : List V} {ps : List Addr}
theorem TabIs.len {es : Array (Int × Value)} {t : SetTable} (T : TabIs W es t ps) : es.size = ps.length := by
  have := T.elems.length_eq
  simpa using this
theorem setState_at {o : Obj} {es : Array (Int × Value)} {ep : Nat} {t : SetTable} (ho : s.heap.get? a = some o) (hd : o.data = .set es ep t) (T : TabIs W es t ps) {P : Array (Int × Value) × Nat × SetTable → Shared → Prop} (h : P (es, ep, t) s) :
    wpAny (model W.prog W.w) A (setState a) P E s := by
  refine wpAny_setState_of ho hd ?_ h
  have := T.room
  simp only [SetTable.fits, SetTable.fill, T.fit, T.dum, Bool.and_eq_true, beq_iff_eq, decide_eq_true_eq]
  refine ⟨trivial, ?_⟩
  simp
  lia
theorem get_putSet {h : PySem.Heap} {o : Obj} {es : Array (Int × Value)} {ep : Nat} {t : SetTable} (ho : h.get? a = some o) (hd : o.data = .set es ep t) (es' : Array (Int × Value)) (t' : SetTable) :
    (h.update a (Obj.putSet es' t')).get? a = some { o with data := .set es' (ep + 1) t' } := by
  have := Heap.get?_update_self (Obj.putSet es' t') ho (by rw [putSet_of es' t' hd]; rfl)
  rw [putSet_of es' t' hd] at this; exact this
theorem setRelay_eq (a : Addr) (wanted : Nat) : setRelay a wanted = (do
    let (es, _, t) ← setState a
    if SetTable.sizeAbove wanted > sizeLine then unsupported "set:memory"
    let (es, t) ← (do
      let some (t, order) := t.relaid (es.map (·.1)) wanted | unsupported "internal:set-table-without-room"
      let es' := order.filterMap (es[·]?)
      if es'.size != es.size then unsupported "internal:set-table-lost-an-element"
      pure (es', t))
    storeSet a es t) := rfl
theorem relay_at {o : Obj} {es : Array (Int × Value)} {ep : Nat} {t : SetTable} (ho : s.heap.get? a = some o) (hx : o.ExactSet) (hd : o.data = .set es ep t) (h5 : es.size = 5) (hfit : t.place.size = es.size) (hm : t.mask = 7) (hdum : t.dummies = #[])
    (hled : t.led = !byText W) (hpl : t.plain = false) (hel : (es.toList.map (·.2)).Perm (ps.map .ref)) {Q : Unit → Shared → Prop}
    (h : ∀ h', Heap.SameBut a s.heap h' → TSet W h' a ps → Q () { s with heap := h' }) : wpAny (model W.prog W.w) A (setRelay a (SetTable.grown 5)) Q E s := by
  rw [setRelay_eq]
  refine wpAny_bind (wpAny_setState_of ho hd (by simp [SetTable.fits, SetTable.fill, hfit, hdum, h5, hm]) ?_)
  have hsa : SetTable.sizeAbove (SetTable.grown 5) = 32 := by decide
  dsimp only
  rw [hsa, if_neg (by rw [sizeLine_eq]; lia)]
  obtain ⟨place, order, hl, hps, hop⟩ := laid_ok t.finger (t.movedTo 31) t.led t.plain (es.map (·.1)) (by simp [h5])
  have hr : t.relaid (es.map (·.1)) (SetTable.grown 5) = some ({ mask := 31, place, dummies := #[], finger := t.finger, led := t.led, moves := t.movedTo 31, plain := t.plain }, order) := by
    unfold SetTable.relaid
    rw [hsa]
    exact hl
  rw [hr]
  simp only [Array.size_map] at hps hop
  have hperm := order_perm (es := es) hop
  have hsz : (order.filterMap (es[·]?)).size = es.size := by
    have := hperm.length_eq
    rw [Array.length_toList, Array.length_toList] at this
    exact this
  refine wpAny_bind ?_
  dsimp only
  rw [if_neg (by rw [hsz]; simp)]
  refine wpAny_pure ?_
  refine wpAny_storeSet_of ho hd ?_ (by rw [hsz, h5, sizeLine_eq]; lia)
  refine h _ (Heap.SameBut.update _ _ _) ⟨_, _, _, _, get_putSet ho hd _ _, ⟨hx.1, hx.2.1, hx.2.2⟩, rfl, ?_⟩
  refine ⟨by rw [hsz]; exact hps, .inr rfl, rfl, by rw [hsz, h5]; show 25 < 31 * 3; decide, hled, fun _ => hpl, ?_⟩
  exact (hperm.map _).trans hel
end
end Mine
/-! A45 -/
namespace Mine
open PySem PySem.W PyProof.Rows
/-- a flat tuple whose first is a text -/
structure TextTup (W : Wd) (h : PySem.Heap) (k : List V) (x : Addr) : Prop where
  is : (vtup W).is h k x
  obj : ∃ o xs n y t r, h.get? x = some o ∧ o.cls = .type "tuple" ∧ o.data = .seq xs n ∧ xs.toList = .str y t :: r ∧ ∀ v ∈ r, ∀ a, v ≠ Value.ref a
theorem TextTup.flat {W : Wd} {h : PySem.Heap} {k : List V} {x : Addr} (T : TextTup W h k x) : Flat h x := by
  obtain ⟨o, xs, n, y, t, r, ho, hc, hd, hx, hr⟩ := T.obj
  refine ⟨o, xs, n, ho, hc, hd, fun v hv a => ?_⟩
  rw [hx] at hv
  rcases List.mem_cons.mp hv with rfl | hv
  · exact fun e => nomatch e
  · exact hr v hv a
section
variable {W : Wd} {A : Around} {E : Value → Shared → Prop} {s : Shared} {a x : Addr} {k : List V} {ps : List Addr}
theorem set_add_tup (T : TSet W s.heap a ps) (room : (vtup W).room A) (hx : TextTup W s.heap k x) (hps : ∀ p ∈ ps, ∃ k', TextTup W s.heap k' p ∧ k' ≠ k) (hn : ps.length < 18) {Q : Bool → Shared → Prop}
    (h : ∀ h' tk, Heap.SameBut a s.heap h' → TSet W h' a (ps ++ [x]) → Q true { s with heap := h', toks := tk }) : wpAny (model W.prog W.w) A (setAdd a (.ref x)) Q E s := by
  obtain ⟨o, es, ep, t, ho, hex, hd, T⟩ := T
  have hlen := T.len
  unfold setAdd
  refine wpAny_holding (wpAny_bind ((vtup W).pyHash room hx.is ?_))
  generalize htk : s.toks + (vtup W).draws k = tk
  have ho' : ({ s with toks := tk } : Shared).heap.get? a = some o := ho
  unfold setAddHashed
  refine wpAny_holding ?_
  unfold setAddHashedIn
  refine wpAny_bind (setState_at ho' hd T ?_)
  dsimp only
  rw [if_neg (by simp [byScan, Value.scannable])]
  obtain ⟨K0, hK0, eK0⟩ := probe_meets T.mask T.dum (by have := T.room; have := T.fit; lia) ((vtup W).hash k)
  obtain ⟨K, hKK, eK, live⟩ := first_free eK0 (fun j => by
    unfold SetTable.slot
    dsimp only
    split
    · exact fun e => nomatch e
    · rw [T.dum, has_nil]; exact fun e => nomatch e)
  have hel : ∀ e ∈ es.toList, ∃ k' p, e.2 = .ref p ∧ TextTup W s.heap k' p ∧ k' ≠ k := fun e he => by
    have hm : e.2 ∈ ps.map Value.ref := T.elems.mem_iff.mp (List.mem_map.mpr ⟨e, he, rfl⟩)
    obtain ⟨p, hp, e2⟩ := List.mem_map.mp hm
    obtain ⟨k', h1, h2⟩ := hps p hp
    exact ⟨k', p, e2.symm, h1, h2⟩
  have hturns : SetTable.turns t.mask ≤ 46 := by
    unfold SetTable.turns
    rcases T.mask with e | e <;> rw [e] <;> lia
  refine wpAny_bind (search_tup (s := { s with toks := tk }) ho' hd T.fit T.mask T.dum (by have := T.room; have := T.fit; lia) room hx.is
    (fun e he => let ⟨k', p, h1, h2, h3⟩ := hel e he; ⟨k', p, h1, h2.is, h3⟩)
    (fun st Q' hst hq => seen_flat (s := { s with toks := tk }) hx.is hx.flat (fun v hv => by
      obtain ⟨e, he, rfl⟩ := hst v hv
      obtain ⟨k', p, h1, h2, _⟩ := hel e he
      exact ⟨p, k', h1, h2.is, h2.flat⟩) hq)
    eK live (by lia) (fun j hj => ?_) 100000 0 none (Nat.zero_le _) (by lia) rfl)
  refine wpAny_bind (setState_at ho' hd T ?_)
  have hput : t.put j = ({ t with place := SetTable.insertAt t.place (SetTable.below t.place j) j, dummies := #[] }, SetTable.below t.place j) := by
    unfold SetTable.put
    dsimp only
    rw [T.dum, has_nil, if_neg Bool.false_ne_true]
  dsimp only
  rw [hput]
  dsimp only
  have hb : SetTable.below t.place j ≤ es.size := by rw [← T.fit]; exact below_le _ _
  have hsz : (SetTable.insertAt es (SetTable.below t.place j) ((vtup W).hash k, Value.ref x)).size = es.size + 1 := insertAt_size _ _ _ hb
  have hpz : (SetTable.insertAt t.place (SetTable.below t.place j) j).size = es.size + 1 := by rw [insertAt_size _ _ _ (by rw [T.fit]; exact hb), T.fit]
  have hpm := insertAt_perm es (SetTable.below t.place j) ((vtup W).hash k, Value.ref x)
  have hel2 : ((SetTable.insertAt es (SetTable.below t.place j) ((vtup W).hash k, Value.ref x)).toList.map (·.2)).Perm ((ps ++ [x]).map .ref) := by
    refine (hpm.map _).trans ?_
    rw [List.map_append, List.map_append]
    exact T.elems.append_right _
  have key : ∀ (t2 : SetTable), t2 = { t with place := SetTable.insertAt t.place (SetTable.below t.place j) j, dummies := #[], plain := false } →
      wpAny (model W.prog W.w) A (do
        storeSet a (SetTable.insertAt es (SetTable.below t.place j) ((vtup W).hash k, Value.ref x)) t2
        if (!false && t2.tooFull) = true then do
          setRelay a (SetTable.grown (es.size + 1))
          pure true
        else pure true) Q E { s with toks := tk } := by
    intro t2 e2
    refine wpAny_bind (wpAny_storeSet_of ho' hd ?_ (by rw [hsz, sizeLine_eq]; lia))
    have hg := get_putSet ho hd (SetTable.insertAt es (SetTable.below t.place j) ((vtup W).hash k, Value.ref x)) t2
    have hsb := Heap.SameBut.update s.heap a (Obj.putSet (SetTable.insertAt es (SetTable.below t.place j) ((vtup W).hash k, Value.ref x)) t2)
    by_cases hfull : t2.tooFull = true
    · rw [if_pos (by simp [hfull])]
      have hfull' : (es.size + 1) * 5 ≥ t.mask * 3 := by
        subst e2
        simpa [SetTable.tooFull, SetTable.fill, hpz] using hfull
      have hr := T.room
      have h7 : t.mask = 7 ∧ es.size = 4 := by
        rcases T.mask with e | e
        · rw [e] at hfull' hr; lia
        · rw [e] at hfull' hr; lia
      rw [h7.2]
      refine wpAny_bind (relay_at (s := { s with heap := s.heap.update a (Obj.putSet (SetTable.insertAt es (SetTable.below t.place j) ((vtup W).hash k, Value.ref x)) t2), toks := tk }) hg ⟨hex.1, hex.2.1, hex.2.2⟩ rfl
        (by rw [hsz, h7.2]) (by subst e2; rw [hsz]; exact hpz) (by subst e2; exact h7.1) (by subst e2; rfl) (by subst e2; exact T.led) (by subst e2; rfl) hel2 fun h' hs hT => ?_)
      exact wpAny_pure (h h' tk (hsb.trans hs) hT)
    · rw [if_neg (by simp [hfull])]
      refine wpAny_pure (h _ tk hsb ⟨_, _, _, _, hg, ⟨hex.1, hex.2.1, hex.2.2⟩, rfl, ?_⟩)
      have hfull' : ¬ (es.size + 1) * 5 ≥ t.mask * 3 := by
        subst e2
        simpa [SetTable.tooFull, SetTable.fill, hpz] using hfull
      refine ⟨by subst e2; rw [hsz]; exact hpz, by subst e2; exact T.mask, by subst e2; rfl, ?_, by subst e2; exact T.led, fun _ => by subst e2; rfl, hel2⟩
      rw [hsz]; subst e2
      show (es.size + 1) * 5 < t.mask * 3
      lia
  by_cases hpl : t.plain = true
  · rw [if_pos hpl]
    obtain ⟨ox, xs, n, y, tt, r, hox, hcx, hdx, hxx, _⟩ := hx.obj
    refine wpAny_bind (hashByValue_text (s := { s with toks := tk }) hox hcx hdx hxx ?_)
    exact key _ rfl
  · rw [if_neg hpl]
    refine wpAny_bind (wpAny_pure ?_)
    refine key _ ?_
    have : t.plain = false := by simpa using hpl
    rw [← this]; rfl
end
end Mine
/-! A46 -/
namespace Mine
open PySem PySem.W PyProof.Rows
section
variable {W : Wd} {A : Around} {E : Value → Shared → Prop} {s : Shared} {S I : Addr} {ρ : Rho} {h h' : PySem.Heap}
theorem IterOk.other {vs : List V} (x : IterOk ρ h I vs) (e : Side S h h') (hne : I ≠ S) : IterOk ρ h' I vs := by
  cases x with
  | list hi hl hm hn r =>
    obtain ⟨o, ho, hc, hd⟩ := hi
    obtain ⟨ol, hol, hcl, k, hdl⟩ := hl
    exact .list ⟨o, e.same _ _ hne ho, hc, hd⟩ ⟨ol, e.get hol (not_scratch_list hcl), hcl, k, hdl⟩ hm hn (r.side e)
  | tup hi hl hm hn r =>
    obtain ⟨o, ho, hc, hd⟩ := hi
    obtain ⟨ol, hol, hcl, k, hdl⟩ := hl
    exact .tup ⟨o, e.same _ _ hne ho, hc, hd⟩ ⟨ol, e.get hol (not_scratch_tup hcl), hcl, k, hdl⟩ hm hn (r.side e)
  | range hi hv => exact .range (e.same _ _ hne hi) hv
  | str hi hv =>
    obtain ⟨o, ho, hc, hd⟩ := hi
    exact .str ⟨o, e.same _ _ hne ho, hc, hd⟩ hv
/-- set.update.loop -/
theorem set_loop {Inv : List V → PySem.Heap → Prop} {all : List V} {R : Result → Shared → Prop} (hSI : I ≠ S) (hh : A.handled = none)
    (hsc : ∀ d h, Inv d h → ∃ o, h.get? S = some o ∧ Scratch o)
    (hfr : ∀ d h h', Inv d h → Side I h h' → Inv d h')
    (hadd : ∀ (d l : List V) (v : V) (s : Shared) (mv : Value) (Q : Bool → Shared → Prop), all = d ++ v :: l → Inv d s.heap → VRep ρ s.heap v mv →
      (∀ b h' tk, Heap.SameBut S s.heap h' → Inv (d ++ [v]) h' → Q b { s with heap := h', toks := tk }) → wpAny (model W.prog W.w) A.in1 (setAdd S mv) Q (fun e s' => R (.error e) s') s) :
    ∀ (left done : List V) (s : Shared), all = done ++ left → IterOk ρ s.heap I left → Inv done s.heap →
      (∀ h' tk, (∀ b o, b ≠ S → b ≠ I → s.heap.get? b = some o → h'.get? b = some o) → Inv all h' → R (.ok (.ret .none)) { s with heap := h', toks := tk }) →
      codeAny (model W.prog W.w) A (.builtin "set.update.loop" ⟨[.ref S, .ref I], []⟩) R s := by
  have hh1 : A.in1.handled = none := by simp [hh]
  intro left
  induction left with
  | nil =>
    intro done s hall hi hinv hR
    refine codeAny_builtin PyProof.Rows.F.entry_set_update_loop ?_
    rw [Around.under_plainId PyProof.Rows.F.plain_set_update_loop _]
    show wpAny _ A.in1 (pyNext (.ref I) >>= _) _ _ s
    refine wpAny_bind (next_end hh1 hi fun h' hs => ?_)
    show wpAny _ A.in1 (ret Value.none) _ _ _
    rw [List.append_nil] at hall
    exact wpAny_pure (hR h' s.toks (fun b o _ hb e => hs.same b o hb e) (hall ▸ hfr _ _ _ hinv hs))
  | cons v left ih =>
    intro done s hall hi hinv hR
    refine codeAny_builtin PyProof.Rows.F.entry_set_update_loop ?_
    rw [Around.under_plainId PyProof.Rows.F.plain_set_update_loop _]
    show wpAny _ A.in1 (pyNext (.ref I) >>= _) _ _ s
    refine wpAny_bind (next_item hi fun h1 tk mv hi1 hs1 rv => ?_)
    show wpAny _ A.in1 (holding [mv] (setAdd S mv) >>= _) _ _ _
    have hinv1 := hfr _ _ _ hinv hs1
    refine wpAny_bind (wpAny_holding (hadd done left v _ mv _ hall hinv1 rv fun b h2 tk2 hs2 hinv2 => ?_))
    have side2 : Side S h1 h2 := ⟨fun b o hb e => (hs2.2 b hb).trans e, hsc _ _ hinv1⟩
    refine wpAny_pure ⟨plainId_quiet PyProof.Rows.F.plain_set_update_loop _, ih (done ++ [v]) _ (by rw [hall]; simp) (hi1.other side2 hSI) hinv2 fun h3 tk3 k3 hinv3 => ?_⟩
    exact hR h3 tk3 (fun b o hb1 hb2 e => k3 b o hb1 hb2 ((hs2.2 b hb1).trans (hs1.same b o hb2 e))) hinv3
end
end Mine
/-! A47 -/
namespace Mine
open PySem PySem.W PyProof.Rows
noncomputable abbrev newSetObj (W : Wd) : Obj := { cls := .type "set", dict := none, data := .set #[] 0 (.fresh 0 0 (!byText W)) }
section
variable {W : Wd} {A : Around} {E : Value → Shared → Prop} {s : Shared} {ρ : Rho}
theorem set_new_led (a : Value) {Q₁ : Value → Shared → Prop} (h : Q₁ (.ref s.heap.objs.size) { s with heap := s.heap.push (newSetObj W) }) :
    codeAny (model W.prog W.w) A (.call (.builtin "set.__new__") ⟨[.type "set", a], []⟩) (wants Q₁ E) s := by
  refine codeAny_of_tree ?_
  show wpAny _ A.in1 (do checkBuiltinCall "set.__new__" ⟨[.type "set", a], []⟩; again (.builtin "set.__new__" ⟨[.type "set", a], []⟩)) _ _ s
  refine wpAny_bind (wpAny_of_eq (PySem.F.newCall_set_1 a) (wpAny_pure ⟨plainId_quiet PySem.F.plain_set_new _, codeAny_builtin PySem.F.entry_set_new ?_⟩))
  rw [Around.under_plainId PySem.F.plain_set_new _]
  unfold Builtin.«set.__new__» Builtin.Frozenset.newClass
  have hsub := sub_set_self
  obtain ⟨hp, g, d, tk, os⟩ := s
  dsimp only
  wp_walk
  refine wpAny_askSetting (wpAny_pure ?_)
  dsimp only
  simp only [newObj]
  refine wpAny_bind (wpAny_alloc (wpAny_pure ?_))
  exact wpAny_pure h
set_option maxHeartbeats 3200000 in
theorem call_set_any {l : Addr} {vs : List V} {Q : Value → Shared → Prop} {Inv : List V → PySem.Heap → Prop}
    (hh : A.handled = none) (r : VRep ρ s.heap (.list vs) (.ref l))
    (hsc : ∀ d h, Inv d h → ∃ o, h.get? s.heap.objs.size = some o ∧ Scratch o)
    (hfr : ∀ d h h' I, Inv d h → Side I h h' → I ≠ s.heap.objs.size → Inv d h')
    (h0 : ∀ h', h'.get? s.heap.objs.size = some (newSetObj W) → Inv [] h')
    (hadd : ∀ (A' : Around) (E' : Value → Shared → Prop) (d l : List V) (v : V) (s' : Shared) (mv : Value) (Q : Bool → Shared → Prop), A'.units ≤ A.units + 20 → vs = d ++ v :: l → Inv d s'.heap → VRep ρ s'.heap v mv →
      (∀ b h' tk, Heap.SameBut s.heap.objs.size s'.heap h' → Inv (d ++ [v]) h' → Q b { s' with heap := h', toks := tk }) → wpAny (model W.prog W.w) A' (setAdd s.heap.objs.size mv) Q E' s')
    (h : ∀ (h' : PySem.Heap) (tk : Nat), Inv vs h' → (∀ b o, b < s.heap.objs.size → s.heap.get? b = some o → h'.get? b = some o) → Q (.ref s.heap.objs.size) { s with heap := h', toks := tk }) :
    wpAny (model W.prog W.w) A (call (.type "set") [.ref l]) Q E s := by
  obtain ⟨c, tl, hmro⟩ := PySem.F.called_set.mro
  have hmade := PySem.F.called_set.made
  have hsub := PySem.F.called_set.sub
  refine wpAny_call (codeAny_of_tree ?_)
  show wpAny _ _ (callAny (.type "set") _) _ _ _
  refine wpAny_pure ⟨Code.quiet_builtin _ (by decide +kernel), codeAny_builtin PySem.F.entry_type_call ?_⟩
  rw [Around.under_plain (weight_type_call_type "set" [.ref l] []) rfl]
  have h1 := PySem.F.called_set.notType
  have h2 := PySem.F.called_set.canCreate
  have hct := PySem.F.typeCall_set_1 (.ref l)
  repeat (any_goals (first | assumption | wp_step))
  refine codeAny_mono (set_new_led (W := W) (.ref l) (E := E) (Q₁ := fun obj s₁ => obj = .ref s.heap.objs.size ∧ s₁ = { s with heap := s.heap.push (newSetObj W) }) ⟨rfl, rfl⟩) fun r₁ s₁ hr => ?_
  cases r₁ with
  | error e => exact hr
  | ok fl =>
    cases fl with
    | ret obj =>
      obtain ⟨rfl, rfl⟩ := hr
      have hS : (s.heap.push (newSetObj W)).get? s.heap.objs.size = some (newSetObj W) := Heap.get?_push_size _ rfl
      have hT : Shared.TypeIs { s with heap := s.heap.push (newSetObj W) } (.ref s.heap.objs.size) "set" := ⟨_, hS, rfl⟩
      have hli := PySem.F.called_set.init.lookup
      have hbi := PySem.F.called_set.init.bind (.ref s.heap.objs.size)
      repeat (any_goals (first | assumption | wp_step))
      refine codeAny_mono (codeAny_call_builtin (R := wants (fun r s₂ => r = .none ∧ ∃ h' tk, s₂ = { s with heap := h', toks := tk } ∧ Inv vs h' ∧
          (∀ b o, b < s.heap.objs.size → s.heap.get? b = some o → h'.get? b = some o)) E) PySem.F.called_set.init.plain PySem.F.entry_set_init (check_set_init_1 hT ?_)) fun r₂ s₂ hr₂ => ?_
      · have hlS : l < s.heap.objs.size := by cases r with | list ho => exact Heap.lt_size ho
        have r1 : VRep ρ (s.heap.push (newSetObj W)) (.list vs) (.ref l) := r.mono (Ext.push (D := []) _ _)
        cases r1 with
        | @list _ _ ol items nl hol hcl hdl hn rv =>
        obtain ⟨ocls, odict, odata, oslots⟩ := ol
        simp only at hcl hdl
        subst hcl; subst hdl
        have hsls := PySem.F.sub_list_set
        have hslf := PySem.F.sub_list_frozenset
        have hne : (Value.type "list" == Value.type "dict") = false := by decide
        have hl1 : (s.heap.push (newSetObj W)).IsList l items := ⟨_, hol, rfl, nl, rfl⟩
        unfold Builtin.«set.__init__» noKeywords Builtin.Frozenset.updateFrom
        generalize hPI : pyIter = PI
        wp_walk
        subst hPI
        refine wpAny_pyIter_list hl1 ?_
        refine wpAny_bind (wpAny_runValue ?_)
        have hIz : (s.heap.push (newSetObj W)).objs.size = s.heap.objs.size + 1 := Heap.size_push _ _
        have hSI : (s.heap.push (newSetObj W)).objs.size ≠ s.heap.objs.size := by rw [hIz]; omega
        refine set_loop (Inv := Inv) (all := vs) (ρ := ρ) (S := s.heap.objs.size) (I := (s.heap.push (newSetObj W)).objs.size) hSI (by simp [hh]) hsc (fun d h h' hi hs => hfr d h h' _ hi hs hSI)
          (fun d l v s' mv Q' e hi rv k => hadd _ _ d l v s' mv Q' (by simp only [Around.in1_units]; omega) e hi rv k) vs [] _ rfl
          (.list (l := l) (i := 0) (ms := items) ⟨_, Heap.get?_push_size _ rfl, rfl, rfl⟩ (hl1.push _) hn (by rw [hIz]; exact Nat.ne_of_lt (Nat.lt_succ_of_lt hlS)) ?_) (h0 _ (Heap.get?_push_of_some _ hS)) fun h' tk k hinv => ?_
        · exact rv.mono (Ext.push (D := []) _ _)
        · show wpAny _ _ _ _ _ _
          refine wpAny_pure ?_
          show wpAny _ _ (ret Value.none) _ _ _
          refine wpAny_pure ⟨rfl, h', tk, rfl, hinv, fun b o hb e => ?_⟩
          exact k b o (Nat.ne_of_lt hb) (by rw [hIz]; exact Nat.ne_of_lt (Nat.lt_succ_of_lt hb)) (Heap.get?_push_of_some _ (Heap.get?_push_of_some _ e))
      · cases r₂ with
        | error e => exact hr₂
        | ok fl₂ =>
          cases fl₂ with
          | ret r =>
            obtain ⟨rfl, h', tk, rfl, hinv, hk'⟩ := hr₂
            repeat (any_goals (first | assumption | wp_step))
            exact h _ _ hinv hk'
          | _ => exact hr₂.elim
    | _ => exact hr.elim
end
end Mine
/-! A48 -/
namespace Mine
open PySem PySem.W PyProof.Rows
theorem slot_setiter_next : Slot "set_iterator" "__next__" "set_iterator.__next__" :=
  .of (owner := "set_iterator") (n := "__next__") (by rw [typeLookup_type, builtinLookup_eq_fast]; kernel_rfl) (by decide +kernel) (by decide +kernel) (by decide +kernel)
    (by first | exact .inl (by decide +kernel) | exact .inr (by decide +kernel)) (by rw [isSubtype_type]; kernel_rfl)
theorem entry_setiter_next : entryFor table "set_iterator.__next__" = some Builtin.«set_iterator.__next__» := entryFor_of_tree (by kernel_rfl)
theorem args_setiter_next (a : Value) : argsOk "set_iterator.__next__" ⟨[a], []⟩ := by unfold argsOk; kernel_rfl
theorem entry_set_iter' : entryFor table "set.__iter__" = some Builtin.«frozenset.__iter__» :=
  entryFor_alias (id' := "frozenset.__iter__") (by kernel_rfl) rfl (by decide +kernel) (by kernel_rfl)
theorem slot_setiter_iter : Slot "set_iterator" "__iter__" "set_iterator.__iter__" :=
  .of (owner := "set_iterator") (n := "__iter__") (by rw [typeLookup_type, builtinLookup_eq_fast]; kernel_rfl) (by decide +kernel) (by decide +kernel) (by decide +kernel)
    (by first | exact .inl (by decide +kernel) | exact .inr (by decide +kernel)) (by rw [isSubtype_type]; kernel_rfl)
theorem entry_setiter_iter : entryFor table "set_iterator.__iter__" = some Builtin.«dict_keyiterator.__iter__» :=
  entryFor_alias (id' := "dict_keyiterator.__iter__") (by kernel_rfl) rfl (by decide +kernel) (by kernel_rfl)
theorem args_setiter_iter (a : Value) : argsOk "set_iterator.__iter__" ⟨[a], []⟩ := by unfold argsOk; kernel_rfl
noncomputable def SetAt (h : PySem.Heap) (S : Addr) (es : Array (Int × Value)) (ep : Nat) (t : SetTable) : Prop := ∃ o, h.get? S = some o ∧ o.ExactSet ∧ o.data = .set es ep t ∧ t.fits es.size = true
noncomputable abbrev setIterObj (first : Value) (i : Int) (S : Addr) (n ep : Nat) : Obj := { cls := .type "set_iterator", dict := none, data := .fields #[first, rawInt i, .ref S, rawInt n, rawInt ep], slots := #[] }
section
variable {W : Wd} {A : Around} {E : Value → Shared → Prop} {s : Shared} {S I : Addr} {es : Array (Int × Value)} {ep : Nat} {t : SetTable}
theorem SetAt.state (H : SetAt s.heap S es ep t) {P : Array (Int × Value) × Nat × SetTable → Shared → Prop} (h : P (es, ep, t) s) : wpAny (model W.prog W.w) A (setState S) P E s := by
  obtain ⟨o, ho, _, hd, hf⟩ := H
  exact wpAny_setState_of ho hd hf h
theorem SetAt.entries (H : SetAt s.heap S es ep t) {P : Array (Int × Value) → Shared → Prop} (h : P es s) : wpAny (model W.prog W.w) A (setEntries S) P E s := by
  unfold setEntries
  exact wpAny_bind (H.state (wpAny_pure h))
theorem SetAt.typ (H : SetAt s.heap S es ep t) : s.TypeIs (.ref S) "set" := by
  obtain ⟨o, ho, hx, _⟩ := H
  exact ⟨o, ho, hx.1⟩
/-- the end of an iterator -/
theorem stop_here (hh : A.handled = none) {Q : Option Value → Shared → Prop} {f : Obj → Obj} (k : ∀ h', Heap.ExtBut I s.heap h' → Q none { s with heap := h' }) :
    wpAny (model W.prog W.w) A (newExc (.type "StopIteration") [] >>= fun e => (raiseNew e : Sem Fin))
      (fun _ _ => False) (fun e s' => wpAny (model W.prog W.w) A (do if ← isInstance e (.type "StopIteration") then pure none else throw e) Q E s') s := by
  refine wpAny_bind ?_
  simp only [newExc, newTuple]
  refine wpAny_bind (wpAny_newObj_type ?_ (by size_fits))
  refine wpAny_bind (m := firstArgMember _ _) (wpAny_of_eq (a := Value.none) (by first | rfl | (simp only [firstArgMember]; rfl)) ?_)
  refine wpAny_newObj_type ?_ (by size_fits)
  simp only [raiseNew]
  refine wpAny_bind (wpAny_handled ?_)
  rw [hh]
  refine wpAny_bind (wpAny_pure (wpAny_throw ?_))
  refine wpAny_bind (wpAny_isInstance (T := "StopIteration") (b := true) ⟨_, Heap.get?_push_size _ rfl, rfl⟩ isSubtype_stop ?_)
  refine wpAny_pure (k _ ?_)
  exact fun b o hb e => Heap.get?_push_of_some _ (Heap.get?_push_of_some _ e)
theorem next_direct {first i : Nat} {n : Nat} {r : Option (Value × Nat)} (hh : A.handled = none) (hI : s.heap.get? I = some (setIterObj (rawInt first) i S n ep)) (H : SetAt s.heap S es ep t) (hn : es.size = n) (hne : I ≠ S)
    (hnext : ∀ (A : Around) (E : Value → Shared → Prop) (Q : Option (Value × Nat) → Shared → Prop), Q r s → wpAny (model W.prog W.w) A (setNext S first i ep) Q E s) {Q : Option Value → Shared → Prop}
    (k : match r with
      | some (v, nx) => ∀ h', h'.get? I = some (setIterObj (rawInt nx) (i + 1 : Nat) S n ep) → Heap.SameBut I s.heap h' → Q (some v) { s with heap := h' }
      | none => ∀ h', Heap.ExtBut I s.heap h' → Q none { s with heap := h' }) : wpAny (model W.prog W.w) A (pyNext (.ref I)) Q E s := by
  have hT : s.TypeIs (.ref I) "set_iterator" := ⟨_, hI, rfl⟩
  unfold pyNext
  refine wpAny_bind (wpAny_attempt (wpAny_callSpecial?_slot (name := Str.ofString "__next__") hT slot_setiter_next
    (wpAny_call_entry slot_setiter_next hT entry_setiter_next ?_ (args_setiter_next _))))
  show wpAny _ _ (fieldsOf (.ref I) >>= _) _ _ s
  refine wpAny_bind (wpAny_fieldsOf hI rfl ?_)
  show wpAny _ _ (setEntries S >>= _) _ _ s
  refine wpAny_bind (H.entries ?_)
  show wpAny _ _ (if ((es.size : Int) != (n : Int)) = true then _ else _) _ _ s
  rw [if_neg (by rw [hn]; simp)]
  show wpAny _ _ (setNext S ((first : Int)).toNat ((i : Int)).toNat ((ep : Int)).toNat >>= _) _ _ s
  simp only [Int.toNat_natCast]
  refine wpAny_bind (hnext _ _ _ ?_)
  cases r with
  | some p =>
    obtain ⟨v, nx⟩ := p
    dsimp only
    refine wpAny_bind (wpAny_setField hI rfl (by simp) ?_)
    have hI1 := Heap.get?_update_self (Obj.mapFields (·.setIfInBounds 0 (rawInt nx))) hI (by rfl)
    refine wpAny_bind (wpAny_setField hI1 rfl (by simp [Obj.mapFields]) (wpAny_pure ⟨v, rfl, wpAny_pure (k _ ?_ ?_)⟩))
    · rw [Heap.get?_update_self _ hI1 (by rfl)]
      simp [Obj.mapFields, setIterObj]
    · exact (Heap.SameBut.update ..).trans (Heap.SameBut.update ..)
  | none =>
    dsimp only
    refine wpAny_bind (wpAny_setField hI rfl (by simp) ?_)
    refine wpAny_mono (stop_here (I := I) (A := A.in1) (f := id) (by simp [hh]) (Q := Q) (E := E) fun h' kk => ?_) (fun _ _ x => x.elim) fun e s' x => wpAny_of_in1 x
    exact k _ ((Heap.SameBut.update ..).extBut.trans kk)
end
end Mine
/-! A49 -/
namespace Mine
open PySem PySem.W PyProof.Rows
theorem erase_perm {α : Type} : ∀ (l : List α) (i : Nat) (h : i < l.length), (l[i] :: l.eraseIdx i).Perm l
  | x :: l, 0, _ => by simp
  | x :: l, i + 1, h => by
    simp only [List.getElem_cons_succ, List.eraseIdx_cons_succ]
    exact (List.Perm.swap ..).trans ((erase_perm l i (by simpa using h)).cons x)
theorem pick_go_perm {α : Type} (next : Nat → Nat) : ∀ (fuel k : Nat) (left : List α) (out : Array α), left.length ≤ fuel → (pickOrder.go next fuel k left out).toList.Perm (out.toList ++ left)
  | 0, k, left, out, h => by
    have : left = [] := List.length_eq_zero_iff.mp (by lia)
    subst this
    rw [pickOrder.go, List.append_nil]
  | fuel + 1, k, left, out, h => by
    rw [pickOrder.go]
    split
    · rename_i x hx
      have hlt : next k % left.length < left.length := (List.getElem?_eq_some_iff.mp hx).1
      have ih := pick_go_perm next fuel (k + 1) (left.eraseIdx (next k % left.length)) (out.push x) (by rw [List.length_eraseIdx]; split <;> lia)
      refine ih.trans ?_
      rw [Array.toList_push, List.append_assoc]
      refine List.Perm.append_left _ ?_
      have e2 : left[next k % left.length] = x := (List.getElem?_eq_some_iff.mp hx).2
      rw [← e2]
      exact erase_perm _ _ hlt
    · rename_i hx
      have : left = [] := by
        cases left with
        | nil => rfl
        | cons y ys =>
          have hlt : next k % (y :: ys).length < (y :: ys).length := Nat.mod_lt _ (by simp)
          rw [List.getElem?_eq_getElem hlt] at hx
          cases hx
      subst this
      rw [List.append_nil]
theorem pick_perm {α : Type} (next : Nat → Nat) (xs : Array α) : (pickOrder next xs).toList.Perm xs.toList := by
  unfold pickOrder
  have := pick_go_perm next xs.size 0 xs.toList #[] (by simp)
  simpa using this
section
variable {W : Wd} {A : Around} {E : Value → Shared → Prop} {s : Shared} {S I P : Addr} {es : Array (Int × Value)} {ep : Nat} {t : SetTable}
theorem wpAny_choose_any {src : Source} {n : Nat} {Q : Nat → Shared → Prop} {M : Model} (hn : n ≠ 0) (h : ∀ i d, i < n → Q i { s with drawn := d }) : wpAny M A (choose src n) Q E s := by
  intro Γ p hΓ
  unfold choose
  first
    | exact ⟨hn, h _ _ (Nat.mod_lt _ (Nat.pos_of_ne_zero hn))⟩
    | (rw [Sem.wp.eq_def]; simp only; exact ⟨hn, h _ _ (Nat.mod_lt _ (Nat.pos_of_ne_zero hn))⟩)
theorem draw_perm : ∀ (n : Nat) (l : List Nat) (s : Shared) {Q : List Nat → Shared → Prop}, l.length = n → (∀ l' d, l'.Perm l → Q l' { s with drawn := d }) → wpAny (model W.prog W.w) A (drawOrder n l) Q E s
  | 0, l, s, Q, hl, h => by
    have : l = [] := List.length_eq_zero_iff.mp hl
    subst this
    unfold drawOrder
    exact wpAny_pure (h [] s.drawn (.refl _))
  | n + 1, l, s, Q, hl, h => by
    cases l with
    | nil => simp at hl
    | cons x xs =>
      unfold drawOrder
      refine wpAny_bind (wpAny_choose_any (by simp) fun i d hi => ?_)
      rw [List.getElem?_eq_getElem hi]
      dsimp only
      refine wpAny_bind (draw_perm n _ _ (by rw [List.length_eraseIdx]; split <;> lia) fun l' d' hp => wpAny_pure (h _ d' ?_))
      exact (hp.cons _).trans (erase_perm _ _ hi)
theorem next_drawn {i n : Nat} {oP : Obj} {places : Array Value} {pe : Nat} (hh : A.handled = none) (hI : s.heap.get? I = some (setIterObj (.ref P) i S n ep)) (H : SetAt s.heap S es ep t) (hn : es.size = n)
    (hP : s.heap.get? P = some oP) (hdP : oP.data = .seq places pe) {Q : Option Value → Shared → Prop}
    (hv : ∀ v, places[i]? = some v → ∃ (j : Nat) (y : Value), v = rawInt j ∧ es[j]?.map (·.2) = some y ∧ ∀ h', h'.get? I = some (setIterObj (.ref P) (i + 1 : Nat) S n ep) → Heap.SameBut I s.heap h' → Q (some y) { s with heap := h' })
    (hend : places[i]? = none → ∀ h', Heap.ExtBut I s.heap h' → Q none { s with heap := h' }) : wpAny (model W.prog W.w) A (pyNext (.ref I)) Q E s := by
  have hT : s.TypeIs (.ref I) "set_iterator" := ⟨_, hI, rfl⟩
  unfold pyNext
  refine wpAny_bind (wpAny_attempt (wpAny_callSpecial?_slot (name := Str.ofString "__next__") hT slot_setiter_next
    (wpAny_call_entry slot_setiter_next hT entry_setiter_next ?_ (args_setiter_next _))))
  show wpAny _ _ (fieldsOf (.ref I) >>= _) _ _ s
  refine wpAny_bind (wpAny_fieldsOf hI rfl ?_)
  show wpAny _ _ (setEntries S >>= _) _ _ s
  refine wpAny_bind (H.entries ?_)
  show wpAny _ _ (if ((es.size : Int) != (n : Int)) = true then _ else _) _ _ s
  rw [if_neg (by rw [hn]; simp)]
  show wpAny _ _ (seqItems? (.ref P) >>= _) _ _ s
  refine wpAny_bind (wpAny_seqItems hP hdP ?_)
  dsimp only
  simp only [Int.toNat_natCast]
  cases hp : places[i]? with
  | some v =>
    obtain ⟨j, y, rfl, hy, k⟩ := hv v hp
    dsimp only [rawInt]
    simp only [Int.toNat_natCast]
    obtain ⟨e, he, rfl⟩ := Option.map_eq_some_iff.mp hy
    unfold setNextDrawn
    refine wpAny_bind (wpAny_bind (H.state ?_))
    dsimp only
    rw [if_neg (by simp)]
    rw [he]
    refine wpAny_pure ?_
    refine wpAny_bind (wpAny_setField hI rfl (by simp) (wpAny_pure ⟨e.2, rfl, wpAny_pure (k _ ?_ ?_)⟩))
    · rw [Heap.get?_update_self _ hI (by rfl)]
      simp [Obj.mapFields, setIterObj, rawInt]
    · exact Heap.SameBut.update ..
  | none =>
    dsimp only
    refine wpAny_bind (wpAny_setField hI rfl (by simp) ?_)
    have hI1 := Heap.get?_update_self (Obj.mapFields (·.setIfInBounds 0 (rawInt 0))) hI (by rfl)
    refine wpAny_bind (wpAny_setField hI1 rfl (by simp) ?_)
    refine wpAny_mono (stop_here (I := I) (A := A.in1) (f := id) (by simp [hh]) (Q := Q) (E := E) fun h' kk => ?_) (fun _ _ x => x.elim) fun e s' x => wpAny_of_in1 x
    exact hend hp _ (((Heap.SameBut.update ..).extBut.trans (Heap.SameBut.update ..).extBut).trans kk)
end
end Mine
/-! A50 -/
namespace Mine
open PySem PySem.W PyProof.Rows
noncomputable def Same3 (a b : Array GenState) : Prop := b = a
section
variable {W : Wd} {A : Around} {E : Value → Shared → Prop} {s : Shared} {S I P : Addr} {es : Array (Int × Value)} {ep : Nat} {t : SetTable} {oS oP : Obj}
theorem self_setiter {first : Value} {i : Int} {n : Nat} {Q : Value → Shared → Prop} (hI : s.heap.get? I = some (setIterObj first i S n ep)) (h : Q (.ref I) s) : wpAny (model W.prog W.w) A (pyIter (.ref I)) Q E s := by
  have hT : s.TypeIs (.ref I) "set_iterator" := ⟨_, hI, rfl⟩
  refine wpAny_pyIter_slot hT slot_setiter_iter (wpAny_call_entry slot_setiter_iter hT entry_setiter_iter ?_ (args_setiter_iter _))
  show wpAny _ _ (ret (.ref I)) _ _ s
  exact wpAny_pure ⟨_, rfl, "set_iterator", _, hT, slot_setiter_next.lookup, h⟩
theorem walks_direct (slotAt : Nat → Nat) (order : List Value) (hh : A.handled = none) (hne : I ≠ S) (hx : oS.ExactSet) (hd : oS.data = .set es ep t) (hf : t.fits es.size = true) (hn : order.length = es.size)
    (hnext : ∀ (i : Nat) (s : Shared) (A : Around) (E : Value → Shared → Prop) (Q : Option (Value × Nat) → Shared → Prop), s.heap.get? S = some oS → i ≤ es.size → Q ((order[i]?).map fun v => (v, slotAt (i + 1))) s →
      wpAny (model W.prog W.w) A (setNext S (slotAt i) i ep) Q E s) :
    WalksS W.prog W.w A I [I, S] [I] Same3 es.size (fun i v => order[i]? = some v) (fun i s => s.heap.get? I = some (setIterObj (rawInt (slotAt i)) i S es.size ep) ∧ s.heap.get? S = some oS) where
  sub b hb := List.mem_cons.mpr (.inl (List.mem_singleton.mp hb))
  grefl _ := rfl
  gtrans a b c h1 h2 := Eq.trans h2 h1
  frame i s h' tk st _ k := ⟨k I (by simp) _ st.1, k S (by simp) _ st.2⟩
  item i s Q E hi st hQ := by
    have hlt : i < order.length := by lia
    refine next_direct (r := some (order[i], slotAt (i + 1))) hh st.1 ⟨oS, st.2, hx, hd, hf⟩ rfl hne (fun A E Q q => hnext i s A E Q st.2 (by lia) (by rw [List.getElem?_eq_getElem hlt]; exact q)) ?_
    dsimp only
    intro h' e1 sb
    exact hQ _ _ (List.getElem?_eq_getElem hlt) ⟨e1, (sb.2 S (Ne.symm hne)).trans st.2⟩ ⟨fun b o hb e => (sb.2 b (by simpa using hb)).trans e, rfl, rfl, rfl, Nat.le_refl _⟩
  done s Q E st hQ := by
    refine next_direct (r := none) hh st.1 ⟨oS, st.2, hx, hd, hf⟩ rfl hne (fun A E Q q => hnext es.size s A E Q st.2 (Nat.le_refl _) (by rw [List.getElem?_eq_none (by lia)]; exact q)) ?_
    dsimp only
    intro h' k
    exact hQ _ ⟨fun b o hb e => k b o (by simpa using hb) e, rfl, rfl, rfl, Nat.le_refl _⟩
  self i s Q E st h := self_setiter st.1 h
theorem walks_drawn (idx : List Nat) (hh : A.handled = none) (hne : I ≠ S) (hnP : I ≠ P) (hx : oS.ExactSet) (hd : oS.data = .set es ep t) (hf : t.fits es.size = true) (hp : idx.Perm (List.range es.size))
    (hdP : oP.data = .seq (idx.map fun j => rawInt (j : Nat)).toArray 0) :
    WalksS W.prog W.w A I [I, S, P] [I] Same3 es.size (fun i v => ((idx.map fun j => (es.getD j (0, .none)).2))[i]? = some v)
      (fun i s => s.heap.get? I = some (setIterObj (.ref P) i S es.size ep) ∧ s.heap.get? S = some oS ∧ s.heap.get? P = some oP) where
  sub b hb := List.mem_cons.mpr (.inl (List.mem_singleton.mp hb))
  grefl _ := rfl
  gtrans a b c h1 h2 := Eq.trans h2 h1
  frame i s h' tk st _ k := ⟨k I (by simp) _ st.1, k S (by simp) _ st.2.1, k P (by simp) _ st.2.2⟩
  item i s Q E hi st hQ := by
    have hl : idx.length = es.size := by rw [hp.length_eq, List.length_range]
    have hlt : i < idx.length := by lia
    refine next_drawn hh st.1 ⟨oS, st.2.1, hx, hd, hf⟩ rfl st.2.2 hdP (fun v hv => ?_) (fun hv => ?_)
    · have hj : idx[i] < es.size := List.mem_range.mp (hp.mem_iff.mp (List.getElem_mem hlt))
      refine ⟨idx[i], (es.getD idx[i] (0, .none)).2, ?_, ?_, fun h' e1 sb => ?_⟩
      · simp [hlt] at hv; exact hv.symm
      · simp [Array.getD, hj]
      · exact hQ _ _ (by simp [hlt]) ⟨e1, (sb.2 S (Ne.symm hne)).trans st.2.1, (sb.2 P (Ne.symm hnP)).trans st.2.2⟩ ⟨fun b o hb e => (sb.2 b (by simpa using hb)).trans e, rfl, rfl, rfl, Nat.le_refl _⟩
    · simp at hv; lia
  done s Q E st hQ := by
    have hl : idx.length = es.size := by rw [hp.length_eq, List.length_range]
    refine next_drawn hh st.1 ⟨oS, st.2.1, hx, hd, hf⟩ rfl st.2.2 hdP (fun v hv => ?_) (fun hv h' k => ?_)
    · simp at hv; obtain ⟨a, ha, _⟩ := hv; rw [List.getElem?_eq_none (by lia)] at ha; cases ha
    · exact hQ _ ⟨fun b o hb e => k b o (by simpa using hb) e, rfl, rfl, rfl, Nat.le_refl _⟩
  self i s Q E st h := self_setiter st.1 h
theorem order_of {order : List Value} {acc : Array Value} {n : Nat} (h : ItemsOf (fun i v => order[i]? = some v) acc n) (hn : order.length = n) : acc.toList = order := by
  apply List.ext_getElem?
  intro i
  by_cases hi : i < acc.size
  · rw [h.2 i acc[i] (Array.getElem?_eq_getElem hi), Array.getElem?_toList, Array.getElem?_eq_getElem hi]
  · rw [Array.getElem?_toList, Array.getElem?_eq_none (by lia), List.getElem?_eq_none (by rw [hn, ← h.1]; lia)]
theorem idx_perm {idx : List Nat} (hp : idx.Perm (List.range es.size)) : (idx.map fun j => (es.getD j (0, .none)).2).Perm (es.toList.map (·.2)) := by
  refine (hp.map _).trans ?_
  have : (List.range es.size).map (fun j => (es.getD j (0, Value.none)).2) = es.toList.map (·.2) := by
    apply List.ext_getElem
    · simp
    · intro i h1 h2
      simp at h1
      simp [Array.getD, h1]
  rw [this]
end
end Mine
/-! A51 -/
namespace Mine
open PySem PySem.W PyProof.Rows
/-- how a set can be walked -/
noncomputable def Walkable (W : Wd) (es : Array (Int × Value)) (t : SetTable) : Prop := byText W = true ∨ (byText W = false ∧ es.size ≤ 1 ∧ t.led = true) ∨ (byText W = false ∧ 2 ≤ es.size ∧ t.plain = false)
theorem setDrawn_eq (a : Addr) : setDrawn a = (do
    let (es, _, t) ← setState a
    let byText ← setsByText
    return !byText && (!t.plain && es.size > 1)) := rfl
theorem setNext_eq (a : Addr) (slot given epochThen : Nat) : setNext a slot given epochThen = (do
    let (es, epoch, t) ← setState a
    if ← setsByText then
      if epoch != epochThen then unsupported "set_iterator.__next__:elements-changed"
      return ((← setWalk a)[given]?).map fun e => (e.2, slot)
    if !t.plain && es.size > 1 then unsupported "set_iterator.__next__:the-table-is-plain-no-more"
    (do if !t.led && !es.isEmpty then unsupported "set:maker-not-led" : Sem Unit)
    let i := SetTable.below t.place slot
    return match es[i]?, t.place[i]? with
      | some (_, x), some j => some (x, j + 1)
      | _, _ => none) := rfl
theorem below_one (p j : Nat) : SetTable.below #[p] j = if p < j then 1 else 0 := by
  unfold SetTable.below
  show SetTable.below.go #[p] j 1 0 1 = _
  rw [SetTable.below.go]
  simp
  split <;> rw [SetTable.below.go]
section
variable {W : Wd} {A : Around} {E : Value → Shared → Prop} {s : Shared} {S : Addr} {es : Array (Int × Value)} {ep : Nat} {t : SetTable} {oS : Obj}
theorem byText_at {Q : Bool → Shared → Prop} (h : Q (byText W) s) : wpAny (model W.prog W.w) A setsByText Q E s := by
  unfold setsByText
  exact wpAny_bind (wpAny_askSetting (wpAny_pure h))
theorem iter_set (hS : s.heap.get? S = some oS) (hx : oS.ExactSet) (hd : oS.data = .set es ep t) (hf : t.fits es.size = true) (hw : Walkable W es t) (hz : es.size ≤ 64) {Q : Value → Shared → Prop}
    (h : ∀ (I : Addr) (fp : List Addr) (St : Nat → Shared → Prop) (order : List Value) (h' : PySem.Heap) (d : Drawn), (∀ A : Around, A.handled = none → WalksS W.prog W.w A I fp [I] Same3 es.size (fun i v => order[i]? = some v) St) → St 0 { s with heap := h', drawn := d } → order.Perm (es.toList.map (·.2)) →
      (∀ b ∈ fp, b < h'.objs.size ∧ (b = S ∨ s.heap.objs.size ≤ b)) → s.heap.objs.size ≤ I → (∀ b o, s.heap.get? b = some o → h'.get? b = some o) → Q (.ref I) { s with heap := h', drawn := d }) :
    wpAny (model W.prog W.w) A (pyIter (.ref S)) Q E s := by
  have hT : s.TypeIs (.ref S) "set" := ⟨oS, hS, hx.1⟩
  have HS : SetAt s.heap S es ep t := ⟨oS, hS, hx, hd, hf⟩
  have hlt : S < s.heap.objs.size := Heap.lt_size hS
  refine wpAny_pyIter_slot hT PySem.F.slot_set_iter (wpAny_call_entry PySem.F.slot_set_iter hT entry_set_iter' ?_ (PySem.F.args_set_iter_1 _))
  unfold Builtin.«frozenset.__iter__» Builtin.Frozenset.slot0 slotArgs
  simp only [List.isEmpty_nil, Bool.not_true, Bool.false_eq_true, ↓reduceIte, bind_assoc, List.length_nil, bne_self_eq_false]
  unfold Builtin.Frozenset.addrOf Builtin.Frozenset.sizeOf
  refine wpAny_bind (wpAny_pure ?_)
  try dsimp only
  refine wpAny_bind (wpAny_pure ?_)
  refine wpAny_bind (wpAny_bind (HS.entries (wpAny_pure ?_)))
  rw [setDrawn_eq]
  simp only [bind_assoc]
  refine wpAny_bind (HS.state ?_)
  dsimp only
  refine wpAny_bind (byText_at ?_)
  refine wpAny_bind (wpAny_pure ?_)
  have epo : ∀ {s' : Shared} {Q' : Nat → Shared → Prop} {A' : Around} {E' : Value → Shared → Prop}, SetAt s'.heap S es ep t → Q' ep s' → wpAny (model W.prog W.w) A' (setEpoch S) Q' E' s' := fun H q => by
    unfold setEpoch
    exact wpAny_bind (H.state (wpAny_pure q))
  -- the iterator without a tuple
  have direct : ∀ (slotAt : Nat → Nat) (order : List Value) {A' : Around} {E' : Value → Shared → Prop}, slotAt 0 = 0 → order.length = es.size → order.Perm (es.toList.map (·.2)) →
      (∀ (i : Nat) (s : Shared) (A : Around) (E : Value → Shared → Prop) (Q : Option (Value × Nat) → Shared → Prop), s.heap.get? S = some oS → i ≤ es.size → Q ((order[i]?).map fun v => (v, slotAt (i + 1))) s →
        wpAny (model W.prog W.w) A (setNext S (slotAt i) i ep) Q E s) →
      wpAny (model W.prog W.w) A' (newFields "set_iterator" [rawInt 0, rawInt 0, .ref S, rawInt es.size, rawInt ep] >>= fun v => ret v) (fun fin s' => ∃ r, fin = .done (.ret r) ∧ (∃ T' r_1, s'.TypeIs r T' ∧ typeLookup (.type T') "__next__" = pure (some r_1) ∧ Q r s')) E' s := by
    intro slotAt order A' E' h0 hl hp hn
    refine wpAny_bind (wpAny_newObj_type (wpAny_pure ⟨_, rfl, "set_iterator", _, ⟨_, Heap.get?_push_size _ rfl, rfl⟩, slot_setiter_next.lookup, ?_⟩))
    have hne : s.heap.objs.size ≠ S := Nat.ne_of_gt hlt
    refine h s.heap.objs.size [s.heap.objs.size, S] _ order _ s.drawn (fun A hh => walks_direct slotAt order hh hne hx hd hf hl hn) ⟨?_, Heap.get?_push_of_some _ hS⟩ hp (fun b hb => ?_) (Nat.le_refl _) fun b o e => Heap.get?_push_of_some _ e
    · rw [h0]; exact Heap.get?_push_size _ rfl
    · rw [Heap.size_push]
      rcases List.mem_cons.mp hb with rfl | hb
      · exact ⟨Nat.lt_succ_self _, .inr (Nat.le_refl _)⟩
      · rw [List.mem_singleton.mp hb]
        exact ⟨Nat.lt_succ_of_lt hlt, .inl rfl⟩
  rcases hw with hb | ⟨hb, h1, hled⟩ | ⟨hb, h2, hpl⟩
  · rw [hb]
    simp only [Bool.not_true, Bool.false_and, Bool.false_eq_true, ↓reduceIte]
    refine wpAny_bind (wpAny_pure ?_)
    refine wpAny_bind (epo HS ?_)
    refine direct (fun _ => 0) ((pickOrder (W.w.params.setOrder S ep) es).toList.map (·.2)) rfl (by
      have := (pick_perm (W.w.params.setOrder S ep) es).length_eq
      simpa using this) ((pick_perm _ _).map _) fun i s' A' E' Q' hS' hi q => ?_
    have HS' : SetAt s'.heap S es ep t := ⟨oS, hS', hx, hd, hf⟩
    rw [setNext_eq]
    refine wpAny_bind (HS'.state ?_)
    dsimp only
    refine wpAny_bind (byText_at ?_)
    rw [hb, if_pos rfl, if_neg (by simp)]
    unfold setWalk
    refine wpAny_bind (wpAny_bind (HS'.state ?_))
    dsimp only
    refine wpAny_bind (byText_at ?_)
    rw [hb, if_pos rfl]
    refine wpAny_bind (wpAny_askSetting (wpAny_pure (wpAny_pure ?_)))
    have : ((pickOrder (W.w.params.setOrder S ep) es)[i]?).map (fun e => (e.2, 0)) = (((pickOrder (W.w.params.setOrder S ep) es).toList.map (·.2))[i]?).map fun v => (v, 0) := by
      rw [List.getElem?_map, Array.getElem?_toList, Option.map_map]; rfl
    rw [← this] at q
    exact q
  · rw [hb]
    rw [if_neg (by simp; lia)]
    refine wpAny_bind (wpAny_pure ?_)
    refine wpAny_bind (epo HS ?_)
    have hfs : t.place.size = es.size := by
      simp only [SetTable.fits, Bool.and_eq_true, beq_iff_eq] at hf
      exact hf.1
    refine direct (fun i => if i = 0 then 0 else t.place.getD (i - 1) 0 + 1) (es.toList.map (·.2)) rfl (by simp) (.refl _) fun i s' A' E' Q' hS' hi q => ?_
    have HS' : SetAt s'.heap S es ep t := ⟨oS, hS', hx, hd, hf⟩
    rw [setNext_eq]
    refine wpAny_bind (HS'.state ?_)
    dsimp only
    refine wpAny_bind (byText_at ?_)
    rw [hb, if_neg Bool.false_ne_true, if_neg (by simp; lia), if_neg (by simp [hled])]
    have he : es = #[] ∨ ∃ e p, es = #[e] ∧ t.place = #[p] := by
      rcases Nat.lt_or_ge es.size 1 with hz | hz
      · exact .inl (Array.eq_empty_of_size_eq_zero (by lia))
      · obtain ⟨e, he⟩ := Array.size_eq_one_iff.mp (show es.size = 1 by lia)
        obtain ⟨p, hp⟩ := Array.size_eq_one_iff.mp (show t.place.size = 1 by lia)
        exact .inr ⟨e, p, he, hp⟩
    rcases he with rfl | ⟨e, p, rfl, hp⟩
    · have hi0 : i = 0 := by simp at hi; exact hi
      subst hi0
      exact wpAny_pure (by simpa using q)
    · have hi1 : i = 0 ∨ i = 1 := by simp at hi; lia
      rw [hp] at q ⊢
      rcases hi1 with rfl | rfl
      · rw [if_pos rfl, below_one]
        refine wpAny_pure ?_
        simpa using q
      · rw [if_neg (by decide), below_one]
        refine wpAny_pure ?_
        simpa using q
  · rw [hb]
    rw [if_pos (by simp [hpl]; lia)]
    refine wpAny_bind (draw_perm es.size (List.range es.size) s (by simp) fun l' d hp => ?_)
    refine wpAny_bind (wpAny_newTuple ?_ (by rw [List.length_map, hp.length_eq, List.length_range, sizeLine_eq]; lia))
    have HS2 : SetAt (s.heap.push { cls := .type "tuple", data := .seq (l'.map fun i => rawInt (i : Nat)).toArray }) S es ep t := ⟨oS, Heap.get?_push_of_some _ hS, hx, hd, hf⟩
    refine wpAny_bind (epo HS2 ?_)
    refine wpAny_bind (wpAny_newObj_type (wpAny_pure ⟨_, rfl, "set_iterator", _, ⟨_, Heap.get?_push_size _ rfl, rfl⟩, slot_setiter_next.lookup, ?_⟩))
    refine h _ [(s.heap.push { cls := .type "tuple", data := .seq (l'.map fun i => rawInt (i : Nat)).toArray }).objs.size, S, s.heap.objs.size] _ (l'.map fun j => (es.getD j (0, .none)).2) _ d
      (fun A hh => walks_drawn (oP := { cls := .type "tuple", data := .seq (l'.map fun i => rawInt (i : Nat)).toArray }) l' hh ?_ ?_ hx hd hf hp rfl) ⟨Heap.get?_push_size _ rfl, Heap.get?_push_of_some _ (Heap.get?_push_of_some _ hS), Heap.get?_push_of_some _ (Heap.get?_push_size _ rfl)⟩
      (idx_perm hp) (fun b hb => ?_) ?_ fun b o e => Heap.get?_push_of_some _ (Heap.get?_push_of_some _ e)
    · rw [Heap.size_push]; exact Nat.ne_of_gt (Nat.lt_succ_of_lt hlt)
    · rw [Heap.size_push]; exact Nat.ne_of_gt (Nat.lt_succ_self _)
    · rw [Heap.size_push, Heap.size_push]
      rcases List.mem_cons.mp hb with rfl | hb
      · exact ⟨by rw [Heap.size_push]; exact Nat.lt_succ_self _, .inr (by rw [Heap.size_push]; exact Nat.le_succ _)⟩
      · rcases List.mem_cons.mp hb with rfl | hb
        · exact ⟨Nat.lt_succ_of_lt (Nat.lt_succ_of_lt hlt), .inl rfl⟩
        · rw [List.mem_singleton.mp hb]
          exact ⟨Nat.lt_succ_of_lt (Nat.lt_succ_self _), .inr (Nat.le_refl _)⟩
    · rw [Heap.size_push]; exact Nat.le_succ _
end
end Mine
/-! A52 -/
namespace Mine
open PySem PySem.W PyProof.Rows
theorem set_len_lookup : typeLookup (.type "set") "__len__" = pure (some (.builtin "set.__len__")) := PySem.F.slot_set_len.lookup
section
variable {W : Wd} {A : Around} {E : Value → Shared → Prop} {s : Shared} {S : Addr} {es : Array (Int × Value)} {ep : Nat} {t : SetTable} {oS : Obj}
theorem hint_set {Q : Bool → Shared → Prop} (hT : s.TypeIs (.ref S) "set") (h : Q false s) : wpAny (model W.prog W.w) A (Builtin.List.listLengthHint (.ref S)) Q E s := by
  unfold Builtin.List.listLengthHint
  refine wpAny_bind (wpAny_specialOf hT set_len_lookup ?_)
  dsimp only
  rw [show splitId "set.__len__" = some ("set", "__len__") from by decide +kernel]
  dsimp only
  refine wpAny_bind (wpAny_isInstance hT sub_set_self ?_)
  show wpAny _ _ (typeOf (Value.ref S) >>= _) _ _ _
  refine wpAny_bind (wpAny_typeOf hT ?_)
  exact wpAny_pure h
theorem collect_set (hh : A.handled = none) (hS : s.heap.get? S = some oS) (hx : oS.ExactSet) (hd : oS.data = .set es ep t) (hf : t.fits es.size = true) (hw : Walkable W es t) (hz : es.size ≤ 64) {Q : List Value → Shared → Prop}
    (h : ∀ out h' tk d, out.Perm (es.toList.map (·.2)) → (∀ b o, s.heap.get? b = some o → h'.get? b = some o) → Q out { s with heap := h', toks := tk, drawn := d }) :
    wpAny (model W.prog W.w) A (collect (.ref S)) Q E s := by
  unfold collect
  refine wpAny_bind (wpAny_runValue (codeAny_builtin PySem.F.entry_proto_collect ?_))
  rw [Around.under_plainId PySem.F.plain_proto_collect _]
  show wpAny _ A.in1 (newList [] >>= fun l => again (.builtin "list.__iadd__" ⟨[l, .ref S], []⟩)) _ _ s
  refine wpAny_bind (wpAny_newObj_type ?_)
  refine wpAny_pure ⟨plainId_quiet PySem.F.plain_list_iadd _, codeAny_builtin PySem.F.entry_list_iadd ?_⟩
  rw [Around.under_plainId PySem.F.plain_list_iadd _]
  have hlt : S < s.heap.objs.size := Heap.lt_size hS
  generalize hL : s.heap.objs.size = L at hlt ⊢
  have hSL : L ≠ S := Nat.ne_of_gt hlt
  have hS₁ : (s.heap.push { cls := .type "list", data := .seq ([] : List Value).toArray }).get? L = some { cls := .type "list", data := .seq ([] : List Value).toArray } := hL ▸ Heap.get?_push_size _ rfl
  have hS2 : (s.heap.push { cls := .type "list", data := .seq ([] : List Value).toArray }).get? S = some oS := Heap.get?_push_of_some _ hS
  have h1 : Builtin.List.listSameRef (.ref L) (.ref S) = false := by simp [Builtin.List.listSameRef, hSL]
  show wpAny _ A.in1 (Builtin.List.listExtendWith (.ref L) (.ref S) (.ref L)) _ _ _
  unfold Builtin.List.listExtendWith
  refine wpAny_bind (wpAny_typeOf (T := "set") ⟨oS, hS2, hx.1⟩ ?_)
  have h2 : (Value.type "set" == Value.type "list") = false := by decide
  have h3 : (Value.type "set" == Value.type "tuple") = false := by decide
  simp only [h1, h2, h3, Bool.or_false, Bool.false_eq_true, if_false]
  refine wpAny_bind (iter_set (s := { s with heap := s.heap.push { cls := .type "list", data := .seq ([] : List Value).toArray } }) hS2 hx hd hf hw hz fun I fp St order h' d hW hst hp hfp hI keep => ?_)
  have hsz : (s.heap.push { cls := .type "list", data := .seq ([] : List Value).toArray }).objs.size = L + 1 := by rw [Heap.size_push, hL]
  refine wpAny_bind (wpAny_holding (hint_set (A := A.in1) ⟨oS, keep _ _ hS2, hx.1⟩ ?_))
  show wpAny _ _ (rule "list.extend.makes-room" >>= fun _ => Builtin.List.listTouch (.ref L) >>= fun _ => again (.builtin "list.extend.loop" ⟨[.ref L, .ref I, .ref L], []⟩)) _ _ _
  refine wpAny_bind (wpAny_rule ?_)
  refine wpAny_bind ?_
  show wpAny _ _ (updateSeq L (·.push .none) >>= fun _ => updateSeq L (·.pop)) _ _ _
  have hL1 := keep _ _ hS₁
  refine wpAny_bind (wpAny_updateSeq hL1 rfl ?_)
  have hL2 := Heap.get?_update_self (Obj.mapSeq (·.push Value.none)) hL1 rfl
  refine wpAny_updateSeq hL2 rfl ?_
  have hL3 := Heap.get?_update_self (Obj.mapSeq (·.pop)) hL2 rfl
  have hLfp : L ∉ fp := fun hm => by
    rcases (hfp L hm).2 with e | e
    · exact hSL e
    · rw [hsz] at e; exact Nat.lt_irrefl _ e
  have oth : ∀ b o, b ≠ L → h'.get? b = some o → ((h'.update L (Obj.mapSeq (·.push Value.none))).update L (Obj.mapSeq (·.pop))).get? b = some o :=
    fun b o hb e => (Heap.get?_update_other _ _ (Ne.symm hb)).trans ((Heap.get?_update_other _ _ (Ne.symm hb)).trans e)
  have hol : order.length = es.size := by
    have := hp.length_eq
    simpa using this
  have hst2 := (hW A.in1 (by simp [hh])).frame 0 { s with heap := h', drawn := d } ((h'.update L (Obj.mapSeq (·.push Value.none))).update L (Obj.mapSeq (·.pop))) s.toks hst (Nat.le_refl _) fun b hb o e => oth b o (fun z => hLfp (z ▸ hb)) e
  refine wpAny_pure ⟨plainId_quiet PySem.F.plain_extend_loop _, codeAny_extend_loopS (hW A.in1 (by simp [hh])) (by rw [sizeLine_eq]; lia) L hLfp _ es.size 0 _ _ _ rfl (Nat.zero_le _)
    hst2 hL3 (ItemsOf.nil _) fun s' acc' c' hm hS' hacc => ?_⟩
  show wpAny _ A (load L >>= _) _ _ s'
  refine wpAny_bind (wpAny_load hS' ?_)
  show wpAny _ _ (pure acc'.toList) _ _ _
  rw [order_of hacc hol]
  obtain ⟨hp', g', d', tk', os'⟩ := s'
  have e1 : g' = s.gens := hm.gens
  have e2 : d' = d := hm.drawn
  have e3 : os' = s.os := hm.os
  subst e1; subst e2; subst e3
  refine wpAny_pure (h order hp' tk' d' hp fun b o e => ?_)
  have hb : b < L := hL ▸ Heap.lt_size e
  have e4 := oth b o (Nat.ne_of_lt hb) (keep _ _ (Heap.get?_push_of_some _ e))
  refine hm.heap b o (fun hmem => ?_) e4
  rcases List.mem_cons.mp hmem with z | z
  · exact absurd hb (z ▸ Nat.lt_irrefl _)
  · rw [List.mem_singleton.mp z] at hb
    have hI' : L + 1 ≤ I := Nat.le_trans (Nat.le_of_eq hsz.symm) hI
    exact absurd (Nat.lt_of_lt_of_le (Nat.lt_succ_self L) hI') (Nat.lt_asymm hb)
end
end Mine
/-! A53 -/
namespace Mine
open PySem PySem.W PyProof.Rows
/-! a sort told by its questions -/
noncomputable def known (facts : List (Nat × Nat)) (i j : Nat) : Bool := facts.any fun p => Nat.beq p.1 i && Nat.beq p.2 j
noncomputable def lows (facts : List (Nat × Nat)) (i : Nat) : List Nat := (facts.filter fun p => Nat.beq p.2 i).map (·.1)
noncomputable def highs (facts : List (Nat × Nat)) (i : Nat) : List Nat := (facts.filter fun p => Nat.beq p.1 i).map (·.2)
noncomputable def addF (facts : List (Nat × Nat)) (i j : Nat) : List (Nat × Nat) := (i :: lows facts i).flatMap (fun a => (j :: highs facts j).map fun b => (a, b)) ++ facts
noncomputable def adj (facts : List (Nat × Nat)) : List Nat → Bool
  | i :: j :: r => known facts i j && adj facts (j :: r)
  | _ => true
noncomputable def permOf (n : Nat) (p : List Nat) : Bool := p.isPerm (List.range n)
noncomputable def chkT (n : Nat) : List (Nat × Nat) → KasT (Array Nat) → Bool
  | facts, .ret p => permOf n p.toList && adj facts p.toList
  | facts, .ask i j k => Nat.blt i n && Nat.blt j n && !Nat.beq i j &&
      (if known facts i j then chkT n facts (k true) else if known facts j i then chkT n facts (k false)
        else chkT n (addF facts i j) (k true) && chkT n (addF facts j i) (k false))
theorem chk_all : ∀ n, 2 ≤ n → n ≤ 6 → chkT n [] (kas_sort n) = true
  | 2, _, _ => by decide +kernel
  | 3, _, _ => by decide +kernel
  | 4, _, _ => by decide +kernel
  | 5, _, _ => by decide +kernel
  | 6, _, _ => by decide +kernel
  | 0, h, _ => by lia
  | 1, h, _ => by lia
  | n + 7, _, h => by lia
theorem permOf_perm {n : Nat} {p : List Nat} (h : permOf n p = true) : p.Perm (List.range n) := List.isPerm_iff.mp h
section
variable {lt : Nat → Nat → Prop}
theorem known_ok {facts : List (Nat × Nat)} (hf : ∀ p ∈ facts, lt p.1 p.2) {i j : Nat} (h : known facts i j = true) : lt i j := by
  simp only [known, List.any_eq_true, Bool.and_eq_true] at h
  obtain ⟨p, hp, e1, e2⟩ := h
  rw [← Nat.eq_of_beq_eq_true e1, ← Nat.eq_of_beq_eq_true e2]
  exact hf p hp
theorem addF_ok (htr : ∀ i j k, lt i j → lt j k → lt i k) {facts : List (Nat × Nat)} (hf : ∀ p ∈ facts, lt p.1 p.2) {i j : Nat} (h : lt i j) : ∀ p ∈ addF facts i j, lt p.1 p.2 := by
  intro p hp
  unfold addF at hp
  rcases List.mem_append.mp hp with hp | hp
  · obtain ⟨a, ha, hp⟩ := List.mem_flatMap.mp hp
    obtain ⟨b, hb, rfl⟩ := List.mem_map.mp hp
    have ha' : a = i ∨ lt a i := by
      rcases List.mem_cons.mp ha with e | ha
      · exact .inl e
      · obtain ⟨q, hq, rfl⟩ := List.mem_map.mp ha
        obtain ⟨hq1, hq2⟩ := List.mem_filter.mp hq
        exact .inr (Nat.eq_of_beq_eq_true hq2 ▸ hf q hq1)
    have hb' : b = j ∨ lt j b := by
      rcases List.mem_cons.mp hb with e | hb
      · exact .inl e
      · obtain ⟨q, hq, rfl⟩ := List.mem_map.mp hb
        obtain ⟨hq1, hq2⟩ := List.mem_filter.mp hq
        exact .inr (Nat.eq_of_beq_eq_true hq2 ▸ hf q hq1)
    show lt a b
    have h1 : lt i b := by
      rcases hb' with rfl | hb'
      · exact h
      · exact htr _ _ _ h hb'
    rcases ha' with rfl | ha'
    · exact h1
    · exact htr _ _ _ ha' h1
  · exact hf p hp
theorem adj_ok (htr : ∀ i j k, lt i j → lt j k → lt i k) {facts : List (Nat × Nat)} (hf : ∀ p ∈ facts, lt p.1 p.2) : ∀ (l : List Nat), adj facts l = true → l.Pairwise lt
  | [], _ => .nil
  | [i], _ => by simp
  | i :: j :: r, h => by
    simp only [adj, Bool.and_eq_true] at h
    have ih := adj_ok htr hf (j :: r) h.2
    have h1 := known_ok hf h.1
    rw [List.pairwise_cons]
    refine ⟨fun k hk => ?_, ih⟩
    rcases List.mem_cons.mp hk with rfl | hk
    · exact h1
    · exact htr _ _ _ h1 ((List.pairwise_cons.mp ih).1 k hk)
theorem chk_sound {n : Nat} {ask : Nat → Nat → (Bool → Shared → Prop) → Shared → Prop} {s : Shared} (htr : ∀ i j k, lt i j → lt j k → lt i k) (hirr : ∀ i j, lt i j → lt j i → False)
    (hask : ∀ i j, i < n → j < n → i ≠ j → ∀ C : Bool → Shared → Prop, (lt i j → C true s) → (lt j i → C false s) → ask i j C s) {Q : Array Nat → Shared → Prop}
    (hQ : ∀ p : Array Nat, p.toList.Perm (List.range n) → p.toList.Pairwise lt → Q p s) :
    ∀ (t : KasT (Array Nat)) (facts : List (Nat × Nat)), (∀ p ∈ facts, lt p.1 p.2) → chkT n facts t = true → t.kasWp ask Q s
  | .ret p, facts, hf, h => by
    simp only [chkT, Bool.and_eq_true] at h
    exact hQ p (permOf_perm h.1) (adj_ok htr hf _ h.2)
  | .ask i j k, facts, hf, h => by
    simp only [chkT, Bool.and_eq_true, Nat.blt_eq] at h
    obtain ⟨⟨⟨h1, h2⟩, h3⟩, h4⟩ := h
    show ask i j (fun b s' => (k b).kasWp ask Q s') s
    refine hask i j h1 h2 (fun e => by rw [e] at h3; simp at h3) _ (fun hij => ?_) fun hji => ?_
    · by_cases hk1 : known facts i j = true
      · rw [if_pos hk1] at h4
        exact chk_sound htr hirr hask hQ (k true) facts hf h4
      · rw [if_neg hk1] at h4
        by_cases hk2 : known facts j i = true
        · exact (hirr _ _ hij (known_ok hf hk2)).elim
        · rw [if_neg hk2, Bool.and_eq_true] at h4
          exact chk_sound htr hirr hask hQ (k true) _ (addF_ok htr hf hij) h4.1
    · by_cases hk1 : known facts i j = true
      · exact (hirr _ _ hji (known_ok hf hk1)).elim
      · rw [if_neg hk1] at h4
        by_cases hk2 : known facts j i = true
        · rw [if_pos hk2] at h4
          exact chk_sound htr hirr hask hQ (k false) facts hf h4
        · rw [if_neg hk2, Bool.and_eq_true] at h4
          exact chk_sound htr hirr hask hQ (k false) _ (addF_ok htr hf hji) h4.2
end
end Mine
/-! A54 -/
namespace Mine
open PySem PySem.W PyProof.Rows
/-- the first of a tuple, a text -/
noncomputable def headOf : V → List Nat
  | .tup (.str s :: _) => s
  | _ => []
noncomputable def intsOnly : List V → Bool
  | [] => true
  | .int _ :: r => intsOnly r
  | _ => false
/-- a tuple of a text and numbers -/
noncomputable def textTup : V → Bool
  | .tup (.str s :: r) => s.all (· < 0x110000) && intsOnly r
  | _ => false
noncomputable def hlt (x y : V) : Bool := decide (headOf x < headOf y)
noncomputable def tins (x : V) : List V → List V
  | [] => [x]
  | y :: ys => if hlt x y then x :: y :: ys else y :: tins x ys
noncomputable def tsort : List V → List V
  | [] => []
  | x :: xs => tins x (tsort xs)
noncomputable def headsApart : List V → Bool
  | [] => true
  | x :: xs => xs.all (fun y => !(headOf x == headOf y)) && headsApart xs
theorem tins_perm (x : V) : ∀ l, (tins x l).Perm (x :: l)
  | [] => .refl _
  | y :: ys => by
    unfold tins
    split
    · exact .refl _
    · exact ((tins_perm x ys).cons y).trans (.swap ..)
theorem tsort_perm : ∀ l, (tsort l).Perm l
  | [] => .refl _
  | x :: xs => (tins_perm x _).trans ((tsort_perm xs).cons x)
theorem headsApart_iff : ∀ (l : List V), headsApart l = true ↔ (l.map headOf).Nodup
  | [] => by simp [headsApart]
  | x :: xs => by
    simp only [headsApart, Bool.and_eq_true, List.map_cons, List.nodup_cons, headsApart_iff xs, List.all_eq_true, Bool.not_eq_true', beq_eq_false_iff_ne, List.mem_map, not_exists, not_and]
    exact ⟨fun ⟨h1, h2⟩ => ⟨fun y hy e => h1 y hy e.symm, h2⟩, fun ⟨h1, h2⟩ => ⟨fun y hy e => h1 y hy e.symm, h2⟩⟩
theorem hlt_trans {x y z : V} (h1 : hlt x y = true) (h2 : hlt y z = true) : hlt x z = true := by
  simp only [hlt, decide_eq_true_eq] at *
  exact List.lt_trans h1 h2
theorem hlt_asymm {x y : V} (h1 : hlt x y = true) (h2 : hlt y x = true) : False := by
  simp only [hlt, decide_eq_true_eq] at *
  exact List.lt_asymm h1 h2
theorem hlt_total {x y : V} (h1 : hlt x y = false) (h2 : hlt y x = false) : headOf x = headOf y := by
  simp only [hlt, decide_eq_false_iff_not] at *
  exact List.le_antisymm (List.not_lt.mp h2) (List.not_lt.mp h1)
theorem tins_sorted (x : V) : ∀ l : List V, (∀ y ∈ l, headOf x ≠ headOf y) → l.Pairwise (fun a b => hlt a b = true) → (tins x l).Pairwise (fun a b => hlt a b = true)
  | [], _, _ => by simp [tins]
  | y :: ys, hne, h => by
    rw [List.pairwise_cons] at h
    unfold tins
    by_cases hxy : hlt x y = true
    · rw [if_pos hxy, List.pairwise_cons]
      refine ⟨fun z hz => ?_, List.pairwise_cons.mpr h⟩
      rcases List.mem_cons.mp hz with rfl | hz
      · exact hxy
      · exact hlt_trans hxy (h.1 z hz)
    · rw [if_neg hxy, List.pairwise_cons]
      refine ⟨fun z hz => ?_, tins_sorted x ys (fun z hz => hne z (.tail _ hz)) h.2⟩
      rcases List.mem_cons.mp ((tins_perm x ys).mem_iff.mp hz) with rfl | hz
      · cases hyx : hlt y z with
        | true => rfl
        | false => exact absurd (hlt_total (by simpa using hxy) hyx) (hne y (.head _))
      · exact h.1 z hz
theorem tsort_sorted : ∀ l : List V, (l.map headOf).Nodup → (tsort l).Pairwise (fun a b => hlt a b = true)
  | [], _ => .nil
  | x :: xs, h => by
    rw [List.map_cons, List.nodup_cons] at h
    refine tins_sorted x _ (fun y hy e => h.1 ?_) (tsort_sorted xs h.2)
    rw [e]
    exact List.mem_map.mpr ⟨y, (tsort_perm xs).mem_iff.mp hy, rfl⟩
theorem tsort_unique {l l' : List V} (p : l'.Perm l) (hl : (l.map headOf).Nodup) (h : l'.Pairwise (fun a b => hlt a b = true)) : l' = tsort l :=
  (p.trans (tsort_perm l).symm).eq_of_pairwise (fun _ _ _ _ h1 h2 => (hlt_asymm h1 h2).elim) h (tsort_sorted l hl)
section
variable {W : Wd} {A : Around} {E : Value → Shared → Prop} {s : Shared} {ρ : Rho} {h h' : PySem.Heap}
theorem intsOnly_cons {v : V} {r : List V} (e : intsOnly (v :: r) = true) : (∃ i, v = .int i) ∧ intsOnly r = true := by
  cases v with
  | int i => exact ⟨⟨i, rfl⟩, e⟩
  | _ => cases e
theorem ints_vals : ∀ (r : List V) {ms : List Value}, VReps ρ h r ms → intsOnly r = true → ∀ v ∈ ms, ∀ a, v ≠ Value.ref a := by
  intro r
  induction r with
  | nil => intro ms rs _ v hv; cases rs; cases hv
  | cons x r ih =>
    intro ms rs e v hv
    cases rs with
    | cons r1 r2 =>
      obtain ⟨⟨i, rfl⟩, e2⟩ := intsOnly_cons e
      cases r1
      rcases List.mem_cons.mp hv with rfl | hv
      · intro a h; cases h
      · exact ih r2 e2 v hv
theorem intsOnly_key : ∀ (r : List V), intsOnly r = true → V.keybs r = true ∧ V.depths r = 0 := by
  intro r
  induction r with
  | nil => exact fun _ => ⟨rfl, rfl⟩
  | cons x r ih =>
    intro e
    obtain ⟨⟨i, rfl⟩, e2⟩ := intsOnly_cons e
    obtain ⟨h1, h2⟩ := ih e2
    exact ⟨h1, by show max 0 (V.depths r) = 0; rw [h2]; rfl⟩
/-- what a tuple of a text and numbers is in the heap -/
theorem textTup_at {v : V} {mv : Value} (r : VRep ρ h v mv) (e : textTup v = true) : ∃ k x, v = .tup k ∧ mv = .ref x ∧ TextTup W h k x ∧
    ∃ o xs n t, h.get? x = some o ∧ o.cls = .type "tuple" ∧ o.data = .seq xs n ∧ xs[0]? = some (.str (strV (headOf v)) t) ∧ ∃ r, xs.toList = .str (strV (headOf v)) t :: r := by
  cases r with
  | @tup vs a o ms n ho hc hd hn rs =>
    cases rs' : ms.toList with
    | nil =>
      rw [rs'] at rs
      cases rs
      simp [textTup] at e
    | cons m ms' =>
      have rs0 := rs
      rw [rs'] at rs
      cases rs with
      | @cons v1 _ vs' _ r1 r2 =>
        cases r1 with
        | str y t =>
          simp only [textTup, Bool.and_eq_true] at e
          obtain ⟨k1, k2⟩ := intsOnly_key _ e.2
          refine ⟨.str y :: vs', a, rfl, rfl, ⟨⟨?_, ?_, ?_⟩, o, ms, n, strV y, t, ms', ho, hc, hd, rs', ints_vals _ r2 e.2⟩, o, ms, n, t, ho, hc, hd, ?_, ms', rs'⟩
          · exact .tup ho hc hd (by simp [muts, Rho.nil]) (rs0.plain0 (by simp only [V.plains, V.plain, Bool.and_eq_true]; exact ⟨e.1, V.keybs_plains k1⟩))
          · simp only [V.keybs, V.keyb, Bool.and_eq_true]; exact ⟨e.1, k1⟩
          · simp [V.depths, V.depth, k2]
          · have := congrArg (fun l : List Value => l[0]?) rs'
            simpa [headOf] using this
        | _ => simp [textTup] at e
  | _ => simp [textTup] at e
end
end Mine
/-! A55 -/
namespace Mine
open PySem PySem.W PyProof.Rows
section
variable {W : Wd} {A : Around} {E : Value → Shared → Prop} {s : Shared} {ρ : Rho} {h h' : PySem.Heap}
theorem VReps.at_ {vs : List V} {ms : List Value} (r : VReps ρ h vs ms) {i : Nat} (hi : i < vs.length) : VRep ρ h (vs.getD i .none) (ms.getD i .none) := by
  obtain ⟨m, e, r'⟩ := r.get i vs[i] (List.getElem?_eq_getElem hi)
  have e1 : vs.getD i .none = vs[i] := by simp [hi]
  have e2 : ms.getD i .none = m := by simp [e]
  rw [e1, e2]; exact r'
theorem VReps.perm_map {vs : List V} {ms : List Value} (r : VReps ρ h vs ms) : ∀ (p : List Nat), (∀ i ∈ p, i < vs.length) → VReps ρ h (p.map fun i => vs.getD i .none) (p.map fun i => ms.getD i .none)
  | [], _ => .nil
  | i :: p, hp => .cons (r.at_ (hp i (.head _))) (VReps.perm_map r p fun j hj => hp j (.tail _ hj))
theorem kat_tups (W : Wd) : ∀ {tups : List V} {vs : List Value}, VReps ρ s.heap tups vs → (∀ v ∈ tups, textTup v = true) → ∃ fs, KatTups s.heap vs fs ∧ fs.length = vs.length ∧ ∀ f ∈ fs, ∃ y t, f = Value.str y t
  | _, _, .nil, _ => ⟨[], KatTups.nil, rfl, by simp⟩
  | _, _, .cons r1 r2, ht => by
    obtain ⟨fs, h1, h2, h3⟩ := kat_tups W r2 fun v hv => ht v (.tail _ hv)
    obtain ⟨k, x, _, rfl, _, o, xs, n, t, ho, hc, hd, hx, _⟩ := textTup_at (W := W) r1 (ht _ (.head _))
    refine ⟨_, KatTups.cons ho hc hd hx h1, by simp [h2], fun f hf => ?_⟩
    rcases List.mem_cons.mp hf with rfl | hf
    · exact ⟨_, _, rfl⟩
    · exact h3 f hf
theorem ask_tups {u v : V} {mu mv : Value} {C : Bool → Shared → Prop} (ru : VRep ρ s.heap u mu) (rv : VRep ρ s.heap v mv) (hu : textTup u = true) (hv : textTup v = true) (hne : headOf u ≠ headOf v)
    (hC : C (hlt u v) s) : wpAny (model W.prog W.w) A (keyLt' (tuples' true) mu mv) C (fun _ _ => False) s := by
  obtain ⟨_, x, _, rfl, _, ox, xs, nx, tx, hox, hcx, hdx, hx0, rx, hxl⟩ := textTup_at (W := W) ru hu
  obtain ⟨_, y, _, rfl, _, oy, ys, ny, ty, hoy, hcy, hdy, hy0, ry, hyl⟩ := textTup_at (W := W) rv hv
  refine kat_lt hox hdx hoy hdy ?_
  rw [hxl, hyl, List.zip_cons_cons]
  refine kat_cons ?_
  refine (strKind W.prog W.w).eqBool (strKind_is _ _ _ _) (strKind_is _ _ _ _) ?_
  have : strV (headOf u) ≠ strV (headOf v) := fun e => hne (by have := congrArg PySem.Str.cps e; simpa [strV] using this)
  rw [decide_eq_false this]
  refine kat_no ?_
  exact oneLt_str hC
theorem list_sort_tups {a : Addr} {vs : List Value} {tups : List V} {n : Nat} {h0 : PySem.Heap} {P : PySem.Fin → Shared → Prop} (ho : s.heap.get? a = some (PyProof.Rows.seqObj "list" vs.toArray n)) (r0 : VReps ρ h0 tups vs) (k0 : ∀ b o, h0.get? b = some o → s.heap.get? b = some o) (ha0 : h0.get? a = none)
    (ht : ∀ v ∈ tups, textTup v = true) (hd : (tups.map headOf).Nodup) (h6 : vs.length ≤ 6)
    (hP : ∀ out h', VReps ρ h0 (tsort tups) out → h'.get? a = some (PyProof.Rows.seqObj "list" out.toArray n) ∨ (∃ e, h'.get? a = some (PyProof.Rows.seqObj "list" out.toArray e)) → (∀ b o, b ≠ a → s.heap.get? b = some o → h'.get? b = some o) → P (.done (.ret .none)) { s with heap := h' }) :
    wpAny (model W.prog W.w) A (Builtin.«list.sort» ⟨[.ref a], []⟩) P E s := by
  have ha : a < s.heap.objs.size := Heap.lt_size ho
  have hlen := r0.length
  have s1 := Heap.SameBut.update s.heap a (Obj.mapSeq fun _ => (#[] : Array Value))
  obtain ⟨e1, ho1⟩ : ∃ e1, (s.heap.update a (Obj.mapSeq fun _ => (#[] : Array Value))).get? a = some (PyProof.Rows.seqObj "list" #[] e1) := ⟨_, get?_update_seq ho fun _ => #[]⟩
  rw [list_sort_plain]
  refine wpAny_bind (listItems_at ho rfl ?_)
  refine wpAny_bind (listUpdate_at ho rfl ?_ (by rw [List.size_toArray, sizeLine_eq]; lia) (Nat.zero_le _))
  refine wpAny_bind (seqEpoch_at ho1 rfl ?_)
  refine wpAny_bind (wpAny_newTuple ?_ (by show vs.length ≤ _; rw [sizeLine_eq]; lia))
  refine wpAny_bind (wpAny_newList ?_ (Nat.zero_le _))
  refine wpAny_holding ?_
  show wpAny (model W.prog W.w) A _ P E { s with heap := ((s.heap.update a (Obj.mapSeq fun _ => (#[] : Array Value))).push (PyProof.Rows.seqObj "tuple" vs.toArray 0)).push (PyProof.Rows.seqObj "list" #[] 0) }
  generalize hH : ((s.heap.update a (Obj.mapSeq fun _ => (#[] : Array Value))).push (PyProof.Rows.seqObj "tuple" vs.toArray 0)).push (PyProof.Rows.seqObj "list" #[] 0) = H
  have hHa : H.get? a = some (PyProof.Rows.seqObj "list" #[] e1) := by rw [← hH]; exact Heap.get?_push_of_some _ (Heap.get?_push_of_some _ ho1)
  have hHk : ∀ b o, b ≠ a → s.heap.get? b = some o → H.get? b = some o := fun b o hb e => by rw [← hH]; exact Heap.get?_push_of_some _ (Heap.get?_push_of_some _ ((s1.2 b hb).trans e))
  have hH0 : ∀ b o, h0.get? b = some o → H.get? b = some o := fun b o e => hHk b o (fun z => by rw [z, ha0] at e; cases e) (k0 b o e)
  have rH : VReps ρ H tups vs := r0.mono (Ext.of_keeps (D := []) hH0)
  have fin : ∀ (st' : SortSt) (out : List Value), (arrOf st').map (·.2) = out.toArray → failedOf st' = none → VReps ρ h0 (tsort tups) out → out.length ≤ 6 → wpAny (model W.prog W.w) A (do
      let sorted := (arrOf st').map (·.2)
      let touched := (← seqEpoch a) != e1
      Builtin.List.listUpdate (.ref a) fun _ => sorted
      if let some e := failedOf st' then rule "list.sort.comparison-raised"; throw e
      if touched then rule "list.sort.modified"; raiseError "ValueError" "list modified during sort"
      ret .none) P E { s with heap := H } := by
    intro st' out hout hf ro hol
    dsimp only
    rw [hout]
    refine wpAny_bind (seqEpoch_at hHa rfl ?_)
    refine wpAny_bind (listUpdate_at hHa rfl ?_ (Nat.zero_le _) (by rw [List.size_toArray, sizeLine_eq]; lia))
    rw [hf]
    simp only [bne_self_eq_false, Bool.false_eq_true, if_false]
    refine wpAny_pure (hP out _ ro (.inr ⟨_, get?_update_seq hHa fun _ => out.toArray⟩) fun b o hb e => ?_)
    exact ((Heap.SameBut.update H a _).2 b hb).trans (hHk b o hb e)
  by_cases h2 : vs.toArray.size < 2
  · rw [if_pos h2, if_pos h2]
    refine wpAny_bind (wpAny_pure ?_)
    dsimp only
    rw [StateT.run_pure]
    refine wpAny_bind (wpAny_pure ?_)
    have hts : tsort tups = tups := by
      rw [List.size_toArray] at h2
      match tups, hlen with
      | [], _ => rfl
      | [x], _ => rfl
      | x :: y :: r, hl => simp at hl; lia
    refine fin (SortSt.mk' general' (vs.toArray.zip vs.toArray) #[] 7 none) vs ?_ rfl (by rw [hts]; exact r0) h6
    show (vs.toArray.zip vs.toArray).map (·.2) = vs.toArray
    apply Array.toList_inj.mp
    simp [List.map_snd_zip]
  · rw [if_neg h2, if_neg h2]
    rw [List.size_toArray] at h2
    obtain ⟨fs, hk1, hk2, hk3⟩ := kat_tups W (s := { s with heap := H }) rH ht
    refine wpAny_bind (kat_kind (T := .type "str") hk1 (by lia) (fun f hf => by obtain ⟨y, t, rfl⟩ := hk3 f hf; exact Looks.of_pure rfl) rfl ?_)
    have hb : (Value.type "str" != Value.type "tuple") = true := by decide
    rw [hb]
    refine wpAny_bind (wpAny_mono (kat_run (s := { s with heap := H }) (Q := fun st' s' => s' = { s with heap := H } ∧ ∃ p : Array Nat, p.toList.Perm (List.range vs.length) ∧ p.toList.Pairwise (fun i j => hlt (tups.getD i .none) (tups.getD j .none) = true) ∧
        arrOf st' = p.map (kas_item (vs.toArray.zip vs.toArray)) ∧ failedOf st' = none) (G := fun p s' => s' = { s with heap := H } ∧ p.toList.Perm (List.range vs.length) ∧ p.toList.Pairwise (fun i j => hlt (tups.getD i .none) (tups.getD j .none) = true))
      rfl (by lia) (by lia) (fun p st' s' a1 a2 a3 a4 => ⟨a4.1, p, a4.2.1, a4.2.2, a2, a3⟩) ?_) ?_ fun _ _ x => x)
    · refine chk_sound (n := vs.length) (lt := fun i j => hlt (tups.getD i .none) (tups.getD j .none) = true) (fun i j k => hlt_trans) (fun i j => hlt_asymm) (fun i j hi hj hij C h1 h2 => ?_) (fun p h1 h2 => ⟨rfl, h1, h2⟩) _ [] (by simp) (chk_all _ (by lia) h6)
      rw [← hlen] at hi hj
      have e1' : tups.getD i .none = tups[i] := by simp [hi]
      have e2' : tups.getD j .none = tups[j] := by simp [hj]
      have hne : headOf (tups.getD i .none) ≠ headOf (tups.getD j .none) := fun e => hij (by
        rw [e1', e2'] at e
        have h1 : (tups.map headOf)[i]? = some (headOf tups[i]) := by simp [hi]
        have h2 : (tups.map headOf)[j]? = some (headOf tups[j]) := by simp [hj]
        rw [e] at h1
        exact (List.getElem?_inj (List.getElem?_eq_some_iff.mp h1).1 hd).mp (h1.trans h2.symm))
      refine ask_tups (W := W) (s := { s with heap := H }) (rH.at_ hi) (rH.at_ hj) (by rw [e1']; exact ht _ (List.getElem_mem hi)) (by rw [e2']; exact ht _ (List.getElem_mem hj)) hne ?_
      cases hc : hlt (tups.getD i .none) (tups.getD j .none) with
      | true => exact h1 hc
      | false =>
        refine h2 ?_
        cases hc2 : hlt (tups.getD j .none) (tups.getD i .none) with
        | true => rfl
        | false => exact absurd (hlt_total hc hc2) hne
    · rintro ⟨⟨⟩, st'⟩ s' ⟨rfl, p, hp1, hp2, har, hf⟩
      have hlt : ∀ i ∈ p.toList, i < tups.length := fun i hi => by rw [hlen]; exact List.mem_range.mp (hp1.mem_iff.mp hi)
      have hsorted : (p.toList.map fun i => tups.getD i V.none) = tsort tups := by
        refine tsort_unique ?_ hd ?_
        · refine (hp1.map _).trans ?_
          have : (List.range vs.length).map (fun i => tups.getD i V.none) = tups := by
            apply List.ext_getElem
            · simp [hlen]
            · intro i h1 h2
              simp [h2]
          rw [this]
        · rw [List.pairwise_map]; exact hp2
      refine fin st' (p.toList.map fun i => vs.getD i Value.none) (kat_snds rfl har) hf ?_ ?_
      · rw [← hsorted]; exact r0.perm_map _ hlt
      · rw [List.length_map, hp1.length_eq, List.length_range]; exact h6
end
end Mine
/-! A56 -/
namespace Mine
open PySem PySem.W PyProof.Rows
theorem slot_fresh {f m : Nat} {led : Bool} (j : Nat) : (SetTable.fresh f m led).slot j = .empty := slot_out rfl (by simp [SetTable.fresh])
theorem freeSlot_fresh (f m : Nat) (led : Bool) (h : Int) : (SetTable.fresh f m led).freeSlot h = some (((SetTable.fresh f m led).probeStart h).j, false) := by
  have : (SetTable.fresh f m led).probe (fun _ => h + 1) h ((SetTable.fresh f m led).probeStart h) = some (.empty ((SetTable.fresh f m led).probeStart h).j none) := by
    unfold SetTable.probe
    rw [show (10 * SetTable.turns (SetTable.fresh f m led).mask : Nat) = 219 + 1 from rfl, SetTable.probe.go, slot_fresh]
    rfl
  unfold SetTable.freeSlot
  rw [this]
  rfl
theorem layNew_fresh (led : Bool) (h : Int) (x : Value) : ∃ t, layNew (.fresh 0 0 led) #[] h x = (#[(h, x)], t, false, false) ∧ t.fits 1 = true ∧ t.led = led ∧ t.tooFull = false ∧ t.plain = true := by
  unfold layNew
  rw [freeSlot_fresh]
  generalize ((SetTable.fresh 0 0 led).probeStart h).j = j
  have hb : SetTable.below (SetTable.fresh 0 0 led).place j = 0 := Nat.le_zero.mp (below_le _ _)
  have hp : (SetTable.fresh 0 0 led).put j = ({ mask := 7, place := #[j], dummies := #[], finger := 0, led := led, moves := 0, plain := true }, 0) := by
    unfold SetTable.put
    dsimp only
    rw [hb]
    show (({ mask := 7, place := SetTable.insertAt #[] 0 j, dummies := if SetTable.has #[] j then _ else _, finger := 0, led := led, moves := 0, plain := true } : SetTable), 0) = _
    rw [has_nil, if_neg Bool.false_ne_true]
    rfl
  dsimp only
  rw [hp]
  refine ⟨{ mask := 7, place := #[j], dummies := #[], finger := 0, led := led, moves := 0, plain := true }, ?_, rfl, rfl, rfl, rfl⟩
  rfl
noncomputable def OneInt (W : Wd) (i : Int) (es : Array (Int × Value)) (t : SetTable) : Prop := ∃ u, es = #[((intKind W.prog W.w).hash i, .int i u)] ∧ t.fits 1 = true ∧ t.led = !byText W
noncomputable def ISet (W : Wd) (i : Int) (h : PySem.Heap) (S : Addr) : Prop := ∃ o es ep t, h.get? S = some o ∧ o.ExactSet ∧ o.data = .set es ep t ∧ OneInt W i es t
section
variable {W : Wd} {A : Around} {E : Value → Shared → Prop} {s : Shared} {S : Addr} {i : Int}
theorem add_int_first {u : Tok} (hS : s.heap.get? S = some (newSetObj W)) {Q : Bool → Shared → Prop} (k : ∀ b h' tk, Heap.SameBut S s.heap h' → ISet W i h' S → Q b { s with heap := h', toks := tk }) :
    wpAny (model W.prog W.w) A (setAdd S (.int i u)) Q E s := by
  unfold setAdd
  refine wpAny_holding (wpAny_bind ((intKind W.prog W.w).pyHash (k := i) (intKind_is _ _ _ _) ?_))
  unfold setAddHashed
  refine wpAny_holding ?_
  unfold setAddHashedIn
  refine wpAny_bind (wpAny_setState_of hS rfl rfl ?_)
  dsimp only
  rw [if_pos (by simp [byScan, Value.scannable, scanBound])]
  unfold setAddByScan
  refine wpAny_bind (wpAny_bind (wpAny_rule ?_))
  refine wpAny_bind (m := setScan _ _ _ _ _) (wpAny_pure (a := ScanMet.absent) ?_)
  dsimp only
  obtain ⟨t, hl, hf, hled, hfull, hpl⟩ := layNew_fresh (!byText W) ((intKind W.prog W.w).hash i) (.int i u)
  rw [hl]
  dsimp only
  refine wpAny_bind (m := pure ()) (wpAny_pure ?_)
  rw [if_pos hpl]
  refine wpAny_bind (wpAny_of_eq (a := true) rfl ?_)
  rw [if_pos rfl]
  refine wpAny_bind (wpAny_storeSet_of hS rfl ?_ (by show 1 ≤ _; rw [sizeLine_eq]; lia))
  rw [if_neg (by simp [hfull])]
  refine wpAny_pure (wpAny_pure (k true _ _ (Heap.SameBut.update ..) ⟨_, _, _, _, get_putSet hS rfl _ _, ⟨rfl, rfl, rfl⟩, rfl, u, rfl, hf, hled⟩))
theorem add_int_again {u : Tok} (H : ISet W i s.heap S) {Q : Bool → Shared → Prop} (k : ∀ b tk, Q b { s with toks := tk }) : wpAny (model W.prog W.w) A (setAdd S (.int i u)) Q E s := by
  obtain ⟨o, es, ep, t, ho, hx, hd, u', rfl, hf, hled⟩ := H
  unfold setAdd
  refine wpAny_holding (wpAny_bind ((intKind W.prog W.w).pyHash (k := i) (intKind_is _ _ _ _) ?_))
  unfold setAddHashed
  refine wpAny_holding ?_
  unfold setAddHashedIn
  refine wpAny_bind (wpAny_setState_of ho hd hf ?_)
  dsimp only
  rw [if_pos (by simp [byScan, Value.scannable, scanBound])]
  unfold setAddByScan
  refine wpAny_bind (wpAny_bind (wpAny_rule ?_))
  refine wpAny_bind ?_
  show wpAny _ _ (setScanFrom S (.int i u) ((intKind W.prog W.w).hash i) true [((intKind W.prog W.w).hash i, .int i u')] 0) _ _ _
  unfold setScanFrom
  rw [if_pos (by simp)]
  refine wpAny_bind (wpAny_setEpoch_of ho hd hf ?_)
  refine wpAny_bind ((intKind W.prog W.w).eqBool (a := i) (b := i) (intKind_is _ _ _ _) (intKind_is _ _ _ _) ?_)
  rw [if_pos (by simp)]
  exact wpAny_pure (wpAny_pure (wpAny_pure (k false _)))
end
end Mine
/-! A57 -/
namespace Mine
open PySem PySem.W PyProof.Rows
noncomputable def sameInts : List V → Bool
  | [] => true
  | .int i :: r => r.all fun v => V.beq v (.int i)
  | _ => false
/-- sorted(set(v)) -/
noncomputable def setSortM (v : V) : Option V := match v with
  | .list vs => if sameInts vs then some (.list (vs.take 1)) else if vs.all textTup && headsApart vs && Nat.ble vs.length 6 then some (.list (tsort vs)) else .none
  | _ => .none
section
variable {W : Wd} {A : Around} {E : Value → Shared → Prop} {s : Shared} {ρ : Rho} {h h' : PySem.Heap}
theorem VReps.mem_ref : ∀ {d : List V} {ps : List Addr}, VReps ρ h d (ps.map .ref) → ∀ p ∈ ps, ∃ v ∈ d, VRep ρ h v (.ref p)
  | [], [], _, p, hp => nomatch hp
  | v :: d, q :: ps, .cons r1 r2, p, hp => by
    rcases List.mem_cons.mp hp with rfl | hp
    · exact ⟨v, .head _, r1⟩
    · obtain ⟨u, hu, r⟩ := VReps.mem_ref r2 p hp
      exact ⟨u, .tail _ hu, r⟩
  | [], _ :: _, r, _, _ => nomatch r
  | _ :: _, [], r, _, _ => nomatch r
theorem set_scratch {o : Obj} {es : Array (Int × Value)} {ep : Nat} {t : SetTable} (hx : o.ExactSet) (hd : o.data = .set es ep t) : Scratch o :=
  ⟨by simp [softObj, hd], by rw [hx.1]; decide, by rw [hx.1]; decide, by rw [hx.1]; decide, by rw [hx.1]; simp⟩
theorem list_sort_few {a : Addr} {vs : List Value} {n : Nat} {P : PySem.Fin → Shared → Prop} (ho : s.heap.get? a = some (PyProof.Rows.seqObj "list" vs.toArray n)) (h1 : vs.length < 2)
    (hP : ∀ h', (∃ e, h'.get? a = some (PyProof.Rows.seqObj "list" vs.toArray e)) → (∀ b o, b ≠ a → s.heap.get? b = some o → h'.get? b = some o) → P (.done (.ret .none)) { s with heap := h' }) :
    wpAny (model W.prog W.w) A (Builtin.«list.sort» ⟨[.ref a], []⟩) P E s := by
  have ha : a < s.heap.objs.size := Heap.lt_size ho
  have s1 := Heap.SameBut.update s.heap a (Obj.mapSeq fun _ => (#[] : Array Value))
  obtain ⟨e1, ho1⟩ : ∃ e1, (s.heap.update a (Obj.mapSeq fun _ => (#[] : Array Value))).get? a = some (PyProof.Rows.seqObj "list" #[] e1) := ⟨_, get?_update_seq ho fun _ => #[]⟩
  rw [list_sort_plain]
  refine wpAny_bind (listItems_at ho rfl ?_)
  refine wpAny_bind (listUpdate_at ho rfl ?_ (by rw [List.size_toArray, sizeLine_eq]; lia) (Nat.zero_le _))
  refine wpAny_bind (seqEpoch_at ho1 rfl ?_)
  refine wpAny_bind (wpAny_newTuple ?_ (by show vs.length ≤ _; rw [sizeLine_eq]; lia))
  refine wpAny_bind (wpAny_newList ?_ (Nat.zero_le _))
  refine wpAny_holding ?_
  show wpAny (model W.prog W.w) A _ P E { s with heap := ((s.heap.update a (Obj.mapSeq fun _ => (#[] : Array Value))).push (PyProof.Rows.seqObj "tuple" vs.toArray 0)).push (PyProof.Rows.seqObj "list" #[] 0) }
  generalize hH : ((s.heap.update a (Obj.mapSeq fun _ => (#[] : Array Value))).push (PyProof.Rows.seqObj "tuple" vs.toArray 0)).push (PyProof.Rows.seqObj "list" #[] 0) = H
  have hHa : H.get? a = some (PyProof.Rows.seqObj "list" #[] e1) := by rw [← hH]; exact Heap.get?_push_of_some _ (Heap.get?_push_of_some _ ho1)
  have hHk : ∀ b o, b ≠ a → s.heap.get? b = some o → H.get? b = some o := fun b o hb e => by rw [← hH]; exact Heap.get?_push_of_some _ (Heap.get?_push_of_some _ ((s1.2 b hb).trans e))
  have h2 : vs.toArray.size < 2 := by rw [List.size_toArray]; exact h1
  rw [if_pos h2, if_pos h2]
  refine wpAny_bind (wpAny_pure ?_)
  dsimp only
  rw [StateT.run_pure]
  refine wpAny_bind (wpAny_pure ?_)
  have hout : (vs.toArray.zip vs.toArray).map (·.2) = vs.toArray := by
    apply Array.toList_inj.mp
    simp [List.map_snd_zip]
  dsimp only
  rw [hout]
  refine wpAny_bind (seqEpoch_at hHa rfl ?_)
  refine wpAny_bind (listUpdate_at hHa rfl ?_ (Nat.zero_le _) (by rw [List.size_toArray, sizeLine_eq]; lia))
  simp only [bne_self_eq_false, Bool.false_eq_true, if_false]
  refine wpAny_pure (hP _ ⟨_, get?_update_seq hHa fun _ => vs.toArray⟩ fun b o hb e => ?_)
  exact ((Heap.SameBut.update H a _).2 b hb).trans (hHk b o hb e)
/-- sorted over a set -/
theorem sorted_set {S : Addr} {oS : Obj} {es : Array (Int × Value)} {ep : Nat} {t : SetTable} {tups : List V} (hh : A.handled = none) (hS : s.heap.get? S = some oS) (hx : oS.ExactSet) (hd : oS.data = .set es ep t) (hf : t.fits es.size = true) (hw : Walkable W es t)
    (hz : es.size ≤ 6) (r : ∀ out : List Value, out.Perm (es.toList.map (·.2)) → ∃ tups', tups'.Perm tups ∧ VReps ρ s.heap tups' out) (hk : es.size < 2 ∨ ((∀ v ∈ tups, textTup v = true) ∧ (tups.map headOf).Nodup)) {Q : Value → Shared → Prop}
    (h : ∀ L h' tk d out, h'.get? L = some (PyProof.Rows.seqObj "list" out.toArray 0) ∨ (∃ e, h'.get? L = some (PyProof.Rows.seqObj "list" out.toArray e)) → s.heap.get? L = none → (∀ b o, s.heap.get? b = some o → h'.get? b = some o) →
      VReps ρ s.heap (if es.size < 2 then tups else tsort tups) out → Q (.ref L) { s with heap := h', toks := tk, drawn := d }) :
    wpAny (model W.prog W.w) A (call (.builtin "sorted") [.ref S]) Q E s := by
  refine Calls.call_function_entry kind_sorted plain_sorted entry_sorted (args_sorted1 _) ?_
  unfold Builtin.«sorted»
  refine wpAny_bind (m := checkCount "sorted" 1 1 _) (wpAny_pure ?_)
  refine wpAny_bind (collect_set (by simp [hh]) hS hx hd hf hw (by lia) fun out h1 tk d hp k1 => ?_)
  obtain ⟨tups', hp', ro⟩ := r out hp
  have hol : out.length = es.size := by
    have := hp.length_eq
    simpa using this
  refine wpAny_bind (wpAny_newList ?_ (by rw [hol, sizeLine_eq]; lia))
  have hoL : (h1.push (PyProof.Rows.seqObj "list" out.toArray 0)).get? h1.objs.size = some (PyProof.Rows.seqObj "list" out.toArray 0) := Heap.get?_push_size _ rfl
  have hn1 : s.heap.get? h1.objs.size = none := by
    cases z : s.heap.get? h1.objs.size with
    | none => rfl
    | some o => exact absurd (Heap.lt_size (k1 _ _ z)) (Nat.lt_irrefl _)
  have k2 : ∀ b o, s.heap.get? b = some o → (h1.push (PyProof.Rows.seqObj "list" out.toArray 0)).get? b = some o := fun b o e => Heap.get?_push_of_some _ (k1 b o e)
  have tail : ∀ h' out', (∃ e, h'.get? h1.objs.size = some (PyProof.Rows.seqObj "list" out'.toArray e)) → (∀ b o, b ≠ h1.objs.size → (h1.push (PyProof.Rows.seqObj "list" out.toArray 0)).get? b = some o → h'.get? b = some o) →
      VReps ρ s.heap (if es.size < 2 then tups else tsort tups) out' → Q (.ref h1.objs.size) { s with heap := h', toks := tk, drawn := d } := fun h' out' e k3 ro' =>
    h _ h' tk d out' (.inr e) hn1 (fun b o eb => k3 b o (fun z => by rw [z, hn1] at eb; cases eb) (k2 b o eb)) ro'
  show wpAny _ _ _ _ _ { s with heap := h1.push (PyProof.Rows.seqObj "list" out.toArray 0), toks := tk, drawn := d }
  refine wpAny_bind (wpAny_holding (wpAny_call_entry slot_list_sort ⟨_, hoL, rfl⟩ entry_list_sort ?_ (args_list_sort _)))
  by_cases h2 : es.size < 2
  · have ht : tups' = tups := by
      have l1 := ro.length
      rw [hol] at l1
      have l2 := hp'.length_eq
      match tups', tups, hp', l1, l2 with
      | [], [], _, _, _ => rfl
      | [x], [y], hp', _, _ => exact congrArg (fun z => [z]) (by simpa using hp')
      | x :: y :: r, _, _, l1, _ => simp at l1; lia
    refine list_sort_few hoL (by lia) fun h' e k3 => ⟨_, rfl, wpAny_pure ⟨_, rfl, tail h' out e k3 ?_⟩⟩
    rw [if_pos h2, ← ht]
    exact ro
  · obtain ⟨hk1, hk2⟩ := hk.resolve_left h2
    have hts : tsort tups' = tsort tups := tsort_unique ((tsort_perm tups').trans hp') hk2 (tsort_sorted tups' ((hp'.map headOf).nodup_iff.mpr hk2))
    refine list_sort_tups (h0 := s.heap) hoL ro k2 hn1 (fun v hv => hk1 v (hp'.mem_iff.mp hv)) ((hp'.map headOf).nodup_iff.mpr hk2) (by lia) fun out' h' ro' e k3 => ⟨_, rfl, wpAny_pure ⟨_, rfl, tail h' out' ?_ k3 ?_⟩⟩
    · rcases e with e | e
      · exact ⟨0, e⟩
      · exact e
    · rw [if_neg h2, ← hts]; exact ro'
end
end Mine
/-! A58 -/
namespace Mine
open PySem PySem.W PyProof.Rows
noncomputable def eSetSort (f : ME V) : ME V := f.bind fun v => fun _ σ => Res.ofOpt (setSortM v) σ
section
variable {W : Wd} {n : Nat} {sc : Scope} {a : Act} {fr : Loc} {ρ ρ' : Rho} {σ : Sto} {h h' : PySem.Heap} {s s' : Shared} {D : List Addr} {E : Value → Shared → Prop}
theorem St.kept3 {tk : Nat} {d : Drawn} (S : St W ρ σ s) (k : ∀ b o, s.heap.get? b = some o → h'.get? b = some o) : St W ρ σ { s with heap := h', toks := tk, drawn := d } ∧ Ext [] ρ s.heap ρ h' :=
  ⟨⟨S.heap.keeps k, S.gens, S.os⟩, Ext.of_keeps k⟩
theorem VReps.perm {ms out : List Value} (p : ms.Perm out) : ∀ {vs : List V}, VReps ρ h vs ms → ∃ vs', vs'.Perm vs ∧ VReps ρ h vs' out := by
  induction p with
  | nil => intro vs r; exact ⟨vs, .refl _, r⟩
  | cons x _ ih =>
    intro vs r
    cases r with
    | cons r1 r2 =>
      obtain ⟨vs', h1, h2⟩ := ih r2
      exact ⟨_ :: vs', h1.cons _, .cons r1 h2⟩
  | swap x y l =>
    intro vs r
    cases r with
    | cons r1 r2 => cases r2 with
      | cons r2 r3 => exact ⟨_ :: _ :: _, .swap .., .cons r2 (.cons r1 r3)⟩
  | trans _ _ ih1 ih2 =>
    intro vs r
    obtain ⟨v1, h1, r1⟩ := ih1 r
    obtain ⟨v2, h2, r2⟩ := ih2 r1
    exact ⟨v2, h2.trans h1, r2⟩
theorem sameInts_cases {vs : List V} (e : sameInts vs = true) : vs = [] ∨ ∃ i r, vs = .int i :: r ∧ ∀ v ∈ vs, v = .int i := by
  match vs, e with
  | [], _ => exact .inl rfl
  | .int i :: r, e =>
    refine .inr ⟨i, r, rfl, fun v hv => ?_⟩
    rcases List.mem_cons.mp hv with rfl | hv
    · rfl
    · simp only [sameInts, List.all_eq_true] at e
      exact (V.beq_iff _ _).mp (e v hv)
  | .none :: _, e | .bool _ :: _, e | .str _ :: _, e | .tup _ :: _, e | .list _ :: _, e | .ref _ :: _, e => simp [sameInts] at e
theorem setSort_ok {v r : V} {mv : Value} {Q : Value → Shared → Prop} (ok : ActOk n a) (S : St W ρ σ s) (rv : VRep ρ s.heap v mv) (e : setSortM v = some r) (p : PostE W a ρ s (.ok r σ) Q E) :
    wpAny (model W.prog W.w) a.A (call (.type "set") [mv]) (fun x s1 => wpAny (model W.prog W.w) a.A (call (.builtin "sorted") [x]) Q E s1) E s := by
  cases v with
  | list vs =>
    cases rv with
    | @list _ l ol ms nl hol hcl hdl hnl rvs =>
    have rl : VRep ρ s.heap (.list vs) (.ref l) := .list hol hcl hdl hnl rvs
    -- the end
    have fin : ∀ (S0 : Addr) (oS : Obj) (es : Array (Int × Value)) (ep : Nat) (t : SetTable) (tups : List V) (h1 : PySem.Heap) (tk1 : Nat), (∀ b o, s.heap.get? b = some o → h1.get? b = some o) → h1.get? S0 = some oS → oS.ExactSet → oS.data = .set es ep t → t.fits es.size = true → Walkable W es t → es.size ≤ 6 →
        (∀ out : List Value, out.Perm (es.toList.map (·.2)) → ∃ tups', tups'.Perm tups ∧ VReps ρ h1 tups' out) → (es.size < 2 ∨ ((∀ v ∈ tups, textTup v = true) ∧ (tups.map headOf).Nodup)) → r = .list (if es.size < 2 then tups else tsort tups) →
        wpAny (model W.prog W.w) a.A (call (.builtin "sorted") [.ref S0]) Q E { s with heap := h1, toks := tk1 } := by
      intro S0 oS es ep t tups h1 tk1 k1 hS hx hd hf hw hz hr hk er
      obtain ⟨S1, x1⟩ := S.kept3 (tk := tk1) (d := s.drawn) k1
      refine sorted_set (s := { s with heap := h1, toks := tk1 }) (ρ := ρ) ok.hand hS hx hd hf hw hz hr hk fun L h2 tk2 d out e hn k2 ro => ?_
      obtain ⟨S2, x2⟩ := S1.kept3 (tk := tk2) (d := d) k2
      refine PostE.val p S2 (x1.trans x2) ?_
      obtain ⟨e0, he⟩ : ∃ e, h2.get? L = some (PyProof.Rows.seqObj "list" out.toArray e) := by
        rcases e with e | e
        · exact ⟨0, e⟩
        · exact e
      rw [er]
      refine .list he rfl rfl (fun hm => ?_) ?_
      · obtain ⟨ob, eb, _⟩ := S1.heap.mut_cls hm
        exact absurd (hn.symm.trans eb) (by simp)
      · exact ro.mono x2
    unfold setSortM at e
    by_cases hi : sameInts vs = true
    · simp only [hi, if_true, Option.some.injEq] at e
      subst e
      rcases sameInts_cases hi with rfl | ⟨i, vr, rfl, hall⟩
      · refine call_set_any (W := W) (ρ := ρ) (vs := []) (Inv := fun _ h => h.get? s.heap.objs.size = some (newSetObj W)) ok.hand rl (fun d h e => ⟨_, e, set_scratch (o := newSetObj W) ⟨rfl, rfl, rfl⟩ rfl⟩)
          (fun d h h' I e hs hne => hs.same _ _ (Ne.symm hne) e) (fun h' e => e) (fun A' E' d l v s' mv Q' _ e _ _ _ => by simp at e) fun h1 tk1 e k => ?_
        refine fin _ _ #[] 0 (.fresh 0 0 (!byText W)) [] h1 tk1 (fun b o e => k b o (Heap.lt_size e) e) e ⟨rfl, rfl, rfl⟩ rfl rfl ?_ (by simp) (fun out hp => ⟨[], .refl _, ?_⟩) (.inl (by simp)) (by simp)
        · unfold Walkable
          cases hb : byText W with
          | true => exact .inl rfl
          | false => exact .inr (.inl ⟨rfl, by simp, rfl⟩)
        · have : out = [] := by simpa using hp
          rw [this]; exact .nil
      · refine call_set_any (W := W) (ρ := ρ) (vs := .int i :: vr) (Inv := fun d h => match d with | [] => h.get? s.heap.objs.size = some (newSetObj W) | _ :: _ => ISet W i h s.heap.objs.size) ok.hand rl (fun d h e => ?_)
          (fun d h h' I e hs hne => ?_) (fun h' e => e) (fun A' E' d l v s' mv Q' _ e inv rv k => ?_) fun h1 tk1 e k => ?_
        · cases d with
          | nil => exact ⟨_, e, set_scratch (o := newSetObj W) ⟨rfl, rfl, rfl⟩ rfl⟩
          | cons x d => obtain ⟨o, es, ep, t, ho, hx, hd, _⟩ := e; exact ⟨o, ho, set_scratch hx hd⟩
        · cases d with
          | nil => exact hs.same _ _ (Ne.symm hne) e
          | cons x d => obtain ⟨o, es, ep, t, ho, r⟩ := e; exact ⟨o, es, ep, t, hs.same _ _ (Ne.symm hne) ho, r⟩
        · have hv : v = .int i := hall v (by rw [e]; simp)
          subst hv
          cases rv with
          | int _ u =>
          cases d with
          | nil => exact add_int_first inv fun b h' tk hs hi => k b h' tk hs hi
          | cons x d => exact add_int_again inv fun b tk => k b s'.heap tk (Heap.SameBut.refl _ _) inv
        · obtain ⟨o, es, ep, t, ho, hx, hd, u, rfl, hf, hled⟩ := e
          refine fin _ o _ ep t [.int i] h1 tk1 (fun b o e => k b o (Heap.lt_size e) e) ho hx hd hf ?_ (by simp) (fun out hp => ⟨[.int i], .refl _, ?_⟩) (.inl (by simp)) (by simp)
          · unfold Walkable
            cases hb : byText W with
            | true => exact .inl rfl
            | false => exact .inr (.inl ⟨rfl, by simp, by rw [hled, hb]; rfl⟩)
          · have : out = [.int i u] := by simpa using hp
            rw [this]; exact .cons (.int _ _) .nil
    · simp only [hi, Bool.false_eq_true, if_false] at e
      split at e
      · rename_i hc
        cases e
        simp only [Bool.and_eq_true, List.all_eq_true, Nat.ble_eq] at hc
        obtain ⟨⟨ht, ha⟩, h6⟩ := hc
        have hnd := (headsApart_iff vs).mp ha
        refine call_set_any (W := W) (ρ := ρ) (vs := vs) (Inv := fun d h => ∃ ps, TSet W h s.heap.objs.size ps ∧ VReps ρ h d (ps.map .ref)) ok.hand rl (fun d h e => ?_) (fun d h h' I e hs hne => ?_) (fun h' e => ?_)
          (fun A' E' d l v s' mv Q' hu e inv rv k => ?_) fun h1 tk1 e k => ?_
        · obtain ⟨ps, ⟨o, es, ep, t, ho, hx, hd, _⟩, _⟩ := e
          exact ⟨o, ho, set_scratch hx hd⟩
        · obtain ⟨ps, ⟨o, es, ep, t, ho, r⟩, rr⟩ := e
          exact ⟨ps, ⟨o, es, ep, t, hs.same _ _ (Ne.symm hne) ho, r⟩, rr.side hs⟩
        · exact ⟨[], ⟨_, #[], 0, _, e, ⟨rfl, rfl, rfl⟩, rfl, rfl, .inl rfl, rfl, by simp [SetTable.fresh], rfl, by simp, by simp⟩, .nil⟩
        · obtain ⟨ps, T, rr⟩ := inv
          have hv : v ∈ vs := by rw [e]; simp
          obtain ⟨kk, x, rfl, rfl, TT, _⟩ := textTup_at (W := W) rv (ht _ hv)
          have hlen : ps.length = d.length := by
            have := rr.length
            simpa using this.symm
          have hdl : d.length + 1 ≤ vs.length := by rw [e]; simp
          refine set_add_tup T ?_ TT (fun p hp => ?_) (by lia) fun h' tk hs hT => k true h' tk hs ⟨ps ++ [x], hT, ?_⟩
          · show A'.units + 64 < cLine
            have := ok.units
            lia
          · obtain ⟨w, hw, rw'⟩ := rr.mem_ref p hp
            obtain ⟨k', x', rfl, ex', TT', _⟩ := textTup_at (W := W) rw' (ht w (by rw [e]; simp [hw]))
            cases ex'
            refine ⟨k', TT', fun z => ?_⟩
            subst z
            rw [e, List.map_append, List.nodup_append] at hnd
            exact hnd.2.2 _ (List.mem_map.mpr ⟨_, hw, rfl⟩) _ (List.mem_map.mpr ⟨_, .head _, rfl⟩) rfl
          · obtain ⟨o, es, ep, t, ho, hx, hd, _⟩ := T
            have sd : Side s.heap.objs.size s'.heap h' := ⟨fun b o hb e => (hs.2 b hb).trans e, ⟨o, ho, set_scratch hx hd⟩⟩
            rw [List.map_append]
            exact (rr.side sd).append (.cons (rv.side sd) .nil)
        · obtain ⟨ps, ⟨o, es, ep, t, ho, hx, hd, T⟩, rr⟩ := e
          have hlen : es.size = vs.length := by
            have := rr.length
            rw [T.len]
            simpa using this.symm
          refine fin _ o es ep t vs h1 tk1 (fun b o e => k b o (Heap.lt_size e) e) ho hx hd ?_ ?_ (by lia) (fun out hp => ?_) (.inr ⟨ht, hnd⟩) ?_
          · have := T.room
            simp only [SetTable.fits, SetTable.fill, T.fit, T.dum, Bool.and_eq_true, beq_iff_eq, decide_eq_true_eq]
            refine ⟨trivial, ?_⟩
            simp
            lia
          · unfold Walkable
            cases hb : byText W with
            | true => exact .inl rfl
            | false =>
              rcases Nat.lt_or_ge es.size 2 with hz | hz
              · exact .inr (.inl ⟨rfl, by lia, by rw [T.led, hb]; rfl⟩)
              · exact .inr (.inr ⟨rfl, hz, T.plain (by lia)⟩)
          · exact VReps.perm (hp.trans T.elems).symm rr
          · split
            · rename_i hz
              rw [hlen] at hz
              match vs, hz with
              | [], _ => rfl
              | [x], _ => rfl
              | x :: y :: r, hz => simp at hz; lia
            · rfl
      · cases e
  | _ => simp [setSortM] at e
theorem DenE.setSort {e : PySem.Expr} {p0 p1 p2 p3 : Pos} {f : ME V} (hf : DenE W n sc e f) (he : ∀ env : Env, starEach [e] env = (false, eval e env) :: starEach [] env)
    (he' : ∀ env : Env, starEach [.Call (.Name (PySem.Str.ofString "set") p1) [e] [] p2] env = (false, eval (.Call (.Name (PySem.Str.ofString "set") p1) [e] [] p2) env) :: starEach [] env)
    (hp : PlainArgs p2 [e]) (hp' : PlainArgs p3 [.Call (.Name (PySem.Str.ofString "set") p1) [e] [] p2])
    (hx : sc.names.lookup (PySem.Str.ofString "sorted") = some .globalImplicit) (e1 : nsIn W.K mainGlobals (PySem.Str.ofString "sorted") = some Option.none)
    (hy : sc.names.lookup (PySem.Str.ofString "set") = some .globalImplicit) (e2 : nsIn W.K mainGlobals (PySem.Str.ofString "set") = some Option.none) :
    DenE W n sc (.Call (.Name (PySem.Str.ofString "sorted") p0) [.Call (.Name (PySem.Str.ofString "set") p1) [e] [] p2] [] p3) (eSetSort f) := by
  intro a ok hsc ρ σ fr s S F Q E p
  subst hsc
  have nilS : ∀ {pos : Pos} {s : Shared} {Q : List Value → Shared → Prop}, Q [] s → wpAny (model W.prog W.w) a.A (spliced (backTo pos (starEach [] a.env))) Q E s := fun q => by
    exact wpAny_pure q
  refine Call_Name rfl (load_blt (v := .builtin "sorted") ok S hx e1 (BK.boot .sorted) (by decide) rfl ?_)
  refine Calls.callWith_builtin (hp' _) (args_all (hp' _) (args_cons ?_ (he' _)))
  refine Call_Name rfl (load_blt (v := .type "set") ok S hy e2 (by decide +kernel) (by decide) rfl ?_)
  refine PySem.callWith_type (hp _) (args_all (hp _) (args_cons ?_ (he _)))
  refine hf.bind ok rfl S F p fun v σ1 ρ1 s1 mv S1 F1 x1 r1 p1 => nilS ?_
  dsimp only at p1
  cases hb : setSortM v with
  | none => rw [hb] at p1; exact p1.elim
  | some r =>
    rw [hb] at p1
    exact wpAny_mono (setSort_ok ok S1 r1 hb p1) (fun x s2 hx => nilS hx) fun _ _ x => x
end
end Mine
/-! B0 -/
namespace Mine
open PySem PySem.W PyProof.Rows
set_option genInjectivity false in
set_option genSizeOfSpec false in
theorem CallOk.le {W : Wd} {m n : Nat} {f : Addr} {g : List V → Sto → Res V} (h : CallOk W m f g) (hl : m ≤ n) : CallOk W n f g :=
  fun A l r => h A l ⟨r.hand, r.frames, by have := r.depth; lia, by have := r.units; lia⟩
/-- what is looked at of a def -/
structure FnAt (K : Frag) (a : Addr) (P : FnParts) : Prop where
  keep : keepIn K (.ref a) = true
  typ : typeIn K (.ref a) = some (.type "function")
  fd : ∃ o fd, K.lookup a = some o ∧ o.data = .func fd ∧ fd.body = .stmts P.body ∧ fd.scope = P.scope ∧ fd.params = P.params ∧ fd.globals = mainGlobals ∧ fd.closure = [] ∧ fd.builtins = builtinsNs ∧ fd.defaults = .none ∧ fd.kwdefaults = .none ∧ codeIn K fd.code fd.qualname = true
structure ScOk (sc : Scope) : Prop where
  co : sc.isCoroutine = false
  gen : sc.isGenerator = false
  kind : sc.kind = .function
  names : (sc.names.map (·.1)).Nodup
end Mine
/-! D1 -/
namespace Mine
open PySem PySem.W PyProof.Rows PySem.Calls
noncomputable def v36 (K : Frag) : Option (Value × Option Addr × Array Value × Array (Option Value)) := match K.lookup 36 with
  | some ⟨c, d, .fields vs, s⟩ => some (c, d, vs, s)
  | _ => none
noncomputable def cd72 : ClassData := { name := "LimitFault", bases := [.ref 47], mro := [.ref 72, .ref 47, .type "Exception", .type "BaseException", .type "object"], ns := 71, qualname := "LimitFault" }
/-- what is looked at of the own exceptions -/
structure ExcAt (K : Frag) : Prop where
  o72 : K.lookup 72 = some (excClassObj "LimitFault" "LimitFault" 72 71 [.ref 47] [.ref 47, .type "Exception", .type "BaseException", .type "object"] true [] [] false none none (some (.ref 63)) none (some (.str "LimitFault" 250)) (some (.str "LimitFault" 258)) (some (.bool true)) "Exception.__new__")
  o37 : K.lookup 37 = some ⟨.type "function", none, .func f37, #[]⟩
  o36 : ∃ vs tf, K.lookup 36 = some ⟨.type "code", none, .fields vs, #[]⟩ ∧ vs[2]? = some (.str "/claim/cut.py" tf) ∧ codeIn K (.ref 36) "HeapError.__init__" = true
  o25 : K.lookup 25 = some ⟨.type "cell", none, .cell (some (.ref 47)), #[]⟩
  c47 : (clsIn K 47).isSome = true
  sup : nsIn K mainGlobals "super" = some none
  thr : nsIn K cStatics "thirdparty.any" = some none
  tak : takerIn K 72 "what" = some none
  set : findIn K (.ref 72) "__setattr__" = some (some (.builtin "object.__setattr__"))
  ini : findIn K (.ref 72) "__init__" = some (some (.ref 37))
  law : nsIn K mainGlobals "law" = some (some (.ref 538))
theorem exc_of {W : Wd} (hp : W.prog = law02.row.prog) (F : ExcAt W.K) : ExcCls W 72 := by
  obtain ⟨vs, tf, h36, h2, hc⟩ := F.o36
  obtain ⟨cdD, hD⟩ := Option.isSome_iff_exists.mp F.c47
  have h37 := F.o37
  have hb := (rfl : P37.body = P37.body)
  conv at hb => rhs; whnf
  have har : ∃ ar, (P37.params.posonlyargs ++ P37.params.args).head? = some ar ∧ ar.arg = "self" := by
    conv => arg 1; ext; lhs; lhs; whnf
    exact ⟨_, rfl, rfl⟩
  obtain ⟨ar, ha, har⟩ := har
  unfold f37 at h37
  rw [hb] at h37
  have hcC : clsIn W.K 72 = some cd72 := by unfold clsIn; rw [F.o72]; rfl
  have hm : ∀ b, mroIn W.K 72 b = some (cd72.mro.contains b) := fun b => by unfold mroIn; rw [hcC]; rfl
  exact excCls_make (cd := cd72) (ar := ar) h37 hc (fun env => ⟨_, rfl⟩) (fun a b => by kernel_rfl) ha har (by decide +kernel) (by decide +kernel) (by decide +kernel) h36 h2 (by rw [hp]; decide +kernel) F.o25 hD (by rw [hm]; decide +kernel) F.sup
    (by decide +kernel) (by decide +kernel) (by decide +kernel) (by decide +kernel) (by decide +kernel) (by decide +kernel) (by decide +kernel) (by decide +kernel) (by rw [hp]; decide +kernel) (by decide +kernel) F.thr hcC (by kernel_rfl) F.o72 PySem.F.excBase_Exception ⟨by decide +kernel, by decide +kernel, by decide +kernel, by decide +kernel⟩
    (by rw [hm]; decide +kernel) (by decide +kernel) rfl F.tak F.set F.ini (by show (W.K.lookup 37).map _ = _; rw [F.o37]; rfl)
end Mine
/-! B1 -/
namespace Mine
open PySem PySem.W PyProof.Rows
noncomputable def nmT : Nat → PySem.Str
  | 0 => PySem.Str.ofString "text"
  | 1 => PySem.Str.ofString "sign"
  | 2 => PySem.Str.ofString "nodes"
  | 3 => PySem.Str.ofString "self"
  | 4 => PySem.Str.ofString "numbers"
  | 5 => PySem.Str.ofString "weights"
  | 6 => PySem.Str.ofString "depths"
  | 7 => PySem.Str.ofString "op"
  | 8 => PySem.Str.ofString "node"
  | 9 => PySem.Str.ofString "kids"
  | 10 => PySem.Str.ofString "require"
  | 11 => PySem.Str.ofString "kid"
  | 12 => PySem.Str.ofString "n"
  | 13 => PySem.Str.ofString "above"
  | 14 => PySem.Str.ofString "lots"
  | 15 => PySem.Str.ofString "merged"
  | 16 => PySem.Str.ofString "a"
  | 17 => PySem.Str.ofString "kept"
  | 18 => PySem.Str.ofString "gone"
  | 19 => PySem.Str.ofString "find"
  | 20 => PySem.Str.ofString "b"
  | 21 => PySem.Str.ofString "bank"
  | 22 => PySem.Str.ofString "unions"
  | 23 => PySem.Str.ofString "edges"
  | 24 => PySem.Str.ofString "forest"
  | 25 => PySem.Str.ofString "known"
  | 26 => PySem.Str.ofString "waiting"
  | 27 => PySem.Str.ofString "backs"
  | 28 => PySem.Str.ofString "size"
  | 29 => PySem.Str.ofString "reason"
  | 30 => PySem.Str.ofString "merge"
  | 31 => PySem.Str.ofString "other"
  | 32 => PySem.Str.ofString "join"
  | 33 => PySem.Str.ofString "take"
  | 34 => PySem.Str.ofString "make"
  | 35 => PySem.Str.ofString "c"
  | 36 => PySem.Str.ofString "look_at"
  | 37 => PySem.Str.ofString "members"
  | 38 => PySem.Str.ofString "heap"
  | 39 => PySem.Str.ofString "mark"
  | 40 => PySem.Str.ofString "classes"
  | 41 => PySem.Str.ofString "key"
  | 42 => PySem.Str.ofString "found"
  | 43 => PySem.Str.ofString "nodes_of"
  | 44 => PySem.Str.ofString "rows"
  | 45 => PySem.Str.ofString "first"
  | 46 => PySem.Str.ofString "here"
  | 47 => PySem.Str.ofString "renewed"
  | 48 => PySem.Str.ofString "many"
  | 49 => PySem.Str.ofString "k"
  | 50 => PySem.Str.ofString "hand"
  | 51 => PySem.Str.ofString "cells"
  | 52 => PySem.Str.ofString "cell"
  | 53 => PySem.Str.ofString "script"
  | 54 => PySem.Str.ofString "wide"
  | 55 => PySem.Str.ofString "leaves"
  | 56 => PySem.Str.ofString "ops"
  | 57 => PySem.Str.ofString "late"
  | 58 => PySem.Str.ofString "last"
  | 59 => PySem.Str.ofString "deed"
  | 60 => PySem.Str.ofString "counts"
  | 61 => PySem.Str.ofString "upto"
  | 62 => PySem.Str.ofString "listed"
  | 63 => PySem.Str.ofString "nth"
  | 64 => PySem.Str.ofString "far"
  | 65 => PySem.Str.ofString "member"
  | 66 => PySem.Str.ofString "e"
  | 67 => PySem.Str.ofString "p"
  | 68 => PySem.Str.ofString "heap_now"
  | 69 => PySem.Str.ofString "add"
  | 70 => PySem.Str.ofString "settle"
  | 71 => PySem.Str.ofString "over"
  | _ => PySem.Str.ofString ""
noncomputable abbrev nT : Nat := 72
theorem nm_inj : ∀ i j, i < nT → j < nT → nmT i = nmT j → i = j := by
  have : ∀ i < nT, ∀ j < nT, nmT i = nmT j → i = j := by decide +kernel
  exact fun i j hi hj e => this i hi j hj e
theorem nm_d : ∀ i < nT, (nmT i == ("__debug__" : PySem.Str)) = false ∧ (nmT i == ("__classdict__" : PySem.Str)) = false := by decide +kernel
/-- what is looked at of a class -/
structure ClsAt (K : Frag) (c f : Addr) : Prop where
  dict : hasDictIn K c = true
  get : plainGet K c (PySem.Str.ofString "") = true
  over : plainOver K c = true
  makes : makesIn K c = true
  keep : keepIn K (.ref c) = true
  set : findIn K (.ref c) "__setattr__" = some (some (.builtin "object.__setattr__"))
  init : findIn K (.ref c) "__init__" = some (some (.ref f))
structure Facts (K : Frag) : Prop where
  ns : ∀ i, i < gN → nsIn K mainGlobals (gT i).1 = some (gT i).2
  find : ∀ i, i < fN → findIn K (.ref (fT i).1) (fT i).2.1 = some (fT i).2.2
  tak : ∀ i, i < tN → takerIn K (tT i).1 (tT i).2 = some Option.none
  cls : ∀ k, k < 4 → ClsAt K (clsT k) (iniT k)
  fn : ∀ i, i < kN → FnAt K (kA i) (kP i)
  excK : keepIn K (.ref 72) = true
  ex : ExcAt K
set_option genInjectivity false in
set_option genSizeOfSpec false in
structure WIn where
  w : World
  h₀ : PySem.Heap
  K : Frag
  mg : PySem.Str → Option Value
  mb : PySem.Str → Option Value
  gens : Array GenState
  os : OsState
  X : K.In h₀
  sys : ∃ o, h₀.get? sysModules = some o
  T : TopRead view (looseW view []) mg mb h₀
  F : Facts K
noncomputable def WIn.W (x : WIn) : Wd where
  prog := law02.row.prog
  w := x.w
  h₀ := x.h₀
  K := x.K
  p := view
  loose := looseW view []
  mg := x.mg
  mb := x.mb
  cls := clsT
  nm := nmT
  nN := nT
  gens := x.gens
  os := x.os
  X := x.X
  sys := x.sys
  T := x.T
  inj := nm_inj
theorem ltN {a b : Nat} (h : Nat.blt a b = true) : a < b := Nat.lt_of_succ_le (Nat.le_of_ble_eq_true h)
theorem WIn.ns (x : WIn) (i : Nat) (h : Nat.blt i gN = true := by rfl) : nsIn x.W.K mainGlobals (gT i).1 = some (gT i).2 := x.F.ns i (ltN h)
theorem WIn.find (x : WIn) (i : Nat) (h : Nat.blt i fN = true := by rfl) : findIn x.W.K (.ref (fT i).1) (fT i).2.1 = some (fT i).2.2 := x.F.find i (ltN h)
theorem WIn.tak (x : WIn) (i : Nat) (h : Nat.blt i tN = true := by rfl) : takerIn x.W.K (tT i).1 (tT i).2 = some Option.none := x.F.tak i (ltN h)
theorem WIn.fn (x : WIn) (i : Nat) (h : Nat.blt i kN = true := by rfl) : FnAt x.W.K (kA i) (kP i) := x.F.fn i (ltN h)
theorem WIn.cl (x : WIn) (k : Nat) (h : Nat.blt k 4 = true := by rfl) : ClsAt x.W.K (clsT k) (iniT k) := x.F.cls k (ltN h)
theorem WIn.cg (x : WIn) (k : Nat) (h : Nat.blt k 4 = true := by rfl) : ClsGet x.W k := ⟨(x.cl k h).dict, (x.cl k h).get⟩
theorem WIn.cs (x : WIn) (k : Nat) (h : Nat.blt k 4 = true := by rfl) : ClsSet x.W k := ⟨(x.cl k h).set, (x.cl k h).over, (x.cl k h).dict⟩
theorem WIn.ck (x : WIn) (k : Nat) (h : Nat.blt k 4 = true := by rfl) : keepIn x.W.K (.ref (clsT k)) = true := (x.cl k h).keep
theorem excBase : [Value.ref 47, .type "Exception", .type "BaseException", .type "object"].contains (.type "BaseException") = true := by decide +kernel
theorem WIn.cc (x : WIn) (k : Nat) {n m : Nat} {g : List V → Sto → Res V} (hm : m + 1 ≤ n) (hg : CallOk x.W m (iniT k) g) (hf : typeIn x.W.K (.ref (iniT k)) = some (.type "function")) (h : Nat.blt k 4 = true := by rfl) : CallOk x.W n (clsT k) (newM k g) :=
  (class_ok (W := x.W) (c := k) (x.cl k h).makes (x.cl k h).init hf hg).le hm
section
variable {x : WIn} {n : Nat} {sc : Scope}
theorem eV (x : WIn) (i : Nat) {pos : Pos} (h : Nat.blt i nT = true := by rfl) : DenE x.W n sc (.Name (nmT i) pos) (eVar i) :=
  DenE.var rfl (nm_d i (ltN h)).1 (nm_d i (ltN h)).2
theorem len1 {α : Type} {l : List α} (h : l.length = 1) : ∃ a, l = [a] := by
  match l, h with
  | [a], _ => exact ⟨a, rfl⟩
theorem len2 {α : Type} {l : List α} (h : l.length = 2) : ∃ a b, l = [a, b] := by
  match l, h with
  | [a, b], _ => exact ⟨a, b, rfl⟩
theorem len3 {α : Type} {l : List α} (h : l.length = 3) : ∃ a b c, l = [a, b, c] := by
  match l, h with
  | [a, b, c], _ => exact ⟨a, b, c, rfl⟩
theorem len4 {α : Type} {l : List α} (h : l.length = 4) : ∃ a b c d, l = [a, b, c, d] := by
  match l, h with
  | [a, b, c, d], _ => exact ⟨a, b, c, d, rfl⟩
theorem len7 {α : Type} {l : List α} (h : l.length = 7) : ∃ a b c d e f g, l = [a, b, c, d, e, f, g] := by
  match l, h with
  | [a, b, c, d, e, f, g], _ => exact ⟨a, b, c, d, e, f, g, rfl⟩
noncomputable def compChk (csc sc : Scope) (caps : List Nat) : Bool :=
  decide (csc.kind = .function) && csc.names.all (fun y => !decide (y.2 = .local) || decide (csc.names.lookup y.1 = some .local)) && csc.names.all (fun y => !decide (y.2 = .cell)) && decide (csc.names.map (·.1)).Nodup &&
    csc.names.all (fun y => !decide (y.2 = .free) || decide (sc.names.lookup y.1 = some .cell)) && caps.all fun j => decide ((nmT j, NameKind.free) ∈ csc.names) && decide ((relab csc sc).names.lookup (nmT j) = some .cell)
theorem cScope {csc : Scope} (caps : List Nat) (h : compChk csc sc caps = true) : CompScope x.W csc sc caps := by
  simp only [compChk, Bool.and_eq_true, decide_eq_true_eq, List.all_eq_true, Bool.or_eq_true, Bool.not_eq_true', decide_eq_false_iff_not] at h
  obtain ⟨⟨⟨⟨⟨h1, h2⟩, h3⟩, h4⟩, h5⟩, h6⟩ := h
  exact ⟨h1, fun y hy e => (h2 y hy).resolve_left fun q => q e, h3, h4, fun y hy e => (h5 y hy).resolve_left fun q => q e, h6⟩
theorem namesOk (is : List Nat) (h : (is.all fun i => Nat.blt i nT && Storable sc (nmT i)) = true) : NamesOk x.W sc is := by
  simp only [List.all_eq_true, Bool.and_eq_true] at h
  exact fun i hi => ⟨ltN (h i hi).1, (h i hi).2⟩
theorem DenS.assignC {y : PySem.Str} {tp pos : Pos} {e : PySem.Expr} {f : ME V} {i : Nat} {W : Wd} (hf : DenE W n sc e f) (hi : i < W.nN) (hx : W.nm i = y) (hk : Storable sc y = true)
    (hs : ∀ env : Env, env.scope = sc → swapsWith e (some (.Name y tp)) pos.line env = pure false) : DenS W n sc (.Assign [.Name y tp] e pos) (sAssign (tName i) f) := by
  intro a ok hsc ρ σ fr s S F Q E p
  refine wpAny_Assign_Name (hf.bindS ok hsc S F p fun v σ1 ρ1 s1 mv S1 F1 x1 r1 p1 => ?_) (hs _ hsc)
  exact store_ok ok hsc S1 F1 hi hx hk r1 fun s' S' x' F' => p1 ρ1 s' S' x' F'
noncomputable def fnChk (sc : Scope) (ps : List Nat) : Bool :=
  !sc.isCoroutine && !sc.isGenerator && decide (sc.kind = .function) && decide (sc.names.map (·.1)).Nodup && decide ps.Nodup && ps.all fun i => Nat.blt i nT && Storable sc (nmT i)
theorem call_at {i : Nat} {g : MS} (F : FnAt x.W.K (kA i) (kP i)) (ps : List Nat) (h : fnChk (kP i).scope ps = true)
    (hb : ∀ fd : FuncData, fd.params = (kP i).params → fd.defaults = .none → fd.kwdefaults = .none → ∀ ms : List Value, ms.length = ps.length → bindArgs fd ⟨ms, []⟩ = pure ((ps.map nmT).zip ms))
    (hd : DenSs x.W n (kP i).scope (kP i).body g) : CallOk x.W (n + 1) (kA i) (callM ps g) := by
  simp only [fnChk, Bool.and_eq_true, Bool.not_eq_true', decide_eq_true_eq, List.all_eq_true] at h
  obtain ⟨⟨⟨⟨⟨h1, h2⟩, h3⟩, h4⟩, h5⟩, h6⟩ := h
  obtain ⟨o, fd, ho, hdd, e1, e2, e3, e4, e5, e6, e7, e8, e9⟩ := F.fd
  exact call_ok ho hdd ⟨e1, e2, e4, e5, e6, e9, h1, h2, h3, h4, fun p hp => ltN (h6 p hp).1, h5, fun p hp => (h6 p hp).2, hb fd e3 e7 e8⟩ hd
end
theorem exc_limit (x : WIn) : ExcCls x.W (x.W.cls 4) := exc_of (W := x.W) rfl x.F.ex
theorem raise_limit (x : WIn) {n : Nat} {sc : Scope} {np cpos pos q1 q2 q3 q4 np2 : Pos} {k1 k2 : Nat} (hx : sc.names.lookup (PySem.Str.ofString "LimitFault") = some .globalImplicit := by kernel_rfl) (hy : sc.names.lookup (PySem.Str.ofString "MOST_SIZE") = some .globalImplicit := by kernel_rfl) :
    DenS x.W n sc (.Raise (some (.Call (.Name (PySem.Str.ofString "LimitFault") np) [.JoinedStr [.Constant (.str (PySem.Str.ofString "terms of more than ")) k1 q1, .FormattedValue (.Name (PySem.Str.ofString "MOST_SIZE") np2) (-1) none q2, .Constant (.str (PySem.Str.ofString " nodes are not counted")) k2 q3] q4] [] cpos)) none pos) (sRaise 4) :=
  DenS.raise (x := PySem.Str.ofString "LimitFault") (c := 4) hx (x.ns 14) (by decide +kernel) (x.F.ex.o72 : x.W.K.lookup (x.W.cls 4) = _) excBase (exc_limit x) x.F.excK (fun _ => rfl) (fun _ => rfl)
    (msg_three hy (x.ns 9) (by decide +kernel) (by decide +kernel) (by rw [sizeLine_eq]; decide +kernel) (by rw [sizeLine_eq]; decide +kernel) (by rw [sizeLine_eq]; decide +kernel))
end Mine
/-! B2 -/
namespace Mine
open PySem PySem.W PyProof.Rows
noncomputable def m_is_op : MS :=
    (sRet (eAnd2 (eCmp .NotEq (eVar 0) (ME.pure (.str []))) (eCmp .Eq (eComp [] (tName 1) (eIter (eVar 0)) (some (tOr [(tVal (eMeth .isspace (eVar 1) [])), (tCmp .In (eVar 1) (ME.pure (.str [40, 41, 91, 93, 123, 125, 44, 58])))])) (eVar 1)) (eListD []))))
noncomputable def g_is_op : List V → Sto → Res V := callM [0] m_is_op
theorem b_is_op (x : WIn) {n : Nat} (hn : 0 ≤ n) : DenSs x.W n (kP 0).scope (kP 0).body m_is_op := by
  conv => arg 3; whnf
  conv => arg 4; whnf
  exact (DenSs.one (DenS.ret (DenE.and2 (DenE.cmp (eV x 0) (DenE.str "" [] _ _ (by kernel_rfl)) rfl) (DenE.cmp (DenE.comp (caps := []) (t := tName 1) (test := (some (tOr [(tVal (eMeth .isspace (eVar 1) [])), (tCmp .In (eVar 1) (ME.pure (.str [40, 41, 91, 93, 123, 125, 44, 58])))]))) (DenI.expr (eV x 0)) (cScope [] (by kernel_rfl)) (DenTL.name (ltN rfl) rfl (by kernel_rfl)) (TgtApart.name (by decide)) (DenB.or (DenB.val (DenE.meth (m := .isspace) (eV x 1) DenEs.nil (fun _ => rfl) (fun _ => rfl) rfl (fun _ => rfl)) (fun _ _ => rfl)) (DenB.or (DenB.cmp (eV x 1) (DenE.str "()[]{},:" [40, 41, 91, 93, 123, 125, 44, 58] _ _ (by kernel_rfl)) rfl) DenB.or_nil)) (eV x 1) (fun _ _ => rfl) (fun _ _ => rfl)) (DenE.listD DenEs.nil) rfl))))
theorem c_is_op (x : WIn) {n : Nat} (hn : 1 ≤ n) : CallOk x.W n 79 g_is_op := by
  obtain ⟨m, rfl⟩ : ∃ m, n = m + 1 := ⟨n - 1, by omega⟩
  exact call_at (x.fn 0) [0] (by kernel_rfl) (fun fd h1 h2 h3 ms hl => by obtain ⟨v0, rfl⟩ := len1 hl; cases fd; cases h1; cases h2; cases h3; kernel_rfl) (b_is_op x (by omega))
noncomputable def m_Bank_init : MS :=
    (sSeq (sSetAttr 0 2 (eVar 3) (eListD []))
    (sSeq (sSetAttr 0 4 (eVar 3) (eDict0 .tup))
    (sSeq (sSetAttr 0 5 (eVar 3) (eListD []))
    (sSetAttr 0 6 (eVar 3) (eListD [])))))
noncomputable def g_Bank_init : List V → Sto → Res V := callM [3] m_Bank_init
theorem b_Bank_init (x : WIn) {n : Nat} (hn : 0 ≤ n) : DenSs x.W n (kP 1).scope (kP 1).body m_Bank_init := by
  conv => arg 3; whnf
  conv => arg 4; whnf
  exact (DenSs.cons (DenS.setAttr (c := 0) (i := 2) (eV x 3) (DenE.listD DenEs.nil) (x.cs 0) (ltN rfl) rfl (x.tak 0) (fun _ => rfl) (fun _ => rfl))
    (DenSs.cons (DenS.setAttr (c := 0) (i := 4) (eV x 3) (DenE.dict0 .tup) (x.cs 0) (ltN rfl) rfl (x.tak 1) (fun _ => rfl) (fun _ => rfl))
    (DenSs.cons (DenS.setAttr (c := 0) (i := 5) (eV x 3) (DenE.listD DenEs.nil) (x.cs 0) (ltN rfl) rfl (x.tak 2) (fun _ => rfl) (fun _ => rfl))
    (DenSs.one (DenS.setAttr (c := 0) (i := 6) (eV x 3) (DenE.listD DenEs.nil) (x.cs 0) (ltN rfl) rfl (x.tak 3) (fun _ => rfl) (fun _ => rfl))))))
theorem c_Bank_init (x : WIn) {n : Nat} (hn : 1 ≤ n) : CallOk x.W n 103 g_Bank_init := by
  obtain ⟨m, rfl⟩ : ∃ m, n = m + 1 := ⟨n - 1, by omega⟩
  exact call_at (x.fn 1) [3] (by kernel_rfl) (fun fd h1 h2 h3 ms hl => by obtain ⟨v0, rfl⟩ := len1 hl; cases fd; cases h1; cases h2; cases h3; kernel_rfl) (b_Bank_init x (by omega))
noncomputable def m_Bank_size : MS :=
    (sRet (eBlt .len [(eAttr 0 2 (eVar 3))]))
noncomputable def g_Bank_size : List V → Sto → Res V := callM [3] m_Bank_size
theorem b_Bank_size (x : WIn) {n : Nat} (hn : 0 ≤ n) : DenSs x.W n (kP 2).scope (kP 2).body m_Bank_size := by
  conv => arg 3; whnf
  conv => arg 4; whnf
  exact (DenSs.one (DenS.ret (DenE.blt (b := .len) (DenEs.cons (fun _ => rfl) (DenE.attr (c := 0) (i := 2) (eV x 3) (x.cg 0) (ltN rfl) rfl (x.find 0)) DenEs.nil) (fun _ => rfl) (by kernel_rfl) (x.ns 0))))
theorem c_Bank_size (x : WIn) {n : Nat} (hn : 1 ≤ n) : CallOk x.W n 110 g_Bank_size := by
  obtain ⟨m, rfl⟩ : ∃ m, n = m + 1 := ⟨n - 1, by omega⟩
  exact call_at (x.fn 2) [3] (by kernel_rfl) (fun fd h1 h2 h3 ms hl => by obtain ⟨v0, rfl⟩ := len1 hl; cases fd; cases h1; cases h2; cases h3; kernel_rfl) (b_Bank_size x (by omega))
noncomputable def m_require : MS :=
    (sIf (tOr [(tNot (tVal (eCall g_is_op [(eVar 7)]))), (tCmp .Eq (eIdx (eVar 7) (ME.pure (.int 0))) (ME.pure (.str [63])))]) sStuck sSkip)
noncomputable def g_require : List V → Sto → Res V := callM [3, 7] m_require
theorem b_require (x : WIn) {n : Nat} (hn : 1 ≤ n) : DenSs x.W n (kP 3).scope (kP 3).body m_require := by
  conv => arg 3; whnf
  conv => arg 4; whnf
  exact (DenSs.one (DenS.if_ (DenB.or (DenB.not (DenB.val (DenE.call (DenEs.cons (fun _ => rfl) (eV x 7) DenEs.nil) (fun _ => rfl) (c_is_op x (by omega)) (x.fn 0).keep (by kernel_rfl) (x.ns 1) (by kernel_rfl)) (fun _ _ => rfl))) (DenB.or (DenB.cmp (DenE.idx (eV x 7) (DenE.int _ _ _) (fun _ _ => ⟨_, rfl⟩)) (DenE.str "?" [63] _ _ (by kernel_rfl)) rfl) DenB.or_nil)) (DenSs.one DenS.stuck) DenSs.nil))
theorem c_require (x : WIn) {n : Nat} (hn : 2 ≤ n) : CallOk x.W n 122 g_require := by
  obtain ⟨m, rfl⟩ : ∃ m, n = m + 1 := ⟨n - 1, by omega⟩
  exact call_at (x.fn 3) [3, 7] (by kernel_rfl) (fun fd h1 h2 h3 ms hl => by obtain ⟨v0, v1, rfl⟩ := len2 hl; cases fd; cases h1; cases h2; cases h3; kernel_rfl) (b_require x (by omega))
noncomputable def m_take : MS :=
    (sSeq (sAssign (tName 8) (eBin .Add (eTup [(eVar 7)]) (eBlt .tuple [(eVar 9)])))
    (sSeq (sIf (tCmp .In (eVar 8) (eAttr 0 4 (eVar 3))) (sRet (eIdx (eAttr 0 4 (eVar 3)) (eVar 8))) sSkip)
    (sSeq (sExprV (eMCall 0 10 g_require (eVar 3) [(eVar 7)]))
    (sSeq (sFor (tName 11) (eIter (eFrom 1 (eVar 8))) (sIf (tNot (tChain .LtE .Lt (ME.pure (.int 0)) (eVar 11) (eBlt .len [(eAttr 0 2 (eVar 3))]))) sStuck sSkip))
    (sSeq (sSetItem (eAttr 0 4 (eVar 3)) (eVar 8) (eBlt .len [(eAttr 0 2 (eVar 3))]))
    (sSeq (sExprV (eMeth .append (eAttr 0 2 (eVar 3)) [(eVar 8)]))
    (sSeq (sExprV (eMeth .append (eAttr 0 5 (eVar 3)) [(eBin .Add (ME.pure (.int 1)) (eBlt .sum [(eComp [3] (tName 11) (eIter (eFrom 1 (eVar 8))) none (eIdx (eAttr 0 5 (eVar 3)) (eVar 11)))]))]))
    (sSeq (sExprV (eMeth .append (eAttr 0 6 (eVar 3)) [(eBin .Add (ME.pure (.int 1)) (eBlt .max [(eBin .Add (eComp [3] (tName 11) (eIter (eFrom 1 (eVar 8))) none (eIdx (eAttr 0 6 (eVar 3)) (eVar 11))) (eListD [(ME.pure (.int 0))]))]))]))
    (sRet (eBin .Sub (eBlt .len [(eAttr 0 2 (eVar 3))]) (ME.pure (.int 1))))))))))))
noncomputable def g_take : List V → Sto → Res V := callM [3, 7, 9] m_take
theorem b_take (x : WIn) {n : Nat} (hn : 2 ≤ n) : DenSs x.W n (kP 4).scope (kP 4).body m_take := by
  conv => arg 3; whnf
  conv => arg 4; whnf
  exact (DenSs.cons (DenS.assign (DenE.bin (DenE.tup (DenEs.cons (fun _ => rfl) (eV x 7) DenEs.nil)) (DenE.blt (b := .tuple) (DenEs.cons (fun _ => rfl) (eV x 9) DenEs.nil) (fun _ => rfl) (by kernel_rfl) (x.ns 2))) (ltN rfl) rfl (by kernel_rfl) (fun _ => rfl))
    (DenSs.cons (DenS.if_ (DenB.cmp (eV x 8) (DenE.attr (c := 0) (i := 4) (eV x 3) (x.cg 0) (ltN rfl) rfl (x.find 1)) rfl) (DenSs.one (DenS.ret (DenE.idx (DenE.attr (c := 0) (i := 4) (eV x 3) (x.cg 0) (ltN rfl) rfl (x.find 1)) (eV x 8) (fun _ _ => ⟨_, rfl⟩)))) DenSs.nil)
    (DenSs.cons (DenS.expr (DenE.mcall (c := 0) (m := 10) (eV x 3) (DenEs.cons (fun _ => rfl) (eV x 7) DenEs.nil) (fun _ => rfl) (c_require x (by omega)) (x.cg 0) (ltN rfl) rfl ⟨(x.find 2), (x.fn 3).typ, (x.fn 3).keep⟩ (fun _ => ⟨_, rfl⟩)) (fun _ => rfl))
    (DenSs.cons (DenS.for_ (DenT.name (ltN rfl) rfl (by kernel_rfl)) (DenI.expr (DenE.from_ (eV x 8) (by decide))) (DenSs.one (DenS.if_ (DenB.not (DenB.chain (DenE.int _ _ _) (eV x 11) (DenE.blt (b := .len) (DenEs.cons (fun _ => rfl) (DenE.attr (c := 0) (i := 2) (eV x 3) (x.cg 0) (ltN rfl) rfl (x.find 0)) DenEs.nil) (fun _ => rfl) (by kernel_rfl) (x.ns 0)) rfl)) DenSs.stuck DenSs.nil)) (fun _ _ => rfl) (fun _ _ => rfl))
    (DenSs.cons (DenS.setItem (DenE.attr (c := 0) (i := 4) (eV x 3) (x.cg 0) (ltN rfl) rfl (x.find 1)) (eV x 8) (DenE.blt (b := .len) (DenEs.cons (fun _ => rfl) (DenE.attr (c := 0) (i := 2) (eV x 3) (x.cg 0) (ltN rfl) rfl (x.find 0)) DenEs.nil) (fun _ => rfl) (by kernel_rfl) (x.ns 0)) (fun _ => rfl))
    (DenSs.cons (DenS.expr (DenE.meth (m := .append) (DenE.attr (c := 0) (i := 2) (eV x 3) (x.cg 0) (ltN rfl) rfl (x.find 0)) (DenEs.cons (fun _ => rfl) (eV x 8) DenEs.nil) (fun _ => rfl) (fun _ => rfl) rfl (fun _ => rfl)) (fun _ => rfl))
    (DenSs.cons (DenS.expr (DenE.meth (m := .append) (DenE.attr (c := 0) (i := 5) (eV x 3) (x.cg 0) (ltN rfl) rfl (x.find 3)) (DenEs.cons (fun _ => rfl) (DenE.bin (DenE.int _ _ _) (DenE.blt (b := .sum) (DenEs.cons (fun _ => rfl) (DenE.comp (caps := [3]) (t := tName 11) (test := none) (DenI.expr (DenE.from_ (eV x 8) (by decide))) (cScope [3] (by kernel_rfl)) (DenTL.name (ltN rfl) rfl (by kernel_rfl)) (TgtApart.name (by decide)) trivial (DenE.idx (DenE.attr (c := 0) (i := 5) (eV x 3) (x.cg 0) (ltN rfl) rfl (x.find 3)) (eV x 11) (fun _ _ => ⟨_, rfl⟩)) (fun _ _ => rfl) (fun _ _ => rfl)) DenEs.nil) (fun _ => rfl) (by kernel_rfl) (x.ns 3))) DenEs.nil) (fun _ => rfl) (fun _ => rfl) rfl (fun _ => rfl)) (fun _ => rfl))
    (DenSs.cons (DenS.expr (DenE.meth (m := .append) (DenE.attr (c := 0) (i := 6) (eV x 3) (x.cg 0) (ltN rfl) rfl (x.find 4)) (DenEs.cons (fun _ => rfl) (DenE.bin (DenE.int _ _ _) (DenE.blt (b := .max) (DenEs.cons (fun _ => rfl) (DenE.bin (DenE.comp (caps := [3]) (t := tName 11) (test := none) (DenI.expr (DenE.from_ (eV x 8) (by decide))) (cScope [3] (by kernel_rfl)) (DenTL.name (ltN rfl) rfl (by kernel_rfl)) (TgtApart.name (by decide)) trivial (DenE.idx (DenE.attr (c := 0) (i := 6) (eV x 3) (x.cg 0) (ltN rfl) rfl (x.find 4)) (eV x 11) (fun _ _ => ⟨_, rfl⟩)) (fun _ _ => rfl) (fun _ _ => rfl)) (DenE.listD (DenEs.cons (fun _ => rfl) (DenE.int _ _ _) DenEs.nil))) DenEs.nil) (fun _ => rfl) (by kernel_rfl) (x.ns 4))) DenEs.nil) (fun _ => rfl) (fun _ => rfl) rfl (fun _ => rfl)) (fun _ => rfl))
    (DenSs.one (DenS.ret (DenE.bin (DenE.blt (b := .len) (DenEs.cons (fun _ => rfl) (DenE.attr (c := 0) (i := 2) (eV x 3) (x.cg 0) (ltN rfl) rfl (x.find 0)) DenEs.nil) (fun _ => rfl) (by kernel_rfl) (x.ns 0)) (DenE.int _ _ _))))))))))))
theorem c_take (x : WIn) {n : Nat} (hn : 3 ≤ n) : CallOk x.W n 115 g_take := by
  obtain ⟨m, rfl⟩ : ∃ m, n = m + 1 := ⟨n - 1, by omega⟩
  exact call_at (x.fn 4) [3, 7, 9] (by kernel_rfl) (fun fd h1 h2 h3 ms hl => by obtain ⟨v0, v1, v2, rfl⟩ := len3 hl; cases fd; cases h1; cases h2; cases h3; kernel_rfl) (b_take x (by omega))
noncomputable def m_Bank_op : MS :=
    (sRet (eIdx (eIdx (eAttr 0 2 (eVar 3)) (eVar 12)) (ME.pure (.int 0))))
noncomputable def g_Bank_op : List V → Sto → Res V := callM [3, 12] m_Bank_op
theorem b_Bank_op (x : WIn) {n : Nat} (hn : 0 ≤ n) : DenSs x.W n (kP 5).scope (kP 5).body m_Bank_op := by
  conv => arg 3; whnf
  conv => arg 4; whnf
  exact (DenSs.one (DenS.ret (DenE.idx (DenE.idx (DenE.attr (c := 0) (i := 2) (eV x 3) (x.cg 0) (ltN rfl) rfl (x.find 0)) (eV x 12) (fun _ _ => ⟨_, rfl⟩)) (DenE.int _ _ _) (fun _ _ => ⟨_, rfl⟩))))
theorem c_Bank_op (x : WIn) {n : Nat} (hn : 1 ≤ n) : CallOk x.W n 150 g_Bank_op := by
  obtain ⟨m, rfl⟩ : ∃ m, n = m + 1 := ⟨n - 1, by omega⟩
  exact call_at (x.fn 5) [3, 12] (by kernel_rfl) (fun fd h1 h2 h3 ms hl => by obtain ⟨v0, v1, rfl⟩ := len2 hl; cases fd; cases h1; cases h2; cases h3; kernel_rfl) (b_Bank_op x (by omega))
noncomputable def m_kids : MS :=
    (sRet (eFrom 1 (eIdx (eAttr 0 2 (eVar 3)) (eVar 12))))
noncomputable def g_kids : List V → Sto → Res V := callM [3, 12] m_kids
theorem b_kids (x : WIn) {n : Nat} (hn : 0 ≤ n) : DenSs x.W n (kP 6).scope (kP 6).body m_kids := by
  conv => arg 3; whnf
  conv => arg 4; whnf
  exact (DenSs.one (DenS.ret (DenE.from_ (DenE.idx (DenE.attr (c := 0) (i := 2) (eV x 3) (x.cg 0) (ltN rfl) rfl (x.find 0)) (eV x 12) (fun _ _ => ⟨_, rfl⟩)) (by decide))))
theorem c_kids (x : WIn) {n : Nat} (hn : 1 ≤ n) : CallOk x.W n 157 g_kids := by
  obtain ⟨m, rfl⟩ : ∃ m, n = m + 1 := ⟨n - 1, by omega⟩
  exact call_at (x.fn 6) [3, 12] (by kernel_rfl) (fun fd h1 h2 h3 ms hl => by obtain ⟨v0, v1, rfl⟩ := len2 hl; cases fd; cases h1; cases h2; cases h3; kernel_rfl) (b_kids x (by omega))
noncomputable def m_Unions_init : MS :=
    (sSeq (sSetAttr 2 13 (eVar 3) (eListD []))
    (sSeq (sSetAttr 2 14 (eVar 3) (eListD []))
    (sSetAttr 2 15 (eVar 3) (eListD []))))
noncomputable def g_Unions_init : List V → Sto → Res V := callM [3] m_Unions_init
theorem b_Unions_init (x : WIn) {n : Nat} (hn : 0 ≤ n) : DenSs x.W n (kP 7).scope (kP 7).body m_Unions_init := by
  conv => arg 3; whnf
  conv => arg 4; whnf
  exact (DenSs.cons (DenS.setAttr (c := 2) (i := 13) (eV x 3) (DenE.listD DenEs.nil) (x.cs 2) (ltN rfl) rfl (x.tak 4) (fun _ => rfl) (fun _ => rfl))
    (DenSs.cons (DenS.setAttr (c := 2) (i := 14) (eV x 3) (DenE.listD DenEs.nil) (x.cs 2) (ltN rfl) rfl (x.tak 5) (fun _ => rfl) (fun _ => rfl))
    (DenSs.one (DenS.setAttr (c := 2) (i := 15) (eV x 3) (DenE.listD DenEs.nil) (x.cs 2) (ltN rfl) rfl (x.tak 6) (fun _ => rfl) (fun _ => rfl)))))
theorem c_Unions_init (x : WIn) {n : Nat} (hn : 1 ≤ n) : CallOk x.W n 295 g_Unions_init := by
  obtain ⟨m, rfl⟩ : ∃ m, n = m + 1 := ⟨n - 1, by omega⟩
  exact call_at (x.fn 7) [3] (by kernel_rfl) (fun fd h1 h2 h3 ms hl => by obtain ⟨v0, rfl⟩ := len1 hl; cases fd; cases h1; cases h2; cases h3; kernel_rfl) (b_Unions_init x (by omega))
noncomputable def m_make : MS :=
    (sSeq (sExprV (eMeth .append (eAttr 2 13 (eVar 3)) [(eBlt .len [(eAttr 2 13 (eVar 3))])]))
    (sSeq (sExprV (eMeth .append (eAttr 2 14 (eVar 3)) [(eListD [(eBlt .len [(eAttr 2 14 (eVar 3))])])]))
    (sRet (eBin .Sub (eBlt .len [(eAttr 2 13 (eVar 3))]) (ME.pure (.int 1))))))
noncomputable def g_make : List V → Sto → Res V := callM [3] m_make
theorem b_make (x : WIn) {n : Nat} (hn : 0 ≤ n) : DenSs x.W n (kP 8).scope (kP 8).body m_make := by
  conv => arg 3; whnf
  conv => arg 4; whnf
  exact (DenSs.cons (DenS.expr (DenE.meth (m := .append) (DenE.attr (c := 2) (i := 13) (eV x 3) (x.cg 2) (ltN rfl) rfl (x.find 5)) (DenEs.cons (fun _ => rfl) (DenE.blt (b := .len) (DenEs.cons (fun _ => rfl) (DenE.attr (c := 2) (i := 13) (eV x 3) (x.cg 2) (ltN rfl) rfl (x.find 5)) DenEs.nil) (fun _ => rfl) (by kernel_rfl) (x.ns 0)) DenEs.nil) (fun _ => rfl) (fun _ => rfl) rfl (fun _ => rfl)) (fun _ => rfl))
    (DenSs.cons (DenS.expr (DenE.meth (m := .append) (DenE.attr (c := 2) (i := 14) (eV x 3) (x.cg 2) (ltN rfl) rfl (x.find 6)) (DenEs.cons (fun _ => rfl) (DenE.listD (DenEs.cons (fun _ => rfl) (DenE.blt (b := .len) (DenEs.cons (fun _ => rfl) (DenE.attr (c := 2) (i := 14) (eV x 3) (x.cg 2) (ltN rfl) rfl (x.find 6)) DenEs.nil) (fun _ => rfl) (by kernel_rfl) (x.ns 0)) DenEs.nil)) DenEs.nil) (fun _ => rfl) (fun _ => rfl) rfl (fun _ => rfl)) (fun _ => rfl))
    (DenSs.one (DenS.ret (DenE.bin (DenE.blt (b := .len) (DenEs.cons (fun _ => rfl) (DenE.attr (c := 2) (i := 13) (eV x 3) (x.cg 2) (ltN rfl) rfl (x.find 5)) DenEs.nil) (fun _ => rfl) (by kernel_rfl) (x.ns 0)) (DenE.int _ _ _))))))
theorem c_make (x : WIn) {n : Nat} (hn : 1 ≤ n) : CallOk x.W n 302 g_make := by
  obtain ⟨m, rfl⟩ : ∃ m, n = m + 1 := ⟨n - 1, by omega⟩
  exact call_at (x.fn 8) [3] (by kernel_rfl) (fun fd h1 h2 h3 ms hl => by obtain ⟨v0, rfl⟩ := len1 hl; cases fd; cases h1; cases h2; cases h3; kernel_rfl) (b_make x (by omega))
noncomputable def m_Unions_size : MS :=
    (sRet (eBlt .len [(eAttr 2 13 (eVar 3))]))
noncomputable def g_Unions_size : List V → Sto → Res V := callM [3] m_Unions_size
theorem b_Unions_size (x : WIn) {n : Nat} (hn : 0 ≤ n) : DenSs x.W n (kP 9).scope (kP 9).body m_Unions_size := by
  conv => arg 3; whnf
  conv => arg 4; whnf
  exact (DenSs.one (DenS.ret (DenE.blt (b := .len) (DenEs.cons (fun _ => rfl) (DenE.attr (c := 2) (i := 13) (eV x 3) (x.cg 2) (ltN rfl) rfl (x.find 5)) DenEs.nil) (fun _ => rfl) (by kernel_rfl) (x.ns 0))))
theorem c_Unions_size (x : WIn) {n : Nat} (hn : 1 ≤ n) : CallOk x.W n 309 g_Unions_size := by
  obtain ⟨m, rfl⟩ : ∃ m, n = m + 1 := ⟨n - 1, by omega⟩
  exact call_at (x.fn 9) [3] (by kernel_rfl) (fun fd h1 h2 h3 ms hl => by obtain ⟨v0, rfl⟩ := len1 hl; cases fd; cases h1; cases h2; cases h3; kernel_rfl) (b_Unions_size x (by omega))
noncomputable def m_Unions_find : MS :=
    (sSeq (sWhile 60 (tCmp .NotEq (eIdx (eAttr 2 13 (eVar 3)) (eVar 16)) (eVar 16)) (sAssign (tName 16) (eIdx (eAttr 2 13 (eVar 3)) (eVar 16))))
    (sRet (eVar 16)))
noncomputable def g_Unions_find : List V → Sto → Res V := callM [3, 16] m_Unions_find
theorem b_Unions_find (x : WIn) {n : Nat} (hn : 0 ≤ n) : DenSs x.W n (kP 10).scope (kP 10).body m_Unions_find := by
  conv => arg 3; whnf
  conv => arg 4; whnf
  exact (DenSs.cons (DenS.while_ 60 (DenB.cmp (DenE.idx (DenE.attr (c := 2) (i := 13) (eV x 3) (x.cg 2) (ltN rfl) rfl (x.find 5)) (eV x 16) (fun _ _ => ⟨_, rfl⟩)) (eV x 16) rfl) (DenSs.one (DenS.assign (DenE.idx (DenE.attr (c := 2) (i := 13) (eV x 3) (x.cg 2) (ltN rfl) rfl (x.find 5)) (eV x 16) (fun _ _ => ⟨_, rfl⟩)) (ltN rfl) rfl (by kernel_rfl) (fun _ => rfl))))
    (DenSs.one (DenS.ret (eV x 16))))
theorem c_Unions_find (x : WIn) {n : Nat} (hn : 1 ≤ n) : CallOk x.W n 316 g_Unions_find := by
  obtain ⟨m, rfl⟩ : ∃ m, n = m + 1 := ⟨n - 1, by omega⟩
  exact call_at (x.fn 10) [3, 16] (by kernel_rfl) (fun fd h1 h2 h3 ms hl => by obtain ⟨v0, v1, rfl⟩ := len2 hl; cases fd; cases h1; cases h2; cases h3; kernel_rfl) (b_Unions_find x (by omega))
noncomputable def m_Unions_merge : MS :=
    (sSeq (sUnpack (tTuple [17, 18]) (eBlt .sorted [(eListD [(eMCall 2 19 g_Unions_find (eVar 3) [(eVar 16)]), (eMCall 2 19 g_Unions_find (eVar 3) [(eVar 20)])])]))
    (sSeq (sIf (tCmp .Eq (eVar 17) (eVar 18)) (sRet (ME.pure .none)) sSkip)
    (sSeq (sSetItem (eAttr 2 13 (eVar 3)) (eVar 18) (eVar 17))
    (sSeq (sExprV (eMeth .extend (eIdx (eAttr 2 14 (eVar 3)) (eVar 17)) [(eIdx (eAttr 2 14 (eVar 3)) (eVar 18))]))
    (sSeq (sExprV (eMeth .append (eAttr 2 15 (eVar 3)) [(eTup [(eVar 17), (eVar 18)])]))
    (sRet (eTup [(eVar 17), (eVar 18)])))))))
noncomputable def g_Unions_merge : List V → Sto → Res V := callM [3, 16, 20] m_Unions_merge
theorem b_Unions_merge (x : WIn) {n : Nat} (hn : 1 ≤ n) : DenSs x.W n (kP 11).scope (kP 11).body m_Unions_merge := by
  conv => arg 3; whnf
  conv => arg 4; whnf
  exact (DenSs.cons (DenS.unpack (DenT.tuple (is := [17, 18]) (namesOk [17, 18] (by kernel_rfl)) (fun _ => (.cons (StoreLike.name rfl) (.cons (StoreLike.name rfl) .nil))) (fun _ => rfl)) (DenE.blt (b := .sorted) (DenEs.cons (fun _ => rfl) (DenE.listD (DenEs.cons (fun _ => rfl) (DenE.mcall (c := 2) (m := 19) (eV x 3) (DenEs.cons (fun _ => rfl) (eV x 16) DenEs.nil) (fun _ => rfl) (c_Unions_find x (by omega)) (x.cg 2) (ltN rfl) rfl ⟨(x.find 7), (x.fn 10).typ, (x.fn 10).keep⟩ (fun _ => ⟨_, rfl⟩)) (DenEs.cons (fun _ => rfl) (DenE.mcall (c := 2) (m := 19) (eV x 3) (DenEs.cons (fun _ => rfl) (eV x 20) DenEs.nil) (fun _ => rfl) (c_Unions_find x (by omega)) (x.cg 2) (ltN rfl) rfl ⟨(x.find 7), (x.fn 10).typ, (x.fn 10).keep⟩ (fun _ => ⟨_, rfl⟩)) DenEs.nil))) DenEs.nil) (fun _ => rfl) (by kernel_rfl) (x.ns 5)) (fun _ => rfl) (fun _ _ => rfl))
    (DenSs.cons (DenS.if_ (DenB.cmp (eV x 17) (eV x 18) rfl) (DenSs.one (DenS.ret (DenE.noneC _ _))) DenSs.nil)
    (DenSs.cons (DenS.setItem (DenE.attr (c := 2) (i := 13) (eV x 3) (x.cg 2) (ltN rfl) rfl (x.find 5)) (eV x 18) (eV x 17) (fun _ => rfl))
    (DenSs.cons (DenS.expr (DenE.meth (m := .extend) (DenE.idx (DenE.attr (c := 2) (i := 14) (eV x 3) (x.cg 2) (ltN rfl) rfl (x.find 6)) (eV x 17) (fun _ _ => ⟨_, rfl⟩)) (DenEs.cons (fun _ => rfl) (DenE.idx (DenE.attr (c := 2) (i := 14) (eV x 3) (x.cg 2) (ltN rfl) rfl (x.find 6)) (eV x 18) (fun _ _ => ⟨_, rfl⟩)) DenEs.nil) (fun _ => rfl) (fun _ => rfl) rfl (fun _ => rfl)) (fun _ => rfl))
    (DenSs.cons (DenS.expr (DenE.meth (m := .append) (DenE.attr (c := 2) (i := 15) (eV x 3) (x.cg 2) (ltN rfl) rfl (x.find 8)) (DenEs.cons (fun _ => rfl) (DenE.tup (DenEs.cons (fun _ => rfl) (eV x 17) (DenEs.cons (fun _ => rfl) (eV x 18) DenEs.nil))) DenEs.nil) (fun _ => rfl) (fun _ => rfl) rfl (fun _ => rfl)) (fun _ => rfl))
    (DenSs.one (DenS.ret (DenE.tup (DenEs.cons (fun _ => rfl) (eV x 17) (DenEs.cons (fun _ => rfl) (eV x 18) DenEs.nil))))))))))
theorem c_Unions_merge (x : WIn) {n : Nat} (hn : 2 ≤ n) : CallOk x.W n 323 g_Unions_merge := by
  obtain ⟨m, rfl⟩ : ∃ m, n = m + 1 := ⟨n - 1, by omega⟩
  exact call_at (x.fn 11) [3, 16, 20] (by kernel_rfl) (fun fd h1 h2 h3 ms hl => by obtain ⟨v0, v1, v2, rfl⟩ := len3 hl; cases fd; cases h1; cases h2; cases h3; kernel_rfl) (b_Unions_merge x (by omega))
noncomputable def m_Unions_members : MS :=
    (sRet (eBlt .sorted [(eIdx (eAttr 2 14 (eVar 3)) (eMCall 2 19 g_Unions_find (eVar 3) [(eVar 16)]))]))
noncomputable def g_Unions_members : List V → Sto → Res V := callM [3, 16] m_Unions_members
theorem b_Unions_members (x : WIn) {n : Nat} (hn : 1 ≤ n) : DenSs x.W n (kP 12).scope (kP 12).body m_Unions_members := by
  conv => arg 3; whnf
  conv => arg 4; whnf
  exact (DenSs.one (DenS.ret (DenE.blt (b := .sorted) (DenEs.cons (fun _ => rfl) (DenE.idx (DenE.attr (c := 2) (i := 14) (eV x 3) (x.cg 2) (ltN rfl) rfl (x.find 6)) (DenE.mcall (c := 2) (m := 19) (eV x 3) (DenEs.cons (fun _ => rfl) (eV x 16) DenEs.nil) (fun _ => rfl) (c_Unions_find x (by omega)) (x.cg 2) (ltN rfl) rfl ⟨(x.find 7), (x.fn 10).typ, (x.fn 10).keep⟩ (fun _ => ⟨_, rfl⟩)) (fun _ _ => ⟨_, rfl⟩)) DenEs.nil) (fun _ => rfl) (by kernel_rfl) (x.ns 5))))
theorem c_Unions_members (x : WIn) {n : Nat} (hn : 2 ≤ n) : CallOk x.W n 330 g_Unions_members := by
  obtain ⟨m, rfl⟩ : ∃ m, n = m + 1 := ⟨n - 1, by omega⟩
  exact call_at (x.fn 12) [3, 16] (by kernel_rfl) (fun fd h1 h2 h3 ms hl => by obtain ⟨v0, v1, rfl⟩ := len2 hl; cases fd; cases h1; cases h2; cases h3; kernel_rfl) (b_Unions_members x (by omega))
noncomputable def m_Heap_init : MS :=
    (sSeq (sSetAttr 3 21 (eVar 3) (eCall (newM 0 g_Bank_init) []))
    (sSeq (sSetAttr 3 22 (eVar 3) (eCall (newM 2 g_Unions_init) []))
    (sSeq (sSetAttr 3 23 (eVar 3) (eListD []))
    (sSeq (sSetAttr 3 24 (eVar 3) (eListD []))
    (sSeq (sSetAttr 3 25 (eVar 3) (eDict0 .tup))
    (sSeq (sSetAttr 3 13 (eVar 3) (eDict0 .int))
    (sSeq (sSetAttr 3 26 (eVar 3) (eListD []))
    (sSetAttr 3 27 (eVar 3) (ME.pure (.int 0))))))))))
noncomputable def g_Heap_init : List V → Sto → Res V := callM [3] m_Heap_init
theorem b_Heap_init (x : WIn) {n : Nat} (hn : 2 ≤ n) : DenSs x.W n (kP 13).scope (kP 13).body m_Heap_init := by
  conv => arg 3; whnf
  conv => arg 4; whnf
  exact (DenSs.cons (DenS.setAttr (c := 3) (i := 21) (eV x 3) (DenE.call DenEs.nil (fun _ => rfl) (x.cc 0 (by omega) (c_Bank_init x (n := 1) (by omega)) (x.fn 1).typ) (x.ck 0) (by kernel_rfl) (x.ns 6) (by kernel_rfl)) (x.cs 3) (ltN rfl) rfl (x.tak 7) (fun _ => rfl) (fun _ => rfl))
    (DenSs.cons (DenS.setAttr (c := 3) (i := 22) (eV x 3) (DenE.call DenEs.nil (fun _ => rfl) (x.cc 2 (by omega) (c_Unions_init x (n := 1) (by omega)) (x.fn 7).typ) (x.ck 2) (by kernel_rfl) (x.ns 7) (by kernel_rfl)) (x.cs 3) (ltN rfl) rfl (x.tak 8) (fun _ => rfl) (fun _ => rfl))
    (DenSs.cons (DenS.setAttr (c := 3) (i := 23) (eV x 3) (DenE.listD DenEs.nil) (x.cs 3) (ltN rfl) rfl (x.tak 9) (fun _ => rfl) (fun _ => rfl))
    (DenSs.cons (DenS.setAttr (c := 3) (i := 24) (eV x 3) (DenE.listD DenEs.nil) (x.cs 3) (ltN rfl) rfl (x.tak 10) (fun _ => rfl) (fun _ => rfl))
    (DenSs.cons (DenS.setAttr (c := 3) (i := 25) (eV x 3) (DenE.dict0 .tup) (x.cs 3) (ltN rfl) rfl (x.tak 11) (fun _ => rfl) (fun _ => rfl))
    (DenSs.cons (DenS.setAttr (c := 3) (i := 13) (eV x 3) (DenE.dict0 .int) (x.cs 3) (ltN rfl) rfl (x.tak 12) (fun _ => rfl) (fun _ => rfl))
    (DenSs.cons (DenS.setAttr (c := 3) (i := 26) (eV x 3) (DenE.listD DenEs.nil) (x.cs 3) (ltN rfl) rfl (x.tak 13) (fun _ => rfl) (fun _ => rfl))
    (DenSs.one (DenS.setAttr (c := 3) (i := 27) (eV x 3) (DenE.int _ _ _) (x.cs 3) (ltN rfl) rfl (x.tak 14) (fun _ => rfl) (fun _ => rfl))))))))))
theorem c_Heap_init (x : WIn) {n : Nat} (hn : 3 ≤ n) : CallOk x.W n 377 g_Heap_init := by
  obtain ⟨m, rfl⟩ : ∃ m, n = m + 1 := ⟨n - 1, by omega⟩
  exact call_at (x.fn 13) [3] (by kernel_rfl) (fun fd h1 h2 h3 ms hl => by obtain ⟨v0, rfl⟩ := len1 hl; cases fd; cases h1; cases h2; cases h3; kernel_rfl) (b_Heap_init x (by omega))
noncomputable def m_Heap_size : MS :=
    (sRet (eMCall 0 28 g_Bank_size (eAttr 3 21 (eVar 3)) []))
noncomputable def g_Heap_size : List V → Sto → Res V := callM [3] m_Heap_size
theorem b_Heap_size (x : WIn) {n : Nat} (hn : 1 ≤ n) : DenSs x.W n (kP 14).scope (kP 14).body m_Heap_size := by
  conv => arg 3; whnf
  conv => arg 4; whnf
  exact (DenSs.one (DenS.ret (DenE.mcall (c := 0) (m := 28) (DenE.attr (c := 3) (i := 21) (eV x 3) (x.cg 3) (ltN rfl) rfl (x.find 9)) DenEs.nil (fun _ => rfl) (c_Bank_size x (by omega)) (x.cg 0) (ltN rfl) rfl ⟨(x.find 10), (x.fn 2).typ, (x.fn 2).keep⟩ (fun _ => ⟨_, rfl⟩))))
theorem c_Heap_size (x : WIn) {n : Nat} (hn : 2 ≤ n) : CallOk x.W n 384 g_Heap_size := by
  obtain ⟨m, rfl⟩ : ∃ m, n = m + 1 := ⟨n - 1, by omega⟩
  exact call_at (x.fn 14) [3] (by kernel_rfl) (fun fd h1 h2 h3 ms hl => by obtain ⟨v0, rfl⟩ := len1 hl; cases fd; cases h1; cases h2; cases h3; kernel_rfl) (b_Heap_size x (by omega))
noncomputable def m_Heap_find : MS :=
    (sRet (eMCall 2 19 g_Unions_find (eAttr 3 22 (eVar 3)) [(eVar 12)]))
noncomputable def g_Heap_find : List V → Sto → Res V := callM [3, 12] m_Heap_find
theorem b_Heap_find (x : WIn) {n : Nat} (hn : 1 ≤ n) : DenSs x.W n (kP 15).scope (kP 15).body m_Heap_find := by
  conv => arg 3; whnf
  conv => arg 4; whnf
  exact (DenSs.one (DenS.ret (DenE.mcall (c := 2) (m := 19) (DenE.attr (c := 3) (i := 22) (eV x 3) (x.cg 3) (ltN rfl) rfl (x.find 11)) (DenEs.cons (fun _ => rfl) (eV x 12) DenEs.nil) (fun _ => rfl) (c_Unions_find x (by omega)) (x.cg 2) (ltN rfl) rfl ⟨(x.find 7), (x.fn 10).typ, (x.fn 10).keep⟩ (fun _ => ⟨_, rfl⟩))))
theorem c_Heap_find (x : WIn) {n : Nat} (hn : 2 ≤ n) : CallOk x.W n 415 g_Heap_find := by
  obtain ⟨m, rfl⟩ : ∃ m, n = m + 1 := ⟨n - 1, by omega⟩
  exact call_at (x.fn 15) [3, 12] (by kernel_rfl) (fun fd h1 h2 h3 ms hl => by obtain ⟨v0, v1, rfl⟩ := len2 hl; cases fd; cases h1; cases h2; cases h3; kernel_rfl) (b_Heap_find x (by omega))
noncomputable def m_Heap_node : MS :=
    (sRet (eBin .Add (eTup [(eMCall 0 7 g_Bank_op (eAttr 3 21 (eVar 3)) [(eVar 12)])]) (eBlt .tuple [(eComp [3] (tName 11) (eIter (eMCall 0 9 g_kids (eAttr 3 21 (eVar 3)) [(eVar 12)])) none (eMCall 3 19 g_Heap_find (eVar 3) [(eVar 11)]))])))
noncomputable def g_Heap_node : List V → Sto → Res V := callM [3, 12] m_Heap_node
theorem b_Heap_node (x : WIn) {n : Nat} (hn : 2 ≤ n) : DenSs x.W n (kP 16).scope (kP 16).body m_Heap_node := by
  conv => arg 3; whnf
  conv => arg 4; whnf
  exact (DenSs.one (DenS.ret (DenE.bin (DenE.tup (DenEs.cons (fun _ => rfl) (DenE.mcall (c := 0) (m := 7) (DenE.attr (c := 3) (i := 21) (eV x 3) (x.cg 3) (ltN rfl) rfl (x.find 9)) (DenEs.cons (fun _ => rfl) (eV x 12) DenEs.nil) (fun _ => rfl) (c_Bank_op x (by omega)) (x.cg 0) (ltN rfl) rfl ⟨(x.find 12), (x.fn 5).typ, (x.fn 5).keep⟩ (fun _ => ⟨_, rfl⟩)) DenEs.nil)) (DenE.blt (b := .tuple) (DenEs.cons (fun _ => rfl) (DenE.comp (caps := [3]) (t := tName 11) (test := none) (DenI.expr (DenE.mcall (c := 0) (m := 9) (DenE.attr (c := 3) (i := 21) (eV x 3) (x.cg 3) (ltN rfl) rfl (x.find 9)) (DenEs.cons (fun _ => rfl) (eV x 12) DenEs.nil) (fun _ => rfl) (c_kids x (by omega)) (x.cg 0) (ltN rfl) rfl ⟨(x.find 13), (x.fn 6).typ, (x.fn 6).keep⟩ (fun _ => ⟨_, rfl⟩))) (cScope [3] (by kernel_rfl)) (DenTL.name (ltN rfl) rfl (by kernel_rfl)) (TgtApart.name (by decide)) trivial (DenE.mcall (c := 3) (m := 19) (eV x 3) (DenEs.cons (fun _ => rfl) (eV x 11) DenEs.nil) (fun _ => rfl) (c_Heap_find x (by omega)) (x.cg 3) (ltN rfl) rfl ⟨(x.find 14), (x.fn 15).typ, (x.fn 15).keep⟩ (fun _ => ⟨_, rfl⟩)) (fun _ _ => rfl) (fun _ _ => rfl)) DenEs.nil) (fun _ => rfl) (by kernel_rfl) (x.ns 2)))))
theorem c_Heap_node (x : WIn) {n : Nat} (hn : 3 ≤ n) : CallOk x.W n 389 g_Heap_node := by
  obtain ⟨m, rfl⟩ : ∃ m, n = m + 1 := ⟨n - 1, by omega⟩
  exact call_at (x.fn 16) [3, 12] (by kernel_rfl) (fun fd h1 h2 h3 ms hl => by obtain ⟨v0, v1, rfl⟩ := len2 hl; cases fd; cases h1; cases h2; cases h3; kernel_rfl) (b_Heap_node x (by omega))
noncomputable def m_join : MS :=
    (sSeq (sExprV (eMeth .append (eAttr 3 23 (eVar 3)) [(eTup [(eVar 16), (eVar 20), (eVar 29)])]))
    (sSeq (sAssign (tName 15) (eMCall 2 30 g_Unions_merge (eAttr 3 22 (eVar 3)) [(eVar 16), (eVar 20)]))
    (sSeq (sIf (tCmp .Is (eVar 15) (ME.pure .none)) (sRet (ME.pure (.bool false))) sSkip)
    (sSeq (sUnpack (tTuple [17, 18]) (eVar 15))
    (sSeq (sExprV (eMeth .append (eAttr 3 24 (eVar 3)) [(eBin .Sub (eBlt .len [(eAttr 3 23 (eVar 3))]) (ME.pure (.int 1)))]))
    (sSeq (sExprV (eMeth .extend (eAttr 3 26 (eVar 3)) [(eIdx (eAttr 3 13 (eVar 3)) (eVar 18))]))
    (sSeq (sSetItem (eAttr 3 13 (eVar 3)) (eVar 17) (eBin .Add (eIdx (eAttr 3 13 (eVar 3)) (eVar 17)) (eMeth .popd (eAttr 3 13 (eVar 3)) [(eVar 18)])))
    (sRet (ME.pure (.bool true))))))))))
noncomputable def g_join : List V → Sto → Res V := callM [3, 16, 20, 29] m_join
theorem b_join (x : WIn) {n : Nat} (hn : 2 ≤ n) : DenSs x.W n (kP 17).scope (kP 17).body m_join := by
  conv => arg 3; whnf
  conv => arg 4; whnf
  exact (DenSs.cons (DenS.expr (DenE.meth (m := .append) (DenE.attr (c := 3) (i := 23) (eV x 3) (x.cg 3) (ltN rfl) rfl (x.find 15)) (DenEs.cons (fun _ => rfl) (DenE.tup (DenEs.cons (fun _ => rfl) (eV x 16) (DenEs.cons (fun _ => rfl) (eV x 20) (DenEs.cons (fun _ => rfl) (eV x 29) DenEs.nil)))) DenEs.nil) (fun _ => rfl) (fun _ => rfl) rfl (fun _ => rfl)) (fun _ => rfl))
    (DenSs.cons (DenS.assign (DenE.mcall (c := 2) (m := 30) (DenE.attr (c := 3) (i := 22) (eV x 3) (x.cg 3) (ltN rfl) rfl (x.find 11)) (DenEs.cons (fun _ => rfl) (eV x 16) (DenEs.cons (fun _ => rfl) (eV x 20) DenEs.nil)) (fun _ => rfl) (c_Unions_merge x (by omega)) (x.cg 2) (ltN rfl) rfl ⟨(x.find 16), (x.fn 11).typ, (x.fn 11).keep⟩ (fun _ => ⟨_, rfl⟩)) (ltN rfl) rfl (by kernel_rfl) (fun _ => rfl))
    (DenSs.cons (DenS.if_ (DenB.cmp (eV x 15) (DenE.noneC _ _) rfl) (DenSs.one (DenS.ret (DenE.bool false _ _))) DenSs.nil)
    (DenSs.cons (DenS.unpack (DenT.tuple (is := [17, 18]) (namesOk [17, 18] (by kernel_rfl)) (fun _ => (.cons (StoreLike.name rfl) (.cons (StoreLike.name rfl) .nil))) (fun _ => rfl)) (eV x 15) (fun _ => rfl) (fun _ _ => rfl))
    (DenSs.cons (DenS.expr (DenE.meth (m := .append) (DenE.attr (c := 3) (i := 24) (eV x 3) (x.cg 3) (ltN rfl) rfl (x.find 17)) (DenEs.cons (fun _ => rfl) (DenE.bin (DenE.blt (b := .len) (DenEs.cons (fun _ => rfl) (DenE.attr (c := 3) (i := 23) (eV x 3) (x.cg 3) (ltN rfl) rfl (x.find 15)) DenEs.nil) (fun _ => rfl) (by kernel_rfl) (x.ns 0)) (DenE.int _ _ _)) DenEs.nil) (fun _ => rfl) (fun _ => rfl) rfl (fun _ => rfl)) (fun _ => rfl))
    (DenSs.cons (DenS.expr (DenE.meth (m := .extend) (DenE.attr (c := 3) (i := 26) (eV x 3) (x.cg 3) (ltN rfl) rfl (x.find 18)) (DenEs.cons (fun _ => rfl) (DenE.idx (DenE.attr (c := 3) (i := 13) (eV x 3) (x.cg 3) (ltN rfl) rfl (x.find 19)) (eV x 18) (fun _ _ => ⟨_, rfl⟩)) DenEs.nil) (fun _ => rfl) (fun _ => rfl) rfl (fun _ => rfl)) (fun _ => rfl))
    (DenSs.cons (DenS.setItem (DenE.attr (c := 3) (i := 13) (eV x 3) (x.cg 3) (ltN rfl) rfl (x.find 19)) (eV x 17) (DenE.bin (DenE.idx (DenE.attr (c := 3) (i := 13) (eV x 3) (x.cg 3) (ltN rfl) rfl (x.find 19)) (eV x 17) (fun _ _ => ⟨_, rfl⟩)) (DenE.meth (m := .popd) (DenE.attr (c := 3) (i := 13) (eV x 3) (x.cg 3) (ltN rfl) rfl (x.find 19)) (DenEs.cons (fun _ => rfl) (eV x 18) DenEs.nil) (fun _ => rfl) (fun _ => rfl) rfl (fun _ => rfl))) (fun _ => rfl))
    (DenSs.one (DenS.ret (DenE.bool true _ _))))))))))
theorem c_join (x : WIn) {n : Nat} (hn : 3 ≤ n) : CallOk x.W n 436 g_join := by
  obtain ⟨m, rfl⟩ : ∃ m, n = m + 1 := ⟨n - 1, by omega⟩
  exact call_at (x.fn 17) [3, 16, 20, 29] (by kernel_rfl) (fun fd h1 h2 h3 ms hl => by obtain ⟨v0, v1, v2, v3, rfl⟩ := len4 hl; cases fd; cases h1; cases h2; cases h3; kernel_rfl) (b_join x (by omega))
noncomputable def m_look_at : MS :=
    (sSeq (sAssign (tName 31) (eMeth .setdef (eAttr 3 25 (eVar 3)) [(eMCall 3 8 g_Heap_node (eVar 3) [(eVar 12)]), (eVar 12)]))
    (sIf (tCmp .NotEq (eMCall 3 19 g_Heap_find (eVar 3) [(eVar 31)]) (eMCall 3 19 g_Heap_find (eVar 3) [(eVar 12)])) (sExprV (eMCall 3 32 g_join (eVar 3) [(eVar 31), (eVar 12), (eTup [(ME.pure (.str [108, 105, 107, 101]))])])) sSkip))
noncomputable def g_look_at : List V → Sto → Res V := callM [3, 12] m_look_at
theorem b_look_at (x : WIn) {n : Nat} (hn : 3 ≤ n) : DenSs x.W n (kP 18).scope (kP 18).body m_look_at := by
  conv => arg 3; whnf
  conv => arg 4; whnf
  exact (DenSs.cons (DenS.assign (DenE.meth (m := .setdef) (DenE.attr (c := 3) (i := 25) (eV x 3) (x.cg 3) (ltN rfl) rfl (x.find 20)) (DenEs.cons (fun _ => rfl) (DenE.mcall (c := 3) (m := 8) (eV x 3) (DenEs.cons (fun _ => rfl) (eV x 12) DenEs.nil) (fun _ => rfl) (c_Heap_node x (by omega)) (x.cg 3) (ltN rfl) rfl ⟨(x.find 21), (x.fn 16).typ, (x.fn 16).keep⟩ (fun _ => ⟨_, rfl⟩)) (DenEs.cons (fun _ => rfl) (eV x 12) DenEs.nil)) (fun _ => rfl) (fun _ => rfl) rfl (fun _ => rfl)) (ltN rfl) rfl (by kernel_rfl) (fun _ => rfl))
    (DenSs.one (DenS.if_ (DenB.cmp (DenE.mcall (c := 3) (m := 19) (eV x 3) (DenEs.cons (fun _ => rfl) (eV x 31) DenEs.nil) (fun _ => rfl) (c_Heap_find x (by omega)) (x.cg 3) (ltN rfl) rfl ⟨(x.find 14), (x.fn 15).typ, (x.fn 15).keep⟩ (fun _ => ⟨_, rfl⟩)) (DenE.mcall (c := 3) (m := 19) (eV x 3) (DenEs.cons (fun _ => rfl) (eV x 12) DenEs.nil) (fun _ => rfl) (c_Heap_find x (by omega)) (x.cg 3) (ltN rfl) rfl ⟨(x.find 14), (x.fn 15).typ, (x.fn 15).keep⟩ (fun _ => ⟨_, rfl⟩)) rfl) (DenSs.one (DenS.expr (DenE.mcall (c := 3) (m := 32) (eV x 3) (DenEs.cons (fun _ => rfl) (eV x 31) (DenEs.cons (fun _ => rfl) (eV x 12) (DenEs.cons (fun _ => rfl) (DenE.tup (DenEs.cons (fun _ => rfl) (DenE.str "like" [108, 105, 107, 101] _ _ (by kernel_rfl)) DenEs.nil)) DenEs.nil))) (fun _ => rfl) (c_join x (by omega)) (x.cg 3) (ltN rfl) rfl ⟨(x.find 22), (x.fn 17).typ, (x.fn 17).keep⟩ (fun _ => ⟨_, rfl⟩)) (fun _ => rfl))) DenSs.nil)))
theorem c_look_at (x : WIn) {n : Nat} (hn : 4 ≤ n) : CallOk x.W n 408 g_look_at := by
  obtain ⟨m, rfl⟩ : ∃ m, n = m + 1 := ⟨n - 1, by omega⟩
  exact call_at (x.fn 18) [3, 12] (by kernel_rfl) (fun fd h1 h2 h3 ms hl => by obtain ⟨v0, v1, rfl⟩ := len2 hl; cases fd; cases h1; cases h2; cases h3; kernel_rfl) (b_look_at x (by omega))
noncomputable def m_add : MS :=
    (sSeq (sAssign (tName 12) (eMCall 0 33 g_take (eAttr 3 21 (eVar 3)) [(eVar 7), (eVar 4)]))
    (sSeq (sIf (tCmp .Lt (eVar 12) (eMCall 2 28 g_Unions_size (eAttr 3 22 (eVar 3)) [])) (sRet (eVar 12)) sSkip)
    (sSeq (sExprV (eMCall 2 34 g_make (eAttr 3 22 (eVar 3)) []))
    (sSeq (sSetItem (eAttr 3 13 (eVar 3)) (eVar 12) (eListD []))
    (sSeq (sFor (tName 35) (eIter (eSetSort (eComp [3] (tName 11) (eIter (eVar 4)) none (eMCall 3 19 g_Heap_find (eVar 3) [(eVar 11)])))) (sExprV (eMeth .append (eIdx (eAttr 3 13 (eVar 3)) (eVar 35)) [(eVar 12)])))
    (sSeq (sExprV (eMCall 3 36 g_look_at (eVar 3) [(eVar 12)]))
    (sRet (eVar 12))))))))
noncomputable def g_add : List V → Sto → Res V := callM [3, 7, 4] m_add
theorem b_add (x : WIn) {n : Nat} (hn : 4 ≤ n) : DenSs x.W n (kP 19).scope (kP 19).body m_add := by
  conv => arg 3; whnf
  conv => arg 4; whnf
  exact (DenSs.cons (DenS.assign (DenE.mcall (c := 0) (m := 33) (DenE.attr (c := 3) (i := 21) (eV x 3) (x.cg 3) (ltN rfl) rfl (x.find 9)) (DenEs.cons (fun _ => rfl) (eV x 7) (DenEs.cons (fun _ => rfl) (eV x 4) DenEs.nil)) (fun _ => rfl) (c_take x (by omega)) (x.cg 0) (ltN rfl) rfl ⟨(x.find 23), (x.fn 4).typ, (x.fn 4).keep⟩ (fun _ => ⟨_, rfl⟩)) (ltN rfl) rfl (by kernel_rfl) (fun _ => rfl))
    (DenSs.cons (DenS.if_ (DenB.cmp (eV x 12) (DenE.mcall (c := 2) (m := 28) (DenE.attr (c := 3) (i := 22) (eV x 3) (x.cg 3) (ltN rfl) rfl (x.find 11)) DenEs.nil (fun _ => rfl) (c_Unions_size x (by omega)) (x.cg 2) (ltN rfl) rfl ⟨(x.find 24), (x.fn 9).typ, (x.fn 9).keep⟩ (fun _ => ⟨_, rfl⟩)) rfl) (DenSs.one (DenS.ret (eV x 12))) DenSs.nil)
    (DenSs.cons (DenS.expr (DenE.mcall (c := 2) (m := 34) (DenE.attr (c := 3) (i := 22) (eV x 3) (x.cg 3) (ltN rfl) rfl (x.find 11)) DenEs.nil (fun _ => rfl) (c_make x (by omega)) (x.cg 2) (ltN rfl) rfl ⟨(x.find 25), (x.fn 8).typ, (x.fn 8).keep⟩ (fun _ => ⟨_, rfl⟩)) (fun _ => rfl))
    (DenSs.cons (DenS.setItem (DenE.attr (c := 3) (i := 13) (eV x 3) (x.cg 3) (ltN rfl) rfl (x.find 19)) (eV x 12) (DenE.listD DenEs.nil) (fun _ => rfl))
    (DenSs.cons (DenS.for_ (DenT.name (ltN rfl) rfl (by kernel_rfl)) (DenI.expr (DenE.setSort (DenE.comp (caps := [3]) (t := tName 11) (test := none) (DenI.expr (eV x 4)) (cScope [3] (by kernel_rfl)) (DenTL.name (ltN rfl) rfl (by kernel_rfl)) (TgtApart.name (by decide)) trivial (DenE.mcall (c := 3) (m := 19) (eV x 3) (DenEs.cons (fun _ => rfl) (eV x 11) DenEs.nil) (fun _ => rfl) (c_Heap_find x (by omega)) (x.cg 3) (ltN rfl) rfl ⟨(x.find 14), (x.fn 15).typ, (x.fn 15).keep⟩ (fun _ => ⟨_, rfl⟩)) (fun _ _ => rfl) (fun _ _ => rfl)) (fun _ => rfl) (fun _ => rfl) (fun _ => rfl) (fun _ => rfl) (by kernel_rfl) (x.ns 5) (by kernel_rfl) (x.ns 8))) (DenSs.one (DenS.expr (DenE.meth (m := .append) (DenE.idx (DenE.attr (c := 3) (i := 13) (eV x 3) (x.cg 3) (ltN rfl) rfl (x.find 19)) (eV x 35) (fun _ _ => ⟨_, rfl⟩)) (DenEs.cons (fun _ => rfl) (eV x 12) DenEs.nil) (fun _ => rfl) (fun _ => rfl) rfl (fun _ => rfl)) (fun _ => rfl))) (fun _ _ => rfl) (fun _ _ => rfl))
    (DenSs.cons (DenS.expr (DenE.mcall (c := 3) (m := 36) (eV x 3) (DenEs.cons (fun _ => rfl) (eV x 12) DenEs.nil) (fun _ => rfl) (c_look_at x (by omega)) (x.cg 3) (ltN rfl) rfl ⟨(x.find 26), (x.fn 18).typ, (x.fn 18).keep⟩ (fun _ => ⟨_, rfl⟩)) (fun _ => rfl))
    (DenSs.one (DenS.ret (eV x 12)))))))))
theorem c_add (x : WIn) {n : Nat} (hn : 5 ≤ n) : CallOk x.W n 394 g_add := by
  obtain ⟨m, rfl⟩ : ∃ m, n = m + 1 := ⟨n - 1, by omega⟩
  exact call_at (x.fn 19) [3, 7, 4] (by kernel_rfl) (fun fd h1 h2 h3 ms hl => by obtain ⟨v0, v1, v2, rfl⟩ := len3 hl; cases fd; cases h1; cases h2; cases h3; kernel_rfl) (b_add x (by omega))
noncomputable def m_Heap_merge : MS :=
    (sRet (eMCall 3 32 g_join (eVar 3) [(eVar 16), (eVar 20), (eVar 29)]))
noncomputable def g_Heap_merge : List V → Sto → Res V := callM [3, 16, 20, 29] m_Heap_merge
theorem b_Heap_merge (x : WIn) {n : Nat} (hn : 3 ≤ n) : DenSs x.W n (kP 20).scope (kP 20).body m_Heap_merge := by
  conv => arg 3; whnf
  conv => arg 4; whnf
  exact (DenSs.one (DenS.ret (DenE.mcall (c := 3) (m := 32) (eV x 3) (DenEs.cons (fun _ => rfl) (eV x 16) (DenEs.cons (fun _ => rfl) (eV x 20) (DenEs.cons (fun _ => rfl) (eV x 29) DenEs.nil))) (fun _ => rfl) (c_join x (by omega)) (x.cg 3) (ltN rfl) rfl ⟨(x.find 22), (x.fn 17).typ, (x.fn 17).keep⟩ (fun _ => ⟨_, rfl⟩))))
theorem c_Heap_merge (x : WIn) {n : Nat} (hn : 4 ≤ n) : CallOk x.W n 429 g_Heap_merge := by
  obtain ⟨m, rfl⟩ : ∃ m, n = m + 1 := ⟨n - 1, by omega⟩
  exact call_at (x.fn 20) [3, 16, 20, 29] (by kernel_rfl) (fun fd h1 h2 h3 ms hl => by obtain ⟨v0, v1, v2, v3, rfl⟩ := len4 hl; cases fd; cases h1; cases h2; cases h3; kernel_rfl) (b_Heap_merge x (by omega))
noncomputable def m_settle : MS :=
    (sWhile 60 (tCmp .Gt (eBlt .len [(eAttr 3 26 (eVar 3))]) (ME.pure (.int 0))) (sExprV (eMCall 3 36 g_look_at (eVar 3) [(eMeth .pop (eAttr 3 26 (eVar 3)) [])])))
noncomputable def g_settle : List V → Sto → Res V := callM [3] m_settle
theorem b_settle (x : WIn) {n : Nat} (hn : 4 ≤ n) : DenSs x.W n (kP 21).scope (kP 21).body m_settle := by
  conv => arg 3; whnf
  conv => arg 4; whnf
  exact (DenSs.one (DenS.while_ 60 (DenB.cmp (DenE.blt (b := .len) (DenEs.cons (fun _ => rfl) (DenE.attr (c := 3) (i := 26) (eV x 3) (x.cg 3) (ltN rfl) rfl (x.find 18)) DenEs.nil) (fun _ => rfl) (by kernel_rfl) (x.ns 0)) (DenE.int _ _ _) rfl) (DenSs.one (DenS.expr (DenE.mcall (c := 3) (m := 36) (eV x 3) (DenEs.cons (fun _ => rfl) (DenE.meth (m := .pop) (DenE.attr (c := 3) (i := 26) (eV x 3) (x.cg 3) (ltN rfl) rfl (x.find 18)) DenEs.nil (fun _ => rfl) (fun _ => rfl) rfl (fun _ => rfl)) DenEs.nil) (fun _ => rfl) (c_look_at x (by omega)) (x.cg 3) (ltN rfl) rfl ⟨(x.find 26), (x.fn 18).typ, (x.fn 18).keep⟩ (fun _ => ⟨_, rfl⟩)) (fun _ => rfl)))))
theorem c_settle (x : WIn) {n : Nat} (hn : 5 ≤ n) : CallOk x.W n 443 g_settle := by
  obtain ⟨m, rfl⟩ : ∃ m, n = m + 1 := ⟨n - 1, by omega⟩
  exact call_at (x.fn 21) [3] (by kernel_rfl) (fun fd h1 h2 h3 ms hl => by obtain ⟨v0, rfl⟩ := len1 hl; cases fd; cases h1; cases h2; cases h3; kernel_rfl) (b_settle x (by omega))
noncomputable def m_Heap_members : MS :=
    (sRet (eMCall 2 37 g_Unions_members (eAttr 3 22 (eVar 3)) [(eVar 35)]))
noncomputable def g_Heap_members : List V → Sto → Res V := callM [3, 35] m_Heap_members
theorem b_Heap_members (x : WIn) {n : Nat} (hn : 2 ≤ n) : DenSs x.W n (kP 22).scope (kP 22).body m_Heap_members := by
  conv => arg 3; whnf
  conv => arg 4; whnf
  exact (DenSs.one (DenS.ret (DenE.mcall (c := 2) (m := 37) (DenE.attr (c := 3) (i := 22) (eV x 3) (x.cg 3) (ltN rfl) rfl (x.find 11)) (DenEs.cons (fun _ => rfl) (eV x 35) DenEs.nil) (fun _ => rfl) (c_Unions_members x (by omega)) (x.cg 2) (ltN rfl) rfl ⟨(x.find 27), (x.fn 12).typ, (x.fn 12).keep⟩ (fun _ => ⟨_, rfl⟩))))
theorem c_Heap_members (x : WIn) {n : Nat} (hn : 3 ≤ n) : CallOk x.W n 464 g_Heap_members := by
  obtain ⟨m, rfl⟩ : ∃ m, n = m + 1 := ⟨n - 1, by omega⟩
  exact call_at (x.fn 22) [3, 35] (by kernel_rfl) (fun fd h1 h2 h3 ms hl => by obtain ⟨v0, v1, rfl⟩ := len2 hl; cases fd; cases h1; cases h2; cases h3; kernel_rfl) (b_Heap_members x (by omega))
noncomputable def m_nodes_of : MS :=
    (sRet (eSetSort (eComp [3] (tName 12) (eIter (eMCall 3 37 g_Heap_members (eVar 3) [(eVar 35)])) none (eMCall 3 8 g_Heap_node (eVar 3) [(eVar 12)]))))
noncomputable def g_nodes_of : List V → Sto → Res V := callM [3, 35] m_nodes_of
theorem b_nodes_of (x : WIn) {n : Nat} (hn : 3 ≤ n) : DenSs x.W n (kP 23).scope (kP 23).body m_nodes_of := by
  conv => arg 3; whnf
  conv => arg 4; whnf
  exact (DenSs.one (DenS.ret (DenE.setSort (DenE.comp (caps := [3]) (t := tName 12) (test := none) (DenI.expr (DenE.mcall (c := 3) (m := 37) (eV x 3) (DenEs.cons (fun _ => rfl) (eV x 35) DenEs.nil) (fun _ => rfl) (c_Heap_members x (by omega)) (x.cg 3) (ltN rfl) rfl ⟨(x.find 28), (x.fn 22).typ, (x.fn 22).keep⟩ (fun _ => ⟨_, rfl⟩))) (cScope [3] (by kernel_rfl)) (DenTL.name (ltN rfl) rfl (by kernel_rfl)) (TgtApart.name (by decide)) trivial (DenE.mcall (c := 3) (m := 8) (eV x 3) (DenEs.cons (fun _ => rfl) (eV x 12) DenEs.nil) (fun _ => rfl) (c_Heap_node x (by omega)) (x.cg 3) (ltN rfl) rfl ⟨(x.find 21), (x.fn 16).typ, (x.fn 16).keep⟩ (fun _ => ⟨_, rfl⟩)) (fun _ _ => rfl) (fun _ _ => rfl)) (fun _ => rfl) (fun _ => rfl) (fun _ => rfl) (fun _ => rfl) (by kernel_rfl) (x.ns 5) (by kernel_rfl) (x.ns 8))))
theorem c_nodes_of (x : WIn) {n : Nat} (hn : 4 ≤ n) : CallOk x.W n 469 g_nodes_of := by
  obtain ⟨m, rfl⟩ : ∃ m, n = m + 1 := ⟨n - 1, by omega⟩
  exact call_at (x.fn 23) [3, 35] (by kernel_rfl) (fun fd h1 h2 h3 ms hl => by obtain ⟨v0, v1, rfl⟩ := len2 hl; cases fd; cases h1; cases h2; cases h3; kernel_rfl) (b_nodes_of x (by omega))
noncomputable def m_Counts_init : MS :=
    (sSeq (sSetAttr 1 38 (eVar 3) (eVar 38))
    (sSeq (sSetAttr 1 39 (eVar 3) (ME.pure .none))
    (sSetAttr 1 25 (eVar 3) (eDict0 .tup))))
noncomputable def g_Counts_init : List V → Sto → Res V := callM [3, 38] m_Counts_init
theorem b_Counts_init (x : WIn) {n : Nat} (hn : 0 ≤ n) : DenSs x.W n (kP 24).scope (kP 24).body m_Counts_init := by
  conv => arg 3; whnf
  conv => arg 4; whnf
  exact (DenSs.cons (DenS.setAttr (c := 1) (i := 38) (eV x 3) (eV x 38) (x.cs 1) (ltN rfl) rfl (x.tak 15) (fun _ => rfl) (fun _ => rfl))
    (DenSs.cons (DenS.setAttr (c := 1) (i := 39) (eV x 3) (DenE.noneC _ _) (x.cs 1) (ltN rfl) rfl (x.tak 16) (fun _ => rfl) (fun _ => rfl))
    (DenSs.one (DenS.setAttr (c := 1) (i := 25) (eV x 3) (DenE.dict0 .tup) (x.cs 1) (ltN rfl) rfl (x.tak 17) (fun _ => rfl) (fun _ => rfl)))))
theorem c_Counts_init (x : WIn) {n : Nat} (hn : 1 ≤ n) : CallOk x.W n 216 g_Counts_init := by
  obtain ⟨m, rfl⟩ : ∃ m, n = m + 1 := ⟨n - 1, by omega⟩
  exact call_at (x.fn 24) [3, 38] (by kernel_rfl) (fun fd h1 h2 h3 ms hl => by obtain ⟨v0, v1, rfl⟩ := len2 hl; cases fd; cases h1; cases h2; cases h3; kernel_rfl) (b_Counts_init x (by omega))
noncomputable def m_renewed : MS :=
    (sSeq (sIf (tCmp .Gt (eVar 28) (ME.pure (.int 200))) (sRaise 4) sSkip)
    (sSeq (sAssign (tName 39) (eTup [(eMCall 3 28 g_Heap_size (eAttr 1 38 (eVar 3)) []), (eBlt .len [(eAttr 3 23 (eAttr 1 38 (eVar 3)))]), (eAttr 3 27 (eAttr 1 38 (eVar 3)))]))
    (sIf (tCmp .NotEq (eVar 39) (eAttr 1 39 (eVar 3))) (sSeq (sSetAttr 1 39 (eVar 3) (eVar 39))
    (sSetAttr 1 25 (eVar 3) (eDict0 .tup))) sSkip)))
noncomputable def g_renewed : List V → Sto → Res V := callM [3, 28] m_renewed
theorem b_renewed (x : WIn) {n : Nat} (hn : 2 ≤ n) : DenSs x.W n (kP 25).scope (kP 25).body m_renewed := by
  conv => arg 3; whnf
  conv => arg 4; whnf
  exact (DenSs.cons (DenS.if_ (DenB.cmp (eV x 28) (DenE.gint (i := 200) (by kernel_rfl) (x.ns 9) (by kernel_rfl)) rfl) (DenSs.one (raise_limit x)) DenSs.nil)
    (DenSs.cons (DenS.assign (DenE.tup (DenEs.cons (fun _ => rfl) (DenE.mcall (c := 3) (m := 28) (DenE.attr (c := 1) (i := 38) (eV x 3) (x.cg 1) (ltN rfl) rfl (x.find 29)) DenEs.nil (fun _ => rfl) (c_Heap_size x (by omega)) (x.cg 3) (ltN rfl) rfl ⟨(x.find 30), (x.fn 14).typ, (x.fn 14).keep⟩ (fun _ => ⟨_, rfl⟩)) (DenEs.cons (fun _ => rfl) (DenE.blt (b := .len) (DenEs.cons (fun _ => rfl) (DenE.attr (c := 3) (i := 23) (DenE.attr (c := 1) (i := 38) (eV x 3) (x.cg 1) (ltN rfl) rfl (x.find 29)) (x.cg 3) (ltN rfl) rfl (x.find 15)) DenEs.nil) (fun _ => rfl) (by kernel_rfl) (x.ns 0)) (DenEs.cons (fun _ => rfl) (DenE.attr (c := 3) (i := 27) (DenE.attr (c := 1) (i := 38) (eV x 3) (x.cg 1) (ltN rfl) rfl (x.find 29)) (x.cg 3) (ltN rfl) rfl (x.find 31)) DenEs.nil)))) (ltN rfl) rfl (by kernel_rfl) (fun _ => rfl))
    (DenSs.one (DenS.if_ (DenB.cmp (eV x 39) (DenE.attr (c := 1) (i := 39) (eV x 3) (x.cg 1) (ltN rfl) rfl (x.find 32)) rfl) (DenSs.cons (DenS.setAttr (c := 1) (i := 39) (eV x 3) (eV x 39) (x.cs 1) (ltN rfl) rfl (x.tak 16) (fun _ => rfl) (fun _ => rfl))
    (DenSs.one (DenS.setAttr (c := 1) (i := 25) (eV x 3) (DenE.dict0 .tup) (x.cs 1) (ltN rfl) rfl (x.tak 17) (fun _ => rfl) (fun _ => rfl)))) DenSs.nil))))
theorem c_renewed (x : WIn) {n : Nat} (hn : 3 ≤ n) : CallOk x.W n 223 g_renewed := by
  obtain ⟨m, rfl⟩ : ∃ m, n = m + 1 := ⟨n - 1, by omega⟩
  exact call_at (x.fn 25) [3, 28] (by kernel_rfl) (fun fd h1 h2 h3 ms hl => by obtain ⟨v0, v1, rfl⟩ := len2 hl; cases fd; cases h1; cases h2; cases h3; kernel_rfl) (b_renewed x (by omega))
noncomputable def m_rows (r : List V → Sto → Res V) : MS :=
    (sSeq (sIf (tOr [(tCmp .Eq (eBlt .len [(eVar 40)]) (ME.pure (.int 0))), (tCmp .Lt (eVar 28) (eBlt .len [(eVar 40)]))]) (sRet (eIf (tAnd [(tCmp .Eq (eVar 28) (ME.pure (.int 0))), (tCmp .Eq (eBlt .len [(eVar 40)]) (ME.pure (.int 0)))]) (ME.pure (.int 1)) (ME.pure (.int 0)))) sSkip)
    (sSeq (sAssign (tName 41) (eTup [(eVar 40), (eVar 28)]))
    (sSeq (sIf (tCmp .NotIn (eVar 41) (eAttr 1 25 (eVar 3))) (sSeq (sIf (tCmp .Eq (eBlt .len [(eVar 40)]) (ME.pure (.int 1))) (sAssign (tName 42) (eBlt .sum [(eComp [3, 28] (tName 8) (eIter (eMCall 3 43 g_nodes_of (eAttr 1 38 (eVar 3)) [(eIdx (eVar 40) (ME.pure (.int 0)))])) none (eMCall 1 44 r (eVar 3) [(eFrom 1 (eVar 8)), (eBin .Sub (eVar 28) (ME.pure (.int 1)))]))])) (sSeq (sAssign (tName 42) (ME.pure (.int 0)))
    (sFor (tName 45) (eRange2 (ME.pure (.int 1)) (eBin .Add (eBin .Sub (eVar 28) (eBlt .len [(eVar 40)])) (ME.pure (.int 2)))) (sSeq (sAssign (tName 46) (eMCall 1 44 r (eVar 3) [(eUpto 1 (eVar 40)), (eVar 45)]))
    (sIf (tCmp .Gt (eVar 46) (ME.pure (.int 0))) (sAssign (tName 42) (eBin .Add (eVar 42) (eBin .Mult (eVar 46) (eMCall 1 44 r (eVar 3) [(eFrom 1 (eVar 40)), (eBin .Sub (eVar 28) (eVar 45))])))) sSkip)))))
    (sSetItem (eAttr 1 25 (eVar 3)) (eVar 41) (eVar 42))) sSkip)
    (sRet (eIdx (eAttr 1 25 (eVar 3)) (eVar 41))))))
noncomputable def g_rows : Nat → List V → Sto → Res V
  | 0 => fun _ _ => .stuck
  | d + 1 => callM [3, 40, 28] (m_rows (g_rows d))
theorem b_rows (x : WIn) {n : Nat} (hn : 4 ≤ n) {r : List V → Sto → Res V} (hr : CallOk x.W n 240 r) : DenSs x.W n (kP 26).scope (kP 26).body (m_rows r) := by
  conv => arg 3; whnf
  conv => arg 4; whnf
  exact (DenSs.cons (DenS.if_ (DenB.or (DenB.cmp (DenE.blt (b := .len) (DenEs.cons (fun _ => rfl) (eV x 40) DenEs.nil) (fun _ => rfl) (by kernel_rfl) (x.ns 0)) (DenE.int _ _ _) rfl) (DenB.or (DenB.cmp (eV x 28) (DenE.blt (b := .len) (DenEs.cons (fun _ => rfl) (eV x 40) DenEs.nil) (fun _ => rfl) (by kernel_rfl) (x.ns 0)) rfl) DenB.or_nil)) (DenSs.one (DenS.ret (DenE.ifExp (DenB.and (DenB.cmp (eV x 28) (DenE.int _ _ _) rfl) (DenB.and (DenB.cmp (DenE.blt (b := .len) (DenEs.cons (fun _ => rfl) (eV x 40) DenEs.nil) (fun _ => rfl) (by kernel_rfl) (x.ns 0)) (DenE.int _ _ _) rfl) DenB.and_nil)) (DenE.int _ _ _) (DenE.int _ _ _)))) DenSs.nil)
    (DenSs.cons (DenS.assign (DenE.tup (DenEs.cons (fun _ => rfl) (eV x 40) (DenEs.cons (fun _ => rfl) (eV x 28) DenEs.nil))) (ltN rfl) rfl (by kernel_rfl) (fun _ => rfl))
    (DenSs.cons (DenS.if_ (DenB.cmp (eV x 41) (DenE.attr (c := 1) (i := 25) (eV x 3) (x.cg 1) (ltN rfl) rfl (x.find 33)) rfl) (DenSs.cons (DenS.if_ (DenB.cmp (DenE.blt (b := .len) (DenEs.cons (fun _ => rfl) (eV x 40) DenEs.nil) (fun _ => rfl) (by kernel_rfl) (x.ns 0)) (DenE.int _ _ _) rfl) (DenSs.one (DenS.assign (DenE.blt (b := .sum) (DenEs.cons (fun _ => rfl) (DenE.comp (caps := [3, 28]) (t := tName 8) (test := none) (DenI.expr (DenE.mcall (c := 3) (m := 43) (DenE.attr (c := 1) (i := 38) (eV x 3) (x.cg 1) (ltN rfl) rfl (x.find 29)) (DenEs.cons (fun _ => rfl) (DenE.idx (eV x 40) (DenE.int _ _ _) (fun _ _ => ⟨_, rfl⟩)) DenEs.nil) (fun _ => rfl) (c_nodes_of x (by omega)) (x.cg 3) (ltN rfl) rfl ⟨(x.find 34), (x.fn 23).typ, (x.fn 23).keep⟩ (fun _ => ⟨_, rfl⟩))) (cScope [3, 28] (by kernel_rfl)) (DenTL.name (ltN rfl) rfl (by kernel_rfl)) (TgtApart.name (by decide)) trivial (DenE.mcall (c := 1) (m := 44) (eV x 3) (DenEs.cons (fun _ => rfl) (DenE.from_ (eV x 8) (by decide)) (DenEs.cons (fun _ => rfl) (DenE.bin (eV x 28) (DenE.int _ _ _)) DenEs.nil)) (fun _ => rfl) hr (x.cg 1) (ltN rfl) rfl ⟨(x.find 35), (x.fn 26).typ, (x.fn 26).keep⟩ (fun _ => ⟨_, rfl⟩)) (fun _ _ => rfl) (fun _ _ => rfl)) DenEs.nil) (fun _ => rfl) (by kernel_rfl) (x.ns 3)) (ltN rfl) rfl (by kernel_rfl) (fun _ => rfl))) (DenSs.cons (DenS.assign (DenE.int _ _ _) (ltN rfl) rfl (by kernel_rfl) (fun _ => rfl))
    (DenSs.one (DenS.for_ (DenT.name (ltN rfl) rfl (by kernel_rfl)) (DenI.range2 (DenEs.cons (fun _ => rfl) (DenE.int _ _ _) (DenEs.cons (fun _ => rfl) (DenE.bin (DenE.bin (eV x 28) (DenE.blt (b := .len) (DenEs.cons (fun _ => rfl) (eV x 40) DenEs.nil) (fun _ => rfl) (by kernel_rfl) (x.ns 0))) (DenE.int _ _ _)) DenEs.nil)) (fun _ => rfl) (by kernel_rfl) (x.ns 10)) (DenSs.cons (DenS.assign (DenE.mcall (c := 1) (m := 44) (eV x 3) (DenEs.cons (fun _ => rfl) (DenE.upto (eV x 40)) (DenEs.cons (fun _ => rfl) (eV x 45) DenEs.nil)) (fun _ => rfl) hr (x.cg 1) (ltN rfl) rfl ⟨(x.find 35), (x.fn 26).typ, (x.fn 26).keep⟩ (fun _ => ⟨_, rfl⟩)) (ltN rfl) rfl (by kernel_rfl) (fun _ => rfl))
    (DenSs.one (DenS.if_ (DenB.cmp (eV x 46) (DenE.int _ _ _) rfl) (DenSs.one (DenS.assign (DenE.bin (eV x 42) (DenE.bin (eV x 46) (DenE.mcall (c := 1) (m := 44) (eV x 3) (DenEs.cons (fun _ => rfl) (DenE.from_ (eV x 40) (by decide)) (DenEs.cons (fun _ => rfl) (DenE.bin (eV x 28) (eV x 45)) DenEs.nil)) (fun _ => rfl) hr (x.cg 1) (ltN rfl) rfl ⟨(x.find 35), (x.fn 26).typ, (x.fn 26).keep⟩ (fun _ => ⟨_, rfl⟩)))) (ltN rfl) rfl (by kernel_rfl) (fun _ => rfl))) DenSs.nil))) (fun _ _ => rfl) (fun _ _ => rfl)))))
    (DenSs.one (DenS.setItem (DenE.attr (c := 1) (i := 25) (eV x 3) (x.cg 1) (ltN rfl) rfl (x.find 33)) (eV x 41) (eV x 42) (fun _ => rfl)))) DenSs.nil)
    (DenSs.one (DenS.ret (DenE.idx (DenE.attr (c := 1) (i := 25) (eV x 3) (x.cg 1) (ltN rfl) rfl (x.find 33)) (eV x 41) (fun _ _ => ⟨_, rfl⟩)))))))
theorem c_rows (x : WIn) : ∀ (d : Nat) {n : Nat}, d + 4 + 1 ≤ n → CallOk x.W n 240 (g_rows d)
  | 0, _, _ => fun _ _ _ _ _ _ _ _ _ _ _ _ p => p.elim
  | d + 1, n, hn => by
    obtain ⟨m, rfl⟩ : ∃ m, n = m + 1 := ⟨n - 1, by omega⟩
    exact call_at (x.fn 26) [3, 40, 28] (by kernel_rfl) (fun fd h1 h2 h3 ms hl => by obtain ⟨v0, v1, v2, rfl⟩ := len3 hl; cases fd; cases h1; cases h2; cases h3; kernel_rfl) (b_rows x (by omega) (c_rows x d (by omega)))
noncomputable def m_many : MS :=
    (sSeq (sExprV (eMCall 1 47 g_renewed (eVar 3) [(eVar 28)]))
    (sRet (eMCall 1 44 (g_rows 205) (eVar 3) [(eTup [(eMCall 3 19 g_Heap_find (eAttr 1 38 (eVar 3)) [(eVar 35)])]), (eVar 28)])))
noncomputable def g_many : List V → Sto → Res V := callM [3, 35, 28] m_many
theorem b_many (x : WIn) {n : Nat} (hn : 210 ≤ n) : DenSs x.W n (kP 27).scope (kP 27).body m_many := by
  conv => arg 3; whnf
  conv => arg 4; whnf
  exact (DenSs.cons (DenS.expr (DenE.mcall (c := 1) (m := 47) (eV x 3) (DenEs.cons (fun _ => rfl) (eV x 28) DenEs.nil) (fun _ => rfl) (c_renewed x (by omega)) (x.cg 1) (ltN rfl) rfl ⟨(x.find 36), (x.fn 25).typ, (x.fn 25).keep⟩ (fun _ => ⟨_, rfl⟩)) (fun _ => rfl))
    (DenSs.one (DenS.ret (DenE.mcall (c := 1) (m := 44) (eV x 3) (DenEs.cons (fun _ => rfl) (DenE.tup (DenEs.cons (fun _ => rfl) (DenE.mcall (c := 3) (m := 19) (DenE.attr (c := 1) (i := 38) (eV x 3) (x.cg 1) (ltN rfl) rfl (x.find 29)) (DenEs.cons (fun _ => rfl) (eV x 35) DenEs.nil) (fun _ => rfl) (c_Heap_find x (by omega)) (x.cg 3) (ltN rfl) rfl ⟨(x.find 14), (x.fn 15).typ, (x.fn 15).keep⟩ (fun _ => ⟨_, rfl⟩)) DenEs.nil)) (DenEs.cons (fun _ => rfl) (eV x 28) DenEs.nil)) (fun _ => rfl) (c_rows x 205 (by omega)) (x.cg 1) (ltN rfl) rfl ⟨(x.find 35), (x.fn 26).typ, (x.fn 26).keep⟩ (fun _ => ⟨_, rfl⟩)))))
theorem c_many (x : WIn) {n : Nat} (hn : 211 ≤ n) : CallOk x.W n 230 g_many := by
  obtain ⟨m, rfl⟩ : ∃ m, n = m + 1 := ⟨n - 1, by omega⟩
  exact call_at (x.fn 27) [3, 35, 28] (by kernel_rfl) (fun fd h1 h2 h3 ms hl => by obtain ⟨v0, v1, v2, rfl⟩ := len3 hl; cases fd; cases h1; cases h2; cases h3; kernel_rfl) (b_many x (by omega))
noncomputable def m_upto : MS :=
    (sRet (eBlt .sum [(eComp [35, 3] (tName 46) (eRange2 (ME.pure (.int 1)) (eBin .Add (eVar 28) (ME.pure (.int 1)))) none (eMCall 1 48 g_many (eVar 3) [(eVar 35), (eVar 46)]))]))
noncomputable def g_upto : List V → Sto → Res V := callM [3, 35, 28] m_upto
theorem b_upto (x : WIn) {n : Nat} (hn : 211 ≤ n) : DenSs x.W n (kP 28).scope (kP 28).body m_upto := by
  conv => arg 3; whnf
  conv => arg 4; whnf
  exact (DenSs.one (DenS.ret (DenE.blt (b := .sum) (DenEs.cons (fun _ => rfl) (DenE.comp (caps := [35, 3]) (t := tName 46) (test := none) (DenI.range2 (DenEs.cons (fun _ => rfl) (DenE.int _ _ _) (DenEs.cons (fun _ => rfl) (DenE.bin (eV x 28) (DenE.int _ _ _)) DenEs.nil)) (fun _ => rfl) (by kernel_rfl) (x.ns 10)) (cScope [35, 3] (by kernel_rfl)) (DenTL.name (ltN rfl) rfl (by kernel_rfl)) (TgtApart.name (by decide)) trivial (DenE.mcall (c := 1) (m := 48) (eV x 3) (DenEs.cons (fun _ => rfl) (eV x 35) (DenEs.cons (fun _ => rfl) (eV x 46) DenEs.nil)) (fun _ => rfl) (c_many x (by omega)) (x.cg 1) (ltN rfl) rfl ⟨(x.find 37), (x.fn 27).typ, (x.fn 27).keep⟩ (fun _ => ⟨_, rfl⟩)) (fun _ _ => rfl) (fun _ _ => rfl)) DenEs.nil) (fun _ => rfl) (by kernel_rfl) (x.ns 3))))
theorem c_upto (x : WIn) {n : Nat} (hn : 212 ≤ n) : CallOk x.W n 235 g_upto := by
  obtain ⟨m, rfl⟩ : ∃ m, n = m + 1 := ⟨n - 1, by omega⟩
  exact call_at (x.fn 28) [3, 35, 28] (by kernel_rfl) (fun fd h1 h2 h3 ms hl => by obtain ⟨v0, v1, v2, rfl⟩ := len3 hl; cases fd; cases h1; cases h2; cases h3; kernel_rfl) (b_upto x (by omega))
noncomputable def m_listed : MS :=
    (sSeq (sIf (tCmp .Gt (eMCall 1 48 g_many (eVar 3) [(eVar 35), (eVar 28)]) (ME.pure (.int 10000))) sStuck sSkip) sStuck)
noncomputable def g_listed : List V → Sto → Res V := callM [3, 35, 28] m_listed
theorem b_listed (x : WIn) {n : Nat} (hn : 211 ≤ n) : DenSs x.W n (kP 29).scope (kP 29).body m_listed := by
  conv => arg 3; whnf
  conv => arg 4; whnf
  exact (DenSs.cons (DenS.if_ (DenB.cmp (DenE.mcall (c := 1) (m := 48) (eV x 3) (DenEs.cons (fun _ => rfl) (eV x 35) (DenEs.cons (fun _ => rfl) (eV x 28) DenEs.nil)) (fun _ => rfl) (c_many x (by omega)) (x.cg 1) (ltN rfl) rfl ⟨(x.find 37), (x.fn 27).typ, (x.fn 27).keep⟩ (fun _ => ⟨_, rfl⟩)) (DenE.gint (i := 10000) (by kernel_rfl) (x.ns 11) (by kernel_rfl)) rfl) DenSs.stuck DenSs.nil) DenSs.stuck)
theorem c_listed (x : WIn) {n : Nat} (hn : 212 ≤ n) : CallOk x.W n 245 g_listed := by
  obtain ⟨m, rfl⟩ : ∃ m, n = m + 1 := ⟨n - 1, by omega⟩
  exact call_at (x.fn 29) [3, 35, 28] (by kernel_rfl) (fun fd h1 h2 h3 ms hl => by obtain ⟨v0, v1, v2, rfl⟩ := len3 hl; cases fd; cases h1; cases h2; cases h3; kernel_rfl) (b_listed x (by omega))
noncomputable def m_nth : MS :=
    (sSeq (sIf (tNot (tChain .LtE .Lt (ME.pure (.int 0)) (eVar 49) (eMCall 1 48 g_many (eVar 3) [(eVar 35), (eVar 28)]))) (sRet (ME.pure .none)) sSkip) sStuck)
noncomputable def g_nth : List V → Sto → Res V := callM [3, 35, 28, 49] m_nth
theorem b_nth (x : WIn) {n : Nat} (hn : 211 ≤ n) : DenSs x.W n (kP 30).scope (kP 30).body m_nth := by
  conv => arg 3; whnf
  conv => arg 4; whnf
  exact (DenSs.cons (DenS.if_ (DenB.not (DenB.chain (DenE.int _ _ _) (eV x 49) (DenE.mcall (c := 1) (m := 48) (eV x 3) (DenEs.cons (fun _ => rfl) (eV x 35) (DenEs.cons (fun _ => rfl) (eV x 28) DenEs.nil)) (fun _ => rfl) (c_many x (by omega)) (x.cg 1) (ltN rfl) rfl ⟨(x.find 37), (x.fn 27).typ, (x.fn 27).keep⟩ (fun _ => ⟨_, rfl⟩)) rfl)) (DenSs.one (DenS.ret (DenE.noneC _ _))) DenSs.nil) DenSs.stuck)
theorem c_nth (x : WIn) {n : Nat} (hn : 212 ≤ n) : CallOk x.W n 260 g_nth := by
  obtain ⟨m, rfl⟩ : ∃ m, n = m + 1 := ⟨n - 1, by omega⟩
  exact call_at (x.fn 30) [3, 35, 28, 49] (by kernel_rfl) (fun fd h1 h2 h3 ms hl => by obtain ⟨v0, v1, v2, v3, rfl⟩ := len4 hl; cases fd; cases h1; cases h2; cases h3; kernel_rfl) (b_nth x (by omega))
noncomputable def m_pick : MS :=
    (sSeq (sSetItem (eVar 50) (ME.pure (.str [115, 112, 111, 116])) (eBin .Add (eIdx (eVar 50) (ME.pure (.str [115, 112, 111, 116]))) (ME.pure (.int 1))))
    (sSeq (sIf (tCmp .LtE (eIdx (eVar 50) (ME.pure (.str [115, 112, 111, 116]))) (eBlt .len [(eIdx (eVar 50) (ME.pure (.str [99, 101, 108, 108, 115])))])) (sRet (eBin .Mod (eIdx (eIdx (eVar 50) (ME.pure (.str [99, 101, 108, 108, 115]))) (eBin .Sub (eIdx (eVar 50) (ME.pure (.str [115, 112, 111, 116]))) (ME.pure (.int 1)))) (eVar 48))) sSkip)
    (sSeq (sSetItem (eVar 50) (ME.pure (.str [115, 116, 105, 114])) (eBin .Mod (eBin .Add (eBin .Mult (eIdx (eVar 50) (ME.pure (.str [115, 116, 105, 114]))) (ME.pure (.int 29))) (ME.pure (.int 13))) (ME.pure (.int 1021))))
    (sRet (eBin .Mod (eBin .FloorDiv (eIdx (eVar 50) (ME.pure (.str [115, 116, 105, 114]))) (ME.pure (.int 3))) (eVar 48))))))
noncomputable def g_pick : List V → Sto → Res V := callM [50, 48] m_pick
theorem b_pick (x : WIn) {n : Nat} (hn : 0 ≤ n) : DenSs x.W n (kP 31).scope (kP 31).body m_pick := by
  conv => arg 3; whnf
  conv => arg 4; whnf
  exact (DenSs.cons (DenS.setItem (eV x 50) (DenE.str "spot" [115, 112, 111, 116] _ _ (by kernel_rfl)) (DenE.bin (DenE.idx (eV x 50) (DenE.str "spot" [115, 112, 111, 116] _ _ (by kernel_rfl)) (fun _ _ => ⟨_, rfl⟩)) (DenE.int _ _ _)) (fun _ => rfl))
    (DenSs.cons (DenS.if_ (DenB.cmp (DenE.idx (eV x 50) (DenE.str "spot" [115, 112, 111, 116] _ _ (by kernel_rfl)) (fun _ _ => ⟨_, rfl⟩)) (DenE.blt (b := .len) (DenEs.cons (fun _ => rfl) (DenE.idx (eV x 50) (DenE.str "cells" [99, 101, 108, 108, 115] _ _ (by kernel_rfl)) (fun _ _ => ⟨_, rfl⟩)) DenEs.nil) (fun _ => rfl) (by kernel_rfl) (x.ns 0)) rfl) (DenSs.one (DenS.ret (DenE.bin (DenE.idx (DenE.idx (eV x 50) (DenE.str "cells" [99, 101, 108, 108, 115] _ _ (by kernel_rfl)) (fun _ _ => ⟨_, rfl⟩)) (DenE.bin (DenE.idx (eV x 50) (DenE.str "spot" [115, 112, 111, 116] _ _ (by kernel_rfl)) (fun _ _ => ⟨_, rfl⟩)) (DenE.int _ _ _)) (fun _ _ => ⟨_, rfl⟩)) (eV x 48)))) DenSs.nil)
    (DenSs.cons (DenS.setItem (eV x 50) (DenE.str "stir" [115, 116, 105, 114] _ _ (by kernel_rfl)) (DenE.bin (DenE.bin (DenE.bin (DenE.idx (eV x 50) (DenE.str "stir" [115, 116, 105, 114] _ _ (by kernel_rfl)) (fun _ _ => ⟨_, rfl⟩)) (DenE.int _ _ _)) (DenE.int _ _ _)) (DenE.int _ _ _)) (fun _ => rfl))
    (DenSs.one (DenS.ret (DenE.bin (DenE.bin (DenE.idx (eV x 50) (DenE.str "stir" [115, 116, 105, 114] _ _ (by kernel_rfl)) (fun _ _ => ⟨_, rfl⟩)) (DenE.int _ _ _)) (eV x 48)))))))
theorem c_pick (x : WIn) {n : Nat} (hn : 1 ≤ n) : CallOk x.W n 502 g_pick := by
  obtain ⟨m, rfl⟩ : ∃ m, n = m + 1 := ⟨n - 1, by omega⟩
  exact call_at (x.fn 31) [50, 48] (by kernel_rfl) (fun fd h1 h2 h3 ms hl => by obtain ⟨v0, v1, rfl⟩ := len2 hl; cases fd; cases h1; cases h2; cases h3; kernel_rfl) (b_pick x (by omega))
noncomputable def m_hand : MS :=
    (sSeq (sAssign (tName 51) (eComp [] (tName 52) (eIter (eUpto 50 (eVar 53))) none (eBin .Mod (eBlt .abs [(eVar 52)]) (ME.pure (.int 1000003)))))
    (sRet (eDict3 [99, 101, 108, 108, 115] [115, 112, 111, 116] [115, 116, 105, 114] (eVar 51) (ME.pure (.int 0)) (eBin .Mod (eBin .Add (ME.pure (.int 5)) (eBlt .sum [(eVar 51)])) (ME.pure (.int 1021))))))
noncomputable def g_hand : List V → Sto → Res V := callM [53] m_hand
theorem b_hand (x : WIn) {n : Nat} (hn : 0 ≤ n) : DenSs x.W n (kP 32).scope (kP 32).body m_hand := by
  conv => arg 3; whnf
  conv => arg 4; whnf
  exact (DenSs.cons (DenS.assignComp (caps := []) (t := tName 52) (test := none) (DenI.expr (DenE.upto (eV x 53))) (cScope [] (by kernel_rfl)) (DenTL.name (ltN rfl) rfl (by kernel_rfl)) (TgtApart.name (by decide)) trivial (DenE.bin (DenE.blt (b := .abs) (DenEs.cons (fun _ => rfl) (eV x 52) DenEs.nil) (fun _ => rfl) (by kernel_rfl) (x.ns 12)) (DenE.int _ _ _)) (fun _ _ => rfl) (fun _ _ => rfl) (ltN rfl) rfl (by kernel_rfl) (fun env h => by cases env; cases h; kernel_rfl))
    (DenSs.one (DenS.ret (DenE.dict3 (s1 := "cells") (s2 := "spot") (s3 := "stir") (eV x 51) (DenE.int _ _ _) (DenE.bin (DenE.bin (DenE.int _ _ _) (DenE.blt (b := .sum) (DenEs.cons (fun _ => rfl) (eV x 51) DenEs.nil) (fun _ => rfl) (by kernel_rfl) (x.ns 3))) (DenE.int _ _ _)) (by kernel_rfl) (by kernel_rfl) (by kernel_rfl)))))
theorem c_hand (x : WIn) {n : Nat} (hn : 1 ≤ n) : CallOk x.W n 507 g_hand := by
  obtain ⟨m, rfl⟩ : ∃ m, n = m + 1 := ⟨n - 1, by omega⟩
  exact call_at (x.fn 32) [53] (by kernel_rfl) (fun fd h1 h2 h3 ms hl => by obtain ⟨v0, rfl⟩ := len1 hl; cases fd; cases h1; cases h2; cases h3; kernel_rfl) (b_hand x (by omega))
noncomputable def m_one : MS :=
    (sRet (eIf (tCmp .Gt (eVar 54) (ME.pure (.int 0))) (eBin .Mult (eVar 55) (eBin .Pow (eVar 56) (eBin .Sub (eVar 54) (ME.pure (.int 1))))) (ME.pure (.int 0))))
noncomputable def g_one : List V → Sto → Res V := callM [55, 56, 54] m_one
theorem b_one (x : WIn) {n : Nat} (hn : 0 ≤ n) : DenSs x.W n (kP 33).scope (kP 33).body m_one := by
  conv => arg 3; whnf
  conv => arg 4; whnf
  exact (DenSs.one (DenS.ret (DenE.ifExp (DenB.cmp (eV x 54) (DenE.int _ _ _) rfl) (DenE.bin (eV x 55) (DenE.bin (eV x 56) (DenE.bin (eV x 54) (DenE.int _ _ _)))) (DenE.int _ _ _))))
theorem c_one (x : WIn) {n : Nat} (hn : 1 ≤ n) : CallOk x.W n 514 g_one := by
  obtain ⟨m, rfl⟩ : ∃ m, n = m + 1 := ⟨n - 1, by omega⟩
  exact call_at (x.fn 33) [55, 56, 54] (by kernel_rfl) (fun fd h1 h2 h3 ms hl => by obtain ⟨v0, v1, v2, rfl⟩ := len3 hl; cases fd; cases h1; cases h2; cases h3; kernel_rfl) (b_one x (by omega))
noncomputable def m_three : MS :=
    (sSeq (sAssign (tName 42) (ME.pure (.int 0)))
    (sSeq (sFor (tName 45) (eRange2 (ME.pure (.int 1)) (eBin .Sub (eVar 54) (ME.pure (.int 2)))) (sFor (tName 57) (eRange2 (ME.pure (.int 1)) (eBin .Sub (eBin .Sub (eVar 54) (ME.pure (.int 1))) (eVar 45))) (sSeq (sAssign (tName 58) (eBin .Sub (eBin .Sub (eBin .Sub (eVar 54) (ME.pure (.int 1))) (eVar 45)) (eVar 57)))
    (sAssign (tName 42) (eBin .Add (eVar 42) (eBin .Mult (eBin .Mult (eCall g_one [(eVar 55), (eVar 56), (eVar 45)]) (eCall g_one [(eVar 55), (eVar 56), (eVar 57)])) (eCall g_one [(eVar 55), (eVar 56), (eVar 58)])))))))
    (sRet (eVar 42))))
noncomputable def g_three : List V → Sto → Res V := callM [55, 56, 54] m_three
theorem b_three (x : WIn) {n : Nat} (hn : 1 ≤ n) : DenSs x.W n (kP 34).scope (kP 34).body m_three := by
  conv => arg 3; whnf
  conv => arg 4; whnf
  exact (DenSs.cons (DenS.assign (DenE.int _ _ _) (ltN rfl) rfl (by kernel_rfl) (fun _ => rfl))
    (DenSs.cons (DenS.for_ (DenT.name (ltN rfl) rfl (by kernel_rfl)) (DenI.range2 (DenEs.cons (fun _ => rfl) (DenE.int _ _ _) (DenEs.cons (fun _ => rfl) (DenE.bin (eV x 54) (DenE.int _ _ _)) DenEs.nil)) (fun _ => rfl) (by kernel_rfl) (x.ns 10)) (DenSs.one (DenS.for_ (DenT.name (ltN rfl) rfl (by kernel_rfl)) (DenI.range2 (DenEs.cons (fun _ => rfl) (DenE.int _ _ _) (DenEs.cons (fun _ => rfl) (DenE.bin (DenE.bin (eV x 54) (DenE.int _ _ _)) (eV x 45)) DenEs.nil)) (fun _ => rfl) (by kernel_rfl) (x.ns 10)) (DenSs.cons (DenS.assign (DenE.bin (DenE.bin (DenE.bin (eV x 54) (DenE.int _ _ _)) (eV x 45)) (eV x 57)) (ltN rfl) rfl (by kernel_rfl) (fun _ => rfl))
    (DenSs.one (DenS.assign (DenE.bin (eV x 42) (DenE.bin (DenE.bin (DenE.call (DenEs.cons (fun _ => rfl) (eV x 55) (DenEs.cons (fun _ => rfl) (eV x 56) (DenEs.cons (fun _ => rfl) (eV x 45) DenEs.nil))) (fun _ => rfl) (c_one x (by omega)) (x.fn 33).keep (by kernel_rfl) (x.ns 13) (by kernel_rfl)) (DenE.call (DenEs.cons (fun _ => rfl) (eV x 55) (DenEs.cons (fun _ => rfl) (eV x 56) (DenEs.cons (fun _ => rfl) (eV x 57) DenEs.nil))) (fun _ => rfl) (c_one x (by omega)) (x.fn 33).keep (by kernel_rfl) (x.ns 13) (by kernel_rfl))) (DenE.call (DenEs.cons (fun _ => rfl) (eV x 55) (DenEs.cons (fun _ => rfl) (eV x 56) (DenEs.cons (fun _ => rfl) (eV x 58) DenEs.nil))) (fun _ => rfl) (c_one x (by omega)) (x.fn 33).keep (by kernel_rfl) (x.ns 13) (by kernel_rfl)))) (ltN rfl) rfl (by kernel_rfl) (fun _ => rfl)))) (fun _ _ => rfl) (fun _ _ => rfl))) (fun _ _ => rfl) (fun _ _ => rfl))
    (DenSs.one (DenS.ret (eV x 42)))))
theorem c_three (x : WIn) {n : Nat} (hn : 2 ≤ n) : CallOk x.W n 521 g_three := by
  obtain ⟨m, rfl⟩ : ∃ m, n = m + 1 := ⟨n - 1, by omega⟩
  exact call_at (x.fn 34) [55, 56, 54] (by kernel_rfl) (fun fd h1 h2 h3 ms hl => by obtain ⟨v0, v1, v2, rfl⟩ := len3 hl; cases fd; cases h1; cases h2; cases h3; kernel_rfl) (b_three x (by omega))
noncomputable def m_refused : MS :=
    (sSeq (sTryTrue 4 (sIf (tCmp .Eq (eVar 59) (ME.pure (.str [109, 97, 110, 121]))) (sExprV (eMCall 1 48 g_many (eVar 60) [(eVar 12), (eVar 54)])) (sIf (tCmp .Eq (eVar 59) (ME.pure (.str [117, 112, 116, 111]))) (sExprV (eMCall 1 61 g_upto (eVar 60) [(eVar 12), (eVar 54)])) (sIf (tCmp .Eq (eVar 59) (ME.pure (.str [108, 105, 115, 116, 101, 100]))) (sExprV (eMCall 1 62 g_listed (eVar 60) [(eVar 12), (eVar 54)])) (sExprV (eMCall 1 63 g_nth (eVar 60) [(eVar 12), (eVar 54), (ME.pure (.int 0))]))))))
    (sRet (ME.pure (.bool false))))
noncomputable def g_refused : List V → Sto → Res V := callM [60, 59, 12, 54] m_refused
theorem b_refused (x : WIn) {n : Nat} (hn : 212 ≤ n) : DenSs x.W n (kP 35).scope (kP 35).body m_refused := by
  conv => arg 3; whnf
  conv => arg 4; whnf
  exact (DenSs.cons (DenS.tryTrue (DenSs.one (DenS.if_ (DenB.cmp (eV x 59) (DenE.str "many" [109, 97, 110, 121] _ _ (by kernel_rfl)) rfl) (DenSs.one (DenS.expr (DenE.mcall (c := 1) (m := 48) (eV x 60) (DenEs.cons (fun _ => rfl) (eV x 12) (DenEs.cons (fun _ => rfl) (eV x 54) DenEs.nil)) (fun _ => rfl) (c_many x (by omega)) (x.cg 1) (ltN rfl) rfl ⟨(x.find 37), (x.fn 27).typ, (x.fn 27).keep⟩ (fun _ => ⟨_, rfl⟩)) (fun _ => rfl))) (DenSs.one (DenS.if_ (DenB.cmp (eV x 59) (DenE.str "upto" [117, 112, 116, 111] _ _ (by kernel_rfl)) rfl) (DenSs.one (DenS.expr (DenE.mcall (c := 1) (m := 61) (eV x 60) (DenEs.cons (fun _ => rfl) (eV x 12) (DenEs.cons (fun _ => rfl) (eV x 54) DenEs.nil)) (fun _ => rfl) (c_upto x (by omega)) (x.cg 1) (ltN rfl) rfl ⟨(x.find 38), (x.fn 28).typ, (x.fn 28).keep⟩ (fun _ => ⟨_, rfl⟩)) (fun _ => rfl))) (DenSs.one (DenS.if_ (DenB.cmp (eV x 59) (DenE.str "listed" [108, 105, 115, 116, 101, 100] _ _ (by kernel_rfl)) rfl) (DenSs.one (DenS.expr (DenE.mcall (c := 1) (m := 62) (eV x 60) (DenEs.cons (fun _ => rfl) (eV x 12) (DenEs.cons (fun _ => rfl) (eV x 54) DenEs.nil)) (fun _ => rfl) (c_listed x (by omega)) (x.cg 1) (ltN rfl) rfl ⟨(x.find 39), (x.fn 29).typ, (x.fn 29).keep⟩ (fun _ => ⟨_, rfl⟩)) (fun _ => rfl))) (DenSs.one (DenS.expr (DenE.mcall (c := 1) (m := 63) (eV x 60) (DenEs.cons (fun _ => rfl) (eV x 12) (DenEs.cons (fun _ => rfl) (eV x 54) (DenEs.cons (fun _ => rfl) (DenE.int _ _ _) DenEs.nil))) (fun _ => rfl) (c_nth x (by omega)) (x.cg 1) (ltN rfl) rfl ⟨(x.find 40), (x.fn 30).typ, (x.fn 30).keep⟩ (fun _ => ⟨_, rfl⟩)) (fun _ => rfl))))))))) (by kernel_rfl) (x.ns 14) (by kernel_rfl) x.F.ex.o72 excBase)
    (DenSs.one (DenS.ret (DenE.bool false _ _))))
theorem c_refused (x : WIn) {n : Nat} (hn : 213 ≤ n) : CallOk x.W n 528 g_refused := by
  obtain ⟨m, rfl⟩ : ∃ m, n = m + 1 := ⟨n - 1, by omega⟩
  exact call_at (x.fn 35) [60, 59, 12, 54] (by kernel_rfl) (fun fd h1 h2 h3 ms hl => by obtain ⟨v0, v1, v2, v3, rfl⟩ := len4 hl; cases fd; cases h1; cases h2; cases h3; kernel_rfl) (b_refused x (by omega))
noncomputable def m_told : MS :=
    (sSeq (sFor (tName 54) (eIter (eTup [(eVar 64), (eBin .Sub (eVar 64) (ME.pure (.int 1))), (ME.pure (.int 1)), (ME.pure (.int 0))])) (sIf (tCmp .NotEq (eMCall 1 48 g_many (eVar 60) [(eVar 65), (eVar 54)]) (eCall g_one [(eVar 55), (eVar 56), (eVar 54)])) (sRet (ME.pure (.bool false))) sSkip))
    (sSeq (sFor (tName 54) (eIter (eTup [(eVar 64), (ME.pure (.int 1)), (ME.pure (.int 0))])) (sIf (tCmp .NotEq (eMCall 1 61 g_upto (eVar 60) [(eVar 65), (eVar 54)]) (eBlt .sum [(eComp [55, 56] (tName 46) (eRange2 (ME.pure (.int 1)) (eBin .Add (eVar 54) (ME.pure (.int 1)))) none (eCall g_one [(eVar 55), (eVar 56), (eVar 46)]))])) (sRet (ME.pure (.bool false))) sSkip))
    (sSeq (sIf (tOr [(tCmp .NotEq (eMCall 1 48 g_many (eVar 60) [(eVar 66), (eVar 64)]) (eCall g_one [(eVar 55), (eVar 56), (eBin .Sub (eVar 64) (ME.pure (.int 1)))])), (tCmp .NotEq (eMCall 1 48 g_many (eVar 60) [(eVar 66), (ME.pure (.int 1))]) (ME.pure (.int 0)))]) (sRet (ME.pure (.bool false))) sSkip)
    (sRet (eCmp .Eq (eComp [60, 67] (tName 54) (eIter (eTup [(ME.pure (.int 3)), (ME.pure (.int 4)), (ME.pure (.int 7)), (ME.pure (.int 9))])) none (eMCall 1 48 g_many (eVar 60) [(eVar 67), (eVar 54)])) (eComp [55, 56] (tName 54) (eIter (eTup [(ME.pure (.int 3)), (ME.pure (.int 4)), (ME.pure (.int 7)), (ME.pure (.int 9))])) none (eCall g_three [(eVar 55), (eVar 56), (eVar 54)])))))))
noncomputable def g_told : List V → Sto → Res V := callM [60, 65, 66, 67, 55, 56, 64] m_told
theorem b_told (x : WIn) {n : Nat} (hn : 212 ≤ n) : DenSs x.W n (kP 36).scope (kP 36).body m_told := by
  conv => arg 3; whnf
  conv => arg 4; whnf
  exact (DenSs.cons (DenS.for_ (DenT.name (ltN rfl) rfl (by kernel_rfl)) (DenI.expr (DenE.tup (DenEs.cons (fun _ => rfl) (eV x 64) (DenEs.cons (fun _ => rfl) (DenE.bin (eV x 64) (DenE.int _ _ _)) (DenEs.cons (fun _ => rfl) (DenE.int _ _ _) (DenEs.cons (fun _ => rfl) (DenE.int _ _ _) DenEs.nil)))))) (DenSs.one (DenS.if_ (DenB.cmp (DenE.mcall (c := 1) (m := 48) (eV x 60) (DenEs.cons (fun _ => rfl) (eV x 65) (DenEs.cons (fun _ => rfl) (eV x 54) DenEs.nil)) (fun _ => rfl) (c_many x (by omega)) (x.cg 1) (ltN rfl) rfl ⟨(x.find 37), (x.fn 27).typ, (x.fn 27).keep⟩ (fun _ => ⟨_, rfl⟩)) (DenE.call (DenEs.cons (fun _ => rfl) (eV x 55) (DenEs.cons (fun _ => rfl) (eV x 56) (DenEs.cons (fun _ => rfl) (eV x 54) DenEs.nil))) (fun _ => rfl) (c_one x (by omega)) (x.fn 33).keep (by kernel_rfl) (x.ns 13) (by kernel_rfl)) rfl) (DenSs.one (DenS.ret (DenE.bool false _ _))) DenSs.nil)) (fun _ _ => rfl) (fun _ _ => rfl))
    (DenSs.cons (DenS.for_ (DenT.name (ltN rfl) rfl (by kernel_rfl)) (DenI.expr (DenE.tup (DenEs.cons (fun _ => rfl) (eV x 64) (DenEs.cons (fun _ => rfl) (DenE.int _ _ _) (DenEs.cons (fun _ => rfl) (DenE.int _ _ _) DenEs.nil))))) (DenSs.one (DenS.if_ (DenB.cmp (DenE.mcall (c := 1) (m := 61) (eV x 60) (DenEs.cons (fun _ => rfl) (eV x 65) (DenEs.cons (fun _ => rfl) (eV x 54) DenEs.nil)) (fun _ => rfl) (c_upto x (by omega)) (x.cg 1) (ltN rfl) rfl ⟨(x.find 38), (x.fn 28).typ, (x.fn 28).keep⟩ (fun _ => ⟨_, rfl⟩)) (DenE.blt (b := .sum) (DenEs.cons (fun _ => rfl) (DenE.comp (caps := [55, 56]) (t := tName 46) (test := none) (DenI.range2 (DenEs.cons (fun _ => rfl) (DenE.int _ _ _) (DenEs.cons (fun _ => rfl) (DenE.bin (eV x 54) (DenE.int _ _ _)) DenEs.nil)) (fun _ => rfl) (by kernel_rfl) (x.ns 10)) (cScope [55, 56] (by kernel_rfl)) (DenTL.name (ltN rfl) rfl (by kernel_rfl)) (TgtApart.name (by decide)) trivial (DenE.call (DenEs.cons (fun _ => rfl) (eV x 55) (DenEs.cons (fun _ => rfl) (eV x 56) (DenEs.cons (fun _ => rfl) (eV x 46) DenEs.nil))) (fun _ => rfl) (c_one x (by omega)) (x.fn 33).keep (by kernel_rfl) (x.ns 13) (by kernel_rfl)) (fun _ _ => rfl) (fun _ _ => rfl)) DenEs.nil) (fun _ => rfl) (by kernel_rfl) (x.ns 3)) rfl) (DenSs.one (DenS.ret (DenE.bool false _ _))) DenSs.nil)) (fun _ _ => rfl) (fun _ _ => rfl))
    (DenSs.cons (DenS.if_ (DenB.or (DenB.cmp (DenE.mcall (c := 1) (m := 48) (eV x 60) (DenEs.cons (fun _ => rfl) (eV x 66) (DenEs.cons (fun _ => rfl) (eV x 64) DenEs.nil)) (fun _ => rfl) (c_many x (by omega)) (x.cg 1) (ltN rfl) rfl ⟨(x.find 37), (x.fn 27).typ, (x.fn 27).keep⟩ (fun _ => ⟨_, rfl⟩)) (DenE.call (DenEs.cons (fun _ => rfl) (eV x 55) (DenEs.cons (fun _ => rfl) (eV x 56) (DenEs.cons (fun _ => rfl) (DenE.bin (eV x 64) (DenE.int _ _ _)) DenEs.nil))) (fun _ => rfl) (c_one x (by omega)) (x.fn 33).keep (by kernel_rfl) (x.ns 13) (by kernel_rfl)) rfl) (DenB.or (DenB.cmp (DenE.mcall (c := 1) (m := 48) (eV x 60) (DenEs.cons (fun _ => rfl) (eV x 66) (DenEs.cons (fun _ => rfl) (DenE.int _ _ _) DenEs.nil)) (fun _ => rfl) (c_many x (by omega)) (x.cg 1) (ltN rfl) rfl ⟨(x.find 37), (x.fn 27).typ, (x.fn 27).keep⟩ (fun _ => ⟨_, rfl⟩)) (DenE.int _ _ _) rfl) DenB.or_nil)) (DenSs.one (DenS.ret (DenE.bool false _ _))) DenSs.nil)
    (DenSs.one (DenS.ret (DenE.cmp (DenE.comp (caps := [60, 67]) (t := tName 54) (test := none) (DenI.expr (DenE.tup (DenEs.cons (fun _ => rfl) (DenE.int _ _ _) (DenEs.cons (fun _ => rfl) (DenE.int _ _ _) (DenEs.cons (fun _ => rfl) (DenE.int _ _ _) (DenEs.cons (fun _ => rfl) (DenE.int _ _ _) DenEs.nil)))))) (cScope [60, 67] (by kernel_rfl)) (DenTL.name (ltN rfl) rfl (by kernel_rfl)) (TgtApart.name (by decide)) trivial (DenE.mcall (c := 1) (m := 48) (eV x 60) (DenEs.cons (fun _ => rfl) (eV x 67) (DenEs.cons (fun _ => rfl) (eV x 54) DenEs.nil)) (fun _ => rfl) (c_many x (by omega)) (x.cg 1) (ltN rfl) rfl ⟨(x.find 37), (x.fn 27).typ, (x.fn 27).keep⟩ (fun _ => ⟨_, rfl⟩)) (fun _ _ => rfl) (fun _ _ => rfl)) (DenE.comp (caps := [55, 56]) (t := tName 54) (test := none) (DenI.expr (DenE.tup (DenEs.cons (fun _ => rfl) (DenE.int _ _ _) (DenEs.cons (fun _ => rfl) (DenE.int _ _ _) (DenEs.cons (fun _ => rfl) (DenE.int _ _ _) (DenEs.cons (fun _ => rfl) (DenE.int _ _ _) DenEs.nil)))))) (cScope [55, 56] (by kernel_rfl)) (DenTL.name (ltN rfl) rfl (by kernel_rfl)) (TgtApart.name (by decide)) trivial (DenE.call (DenEs.cons (fun _ => rfl) (eV x 55) (DenEs.cons (fun _ => rfl) (eV x 56) (DenEs.cons (fun _ => rfl) (eV x 54) DenEs.nil))) (fun _ => rfl) (c_three x (by omega)) (x.fn 34).keep (by kernel_rfl) (x.ns 15) (by kernel_rfl)) (fun _ _ => rfl) (fun _ _ => rfl)) rfl))))))
theorem c_told (x : WIn) {n : Nat} (hn : 213 ≤ n) : CallOk x.W n 533 g_told := by
  obtain ⟨m, rfl⟩ : ∃ m, n = m + 1 := ⟨n - 1, by omega⟩
  exact call_at (x.fn 36) [60, 65, 66, 67, 55, 56, 64] (by kernel_rfl) (fun fd h1 h2 h3 ms hl => by obtain ⟨v0, v1, v2, v3, v4, v5, v6, rfl⟩ := len7 hl; cases fd; cases h1; cases h2; cases h3; kernel_rfl) (b_told x (by omega))
noncomputable def m_law : MS :=
    (sSeq (sUnpack (tTuple [50, 68]) (eTup [(eCall g_hand [(eVar 53)]), (eCall (newM 3 g_Heap_init) [])]))
    (sSeq (sUnpack (tSwapped [55, 56]) (eTup [(eBin .Add (ME.pure (.int 1)) (eCall g_pick [(eVar 50), (ME.pure (.int 3))])), (eBin .Add (ME.pure (.int 1)) (eCall g_pick [(eVar 50), (ME.pure (.int 2))]))]))
    (sSeq (sAssign (tName 64) (eBin .Add (ME.pure (.int 8)) (eCall g_pick [(eVar 50), (eIf (tCmp .Eq (eVar 56) (ME.pure (.int 1))) (ME.pure (.int 193)) (ME.pure (.int 13)))])))
    (sSeq (sAssign (tName 37) (eCompR [68] (tName 49) (eRange1 (eVar 55)) none (eMCall 3 69 g_add (eVar 68) [(eIdx (eTup [(ME.pure (.str [97])), (ME.pure (.str [98])), (ME.pure (.str [99]))]) (eVar 49)), (eTup [])])))
    (sSeq (sExprV (eMeth .extend (eVar 37) [(eComp [68, 37] (tName 49) (eRange1 (eVar 56)) none (eMCall 3 69 g_add (eVar 68) [(eIdx (eTup [(ME.pure (.str [102])), (ME.pure (.str [104]))]) (eVar 49)), (eTup [(eIdx (eVar 37) (ME.pure (.int 0)))])]))]))
    (sSeq (sFor (tName 12) (eIter (eFrom 1 (eVar 37))) (sExprV (eMCall 3 30 g_Heap_merge (eVar 68) [(eIdx (eVar 37) (ME.pure (.int 0))), (eVar 12), (eTup [(ME.pure (.str [116, 111, 108, 100])), (ME.pure (.str [116]))])])))
    (sSeq (sUnpack (tSwapped [66, 67]) (eTup [(eMCall 3 69 g_add (eVar 68) [(ME.pure (.str [101])), (eTup [(eIdx (eVar 37) (eNeg (ME.pure (.int 1))))])]), (eMCall 3 69 g_add (eVar 68) [(ME.pure (.str [112])), (eTup [(ME.pure (.int 0)), (eIdx (eVar 37) (eNeg (ME.pure (.int 1)))), (ME.pure (.int 0))])])]))
    (sSeq (sExprV (eMCall 3 70 g_settle (eVar 68) []))
    (sSeq (sAssign (tName 60) (eCall (newM 1 g_Counts_init) [(eVar 68)]))
    (sSeq (sIf (tNot (tVal (eCall g_told [(eVar 60), (eIdx (eVar 37) (eCall g_pick [(eVar 50), (eBlt .len [(eVar 37)])])), (eVar 66), (eVar 67), (eVar 55), (eVar 56), (eVar 64)]))) (sRet (ME.pure (.bool false))) sSkip)
    (sSeq (sAssign (tName 71) (eBin .Add (ME.pure (.int 201)) (eCall g_pick [(eVar 50), (ME.pure (.int 50))])))
    (sSeq (sFor (tName 59) (eIter (eTup [(ME.pure (.str [109, 97, 110, 121])), (ME.pure (.str [117, 112, 116, 111])), (ME.pure (.str [108, 105, 115, 116, 101, 100])), (ME.pure (.str [110, 116, 104]))])) (sIf (tNot (tVal (eCall g_refused [(eVar 60), (eVar 59), (ME.pure (.int 0)), (eVar 71)]))) (sRet (ME.pure (.bool false))) sSkip))
    (sSeq (sAssign (tName 57) (eMCall 3 69 g_add (eVar 68) [(ME.pure (.str [100])), (eTup [])]))
    (sSeq (sIf (tOr [(tCmp .NotEq (eMCall 1 48 g_many (eVar 60) [(eVar 57), (ME.pure (.int 1))]) (ME.pure (.int 1))), (tCmp .NotEq (eMCall 1 48 g_many (eVar 60) [(ME.pure (.int 0)), (ME.pure (.int 1))]) (eVar 55))]) (sRet (ME.pure (.bool false))) sSkip)
    (sSeq (sExprV (eMCall 3 30 g_Heap_merge (eVar 68) [(eVar 57), (eIdx (eVar 37) (eCall g_pick [(eVar 50), (eBlt .len [(eVar 37)])])), (eTup [(ME.pure (.str [116, 111, 108, 100])), (ME.pure (.str [117]))])]))
    (sSeq (sExprV (eMCall 3 70 g_settle (eVar 68) []))
    (sRet (eCall g_told [(eVar 60), (eVar 57), (eVar 66), (eVar 67), (eBin .Add (eVar 55) (ME.pure (.int 1))), (eVar 56), (eBin .Add (ME.pure (.int 8)) (eBin .Mod (eVar 64) (ME.pure (.int 13))))]))))))))))))))))))
noncomputable def g_law : List V → Sto → Res V := callM [53] m_law
theorem b_law (x : WIn) {n : Nat} (hn : 213 ≤ n) : DenSs x.W n (kP 37).scope (kP 37).body m_law := by
  conv => arg 3; whnf
  conv => arg 4; whnf
  exact (DenSs.cons (DenS.unpack (DenT.tuple (is := [50, 68]) (namesOk [50, 68] (by kernel_rfl)) (fun _ => .cons (StoreLike.name rfl) (.cons (StoreLike.name rfl) .nil)) (fun _ => rfl)) (DenE.tup (DenEs.cons (fun _ => rfl) (DenE.call (DenEs.cons (fun _ => rfl) (eV x 53) DenEs.nil) (fun _ => rfl) (c_hand x (by omega)) (x.fn 32).keep (by kernel_rfl) (x.ns 16) (by kernel_rfl)) (DenEs.cons (fun _ => rfl) (DenE.call DenEs.nil (fun _ => rfl) (x.cc 3 (by omega) (c_Heap_init x (n := 3) (by omega)) (x.fn 13).typ) (x.ck 3) (by kernel_rfl) (x.ns 17) (by kernel_rfl)) DenEs.nil))) (fun _ => rfl) (fun env h => by cases env; cases h; kernel_rfl))
    (DenSs.cons (DenS.unpackSwapped (is := [55, 56]) (DenE.tup (DenEs.cons (fun _ => rfl) (DenE.bin (DenE.int _ _ _) (DenE.call (DenEs.cons (fun _ => rfl) (eV x 50) (DenEs.cons (fun _ => rfl) (DenE.int _ _ _) DenEs.nil)) (fun _ => rfl) (c_pick x (by omega)) (x.fn 31).keep (by kernel_rfl) (x.ns 18) (by kernel_rfl))) (DenEs.cons (fun _ => rfl) (DenE.bin (DenE.int _ _ _) (DenE.call (DenEs.cons (fun _ => rfl) (eV x 50) (DenEs.cons (fun _ => rfl) (DenE.int _ _ _) DenEs.nil)) (fun _ => rfl) (c_pick x (by omega)) (x.fn 31).keep (by kernel_rfl) (x.ns 18) (by kernel_rfl))) DenEs.nil))) (namesOk [55, 56] (by kernel_rfl)) (fun _ => rfl) (fun env h => by cases env; cases h; kernel_rfl))
    (DenSs.cons (DenS.assign (DenE.bin (DenE.int _ _ _) (DenE.call (DenEs.cons (fun _ => rfl) (eV x 50) (DenEs.cons (fun _ => rfl) (DenE.ifExp (DenB.cmp (eV x 56) (DenE.int _ _ _) rfl) (DenE.int _ _ _) (DenE.int _ _ _)) DenEs.nil)) (fun _ => rfl) (c_pick x (by omega)) (x.fn 31).keep (by kernel_rfl) (x.ns 18) (by kernel_rfl))) (ltN rfl) rfl (by kernel_rfl) (fun _ => rfl))
    (DenSs.cons (DenS.assignC (DenE.compR (caps := [68]) (t := tName 49) (test := none) (DenI.range1 (DenEs.cons (fun _ => rfl) (eV x 55) DenEs.nil) (fun _ => rfl) (by kernel_rfl) (x.ns 10)) (cScope [68] (by kernel_rfl)) (DenTL.name (ltN rfl) rfl (by kernel_rfl)) (TgtApart.name (by decide)) trivial (DenE.mcall (c := 3) (m := 69) (eV x 68) (DenEs.cons (fun _ => rfl) (DenE.idx (DenE.tup (DenEs.cons (fun _ => rfl) (DenE.str "a" [97] _ _ (by kernel_rfl)) (DenEs.cons (fun _ => rfl) (DenE.str "b" [98] _ _ (by kernel_rfl)) (DenEs.cons (fun _ => rfl) (DenE.str "c" [99] _ _ (by kernel_rfl)) DenEs.nil)))) (eV x 49) (fun _ _ => ⟨_, rfl⟩)) (DenEs.cons (fun _ => rfl) (DenE.tup DenEs.nil) DenEs.nil)) (fun _ => rfl) (c_add x (by omega)) (x.cg 3) (ltN rfl) rfl ⟨(x.find 41), (x.fn 19).typ, (x.fn 19).keep⟩ (fun _ => ⟨_, rfl⟩)) (fun _ _ => rfl) (fun _ _ => rfl)) (ltN rfl) rfl (by kernel_rfl) (fun env h => by cases env; cases h; kernel_rfl))
    (DenSs.cons (DenS.expr (DenE.meth (m := .extend) (eV x 37) (DenEs.cons (fun _ => rfl) (DenE.comp (caps := [68, 37]) (t := tName 49) (test := none) (DenI.range1 (DenEs.cons (fun _ => rfl) (eV x 56) DenEs.nil) (fun _ => rfl) (by kernel_rfl) (x.ns 10)) (cScope [68, 37] (by kernel_rfl)) (DenTL.name (ltN rfl) rfl (by kernel_rfl)) (TgtApart.name (by decide)) trivial (DenE.mcall (c := 3) (m := 69) (eV x 68) (DenEs.cons (fun _ => rfl) (DenE.idx (DenE.tup (DenEs.cons (fun _ => rfl) (DenE.str "f" [102] _ _ (by kernel_rfl)) (DenEs.cons (fun _ => rfl) (DenE.str "h" [104] _ _ (by kernel_rfl)) DenEs.nil))) (eV x 49) (fun _ _ => ⟨_, rfl⟩)) (DenEs.cons (fun _ => rfl) (DenE.tup (DenEs.cons (fun _ => rfl) (DenE.idx (eV x 37) (DenE.int _ _ _) (fun _ _ => ⟨_, rfl⟩)) DenEs.nil)) DenEs.nil)) (fun _ => rfl) (c_add x (by omega)) (x.cg 3) (ltN rfl) rfl ⟨(x.find 41), (x.fn 19).typ, (x.fn 19).keep⟩ (fun _ => ⟨_, rfl⟩)) (fun _ _ => rfl) (fun _ _ => rfl)) DenEs.nil) (fun _ => rfl) (fun _ => rfl) rfl (fun _ => rfl)) (fun _ => rfl))
    (DenSs.cons (DenS.for_ (DenT.name (ltN rfl) rfl (by kernel_rfl)) (DenI.expr (DenE.from_ (eV x 37) (by decide))) (DenSs.one (DenS.expr (DenE.mcall (c := 3) (m := 30) (eV x 68) (DenEs.cons (fun _ => rfl) (DenE.idx (eV x 37) (DenE.int _ _ _) (fun _ _ => ⟨_, rfl⟩)) (DenEs.cons (fun _ => rfl) (eV x 12) (DenEs.cons (fun _ => rfl) (DenE.tup (DenEs.cons (fun _ => rfl) (DenE.str "told" [116, 111, 108, 100] _ _ (by kernel_rfl)) (DenEs.cons (fun _ => rfl) (DenE.str "t" [116] _ _ (by kernel_rfl)) DenEs.nil))) DenEs.nil))) (fun _ => rfl) (c_Heap_merge x (by omega)) (x.cg 3) (ltN rfl) rfl ⟨(x.find 42), (x.fn 20).typ, (x.fn 20).keep⟩ (fun _ => ⟨_, rfl⟩)) (fun _ => rfl))) (fun _ _ => rfl) (fun _ _ => rfl))
    (DenSs.cons (DenS.unpackSwapped (is := [66, 67]) (DenE.tup (DenEs.cons (fun _ => rfl) (DenE.mcall (c := 3) (m := 69) (eV x 68) (DenEs.cons (fun _ => rfl) (DenE.str "e" [101] _ _ (by kernel_rfl)) (DenEs.cons (fun _ => rfl) (DenE.tup (DenEs.cons (fun _ => rfl) (DenE.idx (eV x 37) (DenE.neg (DenE.int _ _ _)) (fun _ _ => ⟨_, rfl⟩)) DenEs.nil)) DenEs.nil)) (fun _ => rfl) (c_add x (by omega)) (x.cg 3) (ltN rfl) rfl ⟨(x.find 41), (x.fn 19).typ, (x.fn 19).keep⟩ (fun _ => ⟨_, rfl⟩)) (DenEs.cons (fun _ => rfl) (DenE.mcall (c := 3) (m := 69) (eV x 68) (DenEs.cons (fun _ => rfl) (DenE.str "p" [112] _ _ (by kernel_rfl)) (DenEs.cons (fun _ => rfl) (DenE.tup (DenEs.cons (fun _ => rfl) (DenE.int _ _ _) (DenEs.cons (fun _ => rfl) (DenE.idx (eV x 37) (DenE.neg (DenE.int _ _ _)) (fun _ _ => ⟨_, rfl⟩)) (DenEs.cons (fun _ => rfl) (DenE.int _ _ _) DenEs.nil)))) DenEs.nil)) (fun _ => rfl) (c_add x (by omega)) (x.cg 3) (ltN rfl) rfl ⟨(x.find 41), (x.fn 19).typ, (x.fn 19).keep⟩ (fun _ => ⟨_, rfl⟩)) DenEs.nil))) (namesOk [66, 67] (by kernel_rfl)) (fun _ => rfl) (fun env h => by cases env; cases h; kernel_rfl))
    (DenSs.cons (DenS.expr (DenE.mcall (c := 3) (m := 70) (eV x 68) DenEs.nil (fun _ => rfl) (c_settle x (by omega)) (x.cg 3) (ltN rfl) rfl ⟨(x.find 43), (x.fn 21).typ, (x.fn 21).keep⟩ (fun _ => ⟨_, rfl⟩)) (fun _ => rfl))
    (DenSs.cons (DenS.assign (DenE.call (DenEs.cons (fun _ => rfl) (eV x 68) DenEs.nil) (fun _ => rfl) (x.cc 1 (by omega) (c_Counts_init x (n := 1) (by omega)) (x.fn 24).typ) (x.ck 1) (by kernel_rfl) (x.ns 19) (by kernel_rfl)) (ltN rfl) rfl (by kernel_rfl) (fun _ => rfl))
    (DenSs.cons (DenS.if_ (DenB.not (DenB.val (DenE.call (DenEs.cons (fun _ => rfl) (eV x 60) (DenEs.cons (fun _ => rfl) (DenE.idx (eV x 37) (DenE.call (DenEs.cons (fun _ => rfl) (eV x 50) (DenEs.cons (fun _ => rfl) (DenE.blt (b := .len) (DenEs.cons (fun _ => rfl) (eV x 37) DenEs.nil) (fun _ => rfl) (by kernel_rfl) (x.ns 0)) DenEs.nil)) (fun _ => rfl) (c_pick x (by omega)) (x.fn 31).keep (by kernel_rfl) (x.ns 18) (by kernel_rfl)) (fun _ _ => ⟨_, rfl⟩)) (DenEs.cons (fun _ => rfl) (eV x 66) (DenEs.cons (fun _ => rfl) (eV x 67) (DenEs.cons (fun _ => rfl) (eV x 55) (DenEs.cons (fun _ => rfl) (eV x 56) (DenEs.cons (fun _ => rfl) (eV x 64) DenEs.nil))))))) (fun _ => rfl) (c_told x (by omega)) (x.fn 36).keep (by kernel_rfl) (x.ns 20) (by kernel_rfl)) (fun _ _ => rfl))) (DenSs.one (DenS.ret (DenE.bool false _ _))) DenSs.nil)
    (DenSs.cons (DenS.assign (DenE.bin (DenE.int _ _ _) (DenE.call (DenEs.cons (fun _ => rfl) (eV x 50) (DenEs.cons (fun _ => rfl) (DenE.int _ _ _) DenEs.nil)) (fun _ => rfl) (c_pick x (by omega)) (x.fn 31).keep (by kernel_rfl) (x.ns 18) (by kernel_rfl))) (ltN rfl) rfl (by kernel_rfl) (fun _ => rfl))
    (DenSs.cons (DenS.for_ (DenT.name (ltN rfl) rfl (by kernel_rfl)) (DenI.expr (DenE.tup (DenEs.cons (fun _ => rfl) (DenE.str "many" [109, 97, 110, 121] _ _ (by kernel_rfl)) (DenEs.cons (fun _ => rfl) (DenE.str "upto" [117, 112, 116, 111] _ _ (by kernel_rfl)) (DenEs.cons (fun _ => rfl) (DenE.str "listed" [108, 105, 115, 116, 101, 100] _ _ (by kernel_rfl)) (DenEs.cons (fun _ => rfl) (DenE.str "nth" [110, 116, 104] _ _ (by kernel_rfl)) DenEs.nil)))))) (DenSs.one (DenS.if_ (DenB.not (DenB.val (DenE.call (DenEs.cons (fun _ => rfl) (eV x 60) (DenEs.cons (fun _ => rfl) (eV x 59) (DenEs.cons (fun _ => rfl) (DenE.int _ _ _) (DenEs.cons (fun _ => rfl) (eV x 71) DenEs.nil)))) (fun _ => rfl) (c_refused x (by omega)) (x.fn 35).keep (by kernel_rfl) (x.ns 21) (by kernel_rfl)) (fun _ _ => rfl))) (DenSs.one (DenS.ret (DenE.bool false _ _))) DenSs.nil)) (fun _ _ => rfl) (fun _ _ => rfl))
    (DenSs.cons (DenS.assign (DenE.mcall (c := 3) (m := 69) (eV x 68) (DenEs.cons (fun _ => rfl) (DenE.str "d" [100] _ _ (by kernel_rfl)) (DenEs.cons (fun _ => rfl) (DenE.tup DenEs.nil) DenEs.nil)) (fun _ => rfl) (c_add x (by omega)) (x.cg 3) (ltN rfl) rfl ⟨(x.find 41), (x.fn 19).typ, (x.fn 19).keep⟩ (fun _ => ⟨_, rfl⟩)) (ltN rfl) rfl (by kernel_rfl) (fun _ => rfl))
    (DenSs.cons (DenS.if_ (DenB.or (DenB.cmp (DenE.mcall (c := 1) (m := 48) (eV x 60) (DenEs.cons (fun _ => rfl) (eV x 57) (DenEs.cons (fun _ => rfl) (DenE.int _ _ _) DenEs.nil)) (fun _ => rfl) (c_many x (by omega)) (x.cg 1) (ltN rfl) rfl ⟨(x.find 37), (x.fn 27).typ, (x.fn 27).keep⟩ (fun _ => ⟨_, rfl⟩)) (DenE.int _ _ _) rfl) (DenB.or (DenB.cmp (DenE.mcall (c := 1) (m := 48) (eV x 60) (DenEs.cons (fun _ => rfl) (DenE.int _ _ _) (DenEs.cons (fun _ => rfl) (DenE.int _ _ _) DenEs.nil)) (fun _ => rfl) (c_many x (by omega)) (x.cg 1) (ltN rfl) rfl ⟨(x.find 37), (x.fn 27).typ, (x.fn 27).keep⟩ (fun _ => ⟨_, rfl⟩)) (eV x 55) rfl) DenB.or_nil)) (DenSs.one (DenS.ret (DenE.bool false _ _))) DenSs.nil)
    (DenSs.cons (DenS.expr (DenE.mcall (c := 3) (m := 30) (eV x 68) (DenEs.cons (fun _ => rfl) (eV x 57) (DenEs.cons (fun _ => rfl) (DenE.idx (eV x 37) (DenE.call (DenEs.cons (fun _ => rfl) (eV x 50) (DenEs.cons (fun _ => rfl) (DenE.blt (b := .len) (DenEs.cons (fun _ => rfl) (eV x 37) DenEs.nil) (fun _ => rfl) (by kernel_rfl) (x.ns 0)) DenEs.nil)) (fun _ => rfl) (c_pick x (by omega)) (x.fn 31).keep (by kernel_rfl) (x.ns 18) (by kernel_rfl)) (fun _ _ => ⟨_, rfl⟩)) (DenEs.cons (fun _ => rfl) (DenE.tup (DenEs.cons (fun _ => rfl) (DenE.str "told" [116, 111, 108, 100] _ _ (by kernel_rfl)) (DenEs.cons (fun _ => rfl) (DenE.str "u" [117] _ _ (by kernel_rfl)) DenEs.nil))) DenEs.nil))) (fun _ => rfl) (c_Heap_merge x (by omega)) (x.cg 3) (ltN rfl) rfl ⟨(x.find 42), (x.fn 20).typ, (x.fn 20).keep⟩ (fun _ => ⟨_, rfl⟩)) (fun _ => rfl))
    (DenSs.cons (DenS.expr (DenE.mcall (c := 3) (m := 70) (eV x 68) DenEs.nil (fun _ => rfl) (c_settle x (by omega)) (x.cg 3) (ltN rfl) rfl ⟨(x.find 43), (x.fn 21).typ, (x.fn 21).keep⟩ (fun _ => ⟨_, rfl⟩)) (fun _ => rfl))
    (DenSs.one (DenS.ret (DenE.call (DenEs.cons (fun _ => rfl) (eV x 60) (DenEs.cons (fun _ => rfl) (eV x 57) (DenEs.cons (fun _ => rfl) (eV x 66) (DenEs.cons (fun _ => rfl) (eV x 67) (DenEs.cons (fun _ => rfl) (DenE.bin (eV x 55) (DenE.int _ _ _)) (DenEs.cons (fun _ => rfl) (eV x 56) (DenEs.cons (fun _ => rfl) (DenE.bin (DenE.int _ _ _) (DenE.bin (eV x 64) (DenE.int _ _ _))) DenEs.nil))))))) (fun _ => rfl) (c_told x (by omega)) (x.fn 36).keep (by kernel_rfl) (x.ns 20) (by kernel_rfl))))))))))))))))))))
theorem c_law (x : WIn) {n : Nat} (hn : 214 ≤ n) : CallOk x.W n 538 g_law := by
  obtain ⟨m, rfl⟩ : ∃ m, n = m + 1 := ⟨n - 1, by omega⟩
  exact call_at (x.fn 37) [53] (by kernel_rfl) (fun fd h1 h2 h3 ms hl => by obtain ⟨v0, rfl⟩ := len1 hl; cases fd; cases h1; cases h2; cases h3; kernel_rfl) (b_law x (by omega))
end Mine
/-! C1 -/
namespace Mine
open PySem
/-! the hand -/
noncomputable abbrev hd (cs : List V) (k st : Int) : O := .dict .str [(.str [99, 101, 108, 108, 115], .list cs), (.str [115, 112, 111, 116], .int k), (.str [115, 116, 105, 114], .int st)]
theorem ofOpt_some {α : Type} (a : α) (σ : Sto) : Res.ofOpt (some a) σ = .ok a σ := rfl
theorem andThen_ok {α β : Type} (a : α) (σ : Sto) (f : α → Sto → Res β) : (Res.ok a σ).andThen f = f a σ := rfl
theorem nth_map {is : List Int} {k : Int} (h0 : 0 ≤ k) (h : k < is.length) : nthV (is.map .int) k = some (.int (is[k.toNat]'(by lia))) := by
  have h1 : k.toNat < is.length := by lia
  unfold nthV seqIndex?
  rw [List.length_map]
  simp only [show ¬ k < 0 by lia, if_false, h0, h, decide_true, Bool.and_self, if_true, Option.bind_some, List.getElem?_map, List.getElem?_eq_getElem h1, Option.map_some]
theorem pick_ok {is : List Int} (hl : is.length ≤ 1000) {k st m : Int} (hk : 0 ≤ k) (hk2 : k ≤ 100) (hm : 0 < m) (hm2 : m < 1000) (σ : Sto) :
    ∃ v st', 0 ≤ v ∧ v < m ∧ g_pick [.ref 0, .int m] (hd (is.map .int) k st :: σ) = .ok (.int v) (hd (is.map .int) (k + 1) st' :: σ) := by
  have hz : is.length ≤ 1000000 := by lia
  have hz2 : k.natAbs < 1000000000 := by lia
  have hm3 : ¬ m = 0 ∧ m.natAbs < 1073741824 := by lia
  have hr : ∀ x : Int, 0 ≤ x.fmod m ∧ x.fmod m < m := fun x => by rw [Int.fmod_eq_emod_of_nonneg _ (by lia)]; exact ⟨Int.emod_nonneg _ (by lia), Int.emod_lt_of_pos _ hm⟩
  by_cases h : k + 1 ≤ is.length
  · have hn := nth_map hk (show k < is.length by lia)
    refine ⟨_, st, (hr (is[k.toNat]'(by lia))).1, (hr _).2, ?_⟩
    simp [g_pick, callM, m_pick, sSeq, sBind, sSetItem, eBin, ME.bind, Res.andThen, eIdx, eVar, List.lookup, ME.pure, idxM, idxL, V.int?, Res.ofOpt, keyOk, dget, V.beq_str, binM, int2, setItemM, szOk, dset, tCmp, cmpM, intC, sIf, eBlt, bltM, blt1, tup?, items?, eList, h, hz, hz2, hm3, sRet, outcome, hn]
  · refine ⟨_, (st * 29 + 13).fmod 1021, (hr (((st * 29 + 13).fmod 1021).fdiv 3)).1, (hr _).2, ?_⟩
    simp [g_pick, callM, m_pick, sSeq, sBind, sSetItem, eBin, ME.bind, Res.andThen, eIdx, eVar, List.lookup, ME.pure, idxM, idxL, V.int?, Res.ofOpt, keyOk, dget, V.beq_str, binM, int2, setItemM, szOk, dset, tCmp, cmpM, intC, sIf, eBlt, bltM, blt1, tup?, items?, eList, h, hz, hz2, hm3, sRet, outcome, sSkip]
end Mine
/-! C2 -/
namespace Mine
open PySem
/-! what the counts are -/
noncomputable def vi : V → Int | .int i => i | _ => 0
noncomputable def vC (L O : Int) : Nat → Int
  | 0 => 0
  | s + 1 => L * O ^ s
noncomputable def v2 (L O : Int) (s : Nat) : Int := ((rangeVs 1 s 1).map fun v => vC L O (vi v).toNat * vC L O (s - vi v).toNat).sum
noncomputable def v3 (L O : Int) (s : Nat) : Int := ((rangeVs 1 ((s : Int) - 1) 1).map fun v => vC L O (vi v).toNat * v2 L O (s - vi v).toNat).sum
inductive Cl | c | e | p | c2 | c3
noncomputable def Cl.ints (n : Int) : Cl → List V
  | .c => [.int 0] | .e => [.int n] | .p => [.int (n + 1)] | .c2 => [.int 0, .int 0] | .c3 => [.int 0, .int 0, .int 0]
noncomputable def Cl.val (L O : Int) (cl : Cl) (s : Nat) : Int := match cl with
  | .c => vC L O s | .e => vC L O (s - 1) | .p => v3 L O (s - 1) | .c2 => v2 L O s | .c3 => v3 L O s
noncomputable def Cl.most : Cl → Nat
  | .c => 200 | .e => 200 | .p => 9 | .c2 => 8 | .c3 => 8
noncomputable def leaf : V → Bool
  | .tup [_] => true
  | _ => false
noncomputable abbrev key (n : Int) (cl : Cl) (s : Nat) : V := .tup [.tup (cl.ints n), .int s]
/-- the counts on a settled heap: P is the store by what is known -/
structure Cnt (cnt kd : Nat) (L O n : Int) (P : List (V × V) → Sto) : Prop where
  hL : 0 ≤ L ∧ L ≤ 4
  hO : 0 ≤ O ∧ O ≤ 2
  hn : 2 ≤ n
  get : ∃ mk, ∀ kvs, (P kvs)[cnt]? = some (.inst 1 [(38, .ref 1), (39, mk), (25, .ref kd)])
  heap : ∃ a b c d e f g, ∀ kvs, (P kvs)[1]? = some (.inst 3 [(21, a), (22, b), (23, c), (24, d), (25, e), (13, f), (26, g), (27, .int 0)])
  dict : ∀ kvs, (P kvs)[kd]? = some (.dict .tup kvs)
  set : ∀ kvs kvs', (P kvs).set kd (.dict .tup kvs') = P kvs'
  ren : ∀ kvs (s : Int), s ≤ 200 → g_renewed [.ref cnt, .int s] (P kvs) = .ok .none (P kvs)
  nodesC : ∃ vs, (∀ v ∈ vs, (∃ x, v = .tup [x]) ∨ ∃ x, v = .tup [x, .int 0]) ∧ (∀ a b : Int, (vs.map fun v => if leaf v then a else b).sum = L * a + O * b) ∧ vs.length ≤ 10 ∧ ∀ kvs, g_nodes_of [.ref 1, .int 0] (P kvs) = .ok (.list vs) (P kvs)
  nodesE : ∀ kvs, g_nodes_of [.ref 1, .int n] (P kvs) = .ok (.list [.tup [.str [101], .int 0]]) (P kvs)
  nodesP : ∀ kvs, g_nodes_of [.ref 1, .int (n + 1)] (P kvs) = .ok (.list [.tup [.str [112], .int 0, .int 0, .int 0]]) (P kvs)
  findE : ∀ kvs, g_Heap_find [.ref 1, .int n] (P kvs) = .ok (.int n) (P kvs)
  findP : ∀ kvs, g_Heap_find [.ref 1, .int (n + 1)] (P kvs) = .ok (.int (n + 1)) (P kvs)
structure Inv (L O n : Int) (kvs : List (V × V)) : Prop where
  good : ∀ kv ∈ kvs, ∃ (cl : Cl) (s : Nat), s ≤ cl.most ∧ kv = (key n cl s, .int (cl.val L O s))
  nd : (kvs.map (·.1)).Nodup
theorem vC_nonneg {L O : Int} (hL : 0 ≤ L) (hO : 0 ≤ O) : ∀ s, 0 ≤ vC L O s
  | 0 => Int.le_refl 0
  | s + 1 => Int.mul_nonneg hL (Int.pow_nonneg hO)
theorem key_inj {n : Int} (hn : 2 ≤ n) {cl cl' : Cl} {s s' : Nat} (h : key n cl s = key n cl' s') : cl = cl' ∧ s = s' := by
  have h1 : cl.ints n = cl'.ints n := by injection h with h; injection h with h _; injection h
  have h2 : (s : Int) = s' := by injection h with h; injection h with _ h; injection h with h _; injection h
  refine ⟨?_, by lia⟩
  cases cl <;> cases cl' <;> first | rfl | (exfalso; simp [Cl.ints] at h1; done) | (exfalso; simp [Cl.ints] at h1; lia)
theorem dget_mem : ∀ {kvs : List (V × V)} {k v : V}, dget kvs k = some v → (k, v) ∈ kvs
  | (k', v') :: r, k, v, h => by
    unfold dget at h
    split at h
    · rename_i hb
      obtain rfl := (V.beq_iff _ _).mp hb
      cases h
      exact .head _
    · exact .tail _ (dget_mem h)
theorem dget_none : ∀ {kvs : List (V × V)} {k : V}, dget kvs k = none → ∀ kv ∈ kvs, kv.1 ≠ k
  | (k', v') :: r, k, h, kv, hm => by
    unfold dget at h
    split at h
    · cases h
    · rename_i hb
      rcases List.mem_cons.mp hm with rfl | hm
      · exact fun z => hb ((V.beq_iff _ _).mpr z)
      · exact dget_none h kv hm
theorem dset_new {kvs : List (V × V)} {k : V} (h : dget kvs k = none) (v : V) : dset kvs k v = kvs ++ [(k, v)] := by
  unfold dset
  rw [if_neg]
  intro z
  rw [List.any_eq_true] at z
  obtain ⟨kv, hm, hb⟩ := z
  exact dget_none h kv hm ((V.beq_iff _ _).mp hb)
theorem dget_app {kvs : List (V × V)} {k : V} (h : dget kvs k = none) (v : V) : dget (kvs ++ [(k, v)]) k = some v := by
  induction kvs with
  | nil =>
    show (if V.beq k k = true then some v else dget [] k) = some v
    rw [if_pos ((V.beq_iff _ _).mpr rfl)]
  | cons a r ih =>
    unfold dget at h
    split at h
    · cases h
    · rename_i hb
      show dget (a :: (r ++ [(k, v)])) k = _
      unfold dget
      rw [if_neg hb]
      exact ih h
theorem nodup_len {α : Type} [BEq α] [LawfulBEq α] : ∀ {l m : List α}, l.Nodup → (∀ x ∈ l, x ∈ m) → l.length ≤ m.length
  | [], m, _, _ => Nat.zero_le _
  | x :: l, m, h, hs => by
    rw [List.nodup_cons] at h
    have hx := hs x (.head _)
    have := nodup_len (m := m.erase x) h.2 fun y hy => (List.mem_erase_of_ne (by intro z; subst z; exact h.1 hy)).mpr (hs y (.tail _ hy))
    rw [List.length_erase_of_mem hx] at this
    have h0 : 0 < m.length := List.length_pos_of_mem hx
    simp only [List.length_cons]
    lia
noncomputable def allKeys (n : Int) : List V := [Cl.c, .e, .p, .c2, .c3].flatMap fun cl => (List.range 201).map fun s => key n cl s
theorem Inv.len {L O n : Int} {kvs : List (V × V)} (I : Inv L O n kvs) : kvs.length ≤ 1005 := by
  have := nodup_len (m := allKeys n) I.nd fun x hx => by
    obtain ⟨kv, hk, rfl⟩ := List.mem_map.mp hx
    obtain ⟨cl, s, hs, rfl⟩ := I.good kv hk
    refine List.mem_flatMap.mpr ⟨cl, by cases cl <;> simp, List.mem_map.mpr ⟨s, ?_, rfl⟩⟩
    rw [List.mem_range]
    have : cl.most ≤ 200 := by cases cl <;> decide
    lia
  rw [List.length_map] at this
  exact this
theorem Inv.get {L O n : Int} {kvs : List (V × V)} (I : Inv L O n kvs) (hn : 2 ≤ n) {cl : Cl} {s : Nat} {v : V} (h : dget kvs (key n cl s) = some v) : v = .int (cl.val L O s) := by
  obtain ⟨cl', s', _, e⟩ := I.good _ (dget_mem h)
  obtain ⟨rfl, rfl⟩ := key_inj hn (congrArg Prod.fst e)
  exact congrArg Prod.snd e
theorem Inv.add {L O n : Int} {kvs : List (V × V)} (I : Inv L O n kvs) {cl : Cl} {s : Nat} (hs : s ≤ cl.most) (h : dget kvs (key n cl s) = none) : Inv L O n (kvs ++ [(key n cl s, .int (cl.val L O s))]) := by
  refine ⟨fun kv hm => ?_, ?_⟩
  · rcases List.mem_append.mp hm with hm | hm
    · exact I.good kv hm
    · obtain rfl := List.mem_singleton.mp hm
      exact ⟨cl, s, hs, rfl⟩
  · rw [List.map_append, List.nodup_append]
    refine ⟨I.nd, by simp, fun a ha b hb => ?_⟩
    obtain ⟨kv, hk, rfl⟩ := List.mem_map.mp ha
    obtain rfl := List.mem_singleton.mp hb
    exact dget_none h kv hk
theorem Inv.nil {L O n : Int} : Inv L O n [] := ⟨(fun _ h => by cases h), List.nodup_nil⟩
end Mine
/-! C3 -/
namespace Mine
open PySem
theorem compM_ints {I : Sto → Prop} {t : Tgt} {elt : ME V} {frc : Loc} (val : V → Int) : ∀ (vs : List V) (σ : Sto) (acc : List V), I σ → acc.length + vs.length ≤ 1000000 →
    (∀ v ∈ vs, ∃ fr1, t v frc = some fr1 ∧ ∀ σ, I σ → ∃ σ', I σ' ∧ elt fr1 σ = .ok (.int (val v)) σ') →
    ∃ σ', I σ' ∧ compM t none elt frc vs σ acc = .ok (acc ++ vs.map fun v => .int (val v)) σ'
  | [], σ, acc, h, _, _ => ⟨σ, h, by simp [compM]⟩
  | v :: vs, σ, acc, h, hz, he => by
    obtain ⟨fr1, h1, h2⟩ := he v (.head _)
    obtain ⟨σ1, h3, h4⟩ := h2 σ h
    rw [List.length_cons] at hz
    obtain ⟨σ2, h5, h6⟩ := compM_ints val vs σ1 (acc ++ [.int (val v)]) h3 (by rw [List.length_append, List.length_singleton]; lia) fun u hu => he u (.tail _ hu)
    refine ⟨σ2, h5, ?_⟩
    have hz1 : szOk acc.length = true := decide_eq_true (by lia)
    simp only [compM, h1, andThen_ok, if_true, hz1, h4, h6, List.map_cons, List.append_assoc, List.cons_append, List.nil_append]
theorem intsV_map {α : Type} (f : α → Int) : ∀ vs : List α, intsV (vs.map fun v => .int (f v)) = some (vs.map f)
  | [] => rfl
  | v :: vs => by simp only [List.map_cons, intsV, intsV_map f vs, Option.map_some]
theorem loop_inv {t : Tgt} {body : MS} {J : Int → Loc → Sto → Prop} (val : V → Int) : ∀ (vs : List V) (acc : Int) (fr : Loc) (σ : Sto), J acc fr σ →
    (∀ v ∈ vs, ∀ acc fr σ, J acc fr σ → ∃ fr1, t v fr = some fr1 ∧ ∃ fr2 σ2, body fr1 σ = .next fr2 σ2 ∧ J (acc + val v) fr2 σ2) →
    ∃ fr' σ', loopM t body vs fr σ = .next fr' σ' ∧ J (acc + (vs.map val).sum) fr' σ'
  | [], acc, fr, σ, h, _ => ⟨fr, σ, rfl, by simpa using h⟩
  | v :: vs, acc, fr, σ, h, hs => by
    obtain ⟨fr1, h1, fr2, σ2, h2, h3⟩ := hs v (.head _) acc fr σ h
    obtain ⟨fr3, σ3, h4, h5⟩ := loop_inv val vs _ fr2 σ2 h3 fun u hu => hs u (.tail _ hu)
    refine ⟨fr3, σ3, ?_, ?_⟩
    · simp only [loopM, h1, h2, h4]
    · rw [List.map_cons, List.sum_cons, ← Int.add_assoc]; exact h5
section
variable {cnt kd : Nat} {L O n : Int} {P : List (V × V) → Sto}
/-- the contract of rows at a depth -/
noncomputable def RowsOk (cnt : Nat) (L O n : Int) (P : List (V × V) → Sto) (r : List V → Sto → Res V) (cl : Cl) (s : Nat) : Prop :=
  ∀ kvs, Inv L O n kvs → ∃ kvs', Inv L O n kvs' ∧ r [.ref cnt, .tup (cl.ints n), .int s] (P kvs) = .ok (.int (cl.val L O s)) (P kvs')
theorem rows_nil (d k : Nat) (m : Int) (hm : m = k) (σ : Sto) : g_rows (d + 1) [.ref cnt, .tup [], .int m] σ = .ok (.int (if k = 0 then 1 else 0)) σ := by
  subst hm
  cases k with
  | zero => rfl
  | succ k => rfl
noncomputable def rA (r : List V → Sto → Res V) : MS := (sAssign (tName 42) (eBlt .sum [(eComp [3, 28] (tName 8) (eIter (eMCall 3 43 g_nodes_of (eAttr 1 38 (eVar 3)) [(eIdx (eVar 40) (ME.pure (.int 0)))])) none (eMCall 1 44 r (eVar 3) [(eFrom 1 (eVar 8)), (eBin .Sub (eVar 28) (ME.pure (.int 1)))]))]))
noncomputable def rBody (r : List V → Sto → Res V) : MS := (sSeq (sAssign (tName 46) (eMCall 1 44 r (eVar 3) [(eUpto 1 (eVar 40)), (eVar 45)]))
    (sIf (tCmp .Gt (eVar 46) (ME.pure (.int 0))) (sAssign (tName 42) (eBin .Add (eVar 42) (eBin .Mult (eVar 46) (eMCall 1 44 r (eVar 3) [(eFrom 1 (eVar 40)), (eBin .Sub (eVar 28) (eVar 45))])))) sSkip))
noncomputable def rB (r : List V → Sto → Res V) : MS := (sSeq (sAssign (tName 42) (ME.pure (.int 0)))
    (sFor (tName 45) (eRange2 (ME.pure (.int 1)) (eBin .Add (eBin .Sub (eVar 28) (eBlt .len [(eVar 40)])) (ME.pure (.int 2)))) (rBody r)))
noncomputable def r0 : MS := (sIf (tOr [(tCmp .Eq (eBlt .len [(eVar 40)]) (ME.pure (.int 0))), (tCmp .Lt (eVar 28) (eBlt .len [(eVar 40)]))]) (sRet (eIf (tAnd [(tCmp .Eq (eVar 28) (ME.pure (.int 0))), (tCmp .Eq (eBlt .len [(eVar 40)]) (ME.pure (.int 0)))]) (ME.pure (.int 1)) (ME.pure (.int 0)))) sSkip)
noncomputable def r1 : MS := (sAssign (tName 41) (eTup [(eVar 40), (eVar 28)]))
noncomputable def r2 : ME Bool := (tCmp .NotIn (eVar 41) (eAttr 1 25 (eVar 3)))
noncomputable def r3 : ME Bool := (tCmp .Eq (eBlt .len [(eVar 40)]) (ME.pure (.int 1)))
noncomputable def r4 : MS := (sSetItem (eAttr 1 25 (eVar 3)) (eVar 41) (eVar 42))
noncomputable def r5 : MS := (sRet (eIdx (eAttr 1 25 (eVar 3)) (eVar 41)))
theorem m_rows_eq (r : List V → Sto → Res V) : m_rows r = sSeq r0 (sSeq r1 (sSeq (sIf r2 (sSeq (sIf r3 (rA r) (rB r)) r4) sSkip) r5)) := rfl
/-- the frame at the counting -/
structure Fr (cnt : Nat) (n : Int) (cl : Cl) (s : Nat) (fr : Loc) : Prop where
  self : fr.lookup 3 = some (.ref cnt)
  classes : fr.lookup 40 = some (.tup (cl.ints n))
  size : fr.lookup 28 = some (.int s)
  key : fr.lookup 41 = some (key n cl s)
theorem Fr.set {cl : Cl} {s : Nat} {fr : Loc} (F : Fr cnt n cl s fr) (i : Nat) (v : V) (h3 : i ≠ 3) (h40 : i ≠ 40) (h28 : i ≠ 28) (h41 : i ≠ 41) : Fr cnt n cl s (fset fr i v) := by
  constructor <;> rw [fset_lookup, if_neg (by lia)]
  all_goals first | exact F.self | exact F.classes | exact F.size | exact F.key
theorem known_at (C : Cnt cnt kd L O n P) {fr : Loc} {kvs : List (V × V)} (h : fr.lookup 3 = some (.ref cnt)) : eAttr 1 25 (eVar 3) fr (P kvs) = .ok (.ref kd) (P kvs) := by
  obtain ⟨mk, hg⟩ := C.get
  simp only [eAttr, ME.bind, eVar, h, ofOpt_some, andThen_ok, instOf, hg kvs, if_true, Option.bind_some]
  rfl
theorem keyOk_key (cl : Cl) (s : Nat) : keyOk .tup (key n cl s) = true := by cases cl <;> rfl
theorem r2_ok (C : Cnt cnt kd L O n P) {cl : Cl} {s : Nat} {fr : Loc} {kvs : List (V × V)} (F : Fr cnt n cl s fr) : r2 fr (P kvs) = .ok (!(dget kvs (key n cl s)).isSome) (P kvs) := by
  unfold r2 tCmp
  simp only [ME.bind, eVar, F.key, ofOpt_some, andThen_ok, known_at C F.self, cmpM, inM, C.dict, keyOk_key, if_true, Option.map_some]
theorem r4_ok (C : Cnt cnt kd L O n P) {cl : Cl} {s : Nat} {fr : Loc} {kvs : List (V × V)} {v : V} (F : Fr cnt n cl s fr) (h : fr.lookup 42 = some v) (hz : kvs.length ≤ 1000000) : r4 fr (P kvs) = .next fr (P (dset kvs (key n cl s) v)) := by
  have hz1 : szOk kvs.length = true := decide_eq_true hz
  unfold r4 sSetItem
  simp only [sBind, eVar, h, F.key, ofOpt_some, known_at C F.self, setItemM, C.dict, keyOk_key, hz1, Bool.and_self, if_true, C.set]
theorem r5_ok (C : Cnt cnt kd L O n P) {cl : Cl} {s : Nat} {fr : Loc} {kvs : List (V × V)} {v : V} (F : Fr cnt n cl s fr) (h : dget kvs (key n cl s) = some v) : r5 fr (P kvs) = .ret v (P kvs) := by
  unfold r5 sRet eIdx
  simp only [sBind, ME.bind, eVar, F.key, ofOpt_some, andThen_ok, known_at C F.self, idxM, C.dict, keyOk_key, if_true, h]
/-- what the counting must leave -/
noncomputable def FoundOk (cnt : Nat) (L O n : Int) (P : List (V × V) → Sto) (g : MS) (cl : Cl) (s : Nat) : Prop :=
  ∀ kvs fr, Inv L O n kvs → Fr cnt n cl s fr → ∃ kvs' fr', Inv L O n kvs' ∧ g fr (P kvs) = .next fr' (P kvs') ∧ Fr cnt n cl s fr' ∧ fr'.lookup 42 = some (.int (cl.val L O s))
theorem r3_ok {cl : Cl} {s : Nat} {fr : Loc} {σ : Sto} (F : Fr cnt n cl s fr) : r3 fr σ = .ok (decide ((cl.ints n).length = 1)) σ := by
  unfold r3 tCmp
  simp only [ME.bind, eBlt, eList, eVar, F.classes, ofOpt_some, andThen_ok]
  cases cl <;> rfl
theorem seq_next {f g : MS} {fr fr' : Loc} {σ σ' : Sto} (h : f fr σ = .next fr' σ') : sSeq f g fr σ = g fr' σ' := by simp only [sSeq, h]
theorem seq_ret {f g : MS} {fr : Loc} {σ σ' : Sto} {v : V} (h : f fr σ = .ret v σ') : sSeq f g fr σ = .ret v σ' := by simp only [sSeq, h]
theorem if_ok {t : ME Bool} {f g : MS} {fr : Loc} {σ σ' : Sto} {b : Bool} (h : t fr σ = .ok b σ') : sIf t f g fr σ = (if b then f else g) fr σ' := by simp only [sIf, sBind, h]
theorem dset_same {kvs : List (V × V)} {k v : V} (h : (dget kvs k).isSome = true) (hv : ∀ kv ∈ kvs, kv.1 = k → kv.2 = v) : dset kvs k v = kvs := by
  unfold dset
  rw [if_pos]
  · conv => rhs; rw [← List.map_id kvs]
    refine List.map_congr_left fun kv hm => ?_
    split
    · rename_i hb
      rw [← hv kv hm ((V.beq_iff _ _).mp hb)]; rfl
    · rfl
  · obtain ⟨v', h'⟩ := Option.isSome_iff_exists.mp h
    exact List.any_eq_true.mpr ⟨_, dget_mem h', (V.beq_iff _ _).mpr rfl⟩
theorem Inv.one {kvs : List (V × V)} (I : Inv L O n kvs) (hn : 2 ≤ n) {cl : Cl} {s : Nat} {kv : V × V} (hm : kv ∈ kvs) (hk : kv.1 = key n cl s) : kv.2 = .int (cl.val L O s) := by
  obtain ⟨cl', s', _, rfl⟩ := I.good kv hm
  obtain ⟨rfl, rfl⟩ := key_inj hn hk
  rfl
theorem rows_of {r : List V → Sto → Res V} (C : Cnt cnt kd L O n P) {cl : Cl} {s : Nat} (hs : s ≤ cl.most) (hlow : (s : Int) < (cl.ints n).length → cl.val L O s = 0)
    (hf : ((cl.ints n).length : Int) ≤ s → FoundOk cnt L O n P (if decide ((cl.ints n).length = 1) then rA r else rB r) cl s) :
    RowsOk cnt L O n P (callM [3, 40, 28] (m_rows r)) cl s := by
  intro kvs I
  have e0 : callM [3, 40, 28] (m_rows r) [.ref cnt, .tup (cl.ints n), .int s] (P kvs) = outcome (m_rows r [(3, .ref cnt), (40, .tup (cl.ints n)), (28, .int s)] (P kvs)) := rfl
  rw [e0, m_rows_eq]
  have e1 : tOr [(tCmp .Eq (eBlt .len [(eVar 40)]) (ME.pure (.int 0))), (tCmp .Lt (eVar 28) (eBlt .len [(eVar 40)]))] [(3, .ref cnt), (40, .tup (cl.ints n)), (28, .int s)] (P kvs) = .ok (decide ((s : Int) < (cl.ints n).length)) (P kvs) := by
    have hz : szOk (cl.ints n).length = true := by cases cl <;> rfl
    have h0 : decide (((cl.ints n).length : Int) = 0) = false := by cases cl <;> rfl
    have el : eBlt .len [(eVar 40)] [(3, .ref cnt), (40, .tup (cl.ints n)), (28, .int s)] (P kvs) = .ok (.int (cl.ints n).length) (P kvs) := by
      show Res.ofOpt (if szOk (cl.ints n).length then some (V.int (cl.ints n).length) else none) (P kvs) = _
      rw [hz]; rfl
    have c0 : tCmp .Eq (eBlt .len [(eVar 40)]) (ME.pure (.int 0)) [(3, .ref cnt), (40, .tup (cl.ints n)), (28, .int s)] (P kvs) = .ok false (P kvs) := by
      simp only [tCmp, ME.bind, el, andThen_ok, ME.pure]
      show Res.ofOpt (some (decide (((cl.ints n).length : Int) = 0))) (P kvs) = _
      rw [h0]; rfl
    have c1 : tCmp .Lt (eVar 28) (eBlt .len [(eVar 40)]) [(3, .ref cnt), (40, .tup (cl.ints n)), (28, .int s)] (P kvs) = .ok (decide ((s : Int) < (cl.ints n).length)) (P kvs) := by
      have e28 : eVar 28 [(3, .ref cnt), (40, .tup (cl.ints n)), (28, .int s)] (P kvs) = .ok (.int s) (P kvs) := rfl
      simp only [tCmp, ME.bind, e28, el, andThen_ok]; rfl
    simp only [tOr, ME.bind, c0, c1, andThen_ok, Bool.false_eq_true, if_false]
    by_cases hd : (s : Int) < (cl.ints n).length
    · rw [decide_eq_true hd]; rfl
    · rw [decide_eq_false hd]; rfl
  by_cases h : (s : Int) < (cl.ints n).length
  · refine ⟨kvs, I, ?_⟩
    rw [hlow h]
    have e2 : r0 [(3, .ref cnt), (40, .tup (cl.ints n)), (28, .int s)] (P kvs) = .ret (.int 0) (P kvs) := by
      unfold r0
      rw [if_ok e1, decide_eq_true h, if_pos rfl]
      cases s with
      | zero => cases cl <;> rfl
      | succ s => cases cl <;> rfl
    rw [seq_ret e2]; rfl
  · have e2 : r0 [(3, .ref cnt), (40, .tup (cl.ints n)), (28, .int s)] (P kvs) = .next [(3, .ref cnt), (40, .tup (cl.ints n)), (28, .int s)] (P kvs) := by
      unfold r0
      rw [if_ok e1, decide_eq_false h, if_neg (by decide)]; rfl
    rw [seq_next e2, seq_next (f := r1) (fr' := [(41, key n cl s), (3, .ref cnt), (40, .tup (cl.ints n)), (28, .int s)]) (σ' := P kvs) rfl]
    have F : Fr cnt n cl s [(41, key n cl s), (3, .ref cnt), (40, .tup (cl.ints n)), (28, .int s)] := ⟨rfl, rfl, rfl, rfl⟩
    cases hd : dget kvs (key n cl s) with
    | some v =>
      refine ⟨kvs, I, ?_⟩
      have e3 := r2_ok (kvs := kvs) C F
      rw [hd] at e3
      have e6 : sIf r2 (sSeq (sIf r3 (rA r) (rB r)) r4) sSkip [(41, key n cl s), (3, .ref cnt), (40, .tup (cl.ints n)), (28, .int s)] (P kvs) = .next [(41, key n cl s), (3, .ref cnt), (40, .tup (cl.ints n)), (28, .int s)] (P kvs) := by
        rw [if_ok e3]; rfl
      rw [seq_next e6, r5_ok C F hd, I.get C.hn hd]; rfl
    | none =>
      have e3 := r2_ok (kvs := kvs) C F
      rw [hd] at e3
      obtain ⟨kvs1, fr1, I1, h1, F1, h42⟩ := hf (by lia) kvs _ I F
      have e4 := if_ok (f := rA r) (g := rB r) (r3_ok (σ := P kvs) F)
      rw [h1] at e4
      have e6 : sIf r2 (sSeq (sIf r3 (rA r) (rB r)) r4) sSkip [(41, key n cl s), (3, .ref cnt), (40, .tup (cl.ints n)), (28, .int s)] (P kvs) = .next fr1 (P (dset kvs1 (key n cl s) (.int (cl.val L O s)))) := by
        rw [if_ok e3]
        show sSeq (sIf r3 (rA r) (rB r)) r4 _ _ = _
        rw [seq_next e4, r4_ok C F1 h42 (by have := I1.len; lia)]
      rw [seq_next e6]
      cases hd1 : dget kvs1 (key n cl s) with
      | none =>
        rw [dset_new hd1]
        refine ⟨_, I1.add hs hd1, ?_⟩
        rw [r5_ok C F1 (dget_app hd1 _)]; rfl
      | some v =>
        have hv := I1.get C.hn hd1
        rw [dset_same (v := .int (cl.val L O s)) (by rw [hd1]; rfl) fun kv hm hk => I1.one C.hn hm hk]
        exact ⟨kvs1, I1, by rw [r5_ok C F1 hd1, hv]; rfl⟩
end
end Mine
/-! C4 -/
namespace Mine
open PySem
theorem cap_in {caps : List Nat} {j : Nat} (h : caps.contains j = true) : ∀ fr : Loc, (cap fr caps).lookup j = fr.lookup j
  | [] => rfl
  | (k, u) :: fr => by
    have ih := cap_in h fr
    unfold cap at ih ⊢
    rw [List.filter_cons, List.lookup_cons]
    by_cases hj : j = k
    · subst hj; simp only [h, if_true, List.lookup_cons, beq_self_eq_true]
    · simp only [beq_eq_false_iff_ne.mpr hj]
      split
      · rw [List.lookup_cons]; simp only [beq_eq_false_iff_ne.mpr hj]; exact ih
      · exact ih
section
variable {cnt kd : Nat} {L O n : Int} {P : List (V × V) → Sto}
theorem heap_of (C : Cnt cnt kd L O n P) {fr : Loc} {kvs : List (V × V)} (h : fr.lookup 3 = some (.ref cnt)) : eAttr 1 38 (eVar 3) fr (P kvs) = .ok (.ref 1) (P kvs) := by
  obtain ⟨mk, hg⟩ := C.get
  simp only [eAttr, ME.bind, eVar, h, ofOpt_some, andThen_ok, instOf, hg kvs, if_true, Option.bind_some]
  rfl
theorem own_rows (C : Cnt cnt kd L O n P) {r : List V → Sto → Res V} {fr : Loc} {kvs : List (V × V)} {f1 f2 : ME V} {v1 v2 : V} (h : fr.lookup 3 = some (.ref cnt)) (h1 : f1 fr (P kvs) = .ok v1 (P kvs)) (h2 : f2 fr (P kvs) = .ok v2 (P kvs)) :
    eMCall 1 44 r (eVar 3) [f1, f2] fr (P kvs) = r [.ref cnt, v1, v2] (P kvs) := by
  obtain ⟨mk, hg⟩ := C.get
  simp only [eMCall, ME.bind, eVar, h, ofOpt_some, andThen_ok, instOf, hg kvs, if_true, eList, h1, h2, ME.pure]
  rfl
theorem rA_ok (C : Cnt cnt kd L O n P) {r : List V → Sto → Res V} {cl : Cl} {s : Nat} {c0 : Int} {vs : List V} (h1 : cl.ints n = [.int c0]) (hn : ∀ kvs, g_nodes_of [.ref 1, .int c0] (P kvs) = .ok (.list vs) (P kvs)) (hlen : vs.length ≤ 10) (g : V → Int)
    (hv : ∀ v ∈ vs, ∃ x rest, v = .tup (x :: rest) ∧ rest.length ≤ 10 ∧ ∀ kvs, Inv L O n kvs → ∃ kvs', Inv L O n kvs' ∧ r [.ref cnt, .tup rest, .int (s - 1)] (P kvs) = .ok (.int (g v)) (P kvs'))
    (hsum : (vs.map g).sum = cl.val L O s) : FoundOk cnt L O n P (rA r) cl s := by
  intro kvs fr I F
  obtain ⟨a, b, c, d, e, f, g', hh⟩ := C.heap
  have hit : eIter (eMCall 3 43 g_nodes_of (eAttr 1 38 (eVar 3)) [(eIdx (eVar 40) (ME.pure (.int 0)))]) fr (P kvs) = .ok vs (P kvs) := by
    have hF := F.classes
    rw [h1] at hF
    have e1 : eMCall 3 43 g_nodes_of (eAttr 1 38 (eVar 3)) [(eIdx (eVar 40) (ME.pure (.int 0)))] fr (P kvs) = .ok (.list vs) (P kvs) := by
      rw [← hn kvs]
      unfold eMCall
      simp only [ME.bind, heap_of C F.self, andThen_ok, instOf, hh kvs, if_true, eList, eIdx, eVar, hF, ofOpt_some, ME.pure]
      rfl
    simp only [eIter, ME.bind, e1, andThen_ok]; rfl
  obtain ⟨σ', ⟨kvs', I', rfl⟩, hc⟩ := compM_ints (I := fun σ => ∃ kvs, Inv L O n kvs ∧ σ = P kvs) (t := tName 8) (elt := eMCall 1 44 r (eVar 3) [(eFrom 1 (eVar 8)), (eBin .Sub (eVar 28) (ME.pure (.int 1)))]) (frc := cap fr [3, 28]) g vs (P kvs) [] ⟨kvs, I, rfl⟩ (by simp; lia) fun v hm => by
    obtain ⟨x, rest, rfl, hr, hk⟩ := hv v hm
    refine ⟨_, rfl, fun σ ⟨kvs, I, e⟩ => ?_⟩
    subst e
    obtain ⟨kvs', I', h⟩ := hk kvs I
    refine ⟨_, ⟨kvs', I', rfl⟩, ?_⟩
    have hz : szOk (x :: rest).length = true := decide_eq_true (by rw [List.length_cons]; lia)
    have l3 : (fset (cap fr [3, 28]) 8 (.tup (x :: rest))).lookup 3 = some (.ref cnt) := by rw [fset_lookup, if_neg (by decide), cap_in (by decide)]; exact F.self
    have l28 : (fset (cap fr [3, 28]) 8 (.tup (x :: rest))).lookup 28 = some (.int s) := by rw [fset_lookup, if_neg (by decide), cap_in (by decide)]; exact F.size
    have l8 : (fset (cap fr [3, 28]) 8 (.tup (x :: rest))).lookup 8 = some (.tup (x :: rest)) := by rw [fset_lookup, if_pos rfl]
    rw [own_rows C l3 (v1 := .tup rest) (v2 := .int (s - 1)), h]
    · simp only [eFrom, ME.bind, eVar, l8, ofOpt_some, andThen_ok, fromM, V.tupl?, hz, Bool.true_and]; rfl
    · simp only [eBin, ME.bind, eVar, l28, ofOpt_some, andThen_ok, ME.pure, binM, V.int?, int2]
  have e2 : eBlt .sum [(eComp [3, 28] (tName 8) (eIter (eMCall 3 43 g_nodes_of (eAttr 1 38 (eVar 3)) [(eIdx (eVar 40) (ME.pure (.int 0)))])) none (eMCall 1 44 r (eVar 3) [(eFrom 1 (eVar 8)), (eBin .Sub (eVar 28) (ME.pure (.int 1)))]))] fr (P kvs) = .ok (.int (cl.val L O s)) (P kvs') := by
    simp only [eBlt, eList, ME.bind, eComp, hit, andThen_ok, hc, List.nil_append, ME.pure, bltM, blt1, items?, Option.bind_some, intsV_map, Option.map_some, ofOpt_some, hsum]
  refine ⟨kvs', fset fr 42 (.int (cl.val L O s)), I', ?_, F.set _ _ (by decide) (by decide) (by decide) (by decide), by rw [fset_lookup, if_pos rfl]⟩
  unfold rA sAssign
  simp only [sBind, e2]; rfl
end
end Mine
/-! C5 -/
namespace Mine
open PySem
theorem range_eq (b : Int) : rangeVs 1 b 1 = (List.range (b - 1).toNat).map fun i : Nat => V.int (1 + (i : Int) * 1) := by
  unfold rangeVs
  rw [rangeSize_one]
  split
  · rfl
  · rw [show (b - 1).toNat = 0 by lia]; rfl
theorem mem_rangeVs {b : Int} {v : V} (h : v ∈ rangeVs 1 b 1) : ∃ k : Nat, v = .int k ∧ 1 ≤ k ∧ (k : Int) < b := by
  rw [range_eq, List.mem_map] at h
  obtain ⟨i, hi, rfl⟩ := h
  rw [List.mem_range] at hi
  exact ⟨i + 1, by rw [Int.mul_one, Int.add_comm]; rfl, by lia, by lia⟩
theorem vC_small {L O : Int} (hL : 0 ≤ L ∧ L ≤ 4) (hO : 0 ≤ O ∧ O ≤ 2) {k : Nat} (hk : k ≤ 8) : (vC L O k).natAbs < 18446744073709551616 := by
  have h4 : (vC L O k).natAbs ≤ 4 * 2 ^ 7 := by
    cases k with
    | zero => exact Nat.zero_le _
    | succ k =>
      show (L * O ^ k).natAbs ≤ _
      rw [Int.natAbs_mul, Int.natAbs_pow]
      refine Nat.mul_le_mul (by lia) (Nat.le_trans (Nat.pow_le_pow_left (show O.natAbs ≤ 2 by lia) k) (Nat.pow_le_pow_right (by decide) (by lia)))
  exact Nat.lt_of_le_of_lt h4 (by decide)
theorem bin_eval {op : Operator} {f g : ME V} {fr : Loc} {σ σ1 σ2 : Sto} {a b : V} (h1 : f fr σ = .ok a σ1) (h2 : g fr σ1 = .ok b σ2) : eBin op f g fr σ = binM op a b fr σ2 := by
  simp only [eBin, ME.bind, h1, h2, andThen_ok]
theorem var_eval {i : Nat} {fr : Loc} {σ : Sto} {v : V} (h : fr.lookup i = some v) : eVar i fr σ = .ok v σ := by simp only [eVar, h, ofOpt_some]
section
variable {cnt kd : Nat} {L O n : Int} {P : List (V × V) → Sto}
theorem rB_ok (C : Cnt cnt kd L O n P) {r : List V → Sto → Res V} {cl cl' : Cl} {s : Nat} (h1 : cl.ints n = .int 0 :: cl'.ints n) (hl : (cl'.ints n).length ≤ 2) (hs8 : s ≤ 8)
    (hval : cl.val L O s = ((rangeVs 1 (s - (cl.ints n).length + 2) 1).map fun v => vC L O (vi v).toNat * cl'.val L O (s - vi v).toNat).sum)
    (hr1 : ∀ k, k < s → RowsOk cnt L O n P r .c k) (hr2 : ∀ k, k < s → RowsOk cnt L O n P r cl' k) (hs : ((cl.ints n).length : Int) ≤ s) : FoundOk cnt L O n P (rB r) cl s := by
  intro kvs fr I F
  have hlen : 1 ≤ (cl'.ints n).length := by cases cl' <;> simp [Cl.ints]
  have hlen2 : (cl.ints n).length = (cl'.ints n).length + 1 := by rw [h1]; rfl
  have hz : szOk (cl.ints n).length = true := decide_eq_true (by lia)
  have hz1 : szOk (V.int 0 :: cl'.ints n).length = true := h1 ▸ hz
  have hrg : eRange2 (ME.pure (.int 1)) (eBin .Add (eBin .Sub (eVar 28) (eBlt .len [(eVar 40)])) (ME.pure (.int 2))) (fset fr 42 (.int 0)) (P kvs) = .ok (rangeVs 1 (s - (cl.ints n).length + 2) 1) (P kvs) := by
    have l28 : (fset fr 42 (.int 0)).lookup 28 = some (.int s) := by rw [fset_lookup, if_neg (by decide)]; exact F.size
    have l40 : (fset fr 42 (.int 0)).lookup 40 = some (.tup (cl.ints n)) := by rw [fset_lookup, if_neg (by decide)]; exact F.classes
    have hsm : smallB (s - (cl.ints n).length + 2) = true := decide_eq_true (by lia)
    simp only [eRange2, eBin, eBlt, eList, ME.bind, ME.pure, eVar, l28, l40, ofOpt_some, andThen_ok, bltM, blt1, tup?, hz, if_true, binM, V.int?, int2, hsm, Bool.and_true]; rfl
  have F0 : Fr cnt n cl s (fset fr 42 (.int 0)) := F.set _ _ (by decide) (by decide) (by decide) (by decide)
  obtain ⟨fr', σ', hc, F', h42, kvs', I', rfl⟩ := loop_inv (t := tName 45) (body := rBody r) (J := fun acc fr σ => Fr cnt n cl s fr ∧ fr.lookup 42 = some (.int acc) ∧ ∃ kvs, Inv L O n kvs ∧ σ = P kvs) (fun v => vC L O (vi v).toNat * cl'.val L O (s - vi v).toNat)
    (rangeVs 1 (s - (cl.ints n).length + 2) 1) 0 (fset fr 42 (.int 0)) (P kvs) ⟨F0, by rw [fset_lookup, if_pos rfl], kvs, I, rfl⟩ fun v hm acc fr σ ⟨F, h42, kvs, I, e⟩ => by
      subst e
      obtain ⟨k, rfl, hk1, hk2⟩ := mem_rangeVs hm
      have hks : k < s := by lia
      refine ⟨_, rfl, ?_⟩
      have F1 : Fr cnt n cl s (fset fr 45 (.int k)) := F.set _ _ (by decide) (by decide) (by decide) (by decide)
      obtain ⟨kvs1, I1, e1⟩ := hr1 k hks kvs I
      have a1 : eMCall 1 44 r (eVar 3) [(eUpto 1 (eVar 40)), (eVar 45)] (fset fr 45 (.int k)) (P kvs) = .ok (.int (vC L O k)) (P kvs1) := by
        rw [own_rows C F1.self (v1 := .tup (Cl.c.ints n)) (v2 := .int k), e1]; rfl
        · simp only [eUpto, ME.bind, eVar, F1.classes, ofOpt_some, andThen_ok, uptoM, V.tupl?, h1, hz1, if_true]; rfl
        · simp only [eVar, fset_lookup, if_true, ofOpt_some]
      have F2 : Fr cnt n cl s (fset (fset fr 45 (.int k)) 46 (.int (vC L O k))) := F1.set _ _ (by decide) (by decide) (by decide) (by decide)
      have l46 : (fset (fset fr 45 (.int k)) 46 (.int (vC L O k))).lookup 46 = some (.int (vC L O k)) := by rw [fset_lookup, if_pos rfl]
      have l45 : (fset (fset fr 45 (.int k)) 46 (.int (vC L O k))).lookup 45 = some (.int k) := by rw [fset_lookup, if_neg (by decide), fset_lookup, if_pos rfl]
      have l42 : (fset (fset fr 45 (.int k)) 46 (.int (vC L O k))).lookup 42 = some (.int acc) := by rw [fset_lookup, if_neg (by decide), fset_lookup, if_neg (by decide)]; exact h42
      have a2 : sAssign (tName 46) (eMCall 1 44 r (eVar 3) [(eUpto 1 (eVar 40)), (eVar 45)]) (fset fr 45 (.int k)) (P kvs) = .next (fset (fset fr 45 (.int k)) 46 (.int (vC L O k))) (P kvs1) := by
        unfold sAssign; simp only [sBind, a1]; rfl
      have a3 : tCmp .Gt (eVar 46) (ME.pure (.int 0)) (fset (fset fr 45 (.int k)) 46 (.int (vC L O k))) (P kvs1) = .ok (decide (vC L O k > 0)) (P kvs1) := by
        simp only [tCmp, ME.bind, eVar, l46, ofOpt_some, andThen_ok, ME.pure, cmpM, intC, V.int?, Option.bind_some, Option.map_some]
      rw [show vi (.int (k : Int)) = (k : Int) from rfl, Int.toNat_natCast, show ((s : Int) - (k : Int)).toNat = s - k by lia]
      unfold rBody
      rw [seq_next a2, if_ok a3]
      by_cases hp : vC L O k > 0
      · obtain ⟨kvs2, I2, e2⟩ := hr2 (s - k) (by lia) kvs1 I1
        have a4 : eMCall 1 44 r (eVar 3) [(eFrom 1 (eVar 40)), (eBin .Sub (eVar 28) (eVar 45))] (fset (fset fr 45 (.int k)) 46 (.int (vC L O k))) (P kvs1) = .ok (.int (cl'.val L O (s - k))) (P kvs2) := by
          rw [own_rows C F2.self (v1 := .tup (cl'.ints n)) (v2 := .int ((s - k : Nat) : Int)), e2]
          · simp only [eFrom, ME.bind, eVar, F2.classes, ofOpt_some, andThen_ok, fromM, V.tupl?, h1, hz1, Bool.true_and]; rfl
          · simp only [eBin, ME.bind, eVar, F2.size, l45, ofOpt_some, andThen_ok, binM, V.int?, int2]
            rw [show (s : Int) - (k : Int) = ((s - k : Nat) : Int) by lia]
        have a5 : eBin .Add (eVar 42) (eBin .Mult (eVar 46) (eMCall 1 44 r (eVar 3) [(eFrom 1 (eVar 40)), (eBin .Sub (eVar 28) (eVar 45))])) (fset (fset fr 45 (.int k)) 46 (.int (vC L O k))) (P kvs1) = .ok (.int (acc + vC L O k * cl'.val L O (s - k))) (P kvs2) := by
          have m : eBin .Mult (eVar 46) (eMCall 1 44 r (eVar 3) [(eFrom 1 (eVar 40)), (eBin .Sub (eVar 28) (eVar 45))]) (fset (fset fr 45 (.int k)) 46 (.int (vC L O k))) (P kvs1) = .ok (.int (vC L O k * cl'.val L O (s - k))) (P kvs2) := by
            rw [bin_eval (var_eval l46) a4]
            show (if _ then _ else _) = _
            rw [if_pos (Or.inl (vC_small C.hL C.hO (by lia)))]
          rw [bin_eval (var_eval l42) m]; rfl
        refine ⟨fset (fset (fset fr 45 (.int k)) 46 (.int (vC L O k))) 42 (.int (acc + vC L O k * cl'.val L O (s - k))), P kvs2, ?_, F2.set _ _ (by decide) (by decide) (by decide) (by decide), by rw [fset_lookup, if_pos rfl], kvs2, I2, rfl⟩
        rw [decide_eq_true hp, if_pos rfl]
        unfold sAssign; simp only [sBind, a5]; rfl
      · have h0 : vC L O k = 0 := by have := vC_nonneg C.hL.1 C.hO.1 k; lia
        refine ⟨_, P kvs1, by rw [decide_eq_false hp, if_neg (by decide)]; rfl, F2, ?_, kvs1, I1, rfl⟩
        rw [l42, h0, Int.zero_mul, Int.add_zero]
  refine ⟨kvs', fr', I', ?_, F', by rw [h42, hval, Int.zero_add]⟩
  unfold rB
  rw [seq_next (f := sAssign (tName 42) (ME.pure (.int 0))) (fr := fr) (fr' := fset fr 42 (.int 0)) (σ' := P kvs) rfl]
  unfold sFor
  simp only [sBind, hrg, hc]
end
end Mine
/-! C6 -/
namespace Mine
open PySem
section
variable {cnt kd : Nat} {L O n : Int} {P : List (V × V) → Sto}
theorem vC_step (L O : Int) : ∀ s : Nat, L * (if s = 0 then 1 else 0) + O * vC L O s = vC L O (s + 1)
  | 0 => by simp [vC]
  | s + 1 => by simp only [vC, Nat.succ_ne_zero, if_false, Int.mul_zero, Int.zero_add, Int.pow_succ]; rw [Int.mul_left_comm, Int.mul_comm O]
theorem rows_ok (C : Cnt cnt kd L O n P) : ∀ (d : Nat) (cl : Cl) (s : Nat), s ≤ cl.most → s + 1 ≤ d → RowsOk cnt L O n P (g_rows d) cl s := by
  intro d
  induction d with
  | zero => intro _ _ _ h; exact absurd h (Nat.not_succ_le_zero _)
  | succ d ih =>
    intro cl s hs hd
    have hr := C.hn
    show RowsOk cnt L O n P (callM [3, 40, 28] (m_rows (g_rows d))) cl s
    cases cl with
    | c =>
      refine rows_of C hs (fun h => ?_) fun h => ?_
      · have : s = 0 := by simp [Cl.ints] at h; lia
        subst this; rfl
      · obtain ⟨s, rfl⟩ : ∃ t, s = t + 1 := ⟨s - 1, by simp [Cl.ints] at h; lia⟩
        obtain ⟨d, rfl⟩ : ∃ t, d = t + 1 := ⟨d - 1, by lia⟩
        obtain ⟨vs, hv, hsum, hlen, hn⟩ := C.nodesC
        refine rA_ok C (c0 := 0) rfl hn hlen (fun v => if leaf v then (if s = 0 then 1 else 0) else vC L O s) (fun v hm => ?_) ?_
        · rcases hv v hm with ⟨x, rfl⟩ | ⟨x, rfl⟩
          · exact ⟨x, [], rfl, by simp, fun kvs I => ⟨kvs, I, rows_nil d s _ (by lia) _⟩⟩
          · refine ⟨x, [.int 0], rfl, by simp, fun kvs I => ?_⟩
            have := ih .c s (by simp only [Cl.most] at hs ⊢; lia) (by lia) kvs I
            rw [show ((s + 1 : Nat) : Int) - 1 = (s : Int) by lia]
            exact this
        · rw [hsum]; exact vC_step L O s
    | e =>
      refine rows_of C hs (fun h => ?_) fun h => ?_
      · have : s = 0 := by simp [Cl.ints] at h; lia
        subst this; rfl
      · obtain ⟨s, rfl⟩ : ∃ t, s = t + 1 := ⟨s - 1, by simp [Cl.ints] at h; lia⟩
        refine rA_ok C (c0 := n) rfl C.nodesE (by simp) (fun v => vC L O s) (fun v hm => ?_) (by simp [Cl.val])
        obtain rfl := List.mem_singleton.mp hm
        refine ⟨_, [.int 0], rfl, by simp, fun kvs I => ?_⟩
        have := ih .c s (by simp only [Cl.most] at hs ⊢; lia) (by lia) kvs I
        rw [show ((s + 1 : Nat) : Int) - 1 = (s : Int) by lia]
        exact this
    | p =>
      refine rows_of C hs (fun h => ?_) fun h => ?_
      · have : s = 0 := by simp [Cl.ints] at h; lia
        subst this; rfl
      · obtain ⟨s, rfl⟩ : ∃ t, s = t + 1 := ⟨s - 1, by simp [Cl.ints] at h; lia⟩
        refine rA_ok C (c0 := n + 1) rfl C.nodesP (by simp) (fun v => v3 L O s) (fun v hm => ?_) (by simp [Cl.val])
        obtain rfl := List.mem_singleton.mp hm
        refine ⟨_, [.int 0, .int 0, .int 0], rfl, by simp, fun kvs I => ?_⟩
        have := ih .c3 s (by simp only [Cl.most] at hs ⊢; lia) (by lia) kvs I
        rw [show ((s + 1 : Nat) : Int) - 1 = (s : Int) by lia]
        exact this
    | c2 =>
      refine rows_of C hs (fun h => ?_) fun h => ?_
      · have : s = 0 ∨ s = 1 := by simp [Cl.ints] at h; lia
        rcases this with rfl | rfl <;> rfl
      · simp only [Cl.most] at hs
        refine rB_ok C (cl := .c2) (cl' := .c) rfl (by simp [Cl.ints]) hs ?_ (fun k hk => ih .c k (by simp only [Cl.most]; lia) (by lia)) (fun k hk => ih .c k (by simp only [Cl.most]; lia) (by lia)) h
        show v2 L O s = (List.map _ (rangeVs 1 ((s : Int) - 2 + 2) 1)).sum
        rw [show (s : Int) - 2 + 2 = s by lia]; rfl
    | c3 =>
      refine rows_of C hs (fun h => ?_) fun h => ?_
      · have : s = 0 ∨ s = 1 ∨ s = 2 := by simp [Cl.ints] at h; lia
        rcases this with rfl | rfl | rfl <;> rfl
      · simp only [Cl.most] at hs
        refine rB_ok C (cl := .c3) (cl' := .c2) rfl (by simp [Cl.ints]) hs ?_ (fun k hk => ih .c k (by simp only [Cl.most]; lia) (by lia)) (fun k hk => ih .c2 k (by simp only [Cl.most]; lia) (by lia)) h
        show v3 L O s = (List.map _ (rangeVs 1 ((s : Int) - 3 + 2) 1)).sum
        rw [show (s : Int) - 3 + 2 = s - 1 by lia]; rfl
end
end Mine
/-! C7 -/
namespace Mine
open PySem
structure Start (cnt : Nat) (σ : Sto) (P : List (V × V) → Sto) (kvs : List (V × V)) : Prop where
  ren : ∀ s : Int, s ≤ 200 → g_renewed [.ref cnt, .int s] σ = .ok .none (P kvs)
  get : ∃ mk kk, σ[cnt]? = some (.inst 1 [(38, .ref 1), (39, mk), (25, kk)])
section
variable {cnt kd : Nat} {L O n : Int} {P : List (V × V) → Sto} {σ : Sto}
theorem Cnt.start (C : Cnt cnt kd L O n P) (kvs : List (V × V)) : Start cnt (P kvs) P kvs := by
  obtain ⟨mk, hg⟩ := C.get
  exact ⟨C.ren kvs, mk, _, hg kvs⟩
theorem mcall1 {m : Nat} {g : List V → Sto → Res V} {fr : Loc} {i : Nat} {mk kk : V} (hg : σ[cnt]? = some (.inst 1 [(38, .ref 1), (39, mk), (25, kk)])) (hm : m ≠ 38 ∧ m ≠ 39 ∧ m ≠ 25) (h : fr.lookup i = some (.ref cnt)) {fs : List (ME V)} {vs : List V} (hf : eList fs fr σ = .ok vs σ) :
    eMCall 1 m g (eVar i) fs fr σ = g (.ref cnt :: vs) σ := by
  have hl : List.lookup m [(38, V.ref 1), (39, mk), (25, kk)] = none := by simp [List.lookup, beq_eq_false_iff_ne.mpr hm.1, beq_eq_false_iff_ne.mpr hm.2.1, beq_eq_false_iff_ne.mpr hm.2.2]
  simp only [eMCall, ME.bind, eVar, h, ofOpt_some, andThen_ok, instOf, hg, if_true, hl, Option.isNone_none, hf]
theorem list1 {f : ME V} {fr : Loc} {v : V} (h : f fr σ = .ok v σ) : eList [f] fr σ = .ok [v] σ := by simp only [eList, ME.bind, h, andThen_ok, ME.pure]
theorem list2 {f g : ME V} {fr : Loc} {v u : V} (h : f fr σ = .ok v σ) (h2 : g fr σ = .ok u σ) : eList [f, g] fr σ = .ok [v, u] σ := by simp only [eList, ME.bind, h, h2, andThen_ok, ME.pure]
theorem many_ok (C : Cnt cnt kd L O n P) {kvs : List (V × V)} (S : Start cnt σ P kvs) (I : Inv L O n kvs) {cl : Cl} {c m : Int} {s : Nat} (hc : cl.ints n = [.int c]) (hs : s ≤ cl.most) (hf : g_Heap_find [.ref 1, .int m] (P kvs) = .ok (.int c) (P kvs)) :
    ∃ kvs', Inv L O n kvs' ∧ g_many [.ref cnt, .int m, .int s] σ = .ok (.int (cl.val L O s)) (P kvs') := by
  have hm : cl.most ≤ 200 := by cases cl <;> decide
  obtain ⟨kvs', I', h'⟩ := rows_ok C 205 cl s hs (by lia) kvs I
  refine ⟨kvs', I', ?_⟩
  obtain ⟨mk, kk, hg⟩ := S.get
  obtain ⟨a, b, c', d, e, f, g', hh⟩ := C.heap
  have e1 : sExprV (eMCall 1 47 g_renewed (eVar 3) [(eVar 28)]) [(3, .ref cnt), (35, .int m), (28, .int s)] σ = .next [(3, .ref cnt), (35, .int m), (28, .int s)] (P kvs) := by
    simp only [sExprV, sBind, mcall1 (m := 47) (i := 3) (fr := [(3, .ref cnt), (35, .int m), (28, .int s)]) hg (by decide) rfl (list1 (f := eVar 28) (v := .int s) rfl), S.ren s (by lia)]; rfl
  have e2 : eTup [(eMCall 3 19 g_Heap_find (eAttr 1 38 (eVar 3)) [(eVar 35)])] [(3, .ref cnt), (35, .int m), (28, .int s)] (P kvs) = .ok (.tup (cl.ints n)) (P kvs) := by
    have e3 : eMCall 3 19 g_Heap_find (eAttr 1 38 (eVar 3)) [(eVar 35)] [(3, .ref cnt), (35, .int m), (28, .int s)] (P kvs) = .ok (.int c) (P kvs) := by
      rw [← hf]
      unfold eMCall
      simp only [ME.bind, heap_of C (fr := [(3, .ref cnt), (35, .int m), (28, .int s)]) rfl, andThen_ok, instOf, hh kvs, if_true, list1 (f := eVar 35) (fr := [(3, .ref cnt), (35, .int m), (28, .int s)]) (v := .int m) (σ := P kvs) rfl]
      rfl
    rw [hc]
    simp only [eTup, ME.bind, list1 e3, andThen_ok]; rfl
  show outcome (m_many [(3, .ref cnt), (35, .int m), (28, .int s)] σ) = _
  unfold m_many
  rw [seq_next e1]
  simp only [sRet, sBind, own_rows C (fr := [(3, .ref cnt), (35, .int m), (28, .int s)]) rfl e2 (f2 := eVar 28) (v2 := .int s) rfl, h']; rfl
theorem many_no {w m : Int} {mk kk : V} (hg : σ[cnt]? = some (.inst 1 [(38, .ref 1), (39, mk), (25, kk)])) (hw : 200 < w) : g_many [.ref cnt, .int m, .int w] σ = .exc 4 σ := by
  have hd : decide (w > 200) = true := decide_eq_true hw
  have e0 : g_renewed [.ref cnt, .int w] σ = .exc 4 σ := by
    have e1 : tCmp .Gt (eVar 28) (ME.pure (.int 200)) [(3, .ref cnt), (28, .int w)] σ = .ok true σ := by rw [← hd]; rfl
    show outcome (m_renewed [(3, .ref cnt), (28, .int w)] σ) = _
    unfold m_renewed
    have e2 : sIf (tCmp .Gt (eVar 28) (ME.pure (.int 200))) (sRaise 4) sSkip [(3, .ref cnt), (28, .int w)] σ = .exc 4 [(3, .ref cnt), (28, .int w)] σ := by rw [if_ok e1]; rfl
    simp only [sSeq, e2]; rfl
  have e1 : sExprV (eMCall 1 47 g_renewed (eVar 3) [(eVar 28)]) [(3, .ref cnt), (35, .int m), (28, .int w)] σ = .exc 4 [(3, .ref cnt), (35, .int m), (28, .int w)] σ := by
    simp only [sExprV, sBind, mcall1 (m := 47) (i := 3) (fr := [(3, .ref cnt), (35, .int m), (28, .int w)]) hg (by decide) rfl (list1 (f := eVar 28) (v := .int w) rfl), e0]
  show outcome (m_many [(3, .ref cnt), (35, .int m), (28, .int w)] σ) = _
  unfold m_many
  simp only [sSeq, e1]; rfl
theorem one_ok (hL : 0 ≤ L ∧ L ≤ 4) (hO : 0 ≤ O ∧ O ≤ 2) {w : Nat} (hw : w ≤ 1000) : g_one [.int L, .int O, .int w] σ = .ok (.int (vC L O w)) σ := by
  show outcome (m_one [(55, .int L), (56, .int O), (54, .int w)] σ) = _
  cases w with
  | zero => rfl
  | succ w =>
    have h1 : (0 ≤ ((w + 1 : Nat) : Int) - 1 ∧ ((w + 1 : Nat) : Int) - 1 < 2 ^ 20 ∧ O.natAbs < 2 ^ 64) := by lia
    have h2 : (((w + 1 : Nat) : Int) - 1).toNat = w := by lia
    have e0 : tCmp .Gt (eVar 54) (ME.pure (.int 0)) [(55, .int L), (56, .int O), (54, .int ((w + 1 : Nat) : Int))] σ = .ok true σ := by
      show Res.ofOpt (some (decide (((w + 1 : Nat) : Int) > 0))) σ = _
      rw [decide_eq_true (by lia)]; rfl
    have e1 : eBin .Pow (eVar 56) (eBin .Sub (eVar 54) (ME.pure (.int 1))) [(55, .int L), (56, .int O), (54, .int ((w + 1 : Nat) : Int))] σ = .ok (.int (O ^ w)) σ := by
      rw [bin_eval (f := eVar 56) (a := .int O) (σ1 := σ) rfl (show eBin .Sub (eVar 54) (ME.pure (.int 1)) _ _ = .ok (.int (((w + 1 : Nat) : Int) - 1)) σ from rfl)]
      show (if _ then _ else _) = _
      rw [if_pos h1, h2]
    have e2 : eBin .Mult (eVar 55) (eBin .Pow (eVar 56) (eBin .Sub (eVar 54) (ME.pure (.int 1)))) [(55, .int L), (56, .int O), (54, .int ((w + 1 : Nat) : Int))] σ = .ok (.int (L * O ^ w)) σ := by
      rw [bin_eval (f := eVar 55) (a := .int L) (σ1 := σ) rfl e1]
      show (if _ then _ else _) = _
      rw [if_pos (Or.inl (by lia))]
    unfold m_one
    simp only [sRet, sBind, eIf, ME.bind, e0, andThen_ok, if_true, e2]; rfl
end
end Mine
/-! C8 -/
namespace Mine
open PySem
theorem compM_exc {I : Sto → Prop} {t : Tgt} {elt : ME V} {frc : Loc} {c : Nat} (val : V → Int) {v : V} {vs2 : List V} : ∀ (vs : List V) (σ : Sto) (acc : List V), I σ → acc.length + vs.length ≤ 1000000 →
    (∀ v ∈ vs, ∃ fr1, t v frc = some fr1 ∧ ∀ σ, I σ → ∃ σ', I σ' ∧ elt fr1 σ = .ok (.int (val v)) σ') → (∃ fr1, t v frc = some fr1 ∧ ∀ σ, I σ → elt fr1 σ = .exc c σ) →
    ∃ σ', I σ' ∧ compM t none elt frc (vs ++ v :: vs2) σ acc = .exc c σ'
  | [], σ, acc, h, hz, _, he => by
    obtain ⟨fr1, h1, h2⟩ := he
    have hz1 : szOk acc.length = true := decide_eq_true hz
    refine ⟨σ, h, ?_⟩
    simp only [List.nil_append, compM, h1, andThen_ok, if_true, hz1, h2 σ h]; rfl
  | u :: vs, σ, acc, h, hz, hk, he => by
    obtain ⟨fr1, h1, h2⟩ := hk u (.head _)
    obtain ⟨σ1, h3, h4⟩ := h2 σ h
    rw [List.length_cons] at hz
    obtain ⟨σ2, h5, h6⟩ := compM_exc (vs2 := vs2) val vs σ1 (acc ++ [.int (val u)]) h3 (by rw [List.length_append, List.length_singleton]; lia) (fun w hw => hk w (.tail _ hw)) he
    refine ⟨σ2, h5, ?_⟩
    have hz1 : szOk acc.length = true := decide_eq_true (by lia)
    simp only [List.cons_append, compM, h1, andThen_ok, if_true, hz1, h4, h6]
theorem range_split {w : Int} (h : 200 < w) : ∃ r, rangeVs 1 (w + 1) 1 = rangeVs 1 201 1 ++ V.int 201 :: r := by
  obtain ⟨k, hk⟩ : ∃ k : Nat, (w + 1 - 1).toNat = 200 + (k + 1) := ⟨w.toNat - 201, by lia⟩
  refine ⟨List.map ((fun i : Nat => V.int (1 + (i : Int) * 1)) ∘ fun x => 200 + x) (List.map Nat.succ (List.range k)), ?_⟩
  rw [range_eq, range_eq, hk, List.range_add, List.map_append, List.range_succ_eq_map (n := k), List.map_cons, List.map_cons, List.map_map]
  rfl
noncomputable def vU (L O : Int) (s : Nat) : Int := ((rangeVs 1 ((s : Int) + 1) 1).map fun v => vC L O (vi v).toNat).sum
theorem range_len (b : Int) : (rangeVs 1 b 1).length = (b - 1).toNat := by rw [range_eq, List.length_map, List.length_range]
theorem range2_eval {f g : ME V} {fr : Loc} {σ σ1 σ2 : Sto} {a b : Int} (h1 : f fr σ = .ok (.int a) σ1) (h2 : g fr σ1 = .ok (.int b) σ2) (ha : smallB a = true) (hb : smallB b = true) : eRange2 f g fr σ = .ok (rangeVs a b 1) σ2 := by
  simp only [eRange2, ME.bind, h1, h2, andThen_ok, ha, hb, Bool.and_self, if_true]; rfl
section
variable {cnt kd : Nat} {L O n : Int} {P : List (V × V) → Sto} {σ : Sto}
theorem many_at (C : Cnt cnt kd L O n P) {m : Int} (hf : ∀ kvs, g_Heap_find [.ref 1, .int m] (P kvs) = .ok (.int 0) (P kvs)) {b : Int} (hb : b ≤ 201) : ∀ v ∈ rangeVs 1 b 1, ∃ fr1, tName 46 v (cap [(3, .ref cnt), (35, .int m), (28, .int (b - 1))] [35, 3]) = some fr1 ∧ ∀ σ, (∃ kvs, Inv L O n kvs ∧ σ = P kvs) → ∃ σ', (∃ kvs, Inv L O n kvs ∧ σ' = P kvs) ∧ eMCall 1 48 g_many (eVar 3) [(eVar 35), (eVar 46)] fr1 σ = .ok (.int (vC L O (vi v).toNat)) σ' := by
  intro v hm
  obtain ⟨k, rfl, hk1, hk2⟩ := mem_rangeVs hm
  refine ⟨[(46, .int k), (3, .ref cnt), (35, .int m)], rfl, fun σ ⟨kvs, I, e⟩ => ?_⟩
  subst e
  obtain ⟨mk, hg⟩ := C.get
  obtain ⟨kvs', I', h'⟩ := many_ok C (C.start kvs) I (cl := .c) (c := 0) (m := m) (s := k) rfl (by simp only [Cl.most]; lia) (hf kvs)
  refine ⟨_, ⟨kvs', I', rfl⟩, ?_⟩
  rw [mcall1 (hg kvs) (by decide) rfl (list2 (f := eVar 35) (g := eVar 46) rfl rfl), h']; rfl
theorem upto_ok (C : Cnt cnt kd L O n P) {kvs : List (V × V)} (I : Inv L O n kvs) {m : Int} (hf : ∀ kvs, g_Heap_find [.ref 1, .int m] (P kvs) = .ok (.int 0) (P kvs)) {s : Nat} (hs : s ≤ 200) :
    ∃ kvs', Inv L O n kvs' ∧ g_upto [.ref cnt, .int m, .int s] (P kvs) = .ok (.int (vU L O s)) (P kvs') := by
  have hsm : smallB ((s : Int) + 1) = true := decide_eq_true (by lia)
  have hrg : eRange2 (ME.pure (.int 1)) (eBin .Add (eVar 28) (ME.pure (.int 1))) [(3, .ref cnt), (35, .int m), (28, .int s)] (P kvs) = .ok (rangeVs 1 ((s : Int) + 1) 1) (P kvs) := by
    rw [range2_eval (a := 1) (b := (s : Int) + 1) rfl rfl rfl hsm]
  have hr := many_at C hf (b := (s : Int) + 1) (by lia)
  rw [show (s : Int) + 1 - 1 = s by lia] at hr
  obtain ⟨σ', ⟨kvs', I', rfl⟩, hc⟩ := compM_ints (I := fun σ => ∃ kvs, Inv L O n kvs ∧ σ = P kvs) (fun v => vC L O (vi v).toNat) _ (P kvs) [] ⟨kvs, I, rfl⟩ (by rw [range_len]; simp; lia) hr
  refine ⟨kvs', I', ?_⟩
  show outcome (m_upto [(3, .ref cnt), (35, .int m), (28, .int s)] (P kvs)) = _
  have e2 : eBlt .sum [(eComp [35, 3] (tName 46) (eRange2 (ME.pure (.int 1)) (eBin .Add (eVar 28) (ME.pure (.int 1)))) none (eMCall 1 48 g_many (eVar 3) [(eVar 35), (eVar 46)]))] [(3, .ref cnt), (35, .int m), (28, .int s)] (P kvs) = .ok (.int (vU L O s)) (P kvs') := by
    simp only [eBlt, eList, ME.bind, eComp, hrg, andThen_ok, hc, List.nil_append, ME.pure, bltM, blt1, items?, Option.bind_some, intsV_map, Option.map_some, ofOpt_some, vU]
  unfold m_upto
  simp only [sRet, sBind, e2]; rfl
theorem upto_no (C : Cnt cnt kd L O n P) {kvs : List (V × V)} (I : Inv L O n kvs) {m : Int} (hf : ∀ kvs, g_Heap_find [.ref 1, .int m] (P kvs) = .ok (.int 0) (P kvs)) {w : Int} (hw : 200 < w) (hw2 : w ≤ 1000) :
    ∃ kvs', Inv L O n kvs' ∧ g_upto [.ref cnt, .int m, .int w] (P kvs) = .exc 4 (P kvs') := by
  have hsm : smallB (w + 1) = true := decide_eq_true (by lia)
  have hrg : eRange2 (ME.pure (.int 1)) (eBin .Add (eVar 28) (ME.pure (.int 1))) [(3, .ref cnt), (35, .int m), (28, .int w)] (P kvs) = .ok (rangeVs 1 (w + 1) 1) (P kvs) := by
    rw [range2_eval (a := 1) (b := w + 1) rfl rfl rfl hsm]
  obtain ⟨r, hr0⟩ := range_split hw
  have hr := many_at C hf (b := 201) (by lia)
  obtain ⟨σ', ⟨kvs', I', rfl⟩, hc⟩ := compM_exc (I := fun σ => ∃ kvs, Inv L O n kvs ∧ σ = P kvs) (t := tName 46) (elt := eMCall 1 48 g_many (eVar 3) [(eVar 35), (eVar 46)]) (frc := [(3, .ref cnt), (35, .int m)]) (c := 4) (v := .int 201) (vs2 := r) (fun v => vC L O (vi v).toNat) (rangeVs 1 201 1) (P kvs) [] ⟨kvs, I, rfl⟩ (by rw [range_len]; simp) hr
    ⟨[(46, .int 201), (3, .ref cnt), (35, .int m)], rfl, fun σ ⟨kvs, I, e⟩ => by
      subst e
      obtain ⟨mk, hg⟩ := C.get
      rw [mcall1 (hg kvs) (by decide) rfl (list2 (f := eVar 35) (g := eVar 46) rfl rfl), many_no (hg kvs) (by decide)]⟩
  refine ⟨kvs', I', ?_⟩
  show outcome (m_upto [(3, .ref cnt), (35, .int m), (28, .int w)] (P kvs)) = _
  have e2 : eBlt .sum [(eComp [35, 3] (tName 46) (eRange2 (ME.pure (.int 1)) (eBin .Add (eVar 28) (ME.pure (.int 1)))) none (eMCall 1 48 g_many (eVar 3) [(eVar 35), (eVar 46)]))] [(3, .ref cnt), (35, .int m), (28, .int w)] (P kvs) = .exc 4 (P kvs') := by
    have hc2 : compM (tName 46) none (eMCall 1 48 g_many (eVar 3) [(eVar 35), (eVar 46)]) (cap [(3, .ref cnt), (35, .int m), (28, .int w)] [35, 3]) (rangeVs 1 (w + 1) 1) (P kvs) [] = .exc 4 (P kvs') := by rw [hr0]; exact hc
    simp only [eBlt, eList, ME.bind, eComp, hrg, andThen_ok, hc2]; rfl
  unfold m_upto
  simp only [sRet, sBind, e2]; rfl
end
end Mine
/-! C9 -/
namespace Mine
open PySem
section
variable {cnt kd : Nat} {L O n : Int} {P : List (V × V) → Sto} {σ : Sto}
theorem refused_ok (C : Cnt cnt kd L O n P) {kvs : List (V × V)} (I : Inv L O n kvs) (hf : ∀ kvs, g_Heap_find [.ref 1, .int 0] (P kvs) = .ok (.int 0) (P kvs)) {w : Int} (hw : 200 < w) (hw2 : w ≤ 1000) {deed : List Nat}
    (hd : deed = [109, 97, 110, 121] ∨ deed = [117, 112, 116, 111] ∨ deed = [108, 105, 115, 116, 101, 100] ∨ deed = [110, 116, 104]) :
    ∃ kvs', Inv L O n kvs' ∧ g_refused [.ref cnt, .str deed, .int 0, .int w] (P kvs) = .ok (.bool true) (P kvs') := by
  obtain ⟨mk, hg⟩ := C.get
  have key : ∀ (kvs' : List (V × V)) (b : MS), b [(60, .ref cnt), (59, .str deed), (12, .int 0), (54, .int w)] (P kvs) = .exc 4 [(60, .ref cnt), (59, .str deed), (12, .int 0), (54, .int w)] (P kvs') →
      outcome (sSeq (sTryTrue 4 b) (sRet (ME.pure (.bool false))) [(60, .ref cnt), (59, .str deed), (12, .int 0), (54, .int w)] (P kvs)) = .ok (.bool true) (P kvs') := by
    intro kvs' b hb
    have : sTryTrue 4 b [(60, .ref cnt), (59, .str deed), (12, .int 0), (54, .int w)] (P kvs) = .ret (.bool true) (P kvs') := by simp only [sTryTrue, hb, if_true]
    rw [seq_ret this]; rfl
  have exV : ∀ (f : ME V) (kvs' : List (V × V)) (fr : Loc), f fr (P kvs) = .exc 4 (P kvs') → sExprV f fr (P kvs) = .exc 4 fr (P kvs') := fun f kvs' fr h => by simp only [sExprV, sBind, h]
  have hm := fun m : Int => many_no (m := m) (hg kvs) hw
  rcases hd with rfl | rfl | rfl | rfl
  · refine ⟨kvs, I, key kvs _ ?_⟩
    rw [if_ok (b := true) (σ' := P kvs) rfl]
    refine exV _ kvs _ ?_
    rw [mcall1 (hg kvs) (by decide) rfl (list2 (f := eVar 12) (g := eVar 54) rfl rfl)]; exact hm 0
  · obtain ⟨kvs', I', hu⟩ := upto_no C I hf hw hw2
    refine ⟨kvs', I', key kvs' _ ?_⟩
    rw [if_ok (b := false) (σ' := P kvs) rfl, if_neg (by decide), if_ok (b := true) (σ' := P kvs) rfl]
    refine exV _ kvs' _ ?_
    rw [mcall1 (hg kvs) (by decide) rfl (list2 (f := eVar 12) (g := eVar 54) rfl rfl)]; exact hu
  · refine ⟨kvs, I, key kvs _ ?_⟩
    rw [if_ok (b := false) (σ' := P kvs) rfl, if_neg (by decide), if_ok (b := false) (σ' := P kvs) rfl, if_neg (by decide), if_ok (b := true) (σ' := P kvs) rfl]
    refine exV _ kvs _ ?_
    rw [mcall1 (hg kvs) (by decide) rfl (list2 (f := eVar 12) (g := eVar 54) rfl rfl)]
    show outcome (m_listed [(3, .ref cnt), (35, .int 0), (28, .int w)] (P kvs)) = _
    have e1 : eMCall 1 48 g_many (eVar 3) [(eVar 35), (eVar 28)] [(3, .ref cnt), (35, .int 0), (28, .int w)] (P kvs) = .exc 4 (P kvs) := by
      rw [mcall1 (hg kvs) (by decide) rfl (list2 (f := eVar 35) (g := eVar 28) rfl rfl)]; exact hm 0
    unfold m_listed
    simp only [sSeq, sIf, sBind, tCmp, ME.bind, e1, Res.andThen]; rfl
  · refine ⟨kvs, I, key kvs _ ?_⟩
    rw [if_ok (b := false) (σ' := P kvs) rfl, if_neg (by decide), if_ok (b := false) (σ' := P kvs) rfl, if_neg (by decide), if_ok (b := false) (σ' := P kvs) rfl, if_neg (by decide)]
    refine exV _ kvs _ ?_
    have e3 : eList [eVar 12, eVar 54, ME.pure (.int 0)] [(60, .ref cnt), (59, .str [110, 116, 104]), (12, .int 0), (54, .int w)] (P kvs) = .ok [.int 0, .int w, .int 0] (P kvs) := rfl
    rw [mcall1 (hg kvs) (by decide) rfl e3]
    show outcome (m_nth [(3, .ref cnt), (35, .int 0), (28, .int w), (49, .int 0)] (P kvs)) = _
    have e1 : eMCall 1 48 g_many (eVar 3) [(eVar 35), (eVar 28)] [(3, .ref cnt), (35, .int 0), (28, .int w), (49, .int 0)] (P kvs) = .exc 4 (P kvs) := by
      rw [mcall1 (hg kvs) (by decide) rfl (list2 (f := eVar 35) (g := eVar 28) rfl rfl)]; exact hm 0
    have e2 : tChain .LtE .Lt (ME.pure (.int 0)) (eVar 49) (eMCall 1 48 g_many (eVar 3) [(eVar 35), (eVar 28)]) [(3, .ref cnt), (35, .int 0), (28, .int w), (49, .int 0)] (P kvs) = .exc 4 (P kvs) := by
      have e4 : cmpM .LtE (.int 0) (.int 0) (P kvs) = some true := rfl
      simp only [tChain, ME.bind, ME.pure, andThen_ok]
      rw [var_eval (i := 49) (v := .int 0) rfl]
      simp only [andThen_ok, e4, ofOpt_some, if_true, e1]; rfl
    unfold m_nth
    simp only [sSeq, sIf, sBind, tNot, ME.bind, e2, Res.andThen]; rfl
end
end Mine
/-! C10 -/
namespace Mine
open PySem
theorem tcmp_eval {op : CmpOp} {f g : ME V} {fr : Loc} {σ σ1 σ2 : Sto} {a b : V} (h1 : f fr σ = .ok a σ1) (h2 : g fr σ1 = .ok b σ2) : tCmp op f g fr σ = Res.ofOpt (cmpM op a b σ2) σ2 := by
  simp only [tCmp, ME.bind, h1, h2, andThen_ok]
theorem same_int (a : Int) (σ : Sto) : cmpM .NotEq (.int a) (.int a) σ = some false := by
  show some (!(decide (a = a))) = _
  rw [decide_eq_true rfl]; rfl
theorem pass {f g : ME V} {r : MS} {fr : Loc} {σ σ1 σ2 : Sto} {a : Int} (h1 : f fr σ = .ok (.int a) σ1) (h2 : g fr σ1 = .ok (.int a) σ2) : sIf (tCmp .NotEq f g) r sSkip fr σ = .next fr σ2 := by
  rw [if_ok (b := false) (σ' := σ2) (by rw [tcmp_eval h1 h2, same_int]; rfl), if_neg (by decide)]; rfl
section
variable {cnt kd : Nat} {L O n m : Int} {f : Nat} {P : List (V × V) → Sto} {σ : Sto}
noncomputable abbrev fb (cnt : Nat) (L O n m : Int) (f : Nat) : Loc := [(60, .ref cnt), (65, .int m), (66, .int n), (67, .int (n + 1)), (55, .int L), (56, .int O), (64, .int f)]
theorem one_at {fr : Loc} {i s : Nat} (C : Cnt cnt kd L O n P) (h55 : fr.lookup 55 = some (.int L)) (h56 : fr.lookup 56 = some (.int O)) (hi : fr.lookup i = some (.int s)) (hs : s ≤ 1000) : eCall g_one [eVar 55, eVar 56, eVar i] fr σ = .ok (.int (vC L O s)) σ := by
  simp only [eCall, eList, ME.bind, var_eval h55, var_eval h56, var_eval hi, andThen_ok, ME.pure]
  exact one_ok C.hL C.hO hs
theorem sum_at (C : Cnt cnt kd L O n P) {s : Nat} (hs : s ≤ 200) : eBlt .sum [(eComp [55, 56] (tName 46) (eRange2 (ME.pure (.int 1)) (eBin .Add (eVar 54) (ME.pure (.int 1)))) none (eCall g_one [(eVar 55), (eVar 56), (eVar 46)]))] ((54, .int s) :: fb cnt L O n m f) σ = .ok (.int (vU L O s)) σ := by
  have hsm : smallB ((s : Int) + 1) = true := decide_eq_true (by omega)
  have hrg : eRange2 (ME.pure (.int 1)) (eBin .Add (eVar 54) (ME.pure (.int 1))) ((54, .int s) :: fb cnt L O n m f) σ = .ok (rangeVs 1 ((s : Int) + 1) 1) σ := by
    rw [range2_eval (a := 1) (b := (s : Int) + 1) rfl rfl rfl hsm]
  obtain ⟨σ', rfl, hc⟩ := compM_ints (I := fun σ' => σ' = σ) (t := tName 46) (elt := eCall g_one [(eVar 55), (eVar 56), (eVar 46)]) (frc := [(55, .int L), (56, .int O)]) (fun v => vC L O (vi v).toNat) (rangeVs 1 ((s : Int) + 1) 1) σ [] rfl (by rw [range_len]; simp; omega) fun v hm => by
    obtain ⟨k, rfl, hk1, hk2⟩ := mem_rangeVs hm
    refine ⟨[(46, .int k), (55, .int L), (56, .int O)], rfl, fun σ' e => ⟨σ', e, ?_⟩⟩
    rw [one_at C rfl rfl rfl (by omega)]; rfl
  have hc2 : compM (tName 46) none (eCall g_one [(eVar 55), (eVar 56), (eVar 46)]) (cap ((54, .int s) :: fb cnt L O n m f) [55, 56]) (rangeVs 1 ((s : Int) + 1) 1) σ' [] = _ := hc
  simp only [eBlt, eList, ME.bind, eComp, hrg, andThen_ok, hc2, List.nil_append, ME.pure, bltM, blt1, items?, Option.bind_some, intsV_map, Option.map_some, ofOpt_some, vU]
theorem step_many (C : Cnt cnt kd L O n P) {kvs : List (V × V)} (S : Start cnt σ P kvs) (I : Inv L O n kvs) (hf : ∀ kvs, g_Heap_find [.ref 1, .int m] (P kvs) = .ok (.int 0) (P kvs)) {s : Nat} (hs : s ≤ 200) :
    ∃ kvs', Inv L O n kvs' ∧ (sIf (tCmp .NotEq (eMCall 1 48 g_many (eVar 60) [(eVar 65), (eVar 54)]) (eCall g_one [(eVar 55), (eVar 56), (eVar 54)])) (sRet (ME.pure (.bool false))) sSkip) ((54, .int s) :: fb cnt L O n m f) σ = .next ((54, .int s) :: fb cnt L O n m f) (P kvs') := by
  obtain ⟨mk, kk, hg⟩ := S.get
  obtain ⟨kvs', I', h'⟩ := many_ok C S I (cl := .c) (c := 0) (m := m) (s := s) rfl hs (hf kvs)
  refine ⟨kvs', I', pass (a := vC L O s) ?_ (one_at C rfl rfl rfl (by omega))⟩
  rw [mcall1 hg (by decide) rfl (list2 (f := eVar 65) (g := eVar 54) rfl rfl)]; exact h'
theorem step_upto (C : Cnt cnt kd L O n P) {kvs : List (V × V)} (I : Inv L O n kvs) (hf : ∀ kvs, g_Heap_find [.ref 1, .int m] (P kvs) = .ok (.int 0) (P kvs)) {s : Nat} (hs : s ≤ 200) :
    ∃ kvs', Inv L O n kvs' ∧ (sIf (tCmp .NotEq (eMCall 1 61 g_upto (eVar 60) [(eVar 65), (eVar 54)]) (eBlt .sum [(eComp [55, 56] (tName 46) (eRange2 (ME.pure (.int 1)) (eBin .Add (eVar 54) (ME.pure (.int 1)))) none (eCall g_one [(eVar 55), (eVar 56), (eVar 46)]))])) (sRet (ME.pure (.bool false))) sSkip) ((54, .int s) :: fb cnt L O n m f) (P kvs) = .next ((54, .int s) :: fb cnt L O n m f) (P kvs') := by
  obtain ⟨mk, hg⟩ := C.get
  obtain ⟨kvs', I', h'⟩ := upto_ok C I hf hs
  refine ⟨kvs', I', pass (a := vU L O s) ?_ (sum_at C hs)⟩
  rw [mcall1 (hg kvs) (by decide) rfl (list2 (f := eVar 65) (g := eVar 54) rfl rfl)]; exact h'
theorem loop_step {t : Tgt} {body : MS} {v : V} {vs : List V} {fr fr1 fr2 : Loc} {σ σ2 : Sto} (h1 : t v fr = some fr1) (h2 : body fr1 σ = .next fr2 σ2) : loopM t body (v :: vs) fr σ = loopM t body vs fr2 σ2 := by simp only [loopM, h1, h2]
theorem comp_step {t : Tgt} {elt : ME V} {frc fr1 : Loc} {v u : V} {vs acc : List V} {σ σ1 : Sto} (h1 : t v frc = some fr1) (hz : szOk acc.length = true) (h2 : elt fr1 σ = .ok u σ1) : compM t none elt frc (v :: vs) σ acc = compM t none elt frc vs σ1 (acc ++ [u]) := by
  simp only [compM, h1, andThen_ok, if_true, hz, h2]
/-- the last comparison's own side -/
noncomputable def Three (L O : Int) : Prop := ∀ σ : Sto, ∀ w : Nat, w = 3 ∨ w = 4 ∨ w = 7 ∨ w = 9 → g_three [.int L, .int O, .int w] σ = .ok (.int (v3 L O (w - 1))) σ
theorem told_ok (C : Cnt cnt kd L O n P) {kvs : List (V × V)} (S : Start cnt σ P kvs) (I : Inv L O n kvs) (hf : ∀ kvs, g_Heap_find [.ref 1, .int m] (P kvs) = .ok (.int 0) (P kvs)) (h8 : 1 ≤ f) (hs : f ≤ 200) (T : Three L O) :
    ∃ kvs', Inv L O n kvs' ∧ g_told [.ref cnt, .int m, .int n, .int (n + 1), .int L, .int O, .int f] σ = .ok (.bool true) (P kvs') := by
  show ∃ kvs', _ ∧ outcome (m_told (fb cnt L O n m f) σ) = _
  obtain ⟨mk, hg⟩ := C.get
  obtain ⟨k1, I1, e1⟩ := step_many (f := f) C S I hf (s := f) hs
  obtain ⟨k2, I2, e2⟩ := step_many (f := f) C (C.start k1) I1 hf (s := f - 1) (by omega)
  obtain ⟨k3, I3, e3⟩ := step_many (f := f) C (C.start k2) I2 hf (s := 1) (by omega)
  obtain ⟨k4, I4, e4⟩ := step_many (f := f) C (C.start k3) I3 hf (s := 0) (by omega)
  obtain ⟨k5, I5, e5⟩ := step_upto (f := f) C I4 hf (s := f) hs
  obtain ⟨k6, I6, e6⟩ := step_upto (f := f) C I5 hf (s := 1) (by omega)
  obtain ⟨k7, I7, e7⟩ := step_upto (f := f) C I6 hf (s := 0) (by omega)
  obtain ⟨k8, I8, e8⟩ := many_ok C (C.start k7) I7 (cl := .e) (c := n) (m := n) (s := f) rfl hs (C.findE k7)
  obtain ⟨k9, I9, e9⟩ := many_ok C (C.start k8) I8 (cl := .e) (c := n) (m := n) (s := 1) rfl (by decide) (C.findE k8)
  obtain ⟨k10, I10, e10⟩ := many_ok C (C.start k9) I9 (cl := .p) (c := n + 1) (m := n + 1) (s := 3) rfl (by decide) (C.findP k9)
  obtain ⟨k11, I11, e11⟩ := many_ok C (C.start k10) I10 (cl := .p) (c := n + 1) (m := n + 1) (s := 4) rfl (by decide) (C.findP k10)
  obtain ⟨k12, I12, e12⟩ := many_ok C (C.start k11) I11 (cl := .p) (c := n + 1) (m := n + 1) (s := 7) rfl (by decide) (C.findP k11)
  obtain ⟨k13, I13, e13⟩ := many_ok C (C.start k12) I12 (cl := .p) (c := n + 1) (m := n + 1) (s := 9) rfl (by decide) (C.findP k12)
  refine ⟨k13, I13, ?_⟩
  have i1 : eIter (eTup [(eVar 64), (eBin .Sub (eVar 64) (ME.pure (.int 1))), (ME.pure (.int 1)), (ME.pure (.int 0))]) (fb cnt L O n m f) σ = .ok [.int f, .int ((f - 1 : Nat) : Int), .int 1, .int 0] σ := by
    rw [show ((f - 1 : Nat) : Int) = (f : Int) - 1 by omega]; rfl
  have i2 : eIter (eTup [(eVar 64), (ME.pure (.int 1)), (ME.pure (.int 0))]) ((54, .int 0) :: fb cnt L O n m f) (P k4) = .ok [.int f, .int 1, .int 0] (P k4) := rfl
  have s1 : ∀ body : MS, body = (sIf (tCmp .NotEq (eMCall 1 48 g_many (eVar 60) [(eVar 65), (eVar 54)]) (eCall g_one [(eVar 55), (eVar 56), (eVar 54)])) (sRet (ME.pure (.bool false))) sSkip) → sFor (tName 54) (eIter (eTup [(eVar 64), (eBin .Sub (eVar 64) (ME.pure (.int 1))), (ME.pure (.int 1)), (ME.pure (.int 0))])) body (fb cnt L O n m f) σ = .next ((54, .int 0) :: fb cnt L O n m f) (P k4) := by
    intro body hb
    subst hb
    simp only [sFor, sBind, i1]
    rw [loop_step (fr1 := (54, .int f) :: fb cnt L O n m f) rfl e1, loop_step (fr1 := (54, .int ((f - 1 : Nat) : Int)) :: fb cnt L O n m f) rfl e2, loop_step (fr1 := (54, .int 1) :: fb cnt L O n m f) rfl e3, loop_step (fr1 := (54, .int 0) :: fb cnt L O n m f) rfl e4]; rfl
  have s2 : ∀ body : MS, body = (sIf (tCmp .NotEq (eMCall 1 61 g_upto (eVar 60) [(eVar 65), (eVar 54)]) (eBlt .sum [(eComp [55, 56] (tName 46) (eRange2 (ME.pure (.int 1)) (eBin .Add (eVar 54) (ME.pure (.int 1)))) none (eCall g_one [(eVar 55), (eVar 56), (eVar 46)]))])) (sRet (ME.pure (.bool false))) sSkip) → sFor (tName 54) (eIter (eTup [(eVar 64), (ME.pure (.int 1)), (ME.pure (.int 0))])) body ((54, .int 0) :: fb cnt L O n m f) (P k4) = .next ((54, .int 0) :: fb cnt L O n m f) (P k7) := by
    intro body hb
    subst hb
    simp only [sFor, sBind, i2]
    rw [loop_step (fr1 := (54, .int f) :: fb cnt L O n m f) rfl e5, loop_step (fr1 := (54, .int 1) :: fb cnt L O n m f) rfl e6, loop_step (fr1 := (54, .int 0) :: fb cnt L O n m f) rfl e7]; rfl
  have c1 : tCmp .NotEq (eMCall 1 48 g_many (eVar 60) [(eVar 66), (eVar 64)]) (eCall g_one [(eVar 55), (eVar 56), (eBin .Sub (eVar 64) (ME.pure (.int 1)))]) ((54, .int 0) :: fb cnt L O n m f) (P k7) = .ok false (P k8) := by
    rw [tcmp_eval (a := .int (vC L O (f - 1))) (b := .int (vC L O (f - 1))) (σ1 := P k8) (σ2 := P k8), same_int]; rfl
    · rw [mcall1 (hg k7) (by decide) rfl (list2 (f := eVar 66) (g := eVar 64) rfl rfl)]; exact e8
    · show g_one [.int L, .int O, .int ((f : Int) - 1)] (P k8) = _
      rw [show (f : Int) - 1 = ((f - 1 : Nat) : Int) by omega]
      exact one_ok C.hL C.hO (by omega)
  have c2 : tCmp .NotEq (eMCall 1 48 g_many (eVar 60) [(eVar 66), (ME.pure (.int 1))]) (ME.pure (.int 0)) ((54, .int 0) :: fb cnt L O n m f) (P k8) = .ok false (P k9) := by
    rw [tcmp_eval (a := .int 0) (b := .int 0) (σ1 := P k9) (σ2 := P k9), same_int]; rfl
    · rw [mcall1 (hg k8) (by decide) rfl (list2 (f := eVar 66) (g := ME.pure (.int 1)) rfl rfl)]; exact e9
    · rfl
  have s3 : sIf (tOr [(tCmp .NotEq (eMCall 1 48 g_many (eVar 60) [(eVar 66), (eVar 64)]) (eCall g_one [(eVar 55), (eVar 56), (eBin .Sub (eVar 64) (ME.pure (.int 1)))])), (tCmp .NotEq (eMCall 1 48 g_many (eVar 60) [(eVar 66), (ME.pure (.int 1))]) (ME.pure (.int 0)))]) (sRet (ME.pure (.bool false))) sSkip ((54, .int 0) :: fb cnt L O n m f) (P k7) = .next ((54, .int 0) :: fb cnt L O n m f) (P k9) := by
    rw [if_ok (b := false) (σ' := P k9), if_neg (by decide)]; rfl
    simp only [tOr, ME.bind, c1, andThen_ok, if_false, Bool.false_eq_true, c2]; rfl
  have q1 : eComp [60, 67] (tName 54) (eIter (eTup [(ME.pure (.int 3)), (ME.pure (.int 4)), (ME.pure (.int 7)), (ME.pure (.int 9))])) none (eMCall 1 48 g_many (eVar 60) [(eVar 67), (eVar 54)]) ((54, .int 0) :: fb cnt L O n m f) (P k9) = .ok (.list [.int (v3 L O 2), .int (v3 L O 3), .int (v3 L O 6), .int (v3 L O 8)]) (P k13) := by
    have st : ∀ (k : List (V × V)) (w : Nat) (r : Res V), g_many [.ref cnt, .int (n + 1), .int w] (P k) = r → eMCall 1 48 g_many (eVar 60) [(eVar 67), (eVar 54)] [(54, .int w), (60, .ref cnt), (67, .int (n + 1))] (P k) = r := fun k w r h => by
      rw [mcall1 (hg k) (by decide) rfl (list2 (f := eVar 67) (g := eVar 54) rfl rfl)]; exact h
    show (compM (tName 54) none (eMCall 1 48 g_many (eVar 60) [(eVar 67), (eVar 54)]) [(60, .ref cnt), (67, .int (n + 1))] [.int 3, .int 4, .int 7, .int 9] (P k9) []).andThen _ = _
    rw [comp_step rfl rfl (st k9 3 _ e10), comp_step rfl rfl (st k10 4 _ e11), comp_step rfl rfl (st k11 7 _ e12), comp_step rfl rfl (st k12 9 _ e13)]; rfl
  have q2 : eComp [55, 56] (tName 54) (eIter (eTup [(ME.pure (.int 3)), (ME.pure (.int 4)), (ME.pure (.int 7)), (ME.pure (.int 9))])) none (eCall g_three [(eVar 55), (eVar 56), (eVar 54)]) ((54, .int 0) :: fb cnt L O n m f) (P k13) = .ok (.list [.int (v3 L O 2), .int (v3 L O 3), .int (v3 L O 6), .int (v3 L O 8)]) (P k13) := by
    show (compM (tName 54) none (eCall g_three [(eVar 55), (eVar 56), (eVar 54)]) [(55, .int L), (56, .int O)] [.int 3, .int 4, .int 7, .int 9] (P k13) []).andThen _ = _
    have st : ∀ (w : Nat), (w = 3 ∨ w = 4 ∨ w = 7 ∨ w = 9) → eCall g_three [(eVar 55), (eVar 56), (eVar 54)] [(54, .int w), (55, .int L), (56, .int O)] (P k13) = .ok (.int (v3 L O (w - 1))) (P k13) := fun w h => T _ w h
    rw [comp_step rfl rfl (st 3 (by decide)), comp_step rfl rfl (st 4 (by decide)), comp_step rfl rfl (st 7 (by decide)), comp_step rfl rfl (st 9 (by decide))]; rfl
  unfold m_told
  rw [seq_next (s1 _ rfl), seq_next (s2 _ rfl), seq_next s3]
  simp only [sRet, sBind, eCmp, ME.bind, q1, q2, andThen_ok]
  have q3 : cmpM .Eq (.list [.int (v3 L O 2), .int (v3 L O 3), .int (v3 L O 6), .int (v3 L O 8)]) (.list [.int (v3 L O 2), .int (v3 L O 3), .int (v3 L O 6), .int (v3 L O 8)]) (P k13) = some true := by
    show some (V.beq (.list [.int (v3 L O 2), .int (v3 L O 3), .int (v3 L O 6), .int (v3 L O 8)]) (.list [.int (v3 L O 2), .int (v3 L O 3), .int (v3 L O 6), .int (v3 L O 8)])) = _
    rw [(V.beq_iff _ _).mpr rfl]
  rw [q3]; rfl
end
end Mine
/-! C11 -/
namespace Mine
open PySem
theorem three_of {L O : Int} (h3 : ∀ σ : Sto, g_three [.int L, .int O, .int 3] σ = .ok (.int (v3 L O 2)) σ) (h4 : ∀ σ : Sto, g_three [.int L, .int O, .int 4] σ = .ok (.int (v3 L O 3)) σ)
    (h7 : ∀ σ : Sto, g_three [.int L, .int O, .int 7] σ = .ok (.int (v3 L O 6)) σ) (h9 : ∀ σ : Sto, g_three [.int L, .int O, .int 9] σ = .ok (.int (v3 L O 8)) σ) : Three L O := by
  intro σ w h
  rcases h with rfl | rfl | rfl | rfl
  · exact h3 σ
  · exact h4 σ
  · exact h7 σ
  · exact h9 σ
theorem three11 : Three 1 1 := three_of (fun _ => by kernel_rfl) (fun _ => by kernel_rfl) (fun _ => by kernel_rfl) (fun _ => by kernel_rfl)
theorem three42 : Three 4 2 := three_of (fun _ => by kernel_rfl) (fun _ => by kernel_rfl) (fun _ => by kernel_rfl) (fun _ => by kernel_rfl)
end Mine
/-! C12 -/
namespace Mine
open PySem
noncomputable def l0 : MS := (sUnpack (tTuple [50, 68]) (eTup [(eCall g_hand [(eVar 53)]), (eCall (newM 3 g_Heap_init) [])]))
noncomputable def l1 : MS := (sUnpack (tSwapped [55, 56]) (eTup [(eBin .Add (ME.pure (.int 1)) (eCall g_pick [(eVar 50), (ME.pure (.int 3))])), (eBin .Add (ME.pure (.int 1)) (eCall g_pick [(eVar 50), (ME.pure (.int 2))]))]))
noncomputable def l2 : MS := (sAssign (tName 64) (eBin .Add (ME.pure (.int 8)) (eCall g_pick [(eVar 50), (eIf (tCmp .Eq (eVar 56) (ME.pure (.int 1))) (ME.pure (.int 193)) (ME.pure (.int 13)))])))
noncomputable def l3 : MS := (sAssign (tName 37) (eCompR [68] (tName 49) (eRange1 (eVar 55)) none (eMCall 3 69 g_add (eVar 68) [(eIdx (eTup [(ME.pure (.str [97])), (ME.pure (.str [98])), (ME.pure (.str [99]))]) (eVar 49)), (eTup [])])))
noncomputable def l4 : MS := (sExprV (eMeth .extend (eVar 37) [(eComp [68, 37] (tName 49) (eRange1 (eVar 56)) none (eMCall 3 69 g_add (eVar 68) [(eIdx (eTup [(ME.pure (.str [102])), (ME.pure (.str [104]))]) (eVar 49)), (eTup [(eIdx (eVar 37) (ME.pure (.int 0)))])]))]))
noncomputable def l5 : MS := (sFor (tName 12) (eIter (eFrom 1 (eVar 37))) (sExprV (eMCall 3 30 g_Heap_merge (eVar 68) [(eIdx (eVar 37) (ME.pure (.int 0))), (eVar 12), (eTup [(ME.pure (.str [116, 111, 108, 100])), (ME.pure (.str [116]))])])))
noncomputable def l6 : MS := (sUnpack (tSwapped [66, 67]) (eTup [(eMCall 3 69 g_add (eVar 68) [(ME.pure (.str [101])), (eTup [(eIdx (eVar 37) (eNeg (ME.pure (.int 1))))])]), (eMCall 3 69 g_add (eVar 68) [(ME.pure (.str [112])), (eTup [(ME.pure (.int 0)), (eIdx (eVar 37) (eNeg (ME.pure (.int 1)))), (ME.pure (.int 0))])])]))
noncomputable def l7 : MS := (sExprV (eMCall 3 70 g_settle (eVar 68) []))
noncomputable def l8 : MS := (sAssign (tName 60) (eCall (newM 1 g_Counts_init) [(eVar 68)]))
noncomputable def l9 : MS := (sIf (tNot (tVal (eCall g_told [(eVar 60), (eIdx (eVar 37) (eCall g_pick [(eVar 50), (eBlt .len [(eVar 37)])])), (eVar 66), (eVar 67), (eVar 55), (eVar 56), (eVar 64)]))) (sRet (ME.pure (.bool false))) sSkip)
noncomputable def l10 : MS := (sAssign (tName 71) (eBin .Add (ME.pure (.int 201)) (eCall g_pick [(eVar 50), (ME.pure (.int 50))])))
noncomputable def l11 : MS := (sFor (tName 59) (eIter (eTup [(ME.pure (.str [109, 97, 110, 121])), (ME.pure (.str [117, 112, 116, 111])), (ME.pure (.str [108, 105, 115, 116, 101, 100])), (ME.pure (.str [110, 116, 104]))])) (sIf (tNot (tVal (eCall g_refused [(eVar 60), (eVar 59), (ME.pure (.int 0)), (eVar 71)]))) (sRet (ME.pure (.bool false))) sSkip))
noncomputable def l12 : MS := (sAssign (tName 57) (eMCall 3 69 g_add (eVar 68) [(ME.pure (.str [100])), (eTup [])]))
noncomputable def l13 : MS := (sIf (tOr [(tCmp .NotEq (eMCall 1 48 g_many (eVar 60) [(eVar 57), (ME.pure (.int 1))]) (ME.pure (.int 1))), (tCmp .NotEq (eMCall 1 48 g_many (eVar 60) [(ME.pure (.int 0)), (ME.pure (.int 1))]) (eVar 55))]) (sRet (ME.pure (.bool false))) sSkip)
noncomputable def l14 : MS := (sExprV (eMCall 3 30 g_Heap_merge (eVar 68) [(eVar 57), (eIdx (eVar 37) (eCall g_pick [(eVar 50), (eBlt .len [(eVar 37)])])), (eTup [(ME.pure (.str [116, 111, 108, 100])), (ME.pure (.str [117]))])]))
noncomputable def l15 : MS := (sExprV (eMCall 3 70 g_settle (eVar 68) []))
noncomputable def l16 : MS := (sRet (eCall g_told [(eVar 60), (eVar 57), (eVar 66), (eVar 67), (eBin .Add (eVar 55) (ME.pure (.int 1))), (eVar 56), (eBin .Add (ME.pure (.int 8)) (eBin .Mod (eVar 64) (ME.pure (.int 13))))]))
noncomputable def mid : MS := sSeq l3 (sSeq l4 (sSeq l5 (sSeq l6 (sSeq l7 l8))))
theorem m_law_eq : m_law = sSeq l0 (sSeq l1 (sSeq l2 (sSeq l3 (sSeq l4 (sSeq l5 (sSeq l6 (sSeq l7 (sSeq l8 (sSeq l9 (sSeq l10 (sSeq l11 (sSeq l12 (sSeq l13 (sSeq l14 (sSeq l15 l16))))))))))))))) := rfl
theorem seq_assoc (a b c : MS) : sSeq (sSeq a b) c = sSeq a (sSeq b c) := by
  funext fr σ
  simp only [sSeq]
  cases a fr σ <;> rfl
theorem law_mid : m_law = sSeq l0 (sSeq l1 (sSeq l2 (sSeq mid (sSeq l9 (sSeq l10 (sSeq l11 (sSeq (sSeq l12 l13) (sSeq l14 (sSeq l15 l16))))))))) := by
  rw [m_law_eq]; simp only [mid, seq_assoc]
noncomputable def heap0 : Sto := [.inst 3 [(21, (.ref 2)), (22, (.ref 7)), (23, (.ref 11)), (24, (.ref 12)), (25, (.ref 13)), (13, (.ref 14)), (26, (.ref 15)), (27, (.int 0))],
  .inst 0 [(2, (.ref 3)), (4, (.ref 4)), (5, (.ref 5)), (6, (.ref 6))],
  .list [], .dict .tup [], .list [], .list [],
  .inst 2 [(13, (.ref 8)), (14, (.ref 9)), (15, (.ref 10))],
  .list [], .list [], .list [], .list [], .list [], .dict .tup [], .dict .int [], .list []]
set_option genInjectivity false in
set_option genSizeOfSpec false in
structure Dat where
  L : Nat
  O : Nat
  cnt : Nat
  kd1 : Nat
  kd2 : Nat
  mem : Nat
  S8 : Sto
  R1 : List (V × V) → Sto
  R2 : List (V × V) → Sto
  R3 : V → List (V × V) → Sto
  R4 : V → List (V × V) → Sto
  R5 : V → List (V × V) → List (V × V) → Sto
noncomputable abbrev Dat.n (D : Dat) : Nat := D.L + D.O
noncomputable abbrev fr8 (D : Dat) (scr far : V) : Loc := [(60, .ref D.cnt), (66, .int D.n), (67, .int (D.n + 1)), (12, .int (D.n - 1)), (37, .ref D.mem), (64, far), (55, .int D.L), (56, .int D.O), (68, .ref 1), (50, .ref 0), (53, scr)]
noncomputable abbrev frB (D : Dat) (scr far over : V) : Loc := (59, .str [110, 116, 104]) :: (71, over) :: fr8 D scr far
noncomputable abbrev reas : V := .tup [.str [116, 111, 108, 100], .str [117]]
noncomputable def ren1 : MS := (sSeq (sAssign (tName 39) (eTup [(eMCall 3 28 g_Heap_size (eAttr 1 38 (eVar 3)) []), (eBlt .len [(eAttr 3 23 (eAttr 1 38 (eVar 3)))]), (eAttr 3 27 (eAttr 1 38 (eVar 3)))]))
    (sIf (tCmp .NotEq (eVar 39) (eAttr 1 39 (eVar 3))) (sSeq (sSetAttr 1 39 (eVar 3) (eVar 39))
    (sSetAttr 1 25 (eVar 3) (eDict0 .tup))) sSkip))
theorem ren_of {cnt : Nat} {s : Int} {σ σ' : Sto} {fr' : Loc} (hs : s ≤ 200) (h : ren1 [(3, .ref cnt), (28, .int s)] σ = .next fr' σ') : g_renewed [.ref cnt, .int s] σ = .ok .none σ' := by
  have hd : decide (s > 200) = false := decide_eq_false (by lia)
  show outcome (m_renewed [(3, .ref cnt), (28, .int s)] σ) = _
  have e1 : tCmp .Gt (eVar 28) (ME.pure (.int 200)) [(3, .ref cnt), (28, .int s)] σ = .ok false σ := by rw [← hd]; rfl
  show outcome (sSeq (sIf (tCmp .Gt (eVar 28) (ME.pure (.int 200))) (sRaise 4) sSkip) ren1 [(3, .ref cnt), (28, .int s)] σ) = _
  have e2 : sIf (tCmp .Gt (eVar 28) (ME.pure (.int 200))) (sRaise 4) sSkip [(3, .ref cnt), (28, .int s)] σ = .next [(3, .ref cnt), (28, .int s)] σ := by rw [if_ok e1]; rfl
  rw [seq_next e2, h]; rfl
structure Dat.Ok (D : Dat) : Prop where
  hL : 1 ≤ D.L ∧ D.L ≤ 3
  hO : 1 ≤ D.O ∧ D.O ≤ 2
  mid : ∀ h scr far, mid [(64, far), (55, .int D.L), (56, .int D.O), (68, .ref 1), (50, .ref 0), (53, scr)] (h :: heap0) = .next (fr8 D scr far) (h :: D.S8)
  len1 : ∀ h scr far, eBlt .len [eVar 37] (fr8 D scr far) (h :: D.S8) = .ok (.int D.n) (h :: D.S8)
  mem1 : ∀ h (v : Nat), v < D.n → idxM (.ref D.mem) (.int v) (h :: D.S8) = some (.int v)
  cnt1 : ∀ h, Cnt D.cnt D.kd1 D.L D.O D.n (fun kvs => h :: D.R1 kvs)
  ren1 : ∀ h s, ∃ fr', ren1 [(3, .ref D.cnt), (28, .int s)] (h :: D.S8) = .next fr' (h :: D.R1 [])
  get1 : ∀ h, ∃ mk kk, (h :: D.S8)[D.cnt]? = some (.inst 1 [(38, .ref 1), (39, mk), (25, kk)])
  find1 : ∀ h kvs (v : Nat), v < D.n → g_Heap_find [.ref 1, .int v] (h :: D.R1 kvs) = .ok (.int 0) (h :: D.R1 kvs)
  three1 : Three D.L D.O
  mid2 : ∀ h kvs scr far over, sSeq l12 l13 (frB D scr far over) (h :: D.R1 kvs) = .next ((57, .int (D.n + 2)) :: frB D scr far over) (h :: D.R2 kvs)
  len2 : ∀ h kvs scr far over, eBlt .len [eVar 37] ((57, .int (D.n + 2)) :: frB D scr far over) (h :: D.R2 kvs) = .ok (.int D.n) (h :: D.R2 kvs)
  mem2 : ∀ h kvs (v : Nat), v < D.n → idxM (.ref D.mem) (.int v) (h :: D.R2 kvs) = some (.int v)
  merge : ∀ h kvs (v : Nat), v < D.n → g_Heap_merge [.ref 1, .int (D.n + 2), .int v, reas] (h :: D.R2 kvs) = .ok (.bool true) (h :: D.R3 (.int v) kvs)
  inst2 : ∀ h kvs, ∃ a b c d e f g, (h :: D.R2 kvs)[1]? = some (.inst 3 [(21, a), (22, b), (23, c), (24, d), (25, e), (13, f), (26, g), (27, .int 0)])
  settle : ∀ h v kvs scr far over, l15 ((57, .int (D.n + 2)) :: frB D scr far over) (h :: D.R3 v kvs) = .next ((57, .int (D.n + 2)) :: frB D scr far over) (h :: D.R4 v kvs)
  cnt2 : ∀ h v kvs, Cnt D.cnt D.kd2 (D.L + 1) D.O D.n (fun kvs' => h :: D.R5 v kvs kvs')
  ren2 : ∀ h v kvs s, ∃ fr', Mine.ren1 [(3, .ref D.cnt), (28, .int s)] (h :: D.R4 v kvs) = .next fr' (h :: D.R5 v kvs [])
  get2 : ∀ h v kvs, ∃ mk kk, (h :: D.R4 v kvs)[D.cnt]? = some (.inst 1 [(38, .ref 1), (39, mk), (25, kk)])
  find2 : ∀ h v kvs kvs', g_Heap_find [.ref 1, .int (D.n + 2)] (h :: D.R5 v kvs kvs') = .ok (.int 0) (h :: D.R5 v kvs kvs')
  three2 : Three (D.L + 1) D.O
end Mine
/-! C13 -/
namespace Mine
open PySem
noncomputable def z0 : V := .int 0
noncomputable def z1 : V := .int 1
noncomputable def z2 : V := .int 2
noncomputable def z3 : V := .int 3
noncomputable def z4 : V := .int 4
noncomputable def z5 : V := .int 5
noncomputable def z6 : V := .int 6
noncomputable def z7 : V := .int 7
noncomputable def z8 : V := .int 8
noncomputable def z9 : V := .int 9
noncomputable def sa : V := .str [97]
noncomputable def sb : V := .str [98]
noncomputable def sc : V := .str [99]
noncomputable def sd : V := .str [100]
noncomputable def se : V := .str [101]
noncomputable def sf : V := .str [102]
noncomputable def sh : V := .str [104]
noncomputable def sp : V := .str [112]
noncomputable def rt : V := .tup [.str [116, 111, 108, 100], .str [116]]
noncomputable def ru : V := .tup [.str [116, 111, 108, 100], .str [117]]
noncomputable def ta : V := .tup [sa]
noncomputable def tb : V := .tup [sb]
noncomputable def tc : V := .tup [sc]
noncomputable def td : V := .tup [sd]
noncomputable def te : V := .tup [se]
noncomputable def tf : V := .tup [sf, z0]
noncomputable def th : V := .tup [sh, z0]
noncomputable def tp : V := .tup [sp]
noncomputable def lz : Mine.O := .list [z0]
noncomputable def ln : Mine.O := .list []
noncomputable def dn : Mine.O := .dict .tup []
noncomputable def D11 : Dat := ⟨1,1,39,41,50,21,
  [.inst 3 [(21,(.ref 2)),(22,(.ref 7)),(23,(.ref 11)),(24,(.ref 12)),(25,(.ref 13)),(13,(.ref 14)),(26,(.ref 15)),(27,z0)],.inst 0 [(2,(.ref 3)),(4,(.ref 4)),(5,(.ref 5)),(6,(.ref 6))],.list [ta,tf,(.tup [se,z1]),(.tup [sp,z0,z1,z0])],.dict .tup [(ta,z0),(tf,z1),((.tup [se,z1]),z2),((.tup [sp,z0,z1,z0]),z3)],.list [z1,z2,z3,z5],.list [z1,z2,z3,z3],.inst 2 [(13,(.ref 8)),(14,(.ref 9)),(15,(.ref 10))],.list [z0,z0,z2,z3],.list [(.ref 19),(.ref 25),(.ref 32),(.ref 37)],.list [(.tup [z0,z1])],.list [(.tup [z0,z1,rt])],lz,.dict .tup [(ta,z0),(tf,z1),((.tup [se,z0]),z2),((.tup [sp,z0,z0,z0]),z3)],.dict .int [(z0,(.ref 28)),(z2,(.ref 33)),(z3,(.ref 38))],ln,ln,lz,lz,.list [z0,z1],.list [z1],.list [z0,z1],ln,lz,.list [z1,z0],.list [z1],ln,.list [z0,z1],.list [z1,z2,z3],ln,lz,.list [z2,z0],.list [z2],ln,ln,lz,.list [z1,z2,z1,z0],.list [z3],ln,.inst 1 [(38,(.ref 1)),(39,.none),(25,(.ref 40))],dn],
  fun kvs => [.inst 3 [(21,(.ref 2)),(22,(.ref 7)),(23,(.ref 11)),(24,(.ref 12)),(25,(.ref 13)),(13,(.ref 14)),(26,(.ref 15)),(27,z0)],.inst 0 [(2,(.ref 3)),(4,(.ref 4)),(5,(.ref 5)),(6,(.ref 6))],.list [ta,tf,(.tup [se,z1]),(.tup [sp,z0,z1,z0])],.dict .tup [(ta,z0),(tf,z1),((.tup [se,z1]),z2),((.tup [sp,z0,z1,z0]),z3)],.list [z1,z2,z3,z5],.list [z1,z2,z3,z3],.inst 2 [(13,(.ref 8)),(14,(.ref 9)),(15,(.ref 10))],.list [z0,z0,z2,z3],.list [(.ref 19),(.ref 25),(.ref 32),(.ref 37)],.list [(.tup [z0,z1])],.list [(.tup [z0,z1,rt])],lz,.dict .tup [(ta,z0),(tf,z1),((.tup [se,z0]),z2),((.tup [sp,z0,z0,z0]),z3)],.dict .int [(z0,(.ref 28)),(z2,(.ref 33)),(z3,(.ref 38))],ln,ln,lz,lz,.list [z0,z1],.list [z1],.list [z0,z1],ln,lz,.list [z1,z0],.list [z1],ln,.list [z0,z1],.list [z1,z2,z3],ln,lz,.list [z2,z0],.list [z2],ln,ln,lz,.list [z1,z2,z1,z0],.list [z3],ln,.inst 1 [(38,(.ref 1)),(39,(.tup [z4,z1,z0])),(25,(.ref 41))],dn,.dict .tup kvs],
  fun kvs => [.inst 3 [(21,(.ref 2)),(22,(.ref 7)),(23,(.ref 11)),(24,(.ref 12)),(25,(.ref 13)),(13,(.ref 14)),(26,(.ref 15)),(27,z0)],.inst 0 [(2,(.ref 3)),(4,(.ref 4)),(5,(.ref 5)),(6,(.ref 6))],.list [ta,tf,(.tup [se,z1]),(.tup [sp,z0,z1,z0]),td],.dict .tup [(ta,z0),(tf,z1),((.tup [se,z1]),z2),((.tup [sp,z0,z1,z0]),z3),(td,z4)],.list [z1,z2,z3,z5,z1],.list [z1,z2,z3,z3,z1],.inst 2 [(13,(.ref 8)),(14,(.ref 9)),(15,(.ref 10))],.list [z0,z0,z2,z3,z4],.list [(.ref 19),(.ref 25),(.ref 32),(.ref 37),(.ref 45)],.list [(.tup [z0,z1])],.list [(.tup [z0,z1,rt])],lz,.dict .tup [(ta,z0),(tf,z1),((.tup [se,z0]),z2),((.tup [sp,z0,z0,z0]),z3),(td,z4)],.dict .int [(z0,(.ref 28)),(z2,(.ref 33)),(z3,(.ref 38)),(z4,(.ref 46))],ln,ln,lz,lz,.list [z0,z1],.list [z1],.list [z0,z1],ln,lz,.list [z1,z0],.list [z1],ln,.list [z0,z1],.list [z1,z2,z3],ln,lz,.list [z2,z0],.list [z2],ln,ln,lz,.list [z1,z2,z1,z0],.list [z3],ln,.inst 1 [(38,(.ref 1)),(39,(.tup [z5,z1,z0])),(25,(.ref 47))],dn,.dict .tup kvs,ln,lz,lz,.list [z4],ln,.dict .tup [((.tup [(.tup [z4]),z1]),z1),((.tup [(.tup [z0]),z1]),z1)]],
  fun v kvs => [.inst 3 [(21,(.ref 2)),(22,(.ref 7)),(23,(.ref 11)),(24,(.ref 12)),(25,(.ref 13)),(13,(.ref 14)),(26,(.ref 15)),(27,z0)],.inst 0 [(2,(.ref 3)),(4,(.ref 4)),(5,(.ref 5)),(6,(.ref 6))],.list [ta,tf,(.tup [se,z1]),(.tup [sp,z0,z1,z0]),td],.dict .tup [(ta,z0),(tf,z1),((.tup [se,z1]),z2),((.tup [sp,z0,z1,z0]),z3),(td,z4)],.list [z1,z2,z3,z5,z1],.list [z1,z2,z3,z3,z1],.inst 2 [(13,(.ref 8)),(14,(.ref 9)),(15,(.ref 10))],.list [z0,z0,z2,z3,z0],.list [(.ref 19),(.ref 25),(.ref 32),(.ref 37),(.ref 45)],.list [(.tup [z0,z1]),(.tup [z0,z4])],.list [(.tup [z0,z1,rt]),(.tup [z4,v,ru])],.list [z0,z1],.dict .tup [(ta,z0),(tf,z1),((.tup [se,z0]),z2),((.tup [sp,z0,z0,z0]),z3),(td,z4)],.dict .int [(z0,(.ref 49)),(z2,(.ref 33)),(z3,(.ref 38))],ln,ln,lz,lz,.list [z0,z1,z4],.list [z1],.list [z0,z1],ln,lz,.list [z1,z0],.list [z1],ln,.list [z0,z1],.list [z1,z2,z3],ln,lz,.list [z2,z0],.list [z2],ln,ln,lz,.list [z1,z2,z1,z0],.list [z3],ln,.inst 1 [(38,(.ref 1)),(39,(.tup [z5,z1,z0])),(25,(.ref 47))],dn,.dict .tup kvs,ln,lz,lz,.list [z4],ln,.dict .tup [((.tup [(.tup [z4]),z1]),z1),((.tup [(.tup [z0]),z1]),z1)],.list [z4,z0],.list [z1,z2,z3]],
  fun v kvs => [.inst 3 [(21,(.ref 2)),(22,(.ref 7)),(23,(.ref 11)),(24,(.ref 12)),(25,(.ref 13)),(13,(.ref 14)),(26,(.ref 15)),(27,z0)],.inst 0 [(2,(.ref 3)),(4,(.ref 4)),(5,(.ref 5)),(6,(.ref 6))],.list [ta,tf,(.tup [se,z1]),(.tup [sp,z0,z1,z0]),td],.dict .tup [(ta,z0),(tf,z1),((.tup [se,z1]),z2),((.tup [sp,z0,z1,z0]),z3),(td,z4)],.list [z1,z2,z3,z5,z1],.list [z1,z2,z3,z3,z1],.inst 2 [(13,(.ref 8)),(14,(.ref 9)),(15,(.ref 10))],.list [z0,z0,z2,z3,z0],.list [(.ref 19),(.ref 25),(.ref 32),(.ref 37),(.ref 45)],.list [(.tup [z0,z1]),(.tup [z0,z4])],.list [(.tup [z0,z1,rt]),(.tup [z4,v,ru])],.list [z0,z1],.dict .tup [(ta,z0),(tf,z1),((.tup [se,z0]),z2),((.tup [sp,z0,z0,z0]),z3),(td,z4)],.dict .int [(z0,(.ref 49)),(z2,(.ref 33)),(z3,(.ref 38))],ln,ln,lz,lz,.list [z0,z1,z4],.list [z1],.list [z0,z1],ln,lz,.list [z1,z0],.list [z1],ln,.list [z0,z1],.list [z1,z2,z3],ln,lz,.list [z2,z0],.list [z2],ln,ln,lz,.list [z1,z2,z1,z0],.list [z3],ln,.inst 1 [(38,(.ref 1)),(39,(.tup [z5,z1,z0])),(25,(.ref 47))],dn,.dict .tup kvs,ln,lz,lz,.list [z4],ln,.dict .tup [((.tup [(.tup [z4]),z1]),z1),((.tup [(.tup [z0]),z1]),z1)],.list [z4,z0],.list [z1,z2,z3]],
  fun v kvs kvs' => [.inst 3 [(21,(.ref 2)),(22,(.ref 7)),(23,(.ref 11)),(24,(.ref 12)),(25,(.ref 13)),(13,(.ref 14)),(26,(.ref 15)),(27,z0)],.inst 0 [(2,(.ref 3)),(4,(.ref 4)),(5,(.ref 5)),(6,(.ref 6))],.list [ta,tf,(.tup [se,z1]),(.tup [sp,z0,z1,z0]),td],.dict .tup [(ta,z0),(tf,z1),((.tup [se,z1]),z2),((.tup [sp,z0,z1,z0]),z3),(td,z4)],.list [z1,z2,z3,z5,z1],.list [z1,z2,z3,z3,z1],.inst 2 [(13,(.ref 8)),(14,(.ref 9)),(15,(.ref 10))],.list [z0,z0,z2,z3,z0],.list [(.ref 19),(.ref 25),(.ref 32),(.ref 37),(.ref 45)],.list [(.tup [z0,z1]),(.tup [z0,z4])],.list [(.tup [z0,z1,rt]),(.tup [z4,v,ru])],.list [z0,z1],.dict .tup [(ta,z0),(tf,z1),((.tup [se,z0]),z2),((.tup [sp,z0,z0,z0]),z3),(td,z4)],.dict .int [(z0,(.ref 49)),(z2,(.ref 33)),(z3,(.ref 38))],ln,ln,lz,lz,.list [z0,z1,z4],.list [z1],.list [z0,z1],ln,lz,.list [z1,z0],.list [z1],ln,.list [z0,z1],.list [z1,z2,z3],ln,lz,.list [z2,z0],.list [z2],ln,ln,lz,.list [z1,z2,z1,z0],.list [z3],ln,.inst 1 [(38,(.ref 1)),(39,(.tup [z5,z2,z0])),(25,(.ref 50))],dn,.dict .tup kvs,ln,lz,lz,.list [z4],ln,.dict .tup [((.tup [(.tup [z4]),z1]),z1),((.tup [(.tup [z0]),z1]),z1)],.list [z4,z0],.list [z1,z2,z3],.dict .tup kvs']⟩
theorem D11_c1 (h : Mine.O) : Cnt 39 41 1 1 2 (fun kvs => h :: D11.R1 kvs) :=
  { hL := by decide, hO := by decide, hn := by decide
    get := ⟨_, fun kvs => rfl⟩, heap := ⟨_, _, _, _, _, _, _, fun kvs => rfl⟩, dict := fun kvs => rfl, set := fun kvs kvs' => rfl
    ren := fun kvs s hs => ren_of hs (fr' := [(39, (.tup [(.int 4), (.int 1), (.int 0)])), (3, .ref 39), (28, .int s)]) (by kernel_rfl)
    nodesC := ⟨[.tup [.str [97]], .tup [.str [102], .int 0]], fun v hv => by simp only [List.mem_cons, List.not_mem_nil, or_false] at hv; rcases hv with rfl | rfl <;> first | exact Or.inl ⟨_, rfl⟩ | exact Or.inr ⟨_, rfl⟩, fun a b => by show (a + (b + (0)) : Int) = 1 * a + 1 * b; omega, by decide, fun kvs => by kernel_rfl⟩
    nodesE := fun kvs => by kernel_rfl, nodesP := fun kvs => by kernel_rfl, findE := fun kvs => by kernel_rfl, findP := fun kvs => by kernel_rfl }
theorem D11_c2 (h : Mine.O) (v : V) (kvs0 : List (V × V)) : Cnt 39 50 2 1 2 (fun kvs' => h :: D11.R5 v kvs0 kvs') :=
  { hL := by decide, hO := by decide, hn := by decide
    get := ⟨_, fun kvs => rfl⟩, heap := ⟨_, _, _, _, _, _, _, fun kvs => rfl⟩, dict := fun kvs => rfl, set := fun kvs kvs' => rfl
    ren := fun kvs s hs => ren_of hs (fr' := [(39, (.tup [(.int 5), (.int 2), (.int 0)])), (3, .ref 39), (28, .int s)]) (by kernel_rfl)
    nodesC := ⟨[.tup [.str [97]], .tup [.str [100]], .tup [.str [102], .int 0]], fun v hv => by simp only [List.mem_cons, List.not_mem_nil, or_false] at hv; rcases hv with rfl | rfl | rfl <;> first | exact Or.inl ⟨_, rfl⟩ | exact Or.inr ⟨_, rfl⟩, fun a b => by show (a + (a + (b + (0))) : Int) = 2 * a + 1 * b; omega, by decide, fun kvs => by kernel_rfl⟩
    nodesE := fun kvs => by kernel_rfl, nodesP := fun kvs => by kernel_rfl, findE := fun kvs => by kernel_rfl, findP := fun kvs => by kernel_rfl }
theorem D11_t1 : Three 1 1 := three_of (fun _ => by kernel_rfl) (fun _ => by kernel_rfl) (fun _ => by kernel_rfl) (fun _ => by kernel_rfl)
theorem D11_t2 : Three 2 1 := three_of (fun _ => by kernel_rfl) (fun _ => by kernel_rfl) (fun _ => by kernel_rfl) (fun _ => by kernel_rfl)
theorem D11_ok : D11.Ok where
  hL := by decide
  hO := by decide
  mid := fun h scr far => by kernel_rfl
  len1 := fun h scr far => by kernel_rfl
  mem1 := fun h v (hv : v < 2) => by rcases (show v = 0 ∨ v = 1 by omega) with rfl | rfl <;> kernel_rfl
  cnt1 := D11_c1
  ren1 := fun h s => ⟨[(39, (.tup [(.int 4), (.int 1), (.int 0)])), (3, .ref 39), (28, .int s)], by kernel_rfl⟩
  get1 := fun h => ⟨_, _, rfl⟩
  find1 := fun h kvs v (hv : v < 2) => by rcases (show v = 0 ∨ v = 1 by omega) with rfl | rfl <;> kernel_rfl
  three1 := D11_t1
  mid2 := fun h kvs scr far over => by kernel_rfl
  len2 := fun h kvs scr far over => by kernel_rfl
  mem2 := fun h kvs v (hv : v < 2) => by rcases (show v = 0 ∨ v = 1 by omega) with rfl | rfl <;> kernel_rfl
  merge := fun h kvs v (hv : v < 2) => by rcases (show v = 0 ∨ v = 1 by omega) with rfl | rfl <;> kernel_rfl
  inst2 := fun h kvs => ⟨_, _, _, _, _, _, _, rfl⟩
  settle := fun h v kvs scr far over => by kernel_rfl
  cnt2 := D11_c2
  ren2 := fun h v kvs s => ⟨[(39, (.tup [(.int 5), (.int 2), (.int 0)])), (3, .ref 39), (28, .int s)], by kernel_rfl⟩
  get2 := fun h v kvs => ⟨_, _, rfl⟩
  find2 := fun h v kvs kvs' => by kernel_rfl
  three2 := D11_t2
noncomputable def D12 : Dat := ⟨1,2,46,48,57,21,
  [.inst 3 [(21,(.ref 2)),(22,(.ref 7)),(23,(.ref 11)),(24,(.ref 12)),(25,(.ref 13)),(13,(.ref 14)),(26,(.ref 15)),(27,z0)],.inst 0 [(2,(.ref 3)),(4,(.ref 4)),(5,(.ref 5)),(6,(.ref 6))],.list [ta,tf,th,(.tup [se,z2]),(.tup [sp,z0,z2,z0])],.dict .tup [(ta,z0),(tf,z1),(th,z2),((.tup [se,z2]),z3),((.tup [sp,z0,z2,z0]),z4)],.list [z1,z2,z2,z3,z5],.list [z1,z2,z2,z3,z3],.inst 2 [(13,(.ref 8)),(14,(.ref 9)),(15,(.ref 10))],.list [z0,z0,z0,z3,z4],.list [(.ref 19),(.ref 25),(.ref 30),(.ref 39),(.ref 44)],.list [(.tup [z0,z1]),(.tup [z0,z2])],.list [(.tup [z0,z1,rt]),(.tup [z0,z2,rt])],.list [z0,z1],.dict .tup [(ta,z0),(tf,z1),(th,z2),((.tup [se,z0]),z3),((.tup [sp,z0,z0,z0]),z4)],.dict .int [(z0,(.ref 35)),(z3,(.ref 40)),(z4,(.ref 45))],ln,ln,lz,lz,.list [z0,z1,z2],.list [z1,z2],.list [z0,z1,z2],ln,lz,.list [z1,z0],.list [z1],ln,ln,lz,.list [z1,z0],.list [z2],ln,.list [z0,z1],.list [z1,z2],.list [z0,z2],.list [z1,z2,z3,z4],ln,lz,.list [z2,z0],.list [z3],ln,ln,lz,.list [z1,z2,z1,z0],.list [z4],ln,.inst 1 [(38,(.ref 1)),(39,.none),(25,(.ref 47))],dn],
  fun kvs => [.inst 3 [(21,(.ref 2)),(22,(.ref 7)),(23,(.ref 11)),(24,(.ref 12)),(25,(.ref 13)),(13,(.ref 14)),(26,(.ref 15)),(27,z0)],.inst 0 [(2,(.ref 3)),(4,(.ref 4)),(5,(.ref 5)),(6,(.ref 6))],.list [ta,tf,th,(.tup [se,z2]),(.tup [sp,z0,z2,z0])],.dict .tup [(ta,z0),(tf,z1),(th,z2),((.tup [se,z2]),z3),((.tup [sp,z0,z2,z0]),z4)],.list [z1,z2,z2,z3,z5],.list [z1,z2,z2,z3,z3],.inst 2 [(13,(.ref 8)),(14,(.ref 9)),(15,(.ref 10))],.list [z0,z0,z0,z3,z4],.list [(.ref 19),(.ref 25),(.ref 30),(.ref 39),(.ref 44)],.list [(.tup [z0,z1]),(.tup [z0,z2])],.list [(.tup [z0,z1,rt]),(.tup [z0,z2,rt])],.list [z0,z1],.dict .tup [(ta,z0),(tf,z1),(th,z2),((.tup [se,z0]),z3),((.tup [sp,z0,z0,z0]),z4)],.dict .int [(z0,(.ref 35)),(z3,(.ref 40)),(z4,(.ref 45))],ln,ln,lz,lz,.list [z0,z1,z2],.list [z1,z2],.list [z0,z1,z2],ln,lz,.list [z1,z0],.list [z1],ln,ln,lz,.list [z1,z0],.list [z2],ln,.list [z0,z1],.list [z1,z2],.list [z0,z2],.list [z1,z2,z3,z4],ln,lz,.list [z2,z0],.list [z3],ln,ln,lz,.list [z1,z2,z1,z0],.list [z4],ln,.inst 1 [(38,(.ref 1)),(39,(.tup [z5,z2,z0])),(25,(.ref 48))],dn,.dict .tup kvs],
  fun kvs => [.inst 3 [(21,(.ref 2)),(22,(.ref 7)),(23,(.ref 11)),(24,(.ref 12)),(25,(.ref 13)),(13,(.ref 14)),(26,(.ref 15)),(27,z0)],.inst 0 [(2,(.ref 3)),(4,(.ref 4)),(5,(.ref 5)),(6,(.ref 6))],.list [ta,tf,th,(.tup [se,z2]),(.tup [sp,z0,z2,z0]),td],.dict .tup [(ta,z0),(tf,z1),(th,z2),((.tup [se,z2]),z3),((.tup [sp,z0,z2,z0]),z4),(td,z5)],.list [z1,z2,z2,z3,z5,z1],.list [z1,z2,z2,z3,z3,z1],.inst 2 [(13,(.ref 8)),(14,(.ref 9)),(15,(.ref 10))],.list [z0,z0,z0,z3,z4,z5],.list [(.ref 19),(.ref 25),(.ref 30),(.ref 39),(.ref 44),(.ref 52)],.list [(.tup [z0,z1]),(.tup [z0,z2])],.list [(.tup [z0,z1,rt]),(.tup [z0,z2,rt])],.list [z0,z1],.dict .tup [(ta,z0),(tf,z1),(th,z2),((.tup [se,z0]),z3),((.tup [sp,z0,z0,z0]),z4),(td,z5)],.dict .int [(z0,(.ref 35)),(z3,(.ref 40)),(z4,(.ref 45)),(z5,(.ref 53))],ln,ln,lz,lz,.list [z0,z1,z2],.list [z1,z2],.list [z0,z1,z2],ln,lz,.list [z1,z0],.list [z1],ln,ln,lz,.list [z1,z0],.list [z2],ln,.list [z0,z1],.list [z1,z2],.list [z0,z2],.list [z1,z2,z3,z4],ln,lz,.list [z2,z0],.list [z3],ln,ln,lz,.list [z1,z2,z1,z0],.list [z4],ln,.inst 1 [(38,(.ref 1)),(39,(.tup [z6,z2,z0])),(25,(.ref 54))],dn,.dict .tup kvs,ln,lz,lz,.list [z5],ln,.dict .tup [((.tup [(.tup [z5]),z1]),z1),((.tup [(.tup [z0]),z1]),z1)]],
  fun v kvs => [.inst 3 [(21,(.ref 2)),(22,(.ref 7)),(23,(.ref 11)),(24,(.ref 12)),(25,(.ref 13)),(13,(.ref 14)),(26,(.ref 15)),(27,z0)],.inst 0 [(2,(.ref 3)),(4,(.ref 4)),(5,(.ref 5)),(6,(.ref 6))],.list [ta,tf,th,(.tup [se,z2]),(.tup [sp,z0,z2,z0]),td],.dict .tup [(ta,z0),(tf,z1),(th,z2),((.tup [se,z2]),z3),((.tup [sp,z0,z2,z0]),z4),(td,z5)],.list [z1,z2,z2,z3,z5,z1],.list [z1,z2,z2,z3,z3,z1],.inst 2 [(13,(.ref 8)),(14,(.ref 9)),(15,(.ref 10))],.list [z0,z0,z0,z3,z4,z0],.list [(.ref 19),(.ref 25),(.ref 30),(.ref 39),(.ref 44),(.ref 52)],.list [(.tup [z0,z1]),(.tup [z0,z2]),(.tup [z0,z5])],.list [(.tup [z0,z1,rt]),(.tup [z0,z2,rt]),(.tup [z5,v,ru])],.list [z0,z1,z2],.dict .tup [(ta,z0),(tf,z1),(th,z2),((.tup [se,z0]),z3),((.tup [sp,z0,z0,z0]),z4),(td,z5)],.dict .int [(z0,(.ref 56)),(z3,(.ref 40)),(z4,(.ref 45))],ln,ln,lz,lz,.list [z0,z1,z2,z5],.list [z1,z2],.list [z0,z1,z2],ln,lz,.list [z1,z0],.list [z1],ln,ln,lz,.list [z1,z0],.list [z2],ln,.list [z0,z1],.list [z1,z2],.list [z0,z2],.list [z1,z2,z3,z4],ln,lz,.list [z2,z0],.list [z3],ln,ln,lz,.list [z1,z2,z1,z0],.list [z4],ln,.inst 1 [(38,(.ref 1)),(39,(.tup [z6,z2,z0])),(25,(.ref 54))],dn,.dict .tup kvs,ln,lz,lz,.list [z5],ln,.dict .tup [((.tup [(.tup [z5]),z1]),z1),((.tup [(.tup [z0]),z1]),z1)],.list [z5,z0],.list [z1,z2,z3,z4]],
  fun v kvs => [.inst 3 [(21,(.ref 2)),(22,(.ref 7)),(23,(.ref 11)),(24,(.ref 12)),(25,(.ref 13)),(13,(.ref 14)),(26,(.ref 15)),(27,z0)],.inst 0 [(2,(.ref 3)),(4,(.ref 4)),(5,(.ref 5)),(6,(.ref 6))],.list [ta,tf,th,(.tup [se,z2]),(.tup [sp,z0,z2,z0]),td],.dict .tup [(ta,z0),(tf,z1),(th,z2),((.tup [se,z2]),z3),((.tup [sp,z0,z2,z0]),z4),(td,z5)],.list [z1,z2,z2,z3,z5,z1],.list [z1,z2,z2,z3,z3,z1],.inst 2 [(13,(.ref 8)),(14,(.ref 9)),(15,(.ref 10))],.list [z0,z0,z0,z3,z4,z0],.list [(.ref 19),(.ref 25),(.ref 30),(.ref 39),(.ref 44),(.ref 52)],.list [(.tup [z0,z1]),(.tup [z0,z2]),(.tup [z0,z5])],.list [(.tup [z0,z1,rt]),(.tup [z0,z2,rt]),(.tup [z5,v,ru])],.list [z0,z1,z2],.dict .tup [(ta,z0),(tf,z1),(th,z2),((.tup [se,z0]),z3),((.tup [sp,z0,z0,z0]),z4),(td,z5)],.dict .int [(z0,(.ref 56)),(z3,(.ref 40)),(z4,(.ref 45))],ln,ln,lz,lz,.list [z0,z1,z2,z5],.list [z1,z2],.list [z0,z1,z2],ln,lz,.list [z1,z0],.list [z1],ln,ln,lz,.list [z1,z0],.list [z2],ln,.list [z0,z1],.list [z1,z2],.list [z0,z2],.list [z1,z2,z3,z4],ln,lz,.list [z2,z0],.list [z3],ln,ln,lz,.list [z1,z2,z1,z0],.list [z4],ln,.inst 1 [(38,(.ref 1)),(39,(.tup [z6,z2,z0])),(25,(.ref 54))],dn,.dict .tup kvs,ln,lz,lz,.list [z5],ln,.dict .tup [((.tup [(.tup [z5]),z1]),z1),((.tup [(.tup [z0]),z1]),z1)],.list [z5,z0],.list [z1,z2,z3,z4]],
  fun v kvs kvs' => [.inst 3 [(21,(.ref 2)),(22,(.ref 7)),(23,(.ref 11)),(24,(.ref 12)),(25,(.ref 13)),(13,(.ref 14)),(26,(.ref 15)),(27,z0)],.inst 0 [(2,(.ref 3)),(4,(.ref 4)),(5,(.ref 5)),(6,(.ref 6))],.list [ta,tf,th,(.tup [se,z2]),(.tup [sp,z0,z2,z0]),td],.dict .tup [(ta,z0),(tf,z1),(th,z2),((.tup [se,z2]),z3),((.tup [sp,z0,z2,z0]),z4),(td,z5)],.list [z1,z2,z2,z3,z5,z1],.list [z1,z2,z2,z3,z3,z1],.inst 2 [(13,(.ref 8)),(14,(.ref 9)),(15,(.ref 10))],.list [z0,z0,z0,z3,z4,z0],.list [(.ref 19),(.ref 25),(.ref 30),(.ref 39),(.ref 44),(.ref 52)],.list [(.tup [z0,z1]),(.tup [z0,z2]),(.tup [z0,z5])],.list [(.tup [z0,z1,rt]),(.tup [z0,z2,rt]),(.tup [z5,v,ru])],.list [z0,z1,z2],.dict .tup [(ta,z0),(tf,z1),(th,z2),((.tup [se,z0]),z3),((.tup [sp,z0,z0,z0]),z4),(td,z5)],.dict .int [(z0,(.ref 56)),(z3,(.ref 40)),(z4,(.ref 45))],ln,ln,lz,lz,.list [z0,z1,z2,z5],.list [z1,z2],.list [z0,z1,z2],ln,lz,.list [z1,z0],.list [z1],ln,ln,lz,.list [z1,z0],.list [z2],ln,.list [z0,z1],.list [z1,z2],.list [z0,z2],.list [z1,z2,z3,z4],ln,lz,.list [z2,z0],.list [z3],ln,ln,lz,.list [z1,z2,z1,z0],.list [z4],ln,.inst 1 [(38,(.ref 1)),(39,(.tup [z6,z3,z0])),(25,(.ref 57))],dn,.dict .tup kvs,ln,lz,lz,.list [z5],ln,.dict .tup [((.tup [(.tup [z5]),z1]),z1),((.tup [(.tup [z0]),z1]),z1)],.list [z5,z0],.list [z1,z2,z3,z4],.dict .tup kvs']⟩
theorem D12_c1 (h : Mine.O) : Cnt 46 48 1 2 3 (fun kvs => h :: D12.R1 kvs) :=
  { hL := by decide, hO := by decide, hn := by decide
    get := ⟨_, fun kvs => rfl⟩, heap := ⟨_, _, _, _, _, _, _, fun kvs => rfl⟩, dict := fun kvs => rfl, set := fun kvs kvs' => rfl
    ren := fun kvs s hs => ren_of hs (fr' := [(39, (.tup [(.int 5), (.int 2), (.int 0)])), (3, .ref 46), (28, .int s)]) (by kernel_rfl)
    nodesC := ⟨[.tup [.str [97]], .tup [.str [102], .int 0], .tup [.str [104], .int 0]], fun v hv => by simp only [List.mem_cons, List.not_mem_nil, or_false] at hv; rcases hv with rfl | rfl | rfl <;> first | exact Or.inl ⟨_, rfl⟩ | exact Or.inr ⟨_, rfl⟩, fun a b => by show (a + (b + (b + (0))) : Int) = 1 * a + 2 * b; omega, by decide, fun kvs => by kernel_rfl⟩
    nodesE := fun kvs => by kernel_rfl, nodesP := fun kvs => by kernel_rfl, findE := fun kvs => by kernel_rfl, findP := fun kvs => by kernel_rfl }
theorem D12_c2 (h : Mine.O) (v : V) (kvs0 : List (V × V)) : Cnt 46 57 2 2 3 (fun kvs' => h :: D12.R5 v kvs0 kvs') :=
  { hL := by decide, hO := by decide, hn := by decide
    get := ⟨_, fun kvs => rfl⟩, heap := ⟨_, _, _, _, _, _, _, fun kvs => rfl⟩, dict := fun kvs => rfl, set := fun kvs kvs' => rfl
    ren := fun kvs s hs => ren_of hs (fr' := [(39, (.tup [(.int 6), (.int 3), (.int 0)])), (3, .ref 46), (28, .int s)]) (by kernel_rfl)
    nodesC := ⟨[.tup [.str [97]], .tup [.str [100]], .tup [.str [102], .int 0], .tup [.str [104], .int 0]], fun v hv => by simp only [List.mem_cons, List.not_mem_nil, or_false] at hv; rcases hv with rfl | rfl | rfl | rfl <;> first | exact Or.inl ⟨_, rfl⟩ | exact Or.inr ⟨_, rfl⟩, fun a b => by show (a + (a + (b + (b + (0)))) : Int) = 2 * a + 2 * b; omega, by decide, fun kvs => by kernel_rfl⟩
    nodesE := fun kvs => by kernel_rfl, nodesP := fun kvs => by kernel_rfl, findE := fun kvs => by kernel_rfl, findP := fun kvs => by kernel_rfl }
theorem D12_t1 : Three 1 2 := three_of (fun _ => by kernel_rfl) (fun _ => by kernel_rfl) (fun _ => by kernel_rfl) (fun _ => by kernel_rfl)
theorem D12_t2 : Three 2 2 := three_of (fun _ => by kernel_rfl) (fun _ => by kernel_rfl) (fun _ => by kernel_rfl) (fun _ => by kernel_rfl)
theorem D12_ok : D12.Ok where
  hL := by decide
  hO := by decide
  mid := fun h scr far => by kernel_rfl
  len1 := fun h scr far => by kernel_rfl
  mem1 := fun h v (hv : v < 3) => by rcases (show v = 0 ∨ v = 1 ∨ v = 2 by omega) with rfl | rfl | rfl <;> kernel_rfl
  cnt1 := D12_c1
  ren1 := fun h s => ⟨[(39, (.tup [(.int 5), (.int 2), (.int 0)])), (3, .ref 46), (28, .int s)], by kernel_rfl⟩
  get1 := fun h => ⟨_, _, rfl⟩
  find1 := fun h kvs v (hv : v < 3) => by rcases (show v = 0 ∨ v = 1 ∨ v = 2 by omega) with rfl | rfl | rfl <;> kernel_rfl
  three1 := D12_t1
  mid2 := fun h kvs scr far over => by kernel_rfl
  len2 := fun h kvs scr far over => by kernel_rfl
  mem2 := fun h kvs v (hv : v < 3) => by rcases (show v = 0 ∨ v = 1 ∨ v = 2 by omega) with rfl | rfl | rfl <;> kernel_rfl
  merge := fun h kvs v (hv : v < 3) => by rcases (show v = 0 ∨ v = 1 ∨ v = 2 by omega) with rfl | rfl | rfl <;> kernel_rfl
  inst2 := fun h kvs => ⟨_, _, _, _, _, _, _, rfl⟩
  settle := fun h v kvs scr far over => by kernel_rfl
  cnt2 := D12_c2
  ren2 := fun h v kvs s => ⟨[(39, (.tup [(.int 6), (.int 3), (.int 0)])), (3, .ref 46), (28, .int s)], by kernel_rfl⟩
  get2 := fun h v kvs => ⟨_, _, rfl⟩
  find2 := fun h v kvs kvs' => by kernel_rfl
  three2 := D12_t2
noncomputable def D21 : Dat := ⟨2,1,46,48,57,26,
  [.inst 3 [(21,(.ref 2)),(22,(.ref 7)),(23,(.ref 11)),(24,(.ref 12)),(25,(.ref 13)),(13,(.ref 14)),(26,(.ref 15)),(27,z0)],.inst 0 [(2,(.ref 3)),(4,(.ref 4)),(5,(.ref 5)),(6,(.ref 6))],.list [ta,tb,tf,(.tup [se,z2]),(.tup [sp,z0,z2,z0])],.dict .tup [(ta,z0),(tb,z1),(tf,z2),((.tup [se,z2]),z3),((.tup [sp,z0,z2,z0]),z4)],.list [z1,z1,z2,z3,z5],.list [z1,z1,z2,z3,z3],.inst 2 [(13,(.ref 8)),(14,(.ref 9)),(15,(.ref 10))],.list [z0,z0,z0,z3,z4],.list [(.ref 19),(.ref 24),(.ref 30),(.ref 39),(.ref 44)],.list [(.tup [z0,z1]),(.tup [z0,z2])],.list [(.tup [z0,z1,rt]),(.tup [z0,z2,rt])],.list [z0,z1],.dict .tup [(ta,z0),(tb,z1),(tf,z2),((.tup [se,z0]),z3),((.tup [sp,z0,z0,z0]),z4)],.dict .int [(z0,(.ref 35)),(z3,(.ref 40)),(z4,(.ref 45))],ln,ln,lz,lz,.list [z0,z1,z2],.list [z2],ln,lz,lz,.list [z1],ln,.list [z0,z1,z2],ln,lz,.list [z1,z0],.list [z2],ln,.list [z0,z1],.list [z2],.list [z0,z2],.list [z2,z3,z4],ln,lz,.list [z2,z0],.list [z3],ln,ln,lz,.list [z1,z2,z1,z0],.list [z4],ln,.inst 1 [(38,(.ref 1)),(39,.none),(25,(.ref 47))],dn],
  fun kvs => [.inst 3 [(21,(.ref 2)),(22,(.ref 7)),(23,(.ref 11)),(24,(.ref 12)),(25,(.ref 13)),(13,(.ref 14)),(26,(.ref 15)),(27,z0)],.inst 0 [(2,(.ref 3)),(4,(.ref 4)),(5,(.ref 5)),(6,(.ref 6))],.list [ta,tb,tf,(.tup [se,z2]),(.tup [sp,z0,z2,z0])],.dict .tup [(ta,z0),(tb,z1),(tf,z2),((.tup [se,z2]),z3),((.tup [sp,z0,z2,z0]),z4)],.list [z1,z1,z2,z3,z5],.list [z1,z1,z2,z3,z3],.inst 2 [(13,(.ref 8)),(14,(.ref 9)),(15,(.ref 10))],.list [z0,z0,z0,z3,z4],.list [(.ref 19),(.ref 24),(.ref 30),(.ref 39),(.ref 44)],.list [(.tup [z0,z1]),(.tup [z0,z2])],.list [(.tup [z0,z1,rt]),(.tup [z0,z2,rt])],.list [z0,z1],.dict .tup [(ta,z0),(tb,z1),(tf,z2),((.tup [se,z0]),z3),((.tup [sp,z0,z0,z0]),z4)],.dict .int [(z0,(.ref 35)),(z3,(.ref 40)),(z4,(.ref 45))],ln,ln,lz,lz,.list [z0,z1,z2],.list [z2],ln,lz,lz,.list [z1],ln,.list [z0,z1,z2],ln,lz,.list [z1,z0],.list [z2],ln,.list [z0,z1],.list [z2],.list [z0,z2],.list [z2,z3,z4],ln,lz,.list [z2,z0],.list [z3],ln,ln,lz,.list [z1,z2,z1,z0],.list [z4],ln,.inst 1 [(38,(.ref 1)),(39,(.tup [z5,z2,z0])),(25,(.ref 48))],dn,.dict .tup kvs],
  fun kvs => [.inst 3 [(21,(.ref 2)),(22,(.ref 7)),(23,(.ref 11)),(24,(.ref 12)),(25,(.ref 13)),(13,(.ref 14)),(26,(.ref 15)),(27,z0)],.inst 0 [(2,(.ref 3)),(4,(.ref 4)),(5,(.ref 5)),(6,(.ref 6))],.list [ta,tb,tf,(.tup [se,z2]),(.tup [sp,z0,z2,z0]),td],.dict .tup [(ta,z0),(tb,z1),(tf,z2),((.tup [se,z2]),z3),((.tup [sp,z0,z2,z0]),z4),(td,z5)],.list [z1,z1,z2,z3,z5,z1],.list [z1,z1,z2,z3,z3,z1],.inst 2 [(13,(.ref 8)),(14,(.ref 9)),(15,(.ref 10))],.list [z0,z0,z0,z3,z4,z5],.list [(.ref 19),(.ref 24),(.ref 30),(.ref 39),(.ref 44),(.ref 52)],.list [(.tup [z0,z1]),(.tup [z0,z2])],.list [(.tup [z0,z1,rt]),(.tup [z0,z2,rt])],.list [z0,z1],.dict .tup [(ta,z0),(tb,z1),(tf,z2),((.tup [se,z0]),z3),((.tup [sp,z0,z0,z0]),z4),(td,z5)],.dict .int [(z0,(.ref 35)),(z3,(.ref 40)),(z4,(.ref 45)),(z5,(.ref 53))],ln,ln,lz,lz,.list [z0,z1,z2],.list [z2],ln,lz,lz,.list [z1],ln,.list [z0,z1,z2],ln,lz,.list [z1,z0],.list [z2],ln,.list [z0,z1],.list [z2],.list [z0,z2],.list [z2,z3,z4],ln,lz,.list [z2,z0],.list [z3],ln,ln,lz,.list [z1,z2,z1,z0],.list [z4],ln,.inst 1 [(38,(.ref 1)),(39,(.tup [z6,z2,z0])),(25,(.ref 54))],dn,.dict .tup kvs,ln,lz,lz,.list [z5],ln,.dict .tup [((.tup [(.tup [z5]),z1]),z1),((.tup [(.tup [z0]),z1]),z2)]],
  fun v kvs => [.inst 3 [(21,(.ref 2)),(22,(.ref 7)),(23,(.ref 11)),(24,(.ref 12)),(25,(.ref 13)),(13,(.ref 14)),(26,(.ref 15)),(27,z0)],.inst 0 [(2,(.ref 3)),(4,(.ref 4)),(5,(.ref 5)),(6,(.ref 6))],.list [ta,tb,tf,(.tup [se,z2]),(.tup [sp,z0,z2,z0]),td],.dict .tup [(ta,z0),(tb,z1),(tf,z2),((.tup [se,z2]),z3),((.tup [sp,z0,z2,z0]),z4),(td,z5)],.list [z1,z1,z2,z3,z5,z1],.list [z1,z1,z2,z3,z3,z1],.inst 2 [(13,(.ref 8)),(14,(.ref 9)),(15,(.ref 10))],.list [z0,z0,z0,z3,z4,z0],.list [(.ref 19),(.ref 24),(.ref 30),(.ref 39),(.ref 44),(.ref 52)],.list [(.tup [z0,z1]),(.tup [z0,z2]),(.tup [z0,z5])],.list [(.tup [z0,z1,rt]),(.tup [z0,z2,rt]),(.tup [z5,v,ru])],.list [z0,z1,z2],.dict .tup [(ta,z0),(tb,z1),(tf,z2),((.tup [se,z0]),z3),((.tup [sp,z0,z0,z0]),z4),(td,z5)],.dict .int [(z0,(.ref 56)),(z3,(.ref 40)),(z4,(.ref 45))],ln,ln,lz,lz,.list [z0,z1,z2,z5],.list [z2],ln,lz,lz,.list [z1],ln,.list [z0,z1,z2],ln,lz,.list [z1,z0],.list [z2],ln,.list [z0,z1],.list [z2],.list [z0,z2],.list [z2,z3,z4],ln,lz,.list [z2,z0],.list [z3],ln,ln,lz,.list [z1,z2,z1,z0],.list [z4],ln,.inst 1 [(38,(.ref 1)),(39,(.tup [z6,z2,z0])),(25,(.ref 54))],dn,.dict .tup kvs,ln,lz,lz,.list [z5],ln,.dict .tup [((.tup [(.tup [z5]),z1]),z1),((.tup [(.tup [z0]),z1]),z2)],.list [z5,z0],.list [z2,z3,z4]],
  fun v kvs => [.inst 3 [(21,(.ref 2)),(22,(.ref 7)),(23,(.ref 11)),(24,(.ref 12)),(25,(.ref 13)),(13,(.ref 14)),(26,(.ref 15)),(27,z0)],.inst 0 [(2,(.ref 3)),(4,(.ref 4)),(5,(.ref 5)),(6,(.ref 6))],.list [ta,tb,tf,(.tup [se,z2]),(.tup [sp,z0,z2,z0]),td],.dict .tup [(ta,z0),(tb,z1),(tf,z2),((.tup [se,z2]),z3),((.tup [sp,z0,z2,z0]),z4),(td,z5)],.list [z1,z1,z2,z3,z5,z1],.list [z1,z1,z2,z3,z3,z1],.inst 2 [(13,(.ref 8)),(14,(.ref 9)),(15,(.ref 10))],.list [z0,z0,z0,z3,z4,z0],.list [(.ref 19),(.ref 24),(.ref 30),(.ref 39),(.ref 44),(.ref 52)],.list [(.tup [z0,z1]),(.tup [z0,z2]),(.tup [z0,z5])],.list [(.tup [z0,z1,rt]),(.tup [z0,z2,rt]),(.tup [z5,v,ru])],.list [z0,z1,z2],.dict .tup [(ta,z0),(tb,z1),(tf,z2),((.tup [se,z0]),z3),((.tup [sp,z0,z0,z0]),z4),(td,z5)],.dict .int [(z0,(.ref 56)),(z3,(.ref 40)),(z4,(.ref 45))],ln,ln,lz,lz,.list [z0,z1,z2,z5],.list [z2],ln,lz,lz,.list [z1],ln,.list [z0,z1,z2],ln,lz,.list [z1,z0],.list [z2],ln,.list [z0,z1],.list [z2],.list [z0,z2],.list [z2,z3,z4],ln,lz,.list [z2,z0],.list [z3],ln,ln,lz,.list [z1,z2,z1,z0],.list [z4],ln,.inst 1 [(38,(.ref 1)),(39,(.tup [z6,z2,z0])),(25,(.ref 54))],dn,.dict .tup kvs,ln,lz,lz,.list [z5],ln,.dict .tup [((.tup [(.tup [z5]),z1]),z1),((.tup [(.tup [z0]),z1]),z2)],.list [z5,z0],.list [z2,z3,z4]],
  fun v kvs kvs' => [.inst 3 [(21,(.ref 2)),(22,(.ref 7)),(23,(.ref 11)),(24,(.ref 12)),(25,(.ref 13)),(13,(.ref 14)),(26,(.ref 15)),(27,z0)],.inst 0 [(2,(.ref 3)),(4,(.ref 4)),(5,(.ref 5)),(6,(.ref 6))],.list [ta,tb,tf,(.tup [se,z2]),(.tup [sp,z0,z2,z0]),td],.dict .tup [(ta,z0),(tb,z1),(tf,z2),((.tup [se,z2]),z3),((.tup [sp,z0,z2,z0]),z4),(td,z5)],.list [z1,z1,z2,z3,z5,z1],.list [z1,z1,z2,z3,z3,z1],.inst 2 [(13,(.ref 8)),(14,(.ref 9)),(15,(.ref 10))],.list [z0,z0,z0,z3,z4,z0],.list [(.ref 19),(.ref 24),(.ref 30),(.ref 39),(.ref 44),(.ref 52)],.list [(.tup [z0,z1]),(.tup [z0,z2]),(.tup [z0,z5])],.list [(.tup [z0,z1,rt]),(.tup [z0,z2,rt]),(.tup [z5,v,ru])],.list [z0,z1,z2],.dict .tup [(ta,z0),(tb,z1),(tf,z2),((.tup [se,z0]),z3),((.tup [sp,z0,z0,z0]),z4),(td,z5)],.dict .int [(z0,(.ref 56)),(z3,(.ref 40)),(z4,(.ref 45))],ln,ln,lz,lz,.list [z0,z1,z2,z5],.list [z2],ln,lz,lz,.list [z1],ln,.list [z0,z1,z2],ln,lz,.list [z1,z0],.list [z2],ln,.list [z0,z1],.list [z2],.list [z0,z2],.list [z2,z3,z4],ln,lz,.list [z2,z0],.list [z3],ln,ln,lz,.list [z1,z2,z1,z0],.list [z4],ln,.inst 1 [(38,(.ref 1)),(39,(.tup [z6,z3,z0])),(25,(.ref 57))],dn,.dict .tup kvs,ln,lz,lz,.list [z5],ln,.dict .tup [((.tup [(.tup [z5]),z1]),z1),((.tup [(.tup [z0]),z1]),z2)],.list [z5,z0],.list [z2,z3,z4],.dict .tup kvs']⟩
theorem D21_c1 (h : Mine.O) : Cnt 46 48 2 1 3 (fun kvs => h :: D21.R1 kvs) :=
  { hL := by decide, hO := by decide, hn := by decide
    get := ⟨_, fun kvs => rfl⟩, heap := ⟨_, _, _, _, _, _, _, fun kvs => rfl⟩, dict := fun kvs => rfl, set := fun kvs kvs' => rfl
    ren := fun kvs s hs => ren_of hs (fr' := [(39, (.tup [(.int 5), (.int 2), (.int 0)])), (3, .ref 46), (28, .int s)]) (by kernel_rfl)
    nodesC := ⟨[.tup [.str [97]], .tup [.str [98]], .tup [.str [102], .int 0]], fun v hv => by simp only [List.mem_cons, List.not_mem_nil, or_false] at hv; rcases hv with rfl | rfl | rfl <;> first | exact Or.inl ⟨_, rfl⟩ | exact Or.inr ⟨_, rfl⟩, fun a b => by show (a + (a + (b + (0))) : Int) = 2 * a + 1 * b; omega, by decide, fun kvs => by kernel_rfl⟩
    nodesE := fun kvs => by kernel_rfl, nodesP := fun kvs => by kernel_rfl, findE := fun kvs => by kernel_rfl, findP := fun kvs => by kernel_rfl }
theorem D21_c2 (h : Mine.O) (v : V) (kvs0 : List (V × V)) : Cnt 46 57 3 1 3 (fun kvs' => h :: D21.R5 v kvs0 kvs') :=
  { hL := by decide, hO := by decide, hn := by decide
    get := ⟨_, fun kvs => rfl⟩, heap := ⟨_, _, _, _, _, _, _, fun kvs => rfl⟩, dict := fun kvs => rfl, set := fun kvs kvs' => rfl
    ren := fun kvs s hs => ren_of hs (fr' := [(39, (.tup [(.int 6), (.int 3), (.int 0)])), (3, .ref 46), (28, .int s)]) (by kernel_rfl)
    nodesC := ⟨[.tup [.str [97]], .tup [.str [98]], .tup [.str [100]], .tup [.str [102], .int 0]], fun v hv => by simp only [List.mem_cons, List.not_mem_nil, or_false] at hv; rcases hv with rfl | rfl | rfl | rfl <;> first | exact Or.inl ⟨_, rfl⟩ | exact Or.inr ⟨_, rfl⟩, fun a b => by show (a + (a + (a + (b + (0)))) : Int) = 3 * a + 1 * b; omega, by decide, fun kvs => by kernel_rfl⟩
    nodesE := fun kvs => by kernel_rfl, nodesP := fun kvs => by kernel_rfl, findE := fun kvs => by kernel_rfl, findP := fun kvs => by kernel_rfl }
theorem D21_t1 : Three 2 1 := three_of (fun _ => by kernel_rfl) (fun _ => by kernel_rfl) (fun _ => by kernel_rfl) (fun _ => by kernel_rfl)
theorem D21_t2 : Three 3 1 := three_of (fun _ => by kernel_rfl) (fun _ => by kernel_rfl) (fun _ => by kernel_rfl) (fun _ => by kernel_rfl)
theorem D21_ok : D21.Ok where
  hL := by decide
  hO := by decide
  mid := fun h scr far => by kernel_rfl
  len1 := fun h scr far => by kernel_rfl
  mem1 := fun h v (hv : v < 3) => by rcases (show v = 0 ∨ v = 1 ∨ v = 2 by omega) with rfl | rfl | rfl <;> kernel_rfl
  cnt1 := D21_c1
  ren1 := fun h s => ⟨[(39, (.tup [(.int 5), (.int 2), (.int 0)])), (3, .ref 46), (28, .int s)], by kernel_rfl⟩
  get1 := fun h => ⟨_, _, rfl⟩
  find1 := fun h kvs v (hv : v < 3) => by rcases (show v = 0 ∨ v = 1 ∨ v = 2 by omega) with rfl | rfl | rfl <;> kernel_rfl
  three1 := D21_t1
  mid2 := fun h kvs scr far over => by kernel_rfl
  len2 := fun h kvs scr far over => by kernel_rfl
  mem2 := fun h kvs v (hv : v < 3) => by rcases (show v = 0 ∨ v = 1 ∨ v = 2 by omega) with rfl | rfl | rfl <;> kernel_rfl
  merge := fun h kvs v (hv : v < 3) => by rcases (show v = 0 ∨ v = 1 ∨ v = 2 by omega) with rfl | rfl | rfl <;> kernel_rfl
  inst2 := fun h kvs => ⟨_, _, _, _, _, _, _, rfl⟩
  settle := fun h v kvs scr far over => by kernel_rfl
  cnt2 := D21_c2
  ren2 := fun h v kvs s => ⟨[(39, (.tup [(.int 6), (.int 3), (.int 0)])), (3, .ref 46), (28, .int s)], by kernel_rfl⟩
  get2 := fun h v kvs => ⟨_, _, rfl⟩
  find2 := fun h v kvs kvs' => by kernel_rfl
  three2 := D21_t2
noncomputable def D22 : Dat := ⟨2,2,53,55,64,26,
  [.inst 3 [(21,(.ref 2)),(22,(.ref 7)),(23,(.ref 11)),(24,(.ref 12)),(25,(.ref 13)),(13,(.ref 14)),(26,(.ref 15)),(27,z0)],.inst 0 [(2,(.ref 3)),(4,(.ref 4)),(5,(.ref 5)),(6,(.ref 6))],.list [ta,tb,tf,th,(.tup [se,z3]),(.tup [sp,z0,z3,z0])],.dict .tup [(ta,z0),(tb,z1),(tf,z2),(th,z3),((.tup [se,z3]),z4),((.tup [sp,z0,z3,z0]),z5)],.list [z1,z1,z2,z2,z3,z5],.list [z1,z1,z2,z2,z3,z3],.inst 2 [(13,(.ref 8)),(14,(.ref 9)),(15,(.ref 10))],.list [z0,z0,z0,z0,z4,z5],.list [(.ref 19),(.ref 24),(.ref 30),(.ref 35),(.ref 46),(.ref 51)],.list [(.tup [z0,z1]),(.tup [z0,z2]),(.tup [z0,z3])],.list [(.tup [z0,z1,rt]),(.tup [z0,z2,rt]),(.tup [z0,z3,rt])],.list [z0,z1,z2],.dict .tup [(ta,z0),(tb,z1),(tf,z2),(th,z3),((.tup [se,z0]),z4),((.tup [sp,z0,z0,z0]),z5)],.dict .int [(z0,(.ref 42)),(z4,(.ref 47)),(z5,(.ref 52))],ln,ln,lz,lz,.list [z0,z1,z2,z3],.list [z2,z3],ln,lz,lz,.list [z1],ln,.list [z0,z1,z2,z3],ln,lz,.list [z1,z0],.list [z2],ln,ln,lz,.list [z1,z0],.list [z3],ln,.list [z0,z1],.list [z2,z3],.list [z0,z2],.list [z2,z3],.list [z0,z3],.list [z2,z3,z4,z5],ln,lz,.list [z2,z0],.list [z4],ln,ln,lz,.list [z1,z2,z1,z0],.list [z5],ln,.inst 1 [(38,(.ref 1)),(39,.none),(25,(.ref 54))],dn],
  fun kvs => [.inst 3 [(21,(.ref 2)),(22,(.ref 7)),(23,(.ref 11)),(24,(.ref 12)),(25,(.ref 13)),(13,(.ref 14)),(26,(.ref 15)),(27,z0)],.inst 0 [(2,(.ref 3)),(4,(.ref 4)),(5,(.ref 5)),(6,(.ref 6))],.list [ta,tb,tf,th,(.tup [se,z3]),(.tup [sp,z0,z3,z0])],.dict .tup [(ta,z0),(tb,z1),(tf,z2),(th,z3),((.tup [se,z3]),z4),((.tup [sp,z0,z3,z0]),z5)],.list [z1,z1,z2,z2,z3,z5],.list [z1,z1,z2,z2,z3,z3],.inst 2 [(13,(.ref 8)),(14,(.ref 9)),(15,(.ref 10))],.list [z0,z0,z0,z0,z4,z5],.list [(.ref 19),(.ref 24),(.ref 30),(.ref 35),(.ref 46),(.ref 51)],.list [(.tup [z0,z1]),(.tup [z0,z2]),(.tup [z0,z3])],.list [(.tup [z0,z1,rt]),(.tup [z0,z2,rt]),(.tup [z0,z3,rt])],.list [z0,z1,z2],.dict .tup [(ta,z0),(tb,z1),(tf,z2),(th,z3),((.tup [se,z0]),z4),((.tup [sp,z0,z0,z0]),z5)],.dict .int [(z0,(.ref 42)),(z4,(.ref 47)),(z5,(.ref 52))],ln,ln,lz,lz,.list [z0,z1,z2,z3],.list [z2,z3],ln,lz,lz,.list [z1],ln,.list [z0,z1,z2,z3],ln,lz,.list [z1,z0],.list [z2],ln,ln,lz,.list [z1,z0],.list [z3],ln,.list [z0,z1],.list [z2,z3],.list [z0,z2],.list [z2,z3],.list [z0,z3],.list [z2,z3,z4,z5],ln,lz,.list [z2,z0],.list [z4],ln,ln,lz,.list [z1,z2,z1,z0],.list [z5],ln,.inst 1 [(38,(.ref 1)),(39,(.tup [z6,z3,z0])),(25,(.ref 55))],dn,.dict .tup kvs],
  fun kvs => [.inst 3 [(21,(.ref 2)),(22,(.ref 7)),(23,(.ref 11)),(24,(.ref 12)),(25,(.ref 13)),(13,(.ref 14)),(26,(.ref 15)),(27,z0)],.inst 0 [(2,(.ref 3)),(4,(.ref 4)),(5,(.ref 5)),(6,(.ref 6))],.list [ta,tb,tf,th,(.tup [se,z3]),(.tup [sp,z0,z3,z0]),td],.dict .tup [(ta,z0),(tb,z1),(tf,z2),(th,z3),((.tup [se,z3]),z4),((.tup [sp,z0,z3,z0]),z5),(td,z6)],.list [z1,z1,z2,z2,z3,z5,z1],.list [z1,z1,z2,z2,z3,z3,z1],.inst 2 [(13,(.ref 8)),(14,(.ref 9)),(15,(.ref 10))],.list [z0,z0,z0,z0,z4,z5,z6],.list [(.ref 19),(.ref 24),(.ref 30),(.ref 35),(.ref 46),(.ref 51),(.ref 59)],.list [(.tup [z0,z1]),(.tup [z0,z2]),(.tup [z0,z3])],.list [(.tup [z0,z1,rt]),(.tup [z0,z2,rt]),(.tup [z0,z3,rt])],.list [z0,z1,z2],.dict .tup [(ta,z0),(tb,z1),(tf,z2),(th,z3),((.tup [se,z0]),z4),((.tup [sp,z0,z0,z0]),z5),(td,z6)],.dict .int [(z0,(.ref 42)),(z4,(.ref 47)),(z5,(.ref 52)),(z6,(.ref 60))],ln,ln,lz,lz,.list [z0,z1,z2,z3],.list [z2,z3],ln,lz,lz,.list [z1],ln,.list [z0,z1,z2,z3],ln,lz,.list [z1,z0],.list [z2],ln,ln,lz,.list [z1,z0],.list [z3],ln,.list [z0,z1],.list [z2,z3],.list [z0,z2],.list [z2,z3],.list [z0,z3],.list [z2,z3,z4,z5],ln,lz,.list [z2,z0],.list [z4],ln,ln,lz,.list [z1,z2,z1,z0],.list [z5],ln,.inst 1 [(38,(.ref 1)),(39,(.tup [z7,z3,z0])),(25,(.ref 61))],dn,.dict .tup kvs,ln,lz,lz,.list [z6],ln,.dict .tup [((.tup [(.tup [z6]),z1]),z1),((.tup [(.tup [z0]),z1]),z2)]],
  fun v kvs => [.inst 3 [(21,(.ref 2)),(22,(.ref 7)),(23,(.ref 11)),(24,(.ref 12)),(25,(.ref 13)),(13,(.ref 14)),(26,(.ref 15)),(27,z0)],.inst 0 [(2,(.ref 3)),(4,(.ref 4)),(5,(.ref 5)),(6,(.ref 6))],.list [ta,tb,tf,th,(.tup [se,z3]),(.tup [sp,z0,z3,z0]),td],.dict .tup [(ta,z0),(tb,z1),(tf,z2),(th,z3),((.tup [se,z3]),z4),((.tup [sp,z0,z3,z0]),z5),(td,z6)],.list [z1,z1,z2,z2,z3,z5,z1],.list [z1,z1,z2,z2,z3,z3,z1],.inst 2 [(13,(.ref 8)),(14,(.ref 9)),(15,(.ref 10))],.list [z0,z0,z0,z0,z4,z5,z0],.list [(.ref 19),(.ref 24),(.ref 30),(.ref 35),(.ref 46),(.ref 51),(.ref 59)],.list [(.tup [z0,z1]),(.tup [z0,z2]),(.tup [z0,z3]),(.tup [z0,z6])],.list [(.tup [z0,z1,rt]),(.tup [z0,z2,rt]),(.tup [z0,z3,rt]),(.tup [z6,v,ru])],.list [z0,z1,z2,z3],.dict .tup [(ta,z0),(tb,z1),(tf,z2),(th,z3),((.tup [se,z0]),z4),((.tup [sp,z0,z0,z0]),z5),(td,z6)],.dict .int [(z0,(.ref 63)),(z4,(.ref 47)),(z5,(.ref 52))],ln,ln,lz,lz,.list [z0,z1,z2,z3,z6],.list [z2,z3],ln,lz,lz,.list [z1],ln,.list [z0,z1,z2,z3],ln,lz,.list [z1,z0],.list [z2],ln,ln,lz,.list [z1,z0],.list [z3],ln,.list [z0,z1],.list [z2,z3],.list [z0,z2],.list [z2,z3],.list [z0,z3],.list [z2,z3,z4,z5],ln,lz,.list [z2,z0],.list [z4],ln,ln,lz,.list [z1,z2,z1,z0],.list [z5],ln,.inst 1 [(38,(.ref 1)),(39,(.tup [z7,z3,z0])),(25,(.ref 61))],dn,.dict .tup kvs,ln,lz,lz,.list [z6],ln,.dict .tup [((.tup [(.tup [z6]),z1]),z1),((.tup [(.tup [z0]),z1]),z2)],.list [z6,z0],.list [z2,z3,z4,z5]],
  fun v kvs => [.inst 3 [(21,(.ref 2)),(22,(.ref 7)),(23,(.ref 11)),(24,(.ref 12)),(25,(.ref 13)),(13,(.ref 14)),(26,(.ref 15)),(27,z0)],.inst 0 [(2,(.ref 3)),(4,(.ref 4)),(5,(.ref 5)),(6,(.ref 6))],.list [ta,tb,tf,th,(.tup [se,z3]),(.tup [sp,z0,z3,z0]),td],.dict .tup [(ta,z0),(tb,z1),(tf,z2),(th,z3),((.tup [se,z3]),z4),((.tup [sp,z0,z3,z0]),z5),(td,z6)],.list [z1,z1,z2,z2,z3,z5,z1],.list [z1,z1,z2,z2,z3,z3,z1],.inst 2 [(13,(.ref 8)),(14,(.ref 9)),(15,(.ref 10))],.list [z0,z0,z0,z0,z4,z5,z0],.list [(.ref 19),(.ref 24),(.ref 30),(.ref 35),(.ref 46),(.ref 51),(.ref 59)],.list [(.tup [z0,z1]),(.tup [z0,z2]),(.tup [z0,z3]),(.tup [z0,z6])],.list [(.tup [z0,z1,rt]),(.tup [z0,z2,rt]),(.tup [z0,z3,rt]),(.tup [z6,v,ru])],.list [z0,z1,z2,z3],.dict .tup [(ta,z0),(tb,z1),(tf,z2),(th,z3),((.tup [se,z0]),z4),((.tup [sp,z0,z0,z0]),z5),(td,z6)],.dict .int [(z0,(.ref 63)),(z4,(.ref 47)),(z5,(.ref 52))],ln,ln,lz,lz,.list [z0,z1,z2,z3,z6],.list [z2,z3],ln,lz,lz,.list [z1],ln,.list [z0,z1,z2,z3],ln,lz,.list [z1,z0],.list [z2],ln,ln,lz,.list [z1,z0],.list [z3],ln,.list [z0,z1],.list [z2,z3],.list [z0,z2],.list [z2,z3],.list [z0,z3],.list [z2,z3,z4,z5],ln,lz,.list [z2,z0],.list [z4],ln,ln,lz,.list [z1,z2,z1,z0],.list [z5],ln,.inst 1 [(38,(.ref 1)),(39,(.tup [z7,z3,z0])),(25,(.ref 61))],dn,.dict .tup kvs,ln,lz,lz,.list [z6],ln,.dict .tup [((.tup [(.tup [z6]),z1]),z1),((.tup [(.tup [z0]),z1]),z2)],.list [z6,z0],.list [z2,z3,z4,z5]],
  fun v kvs kvs' => [.inst 3 [(21,(.ref 2)),(22,(.ref 7)),(23,(.ref 11)),(24,(.ref 12)),(25,(.ref 13)),(13,(.ref 14)),(26,(.ref 15)),(27,z0)],.inst 0 [(2,(.ref 3)),(4,(.ref 4)),(5,(.ref 5)),(6,(.ref 6))],.list [ta,tb,tf,th,(.tup [se,z3]),(.tup [sp,z0,z3,z0]),td],.dict .tup [(ta,z0),(tb,z1),(tf,z2),(th,z3),((.tup [se,z3]),z4),((.tup [sp,z0,z3,z0]),z5),(td,z6)],.list [z1,z1,z2,z2,z3,z5,z1],.list [z1,z1,z2,z2,z3,z3,z1],.inst 2 [(13,(.ref 8)),(14,(.ref 9)),(15,(.ref 10))],.list [z0,z0,z0,z0,z4,z5,z0],.list [(.ref 19),(.ref 24),(.ref 30),(.ref 35),(.ref 46),(.ref 51),(.ref 59)],.list [(.tup [z0,z1]),(.tup [z0,z2]),(.tup [z0,z3]),(.tup [z0,z6])],.list [(.tup [z0,z1,rt]),(.tup [z0,z2,rt]),(.tup [z0,z3,rt]),(.tup [z6,v,ru])],.list [z0,z1,z2,z3],.dict .tup [(ta,z0),(tb,z1),(tf,z2),(th,z3),((.tup [se,z0]),z4),((.tup [sp,z0,z0,z0]),z5),(td,z6)],.dict .int [(z0,(.ref 63)),(z4,(.ref 47)),(z5,(.ref 52))],ln,ln,lz,lz,.list [z0,z1,z2,z3,z6],.list [z2,z3],ln,lz,lz,.list [z1],ln,.list [z0,z1,z2,z3],ln,lz,.list [z1,z0],.list [z2],ln,ln,lz,.list [z1,z0],.list [z3],ln,.list [z0,z1],.list [z2,z3],.list [z0,z2],.list [z2,z3],.list [z0,z3],.list [z2,z3,z4,z5],ln,lz,.list [z2,z0],.list [z4],ln,ln,lz,.list [z1,z2,z1,z0],.list [z5],ln,.inst 1 [(38,(.ref 1)),(39,(.tup [z7,z4,z0])),(25,(.ref 64))],dn,.dict .tup kvs,ln,lz,lz,.list [z6],ln,.dict .tup [((.tup [(.tup [z6]),z1]),z1),((.tup [(.tup [z0]),z1]),z2)],.list [z6,z0],.list [z2,z3,z4,z5],.dict .tup kvs']⟩
theorem D22_c1 (h : Mine.O) : Cnt 53 55 2 2 4 (fun kvs => h :: D22.R1 kvs) :=
  { hL := by decide, hO := by decide, hn := by decide
    get := ⟨_, fun kvs => rfl⟩, heap := ⟨_, _, _, _, _, _, _, fun kvs => rfl⟩, dict := fun kvs => rfl, set := fun kvs kvs' => rfl
    ren := fun kvs s hs => ren_of hs (fr' := [(39, (.tup [(.int 6), (.int 3), (.int 0)])), (3, .ref 53), (28, .int s)]) (by kernel_rfl)
    nodesC := ⟨[.tup [.str [97]], .tup [.str [98]], .tup [.str [102], .int 0], .tup [.str [104], .int 0]], fun v hv => by simp only [List.mem_cons, List.not_mem_nil, or_false] at hv; rcases hv with rfl | rfl | rfl | rfl <;> first | exact Or.inl ⟨_, rfl⟩ | exact Or.inr ⟨_, rfl⟩, fun a b => by show (a + (a + (b + (b + (0)))) : Int) = 2 * a + 2 * b; omega, by decide, fun kvs => by kernel_rfl⟩
    nodesE := fun kvs => by kernel_rfl, nodesP := fun kvs => by kernel_rfl, findE := fun kvs => by kernel_rfl, findP := fun kvs => by kernel_rfl }
theorem D22_c2 (h : Mine.O) (v : V) (kvs0 : List (V × V)) : Cnt 53 64 3 2 4 (fun kvs' => h :: D22.R5 v kvs0 kvs') :=
  { hL := by decide, hO := by decide, hn := by decide
    get := ⟨_, fun kvs => rfl⟩, heap := ⟨_, _, _, _, _, _, _, fun kvs => rfl⟩, dict := fun kvs => rfl, set := fun kvs kvs' => rfl
    ren := fun kvs s hs => ren_of hs (fr' := [(39, (.tup [(.int 7), (.int 4), (.int 0)])), (3, .ref 53), (28, .int s)]) (by kernel_rfl)
    nodesC := ⟨[.tup [.str [97]], .tup [.str [98]], .tup [.str [100]], .tup [.str [102], .int 0], .tup [.str [104], .int 0]], fun v hv => by simp only [List.mem_cons, List.not_mem_nil, or_false] at hv; rcases hv with rfl | rfl | rfl | rfl | rfl <;> first | exact Or.inl ⟨_, rfl⟩ | exact Or.inr ⟨_, rfl⟩, fun a b => by show (a + (a + (a + (b + (b + (0))))) : Int) = 3 * a + 2 * b; omega, by decide, fun kvs => by kernel_rfl⟩
    nodesE := fun kvs => by kernel_rfl, nodesP := fun kvs => by kernel_rfl, findE := fun kvs => by kernel_rfl, findP := fun kvs => by kernel_rfl }
theorem D22_t1 : Three 2 2 := three_of (fun _ => by kernel_rfl) (fun _ => by kernel_rfl) (fun _ => by kernel_rfl) (fun _ => by kernel_rfl)
theorem D22_t2 : Three 3 2 := three_of (fun _ => by kernel_rfl) (fun _ => by kernel_rfl) (fun _ => by kernel_rfl) (fun _ => by kernel_rfl)
theorem D22_ok : D22.Ok where
  hL := by decide
  hO := by decide
  mid := fun h scr far => by kernel_rfl
  len1 := fun h scr far => by kernel_rfl
  mem1 := fun h v (hv : v < 4) => by rcases (show v = 0 ∨ v = 1 ∨ v = 2 ∨ v = 3 by omega) with rfl | rfl | rfl | rfl <;> kernel_rfl
  cnt1 := D22_c1
  ren1 := fun h s => ⟨[(39, (.tup [(.int 6), (.int 3), (.int 0)])), (3, .ref 53), (28, .int s)], by kernel_rfl⟩
  get1 := fun h => ⟨_, _, rfl⟩
  find1 := fun h kvs v (hv : v < 4) => by rcases (show v = 0 ∨ v = 1 ∨ v = 2 ∨ v = 3 by omega) with rfl | rfl | rfl | rfl <;> kernel_rfl
  three1 := D22_t1
  mid2 := fun h kvs scr far over => by kernel_rfl
  len2 := fun h kvs scr far over => by kernel_rfl
  mem2 := fun h kvs v (hv : v < 4) => by rcases (show v = 0 ∨ v = 1 ∨ v = 2 ∨ v = 3 by omega) with rfl | rfl | rfl | rfl <;> kernel_rfl
  merge := fun h kvs v (hv : v < 4) => by rcases (show v = 0 ∨ v = 1 ∨ v = 2 ∨ v = 3 by omega) with rfl | rfl | rfl | rfl <;> kernel_rfl
  inst2 := fun h kvs => ⟨_, _, _, _, _, _, _, rfl⟩
  settle := fun h v kvs scr far over => by kernel_rfl
  cnt2 := D22_c2
  ren2 := fun h v kvs s => ⟨[(39, (.tup [(.int 7), (.int 4), (.int 0)])), (3, .ref 53), (28, .int s)], by kernel_rfl⟩
  get2 := fun h v kvs => ⟨_, _, rfl⟩
  find2 := fun h v kvs kvs' => by kernel_rfl
  three2 := D22_t2
noncomputable def D31 : Dat := ⟨3,1,53,55,64,31,
  [.inst 3 [(21,(.ref 2)),(22,(.ref 7)),(23,(.ref 11)),(24,(.ref 12)),(25,(.ref 13)),(13,(.ref 14)),(26,(.ref 15)),(27,z0)],.inst 0 [(2,(.ref 3)),(4,(.ref 4)),(5,(.ref 5)),(6,(.ref 6))],.list [ta,tb,tc,tf,(.tup [se,z3]),(.tup [sp,z0,z3,z0])],.dict .tup [(ta,z0),(tb,z1),(tc,z2),(tf,z3),((.tup [se,z3]),z4),((.tup [sp,z0,z3,z0]),z5)],.list [z1,z1,z1,z2,z3,z5],.list [z1,z1,z1,z2,z3,z3],.inst 2 [(13,(.ref 8)),(14,(.ref 9)),(15,(.ref 10))],.list [z0,z0,z0,z0,z4,z5],.list [(.ref 19),(.ref 24),(.ref 29),(.ref 35),(.ref 46),(.ref 51)],.list [(.tup [z0,z1]),(.tup [z0,z2]),(.tup [z0,z3])],.list [(.tup [z0,z1,rt]),(.tup [z0,z2,rt]),(.tup [z0,z3,rt])],.list [z0,z1,z2],.dict .tup [(ta,z0),(tb,z1),(tc,z2),(tf,z3),((.tup [se,z0]),z4),((.tup [sp,z0,z0,z0]),z5)],.dict .int [(z0,(.ref 42)),(z4,(.ref 47)),(z5,(.ref 52))],ln,ln,lz,lz,.list [z0,z1,z2,z3],.list [z3],ln,lz,lz,.list [z1],ln,ln,lz,lz,.list [z2],ln,.list [z0,z1,z2,z3],ln,lz,.list [z1,z0],.list [z3],ln,.list [z0,z1],.list [z3],.list [z0,z2],.list [z3],.list [z0,z3],.list [z3,z4,z5],ln,lz,.list [z2,z0],.list [z4],ln,ln,lz,.list [z1,z2,z1,z0],.list [z5],ln,.inst 1 [(38,(.ref 1)),(39,.none),(25,(.ref 54))],dn],
  fun kvs => [.inst 3 [(21,(.ref 2)),(22,(.ref 7)),(23,(.ref 11)),(24,(.ref 12)),(25,(.ref 13)),(13,(.ref 14)),(26,(.ref 15)),(27,z0)],.inst 0 [(2,(.ref 3)),(4,(.ref 4)),(5,(.ref 5)),(6,(.ref 6))],.list [ta,tb,tc,tf,(.tup [se,z3]),(.tup [sp,z0,z3,z0])],.dict .tup [(ta,z0),(tb,z1),(tc,z2),(tf,z3),((.tup [se,z3]),z4),((.tup [sp,z0,z3,z0]),z5)],.list [z1,z1,z1,z2,z3,z5],.list [z1,z1,z1,z2,z3,z3],.inst 2 [(13,(.ref 8)),(14,(.ref 9)),(15,(.ref 10))],.list [z0,z0,z0,z0,z4,z5],.list [(.ref 19),(.ref 24),(.ref 29),(.ref 35),(.ref 46),(.ref 51)],.list [(.tup [z0,z1]),(.tup [z0,z2]),(.tup [z0,z3])],.list [(.tup [z0,z1,rt]),(.tup [z0,z2,rt]),(.tup [z0,z3,rt])],.list [z0,z1,z2],.dict .tup [(ta,z0),(tb,z1),(tc,z2),(tf,z3),((.tup [se,z0]),z4),((.tup [sp,z0,z0,z0]),z5)],.dict .int [(z0,(.ref 42)),(z4,(.ref 47)),(z5,(.ref 52))],ln,ln,lz,lz,.list [z0,z1,z2,z3],.list [z3],ln,lz,lz,.list [z1],ln,ln,lz,lz,.list [z2],ln,.list [z0,z1,z2,z3],ln,lz,.list [z1,z0],.list [z3],ln,.list [z0,z1],.list [z3],.list [z0,z2],.list [z3],.list [z0,z3],.list [z3,z4,z5],ln,lz,.list [z2,z0],.list [z4],ln,ln,lz,.list [z1,z2,z1,z0],.list [z5],ln,.inst 1 [(38,(.ref 1)),(39,(.tup [z6,z3,z0])),(25,(.ref 55))],dn,.dict .tup kvs],
  fun kvs => [.inst 3 [(21,(.ref 2)),(22,(.ref 7)),(23,(.ref 11)),(24,(.ref 12)),(25,(.ref 13)),(13,(.ref 14)),(26,(.ref 15)),(27,z0)],.inst 0 [(2,(.ref 3)),(4,(.ref 4)),(5,(.ref 5)),(6,(.ref 6))],.list [ta,tb,tc,tf,(.tup [se,z3]),(.tup [sp,z0,z3,z0]),td],.dict .tup [(ta,z0),(tb,z1),(tc,z2),(tf,z3),((.tup [se,z3]),z4),((.tup [sp,z0,z3,z0]),z5),(td,z6)],.list [z1,z1,z1,z2,z3,z5,z1],.list [z1,z1,z1,z2,z3,z3,z1],.inst 2 [(13,(.ref 8)),(14,(.ref 9)),(15,(.ref 10))],.list [z0,z0,z0,z0,z4,z5,z6],.list [(.ref 19),(.ref 24),(.ref 29),(.ref 35),(.ref 46),(.ref 51),(.ref 59)],.list [(.tup [z0,z1]),(.tup [z0,z2]),(.tup [z0,z3])],.list [(.tup [z0,z1,rt]),(.tup [z0,z2,rt]),(.tup [z0,z3,rt])],.list [z0,z1,z2],.dict .tup [(ta,z0),(tb,z1),(tc,z2),(tf,z3),((.tup [se,z0]),z4),((.tup [sp,z0,z0,z0]),z5),(td,z6)],.dict .int [(z0,(.ref 42)),(z4,(.ref 47)),(z5,(.ref 52)),(z6,(.ref 60))],ln,ln,lz,lz,.list [z0,z1,z2,z3],.list [z3],ln,lz,lz,.list [z1],ln,ln,lz,lz,.list [z2],ln,.list [z0,z1,z2,z3],ln,lz,.list [z1,z0],.list [z3],ln,.list [z0,z1],.list [z3],.list [z0,z2],.list [z3],.list [z0,z3],.list [z3,z4,z5],ln,lz,.list [z2,z0],.list [z4],ln,ln,lz,.list [z1,z2,z1,z0],.list [z5],ln,.inst 1 [(38,(.ref 1)),(39,(.tup [z7,z3,z0])),(25,(.ref 61))],dn,.dict .tup kvs,ln,lz,lz,.list [z6],ln,.dict .tup [((.tup [(.tup [z6]),z1]),z1),((.tup [(.tup [z0]),z1]),z3)]],
  fun v kvs => [.inst 3 [(21,(.ref 2)),(22,(.ref 7)),(23,(.ref 11)),(24,(.ref 12)),(25,(.ref 13)),(13,(.ref 14)),(26,(.ref 15)),(27,z0)],.inst 0 [(2,(.ref 3)),(4,(.ref 4)),(5,(.ref 5)),(6,(.ref 6))],.list [ta,tb,tc,tf,(.tup [se,z3]),(.tup [sp,z0,z3,z0]),td],.dict .tup [(ta,z0),(tb,z1),(tc,z2),(tf,z3),((.tup [se,z3]),z4),((.tup [sp,z0,z3,z0]),z5),(td,z6)],.list [z1,z1,z1,z2,z3,z5,z1],.list [z1,z1,z1,z2,z3,z3,z1],.inst 2 [(13,(.ref 8)),(14,(.ref 9)),(15,(.ref 10))],.list [z0,z0,z0,z0,z4,z5,z0],.list [(.ref 19),(.ref 24),(.ref 29),(.ref 35),(.ref 46),(.ref 51),(.ref 59)],.list [(.tup [z0,z1]),(.tup [z0,z2]),(.tup [z0,z3]),(.tup [z0,z6])],.list [(.tup [z0,z1,rt]),(.tup [z0,z2,rt]),(.tup [z0,z3,rt]),(.tup [z6,v,ru])],.list [z0,z1,z2,z3],.dict .tup [(ta,z0),(tb,z1),(tc,z2),(tf,z3),((.tup [se,z0]),z4),((.tup [sp,z0,z0,z0]),z5),(td,z6)],.dict .int [(z0,(.ref 63)),(z4,(.ref 47)),(z5,(.ref 52))],ln,ln,lz,lz,.list [z0,z1,z2,z3,z6],.list [z3],ln,lz,lz,.list [z1],ln,ln,lz,lz,.list [z2],ln,.list [z0,z1,z2,z3],ln,lz,.list [z1,z0],.list [z3],ln,.list [z0,z1],.list [z3],.list [z0,z2],.list [z3],.list [z0,z3],.list [z3,z4,z5],ln,lz,.list [z2,z0],.list [z4],ln,ln,lz,.list [z1,z2,z1,z0],.list [z5],ln,.inst 1 [(38,(.ref 1)),(39,(.tup [z7,z3,z0])),(25,(.ref 61))],dn,.dict .tup kvs,ln,lz,lz,.list [z6],ln,.dict .tup [((.tup [(.tup [z6]),z1]),z1),((.tup [(.tup [z0]),z1]),z3)],.list [z6,z0],.list [z3,z4,z5]],
  fun v kvs => [.inst 3 [(21,(.ref 2)),(22,(.ref 7)),(23,(.ref 11)),(24,(.ref 12)),(25,(.ref 13)),(13,(.ref 14)),(26,(.ref 15)),(27,z0)],.inst 0 [(2,(.ref 3)),(4,(.ref 4)),(5,(.ref 5)),(6,(.ref 6))],.list [ta,tb,tc,tf,(.tup [se,z3]),(.tup [sp,z0,z3,z0]),td],.dict .tup [(ta,z0),(tb,z1),(tc,z2),(tf,z3),((.tup [se,z3]),z4),((.tup [sp,z0,z3,z0]),z5),(td,z6)],.list [z1,z1,z1,z2,z3,z5,z1],.list [z1,z1,z1,z2,z3,z3,z1],.inst 2 [(13,(.ref 8)),(14,(.ref 9)),(15,(.ref 10))],.list [z0,z0,z0,z0,z4,z5,z0],.list [(.ref 19),(.ref 24),(.ref 29),(.ref 35),(.ref 46),(.ref 51),(.ref 59)],.list [(.tup [z0,z1]),(.tup [z0,z2]),(.tup [z0,z3]),(.tup [z0,z6])],.list [(.tup [z0,z1,rt]),(.tup [z0,z2,rt]),(.tup [z0,z3,rt]),(.tup [z6,v,ru])],.list [z0,z1,z2,z3],.dict .tup [(ta,z0),(tb,z1),(tc,z2),(tf,z3),((.tup [se,z0]),z4),((.tup [sp,z0,z0,z0]),z5),(td,z6)],.dict .int [(z0,(.ref 63)),(z4,(.ref 47)),(z5,(.ref 52))],ln,ln,lz,lz,.list [z0,z1,z2,z3,z6],.list [z3],ln,lz,lz,.list [z1],ln,ln,lz,lz,.list [z2],ln,.list [z0,z1,z2,z3],ln,lz,.list [z1,z0],.list [z3],ln,.list [z0,z1],.list [z3],.list [z0,z2],.list [z3],.list [z0,z3],.list [z3,z4,z5],ln,lz,.list [z2,z0],.list [z4],ln,ln,lz,.list [z1,z2,z1,z0],.list [z5],ln,.inst 1 [(38,(.ref 1)),(39,(.tup [z7,z3,z0])),(25,(.ref 61))],dn,.dict .tup kvs,ln,lz,lz,.list [z6],ln,.dict .tup [((.tup [(.tup [z6]),z1]),z1),((.tup [(.tup [z0]),z1]),z3)],.list [z6,z0],.list [z3,z4,z5]],
  fun v kvs kvs' => [.inst 3 [(21,(.ref 2)),(22,(.ref 7)),(23,(.ref 11)),(24,(.ref 12)),(25,(.ref 13)),(13,(.ref 14)),(26,(.ref 15)),(27,z0)],.inst 0 [(2,(.ref 3)),(4,(.ref 4)),(5,(.ref 5)),(6,(.ref 6))],.list [ta,tb,tc,tf,(.tup [se,z3]),(.tup [sp,z0,z3,z0]),td],.dict .tup [(ta,z0),(tb,z1),(tc,z2),(tf,z3),((.tup [se,z3]),z4),((.tup [sp,z0,z3,z0]),z5),(td,z6)],.list [z1,z1,z1,z2,z3,z5,z1],.list [z1,z1,z1,z2,z3,z3,z1],.inst 2 [(13,(.ref 8)),(14,(.ref 9)),(15,(.ref 10))],.list [z0,z0,z0,z0,z4,z5,z0],.list [(.ref 19),(.ref 24),(.ref 29),(.ref 35),(.ref 46),(.ref 51),(.ref 59)],.list [(.tup [z0,z1]),(.tup [z0,z2]),(.tup [z0,z3]),(.tup [z0,z6])],.list [(.tup [z0,z1,rt]),(.tup [z0,z2,rt]),(.tup [z0,z3,rt]),(.tup [z6,v,ru])],.list [z0,z1,z2,z3],.dict .tup [(ta,z0),(tb,z1),(tc,z2),(tf,z3),((.tup [se,z0]),z4),((.tup [sp,z0,z0,z0]),z5),(td,z6)],.dict .int [(z0,(.ref 63)),(z4,(.ref 47)),(z5,(.ref 52))],ln,ln,lz,lz,.list [z0,z1,z2,z3,z6],.list [z3],ln,lz,lz,.list [z1],ln,ln,lz,lz,.list [z2],ln,.list [z0,z1,z2,z3],ln,lz,.list [z1,z0],.list [z3],ln,.list [z0,z1],.list [z3],.list [z0,z2],.list [z3],.list [z0,z3],.list [z3,z4,z5],ln,lz,.list [z2,z0],.list [z4],ln,ln,lz,.list [z1,z2,z1,z0],.list [z5],ln,.inst 1 [(38,(.ref 1)),(39,(.tup [z7,z4,z0])),(25,(.ref 64))],dn,.dict .tup kvs,ln,lz,lz,.list [z6],ln,.dict .tup [((.tup [(.tup [z6]),z1]),z1),((.tup [(.tup [z0]),z1]),z3)],.list [z6,z0],.list [z3,z4,z5],.dict .tup kvs']⟩
theorem D31_c1 (h : Mine.O) : Cnt 53 55 3 1 4 (fun kvs => h :: D31.R1 kvs) :=
  { hL := by decide, hO := by decide, hn := by decide
    get := ⟨_, fun kvs => rfl⟩, heap := ⟨_, _, _, _, _, _, _, fun kvs => rfl⟩, dict := fun kvs => rfl, set := fun kvs kvs' => rfl
    ren := fun kvs s hs => ren_of hs (fr' := [(39, (.tup [(.int 6), (.int 3), (.int 0)])), (3, .ref 53), (28, .int s)]) (by kernel_rfl)
    nodesC := ⟨[.tup [.str [97]], .tup [.str [98]], .tup [.str [99]], .tup [.str [102], .int 0]], fun v hv => by simp only [List.mem_cons, List.not_mem_nil, or_false] at hv; rcases hv with rfl | rfl | rfl | rfl <;> first | exact Or.inl ⟨_, rfl⟩ | exact Or.inr ⟨_, rfl⟩, fun a b => by show (a + (a + (a + (b + (0)))) : Int) = 3 * a + 1 * b; omega, by decide, fun kvs => by kernel_rfl⟩
    nodesE := fun kvs => by kernel_rfl, nodesP := fun kvs => by kernel_rfl, findE := fun kvs => by kernel_rfl, findP := fun kvs => by kernel_rfl }
theorem D31_c2 (h : Mine.O) (v : V) (kvs0 : List (V × V)) : Cnt 53 64 4 1 4 (fun kvs' => h :: D31.R5 v kvs0 kvs') :=
  { hL := by decide, hO := by decide, hn := by decide
    get := ⟨_, fun kvs => rfl⟩, heap := ⟨_, _, _, _, _, _, _, fun kvs => rfl⟩, dict := fun kvs => rfl, set := fun kvs kvs' => rfl
    ren := fun kvs s hs => ren_of hs (fr' := [(39, (.tup [(.int 7), (.int 4), (.int 0)])), (3, .ref 53), (28, .int s)]) (by kernel_rfl)
    nodesC := ⟨[.tup [.str [97]], .tup [.str [98]], .tup [.str [99]], .tup [.str [100]], .tup [.str [102], .int 0]], fun v hv => by simp only [List.mem_cons, List.not_mem_nil, or_false] at hv; rcases hv with rfl | rfl | rfl | rfl | rfl <;> first | exact Or.inl ⟨_, rfl⟩ | exact Or.inr ⟨_, rfl⟩, fun a b => by show (a + (a + (a + (a + (b + (0))))) : Int) = 4 * a + 1 * b; omega, by decide, fun kvs => by kernel_rfl⟩
    nodesE := fun kvs => by kernel_rfl, nodesP := fun kvs => by kernel_rfl, findE := fun kvs => by kernel_rfl, findP := fun kvs => by kernel_rfl }
theorem D31_t1 : Three 3 1 := three_of (fun _ => by kernel_rfl) (fun _ => by kernel_rfl) (fun _ => by kernel_rfl) (fun _ => by kernel_rfl)
theorem D31_t2 : Three 4 1 := three_of (fun _ => by kernel_rfl) (fun _ => by kernel_rfl) (fun _ => by kernel_rfl) (fun _ => by kernel_rfl)
theorem D31_ok : D31.Ok where
  hL := by decide
  hO := by decide
  mid := fun h scr far => by kernel_rfl
  len1 := fun h scr far => by kernel_rfl
  mem1 := fun h v (hv : v < 4) => by rcases (show v = 0 ∨ v = 1 ∨ v = 2 ∨ v = 3 by omega) with rfl | rfl | rfl | rfl <;> kernel_rfl
  cnt1 := D31_c1
  ren1 := fun h s => ⟨[(39, (.tup [(.int 6), (.int 3), (.int 0)])), (3, .ref 53), (28, .int s)], by kernel_rfl⟩
  get1 := fun h => ⟨_, _, rfl⟩
  find1 := fun h kvs v (hv : v < 4) => by rcases (show v = 0 ∨ v = 1 ∨ v = 2 ∨ v = 3 by omega) with rfl | rfl | rfl | rfl <;> kernel_rfl
  three1 := D31_t1
  mid2 := fun h kvs scr far over => by kernel_rfl
  len2 := fun h kvs scr far over => by kernel_rfl
  mem2 := fun h kvs v (hv : v < 4) => by rcases (show v = 0 ∨ v = 1 ∨ v = 2 ∨ v = 3 by omega) with rfl | rfl | rfl | rfl <;> kernel_rfl
  merge := fun h kvs v (hv : v < 4) => by rcases (show v = 0 ∨ v = 1 ∨ v = 2 ∨ v = 3 by omega) with rfl | rfl | rfl | rfl <;> kernel_rfl
  inst2 := fun h kvs => ⟨_, _, _, _, _, _, _, rfl⟩
  settle := fun h v kvs scr far over => by kernel_rfl
  cnt2 := D31_c2
  ren2 := fun h v kvs s => ⟨[(39, (.tup [(.int 7), (.int 4), (.int 0)])), (3, .ref 53), (28, .int s)], by kernel_rfl⟩
  get2 := fun h v kvs => ⟨_, _, rfl⟩
  find2 := fun h v kvs kvs' => by kernel_rfl
  three2 := D31_t2
noncomputable def D32 : Dat := ⟨3,2,60,62,71,31,
  [.inst 3 [(21,(.ref 2)),(22,(.ref 7)),(23,(.ref 11)),(24,(.ref 12)),(25,(.ref 13)),(13,(.ref 14)),(26,(.ref 15)),(27,z0)],.inst 0 [(2,(.ref 3)),(4,(.ref 4)),(5,(.ref 5)),(6,(.ref 6))],.list [ta,tb,tc,tf,th,(.tup [se,z4]),(.tup [sp,z0,z4,z0])],.dict .tup [(ta,z0),(tb,z1),(tc,z2),(tf,z3),(th,z4),((.tup [se,z4]),z5),((.tup [sp,z0,z4,z0]),z6)],.list [z1,z1,z1,z2,z2,z3,z5],.list [z1,z1,z1,z2,z2,z3,z3],.inst 2 [(13,(.ref 8)),(14,(.ref 9)),(15,(.ref 10))],.list [z0,z0,z0,z0,z0,z5,z6],.list [(.ref 19),(.ref 24),(.ref 29),(.ref 35),(.ref 40),(.ref 53),(.ref 58)],.list [(.tup [z0,z1]),(.tup [z0,z2]),(.tup [z0,z3]),(.tup [z0,z4])],.list [(.tup [z0,z1,rt]),(.tup [z0,z2,rt]),(.tup [z0,z3,rt]),(.tup [z0,z4,rt])],.list [z0,z1,z2,z3],.dict .tup [(ta,z0),(tb,z1),(tc,z2),(tf,z3),(th,z4),((.tup [se,z0]),z5),((.tup [sp,z0,z0,z0]),z6)],.dict .int [(z0,(.ref 49)),(z5,(.ref 54)),(z6,(.ref 59))],ln,ln,lz,lz,.list [z0,z1,z2,z3,z4],.list [z3,z4],ln,lz,lz,.list [z1],ln,ln,lz,lz,.list [z2],ln,.list [z0,z1,z2,z3,z4],ln,lz,.list [z1,z0],.list [z3],ln,ln,lz,.list [z1,z0],.list [z4],ln,.list [z0,z1],.list [z3,z4],.list [z0,z2],.list [z3,z4],.list [z0,z3],.list [z3,z4],.list [z0,z4],.list [z3,z4,z5,z6],ln,lz,.list [z2,z0],.list [z5],ln,ln,lz,.list [z1,z2,z1,z0],.list [z6],ln,.inst 1 [(38,(.ref 1)),(39,.none),(25,(.ref 61))],dn],
  fun kvs => [.inst 3 [(21,(.ref 2)),(22,(.ref 7)),(23,(.ref 11)),(24,(.ref 12)),(25,(.ref 13)),(13,(.ref 14)),(26,(.ref 15)),(27,z0)],.inst 0 [(2,(.ref 3)),(4,(.ref 4)),(5,(.ref 5)),(6,(.ref 6))],.list [ta,tb,tc,tf,th,(.tup [se,z4]),(.tup [sp,z0,z4,z0])],.dict .tup [(ta,z0),(tb,z1),(tc,z2),(tf,z3),(th,z4),((.tup [se,z4]),z5),((.tup [sp,z0,z4,z0]),z6)],.list [z1,z1,z1,z2,z2,z3,z5],.list [z1,z1,z1,z2,z2,z3,z3],.inst 2 [(13,(.ref 8)),(14,(.ref 9)),(15,(.ref 10))],.list [z0,z0,z0,z0,z0,z5,z6],.list [(.ref 19),(.ref 24),(.ref 29),(.ref 35),(.ref 40),(.ref 53),(.ref 58)],.list [(.tup [z0,z1]),(.tup [z0,z2]),(.tup [z0,z3]),(.tup [z0,z4])],.list [(.tup [z0,z1,rt]),(.tup [z0,z2,rt]),(.tup [z0,z3,rt]),(.tup [z0,z4,rt])],.list [z0,z1,z2,z3],.dict .tup [(ta,z0),(tb,z1),(tc,z2),(tf,z3),(th,z4),((.tup [se,z0]),z5),((.tup [sp,z0,z0,z0]),z6)],.dict .int [(z0,(.ref 49)),(z5,(.ref 54)),(z6,(.ref 59))],ln,ln,lz,lz,.list [z0,z1,z2,z3,z4],.list [z3,z4],ln,lz,lz,.list [z1],ln,ln,lz,lz,.list [z2],ln,.list [z0,z1,z2,z3,z4],ln,lz,.list [z1,z0],.list [z3],ln,ln,lz,.list [z1,z0],.list [z4],ln,.list [z0,z1],.list [z3,z4],.list [z0,z2],.list [z3,z4],.list [z0,z3],.list [z3,z4],.list [z0,z4],.list [z3,z4,z5,z6],ln,lz,.list [z2,z0],.list [z5],ln,ln,lz,.list [z1,z2,z1,z0],.list [z6],ln,.inst 1 [(38,(.ref 1)),(39,(.tup [z7,z4,z0])),(25,(.ref 62))],dn,.dict .tup kvs],
  fun kvs => [.inst 3 [(21,(.ref 2)),(22,(.ref 7)),(23,(.ref 11)),(24,(.ref 12)),(25,(.ref 13)),(13,(.ref 14)),(26,(.ref 15)),(27,z0)],.inst 0 [(2,(.ref 3)),(4,(.ref 4)),(5,(.ref 5)),(6,(.ref 6))],.list [ta,tb,tc,tf,th,(.tup [se,z4]),(.tup [sp,z0,z4,z0]),td],.dict .tup [(ta,z0),(tb,z1),(tc,z2),(tf,z3),(th,z4),((.tup [se,z4]),z5),((.tup [sp,z0,z4,z0]),z6),(td,z7)],.list [z1,z1,z1,z2,z2,z3,z5,z1],.list [z1,z1,z1,z2,z2,z3,z3,z1],.inst 2 [(13,(.ref 8)),(14,(.ref 9)),(15,(.ref 10))],.list [z0,z0,z0,z0,z0,z5,z6,z7],.list [(.ref 19),(.ref 24),(.ref 29),(.ref 35),(.ref 40),(.ref 53),(.ref 58),(.ref 66)],.list [(.tup [z0,z1]),(.tup [z0,z2]),(.tup [z0,z3]),(.tup [z0,z4])],.list [(.tup [z0,z1,rt]),(.tup [z0,z2,rt]),(.tup [z0,z3,rt]),(.tup [z0,z4,rt])],.list [z0,z1,z2,z3],.dict .tup [(ta,z0),(tb,z1),(tc,z2),(tf,z3),(th,z4),((.tup [se,z0]),z5),((.tup [sp,z0,z0,z0]),z6),(td,z7)],.dict .int [(z0,(.ref 49)),(z5,(.ref 54)),(z6,(.ref 59)),(z7,(.ref 67))],ln,ln,lz,lz,.list [z0,z1,z2,z3,z4],.list [z3,z4],ln,lz,lz,.list [z1],ln,ln,lz,lz,.list [z2],ln,.list [z0,z1,z2,z3,z4],ln,lz,.list [z1,z0],.list [z3],ln,ln,lz,.list [z1,z0],.list [z4],ln,.list [z0,z1],.list [z3,z4],.list [z0,z2],.list [z3,z4],.list [z0,z3],.list [z3,z4],.list [z0,z4],.list [z3,z4,z5,z6],ln,lz,.list [z2,z0],.list [z5],ln,ln,lz,.list [z1,z2,z1,z0],.list [z6],ln,.inst 1 [(38,(.ref 1)),(39,(.tup [z8,z4,z0])),(25,(.ref 68))],dn,.dict .tup kvs,ln,lz,lz,.list [z7],ln,.dict .tup [((.tup [(.tup [z7]),z1]),z1),((.tup [(.tup [z0]),z1]),z3)]],
  fun v kvs => [.inst 3 [(21,(.ref 2)),(22,(.ref 7)),(23,(.ref 11)),(24,(.ref 12)),(25,(.ref 13)),(13,(.ref 14)),(26,(.ref 15)),(27,z0)],.inst 0 [(2,(.ref 3)),(4,(.ref 4)),(5,(.ref 5)),(6,(.ref 6))],.list [ta,tb,tc,tf,th,(.tup [se,z4]),(.tup [sp,z0,z4,z0]),td],.dict .tup [(ta,z0),(tb,z1),(tc,z2),(tf,z3),(th,z4),((.tup [se,z4]),z5),((.tup [sp,z0,z4,z0]),z6),(td,z7)],.list [z1,z1,z1,z2,z2,z3,z5,z1],.list [z1,z1,z1,z2,z2,z3,z3,z1],.inst 2 [(13,(.ref 8)),(14,(.ref 9)),(15,(.ref 10))],.list [z0,z0,z0,z0,z0,z5,z6,z0],.list [(.ref 19),(.ref 24),(.ref 29),(.ref 35),(.ref 40),(.ref 53),(.ref 58),(.ref 66)],.list [(.tup [z0,z1]),(.tup [z0,z2]),(.tup [z0,z3]),(.tup [z0,z4]),(.tup [z0,z7])],.list [(.tup [z0,z1,rt]),(.tup [z0,z2,rt]),(.tup [z0,z3,rt]),(.tup [z0,z4,rt]),(.tup [z7,v,ru])],.list [z0,z1,z2,z3,z4],.dict .tup [(ta,z0),(tb,z1),(tc,z2),(tf,z3),(th,z4),((.tup [se,z0]),z5),((.tup [sp,z0,z0,z0]),z6),(td,z7)],.dict .int [(z0,(.ref 70)),(z5,(.ref 54)),(z6,(.ref 59))],ln,ln,lz,lz,.list [z0,z1,z2,z3,z4,z7],.list [z3,z4],ln,lz,lz,.list [z1],ln,ln,lz,lz,.list [z2],ln,.list [z0,z1,z2,z3,z4],ln,lz,.list [z1,z0],.list [z3],ln,ln,lz,.list [z1,z0],.list [z4],ln,.list [z0,z1],.list [z3,z4],.list [z0,z2],.list [z3,z4],.list [z0,z3],.list [z3,z4],.list [z0,z4],.list [z3,z4,z5,z6],ln,lz,.list [z2,z0],.list [z5],ln,ln,lz,.list [z1,z2,z1,z0],.list [z6],ln,.inst 1 [(38,(.ref 1)),(39,(.tup [z8,z4,z0])),(25,(.ref 68))],dn,.dict .tup kvs,ln,lz,lz,.list [z7],ln,.dict .tup [((.tup [(.tup [z7]),z1]),z1),((.tup [(.tup [z0]),z1]),z3)],.list [z7,z0],.list [z3,z4,z5,z6]],
  fun v kvs => [.inst 3 [(21,(.ref 2)),(22,(.ref 7)),(23,(.ref 11)),(24,(.ref 12)),(25,(.ref 13)),(13,(.ref 14)),(26,(.ref 15)),(27,z0)],.inst 0 [(2,(.ref 3)),(4,(.ref 4)),(5,(.ref 5)),(6,(.ref 6))],.list [ta,tb,tc,tf,th,(.tup [se,z4]),(.tup [sp,z0,z4,z0]),td],.dict .tup [(ta,z0),(tb,z1),(tc,z2),(tf,z3),(th,z4),((.tup [se,z4]),z5),((.tup [sp,z0,z4,z0]),z6),(td,z7)],.list [z1,z1,z1,z2,z2,z3,z5,z1],.list [z1,z1,z1,z2,z2,z3,z3,z1],.inst 2 [(13,(.ref 8)),(14,(.ref 9)),(15,(.ref 10))],.list [z0,z0,z0,z0,z0,z5,z6,z0],.list [(.ref 19),(.ref 24),(.ref 29),(.ref 35),(.ref 40),(.ref 53),(.ref 58),(.ref 66)],.list [(.tup [z0,z1]),(.tup [z0,z2]),(.tup [z0,z3]),(.tup [z0,z4]),(.tup [z0,z7])],.list [(.tup [z0,z1,rt]),(.tup [z0,z2,rt]),(.tup [z0,z3,rt]),(.tup [z0,z4,rt]),(.tup [z7,v,ru])],.list [z0,z1,z2,z3,z4],.dict .tup [(ta,z0),(tb,z1),(tc,z2),(tf,z3),(th,z4),((.tup [se,z0]),z5),((.tup [sp,z0,z0,z0]),z6),(td,z7)],.dict .int [(z0,(.ref 70)),(z5,(.ref 54)),(z6,(.ref 59))],ln,ln,lz,lz,.list [z0,z1,z2,z3,z4,z7],.list [z3,z4],ln,lz,lz,.list [z1],ln,ln,lz,lz,.list [z2],ln,.list [z0,z1,z2,z3,z4],ln,lz,.list [z1,z0],.list [z3],ln,ln,lz,.list [z1,z0],.list [z4],ln,.list [z0,z1],.list [z3,z4],.list [z0,z2],.list [z3,z4],.list [z0,z3],.list [z3,z4],.list [z0,z4],.list [z3,z4,z5,z6],ln,lz,.list [z2,z0],.list [z5],ln,ln,lz,.list [z1,z2,z1,z0],.list [z6],ln,.inst 1 [(38,(.ref 1)),(39,(.tup [z8,z4,z0])),(25,(.ref 68))],dn,.dict .tup kvs,ln,lz,lz,.list [z7],ln,.dict .tup [((.tup [(.tup [z7]),z1]),z1),((.tup [(.tup [z0]),z1]),z3)],.list [z7,z0],.list [z3,z4,z5,z6]],
  fun v kvs kvs' => [.inst 3 [(21,(.ref 2)),(22,(.ref 7)),(23,(.ref 11)),(24,(.ref 12)),(25,(.ref 13)),(13,(.ref 14)),(26,(.ref 15)),(27,z0)],.inst 0 [(2,(.ref 3)),(4,(.ref 4)),(5,(.ref 5)),(6,(.ref 6))],.list [ta,tb,tc,tf,th,(.tup [se,z4]),(.tup [sp,z0,z4,z0]),td],.dict .tup [(ta,z0),(tb,z1),(tc,z2),(tf,z3),(th,z4),((.tup [se,z4]),z5),((.tup [sp,z0,z4,z0]),z6),(td,z7)],.list [z1,z1,z1,z2,z2,z3,z5,z1],.list [z1,z1,z1,z2,z2,z3,z3,z1],.inst 2 [(13,(.ref 8)),(14,(.ref 9)),(15,(.ref 10))],.list [z0,z0,z0,z0,z0,z5,z6,z0],.list [(.ref 19),(.ref 24),(.ref 29),(.ref 35),(.ref 40),(.ref 53),(.ref 58),(.ref 66)],.list [(.tup [z0,z1]),(.tup [z0,z2]),(.tup [z0,z3]),(.tup [z0,z4]),(.tup [z0,z7])],.list [(.tup [z0,z1,rt]),(.tup [z0,z2,rt]),(.tup [z0,z3,rt]),(.tup [z0,z4,rt]),(.tup [z7,v,ru])],.list [z0,z1,z2,z3,z4],.dict .tup [(ta,z0),(tb,z1),(tc,z2),(tf,z3),(th,z4),((.tup [se,z0]),z5),((.tup [sp,z0,z0,z0]),z6),(td,z7)],.dict .int [(z0,(.ref 70)),(z5,(.ref 54)),(z6,(.ref 59))],ln,ln,lz,lz,.list [z0,z1,z2,z3,z4,z7],.list [z3,z4],ln,lz,lz,.list [z1],ln,ln,lz,lz,.list [z2],ln,.list [z0,z1,z2,z3,z4],ln,lz,.list [z1,z0],.list [z3],ln,ln,lz,.list [z1,z0],.list [z4],ln,.list [z0,z1],.list [z3,z4],.list [z0,z2],.list [z3,z4],.list [z0,z3],.list [z3,z4],.list [z0,z4],.list [z3,z4,z5,z6],ln,lz,.list [z2,z0],.list [z5],ln,ln,lz,.list [z1,z2,z1,z0],.list [z6],ln,.inst 1 [(38,(.ref 1)),(39,(.tup [z8,z5,z0])),(25,(.ref 71))],dn,.dict .tup kvs,ln,lz,lz,.list [z7],ln,.dict .tup [((.tup [(.tup [z7]),z1]),z1),((.tup [(.tup [z0]),z1]),z3)],.list [z7,z0],.list [z3,z4,z5,z6],.dict .tup kvs']⟩
theorem D32_c1 (h : Mine.O) : Cnt 60 62 3 2 5 (fun kvs => h :: D32.R1 kvs) :=
  { hL := by decide, hO := by decide, hn := by decide
    get := ⟨_, fun kvs => rfl⟩, heap := ⟨_, _, _, _, _, _, _, fun kvs => rfl⟩, dict := fun kvs => rfl, set := fun kvs kvs' => rfl
    ren := fun kvs s hs => ren_of hs (fr' := [(39, (.tup [(.int 7), (.int 4), (.int 0)])), (3, .ref 60), (28, .int s)]) (by kernel_rfl)
    nodesC := ⟨[.tup [.str [97]], .tup [.str [98]], .tup [.str [99]], .tup [.str [102], .int 0], .tup [.str [104], .int 0]], fun v hv => by simp only [List.mem_cons, List.not_mem_nil, or_false] at hv; rcases hv with rfl | rfl | rfl | rfl | rfl <;> first | exact Or.inl ⟨_, rfl⟩ | exact Or.inr ⟨_, rfl⟩, fun a b => by show (a + (a + (a + (b + (b + (0))))) : Int) = 3 * a + 2 * b; omega, by decide, fun kvs => by kernel_rfl⟩
    nodesE := fun kvs => by kernel_rfl, nodesP := fun kvs => by kernel_rfl, findE := fun kvs => by kernel_rfl, findP := fun kvs => by kernel_rfl }
theorem D32_c2 (h : Mine.O) (v : V) (kvs0 : List (V × V)) : Cnt 60 71 4 2 5 (fun kvs' => h :: D32.R5 v kvs0 kvs') :=
  { hL := by decide, hO := by decide, hn := by decide
    get := ⟨_, fun kvs => rfl⟩, heap := ⟨_, _, _, _, _, _, _, fun kvs => rfl⟩, dict := fun kvs => rfl, set := fun kvs kvs' => rfl
    ren := fun kvs s hs => ren_of hs (fr' := [(39, (.tup [(.int 8), (.int 5), (.int 0)])), (3, .ref 60), (28, .int s)]) (by kernel_rfl)
    nodesC := ⟨[.tup [.str [97]], .tup [.str [98]], .tup [.str [99]], .tup [.str [100]], .tup [.str [102], .int 0], .tup [.str [104], .int 0]], fun v hv => by simp only [List.mem_cons, List.not_mem_nil, or_false] at hv; rcases hv with rfl | rfl | rfl | rfl | rfl | rfl <;> first | exact Or.inl ⟨_, rfl⟩ | exact Or.inr ⟨_, rfl⟩, fun a b => by show (a + (a + (a + (a + (b + (b + (0)))))) : Int) = 4 * a + 2 * b; omega, by decide, fun kvs => by kernel_rfl⟩
    nodesE := fun kvs => by kernel_rfl, nodesP := fun kvs => by kernel_rfl, findE := fun kvs => by kernel_rfl, findP := fun kvs => by kernel_rfl }
theorem D32_t1 : Three 3 2 := three_of (fun _ => by kernel_rfl) (fun _ => by kernel_rfl) (fun _ => by kernel_rfl) (fun _ => by kernel_rfl)
theorem D32_t2 : Three 4 2 := three_of (fun _ => by kernel_rfl) (fun _ => by kernel_rfl) (fun _ => by kernel_rfl) (fun _ => by kernel_rfl)
theorem D32_ok : D32.Ok where
  hL := by decide
  hO := by decide
  mid := fun h scr far => by kernel_rfl
  len1 := fun h scr far => by kernel_rfl
  mem1 := fun h v (hv : v < 5) => by rcases (show v = 0 ∨ v = 1 ∨ v = 2 ∨ v = 3 ∨ v = 4 by omega) with rfl | rfl | rfl | rfl | rfl <;> kernel_rfl
  cnt1 := D32_c1
  ren1 := fun h s => ⟨[(39, (.tup [(.int 7), (.int 4), (.int 0)])), (3, .ref 60), (28, .int s)], by kernel_rfl⟩
  get1 := fun h => ⟨_, _, rfl⟩
  find1 := fun h kvs v (hv : v < 5) => by rcases (show v = 0 ∨ v = 1 ∨ v = 2 ∨ v = 3 ∨ v = 4 by omega) with rfl | rfl | rfl | rfl | rfl <;> kernel_rfl
  three1 := D32_t1
  mid2 := fun h kvs scr far over => by kernel_rfl
  len2 := fun h kvs scr far over => by kernel_rfl
  mem2 := fun h kvs v (hv : v < 5) => by rcases (show v = 0 ∨ v = 1 ∨ v = 2 ∨ v = 3 ∨ v = 4 by omega) with rfl | rfl | rfl | rfl | rfl <;> kernel_rfl
  merge := fun h kvs v (hv : v < 5) => by rcases (show v = 0 ∨ v = 1 ∨ v = 2 ∨ v = 3 ∨ v = 4 by omega) with rfl | rfl | rfl | rfl | rfl <;> kernel_rfl
  inst2 := fun h kvs => ⟨_, _, _, _, _, _, _, rfl⟩
  settle := fun h v kvs scr far over => by kernel_rfl
  cnt2 := D32_c2
  ren2 := fun h v kvs s => ⟨[(39, (.tup [(.int 8), (.int 5), (.int 0)])), (3, .ref 60), (28, .int s)], by kernel_rfl⟩
  get2 := fun h v kvs => ⟨_, _, rfl⟩
  find2 := fun h v kvs kvs' => by kernel_rfl
  three2 := D32_t2
end Mine
/-! C14 -/
namespace Mine
open PySem
theorem hand_ok {is : List Int} (hl : is.length ≤ 1000) : ∃ (js : List Int) (st : Int), js.length ≤ 1000 ∧ g_hand [.list (is.map .int)] [] = .ok (.ref 0) [hd (js.map .int) 0 st] := by
  have hu : eIter (eUpto 50 (eVar 53)) [(53, .list (is.map .int))] [] = .ok ((is.map V.int).take 50) [] := by
    have hz : szOk (is.map V.int).length = true := decide_eq_true (by rw [List.length_map]; lia)
    simp only [eIter, eUpto, ME.bind, var_eval (i := 53) (v := .list (is.map .int)) (fr := [(53, .list (is.map .int))]) (σ := []) rfl, andThen_ok, uptoM, V.tupl?, items?, Option.bind_some, hz, if_true, ofOpt_some]; rfl
  obtain ⟨σ', rfl, hc⟩ := compM_ints (I := fun σ => σ = []) (t := tName 52) (elt := eBin .Mod (eBlt .abs [(eVar 52)]) (ME.pure (.int 1000003))) (frc := []) (fun v => (if vi v < 0 then -vi v else vi v).fmod 1000003) ((is.map V.int).take 50) [] [] rfl
    (by rw [List.length_take]; simp; lia) fun v hm => by
      obtain ⟨i, _, rfl⟩ := List.mem_map.mp (List.mem_of_mem_take hm)
      exact ⟨_, rfl, fun σ e => ⟨σ, e, rfl⟩⟩
  have hm : ∀ l : List V, (l.map fun v => V.int ((if vi v < 0 then -vi v else vi v).fmod 1000003)) = (l.map fun v => (if vi v < 0 then -vi v else vi v).fmod 1000003).map .int := fun l => by rw [List.map_map]; rfl
  rw [List.nil_append, hm] at hc
  have hj : (((is.map V.int).take 50).map (fun v => (if vi v < 0 then -vi v else vi v).fmod 1000003)).length ≤ 1000 := by rw [List.length_map, List.length_take]; lia
  generalize ((is.map V.int).take 50).map (fun v => (if vi v < 0 then -vi v else vi v).fmod 1000003) = js at hc hj
  refine ⟨js, (5 + js.sum).fmod 1021, hj, ?_⟩
  show outcome (m_hand [(53, .list (is.map .int))] []) = _
  have e1 : sAssign (tName 51) (eComp [] (tName 52) (eIter (eUpto 50 (eVar 53))) none (eBin .Mod (eBlt .abs [(eVar 52)]) (ME.pure (.int 1000003)))) [(53, .list (is.map .int))] [] = .next [(51, .list (js.map .int)), (53, .list (is.map .int))] [] := by
    have hc2 : compM (tName 52) none (eBin .Mod (eBlt .abs [(eVar 52)]) (ME.pure (.int 1000003))) (cap [(53, .list (is.map .int))] []) ((is.map V.int).take 50) [] [] = _ := hc
    simp only [sAssign, sBind, eComp, hu, andThen_ok, hc2]; rfl
  have e2 : ∀ σ, eBlt .sum [(eVar 51)] [(51, .list (js.map .int)), (53, .list (is.map .int))] σ = .ok (.int js.sum) σ := fun σ => by
    simp only [eBlt, eList, ME.bind, var_eval (i := 51) (v := .list (js.map .int)) (fr := [(51, .list (js.map .int)), (53, .list (is.map .int))]) rfl, andThen_ok, ME.pure, bltM, blt1, items?, Option.bind_some, intsV_map (fun i => i), Option.map_some, List.map_id', ofOpt_some]
  have e3 : ∀ σ, eBin .Mod (eBin .Add (ME.pure (.int 5)) (eBlt .sum [(eVar 51)])) (ME.pure (.int 1021)) [(51, .list (js.map .int)), (53, .list (is.map .int))] σ = .ok (.int ((5 + js.sum).fmod 1021)) σ := fun σ => by
    rw [bin_eval (a := .int (5 + js.sum)) (b := .int 1021) (σ1 := σ) (σ2 := σ) (by rw [bin_eval (a := .int 5) (σ1 := σ) rfl (e2 σ)]; rfl) rfl]; rfl
  unfold m_hand
  rw [seq_next e1]
  simp only [sRet, sBind, eDict3, ME.bind, var_eval (i := 51) (v := .list (js.map .int)) (fr := [(51, .list (js.map .int)), (53, .list (is.map .int))]) rfl, andThen_ok, ME.pure, e3]; rfl
end Mine
/-! C15 -/
namespace Mine
open PySem
theorem call_eval {g : List V → Sto → Res V} {fs : List (ME V)} {fr : Loc} {σ σ1 : Sto} {vs : List V} (h : eList fs fr σ = .ok vs σ1) : eCall g fs fr σ = g vs σ1 := by simp only [eCall, ME.bind, h, andThen_ok]
theorem pick_at {e : ME V} {fr : Loc} {σ : Sto} {m : Int} (h50 : fr.lookup 50 = some (.ref 0)) (h : e fr σ = .ok (.int m) σ) : eCall g_pick [eVar 50, e] fr σ = g_pick [.ref 0, .int m] σ := call_eval (list2 (var_eval h50) h)
theorem eIdx_eval {f g : ME V} {fr : Loc} {σ σ1 σ2 : Sto} {a b c : V} (h1 : f fr σ = .ok a σ1) (h2 : g fr σ1 = .ok b σ2) (h3 : idxM a b σ2 = some c) : eIdx f g fr σ = .ok c σ2 := by simp only [eIdx, ME.bind, h1, h2, andThen_ok, h3, ofOpt_some]
theorem not_true {f : ME V} {r : MS} {fr : Loc} {σ σ1 : Sto} (h : f fr σ = .ok (.bool true) σ1) : sIf (tNot (tVal f)) r sSkip fr σ = .next fr σ1 := by
  rw [if_ok (b := false) (σ' := σ1) (by simp only [tNot, tVal, ME.bind, h, andThen_ok]; rfl), if_neg (by decide)]; rfl
section
variable {D : Dat} {js : List Int} {scr : V} {f : Nat}
theorem law_tail (K : D.Ok) (hj : js.length ≤ 1000) (st : Int) (h8 : 1 ≤ f) (hs : f ≤ 200) :
    ∃ σ', sSeq mid (sSeq l9 (sSeq l10 (sSeq l11 (sSeq (sSeq l12 l13) (sSeq l14 (sSeq l15 l16)))))) [(64, .int f), (55, .int D.L), (56, .int D.O), (68, .ref 1), (50, .ref 0), (53, scr)] (hd (js.map .int) 3 st :: heap0) = .ret (.bool true) σ' := by
  have hL := K.hL
  have hO := K.hO
  have hn : 0 < (D.n : Int) ∧ (D.n : Int) < 1000 := by unfold Dat.n; lia
  rw [seq_next (K.mid _ scr (.int f))]
  -- the first telling
  obtain ⟨v4, st4, hv0, hv1, e4⟩ := pick_ok hj (k := 3) (st := st) (by decide) (by decide) hn.1 hn.2 D.S8
  obtain ⟨m4, rfl⟩ : ∃ m : Nat, v4 = m := ⟨v4.toNat, by lia⟩
  have hm4 : m4 < D.n := by lia
  have S1 : Start D.cnt (hd (js.map .int) (3 + 1) st4 :: D.S8) (fun kvs => hd (js.map .int) (3 + 1) st4 :: D.R1 kvs) [] := ⟨fun s hs => by obtain ⟨fr', h⟩ := K.ren1 (hd (js.map .int) (3 + 1) st4) s; exact ren_of hs h, K.get1 _⟩
  obtain ⟨k1, I1, e5⟩ := told_ok (K.cnt1 _) S1 Inv.nil (fun kvs => K.find1 _ kvs m4 hm4) h8 hs K.three1
  have a9 : l9 (fr8 D scr (.int f)) (hd (js.map .int) 3 st :: D.S8) = .next (fr8 D scr (.int f)) (hd (js.map .int) (3 + 1) st4 :: D.R1 k1) := by
    unfold l9
    refine not_true ?_
    have ei : eIdx (eVar 37) (eCall g_pick [(eVar 50), (eBlt .len [(eVar 37)])]) (fr8 D scr (.int f)) (hd (js.map .int) 3 st :: D.S8) = .ok (.int m4) (hd (js.map .int) (3 + 1) st4 :: D.S8) :=
      eIdx_eval (var_eval rfl) ((pick_at rfl (K.len1 _ scr (.int f))).trans e4) (K.mem1 _ m4 hm4)
    rw [call_eval (vs := [.ref D.cnt, .int m4, .int D.n, .int (D.n + 1), .int D.L, .int D.O, .int f]) (σ1 := hd (js.map .int) (3 + 1) st4 :: D.S8)]
    · exact e5
    · simp only [eList, ME.bind, ei, andThen_ok, var_eval (i := 60) (v := .ref D.cnt) (fr := fr8 D scr (.int f)) rfl, var_eval (i := 66) (v := .int D.n) (fr := fr8 D scr (.int f)) rfl, var_eval (i := 67) (v := .int (D.n + 1)) (fr := fr8 D scr (.int f)) rfl, var_eval (i := 55) (v := .int D.L) (fr := fr8 D scr (.int f)) rfl, var_eval (i := 56) (v := .int D.O) (fr := fr8 D scr (.int f)) rfl, var_eval (i := 64) (v := .int f) (fr := fr8 D scr (.int f)) rfl, ME.pure]
  rw [seq_next a9]
  -- the refusals
  obtain ⟨v5, st5, hv50, hv51, e6⟩ := pick_ok hj (k := 3 + 1) (st := st4) (m := 50) (by decide) (by decide) (by decide) (by decide) (D.R1 k1)
  have a10 : l10 (fr8 D scr (.int f)) (hd (js.map .int) (3 + 1) st4 :: D.R1 k1) = .next ((71, .int (201 + v5)) :: fr8 D scr (.int f)) (hd (js.map .int) (3 + 1 + 1) st5 :: D.R1 k1) := by
    unfold l10
    have : eBin .Add (ME.pure (.int 201)) (eCall g_pick [(eVar 50), (ME.pure (.int 50))]) (fr8 D scr (.int f)) (hd (js.map .int) (3 + 1) st4 :: D.R1 k1) = .ok (.int (201 + v5)) (hd (js.map .int) (3 + 1 + 1) st5 :: D.R1 k1) := by
      rw [bin_eval (a := .int 201) (b := .int v5) rfl ((pick_at rfl rfl).trans e6)]; rfl
    simp only [sAssign, sBind, this]; rfl
  rw [seq_next a10]
  have C1 := K.cnt1 (hd (js.map .int) (3 + 1 + 1) st5)
  have f0 : ∀ kvs, g_Heap_find [.ref 1, .int 0] (hd (js.map .int) (3 + 1 + 1) st5 :: D.R1 kvs) = .ok (.int 0) (hd (js.map .int) (3 + 1 + 1) st5 :: D.R1 kvs) := fun kvs => K.find1 _ kvs 0 (by unfold Dat.n; lia)
  obtain ⟨k2, I2, r1⟩ := refused_ok C1 I1 f0 (w := 201 + v5) (by lia) (by lia) (deed := [109, 97, 110, 121]) (by simp)
  obtain ⟨k3, I3, r2⟩ := refused_ok C1 I2 f0 (w := 201 + v5) (by lia) (by lia) (deed := [117, 112, 116, 111]) (by simp)
  obtain ⟨k4, I4, r3⟩ := refused_ok C1 I3 f0 (w := 201 + v5) (by lia) (by lia) (deed := [108, 105, 115, 116, 101, 100]) (by simp)
  obtain ⟨k5, I5, r4⟩ := refused_ok C1 I4 f0 (w := 201 + v5) (by lia) (by lia) (deed := [110, 116, 104]) (by simp)
  have b11 : ∀ (deed : List Nat) (k k' : List (V × V)), g_refused [.ref D.cnt, .str deed, .int 0, .int (201 + v5)] (hd (js.map .int) (3 + 1 + 1) st5 :: D.R1 k) = .ok (.bool true) (hd (js.map .int) (3 + 1 + 1) st5 :: D.R1 k') →
      (sIf (tNot (tVal (eCall g_refused [(eVar 60), (eVar 59), (ME.pure (.int 0)), (eVar 71)]))) (sRet (ME.pure (.bool false))) sSkip) ((59, .str deed) :: (71, .int (201 + v5)) :: fr8 D scr (.int f)) (hd (js.map .int) (3 + 1 + 1) st5 :: D.R1 k) = .next ((59, .str deed) :: (71, .int (201 + v5)) :: fr8 D scr (.int f)) (hd (js.map .int) (3 + 1 + 1) st5 :: D.R1 k') := by
    intro deed k k' h
    refine not_true ?_
    rw [call_eval (vs := [.ref D.cnt, .str deed, .int 0, .int (201 + v5)]) (σ1 := hd (js.map .int) (3 + 1 + 1) st5 :: D.R1 k) rfl]; exact h
  have a11 : l11 ((71, .int (201 + v5)) :: fr8 D scr (.int f)) (hd (js.map .int) (3 + 1 + 1) st5 :: D.R1 k1) = .next (frB D scr (.int f) (.int (201 + v5))) (hd (js.map .int) (3 + 1 + 1) st5 :: D.R1 k5) := by
    unfold l11 sFor
    have hi : eIter (eTup [(ME.pure (.str [109, 97, 110, 121])), (ME.pure (.str [117, 112, 116, 111])), (ME.pure (.str [108, 105, 115, 116, 101, 100])), (ME.pure (.str [110, 116, 104]))]) ((71, .int (201 + v5)) :: fr8 D scr (.int f)) (hd (js.map .int) (3 + 1 + 1) st5 :: D.R1 k1) = .ok [.str [109, 97, 110, 121], .str [117, 112, 116, 111], .str [108, 105, 115, 116, 101, 100], .str [110, 116, 104]] (hd (js.map .int) (3 + 1 + 1) st5 :: D.R1 k1) := rfl
    simp only [sBind, hi]
    rw [loop_step (fr1 := (59, .str [109, 97, 110, 121]) :: (71, .int (201 + v5)) :: fr8 D scr (.int f)) rfl (b11 _ k1 k2 r1), loop_step (fr1 := (59, .str [117, 112, 116, 111]) :: (71, .int (201 + v5)) :: fr8 D scr (.int f)) rfl (b11 _ k2 k3 r2),
      loop_step (fr1 := (59, .str [108, 105, 115, 116, 101, 100]) :: (71, .int (201 + v5)) :: fr8 D scr (.int f)) rfl (b11 _ k3 k4 r3), loop_step (fr1 := (59, .str [110, 116, 104]) :: (71, .int (201 + v5)) :: fr8 D scr (.int f)) rfl (b11 _ k4 k5 r4)]; rfl
  rw [seq_next a11, seq_next (K.mid2 _ k5 scr (.int f) (.int (201 + v5)))]
  -- the late leaf
  obtain ⟨v6, st6, hv60, hv61, e7⟩ := pick_ok hj (k := 3 + 1 + 1) (st := st5) (by decide) (by decide) hn.1 hn.2 (D.R2 k5)
  obtain ⟨m6, rfl⟩ : ∃ m : Nat, v6 = m := ⟨v6.toNat, by lia⟩
  have hm6 : m6 < D.n := by lia
  have a14 : l14 ((57, .int (D.n + 2)) :: frB D scr (.int f) (.int (201 + v5))) (hd (js.map .int) (3 + 1 + 1) st5 :: D.R2 k5) = .next ((57, .int (D.n + 2)) :: frB D scr (.int f) (.int (201 + v5))) (hd (js.map .int) (3 + 1 + 1 + 1) st6 :: D.R3 (.int m6) k5) := by
    unfold l14
    obtain ⟨a, b, c, d, e, g, g', hh⟩ := K.inst2 (hd (js.map .int) (3 + 1 + 1) st5) k5
    have ei : eIdx (eVar 37) (eCall g_pick [(eVar 50), (eBlt .len [(eVar 37)])]) ((57, .int (D.n + 2)) :: frB D scr (.int f) (.int (201 + v5))) (hd (js.map .int) (3 + 1 + 1) st5 :: D.R2 k5) = .ok (.int m6) (hd (js.map .int) (3 + 1 + 1 + 1) st6 :: D.R2 k5) :=
      eIdx_eval (var_eval rfl) ((pick_at rfl (K.len2 _ k5 scr (.int f) (.int (201 + v5)))).trans e7) (K.mem2 _ k5 m6 hm6)
    have ea : eList [eVar 57, (eIdx (eVar 37) (eCall g_pick [(eVar 50), (eBlt .len [(eVar 37)])])), (eTup [(ME.pure (.str [116, 111, 108, 100])), (ME.pure (.str [117]))])] ((57, .int (D.n + 2)) :: frB D scr (.int f) (.int (201 + v5))) (hd (js.map .int) (3 + 1 + 1) st5 :: D.R2 k5) = .ok [.int (D.n + 2), .int m6, reas] (hd (js.map .int) (3 + 1 + 1 + 1) st6 :: D.R2 k5) := by
      simp only [eList, ME.bind, var_eval (i := 57) (v := .int (D.n + 2)) (fr := (57, .int (D.n + 2)) :: frB D scr (.int f) (.int (201 + v5))) rfl, ei, andThen_ok]; rfl
    have em : eMCall 3 30 g_Heap_merge (eVar 68) [eVar 57, (eIdx (eVar 37) (eCall g_pick [(eVar 50), (eBlt .len [(eVar 37)])])), (eTup [(ME.pure (.str [116, 111, 108, 100])), (ME.pure (.str [117]))])] ((57, .int (D.n + 2)) :: frB D scr (.int f) (.int (201 + v5))) (hd (js.map .int) (3 + 1 + 1) st5 :: D.R2 k5) = .ok (.bool true) (hd (js.map .int) (3 + 1 + 1 + 1) st6 :: D.R3 (.int m6) k5) := by
      rw [← K.merge _ k5 m6 hm6]
      unfold eMCall
      simp only [ME.bind, var_eval (i := 68) (v := .ref 1) (fr := (57, .int (D.n + 2)) :: frB D scr (.int f) (.int (201 + v5))) rfl, andThen_ok, instOf, hh, if_true, ea]; rfl
    simp only [sExprV, sBind, em]; rfl
  rw [seq_next a14, seq_next (K.settle _ (.int m6) k5 scr (.int f) (.int (201 + v5)))]
  -- the second telling
  have S2 : Start D.cnt (hd (js.map .int) (3 + 1 + 1 + 1) st6 :: D.R4 (.int m6) k5) (fun kvs => hd (js.map .int) (3 + 1 + 1 + 1) st6 :: D.R5 (.int m6) k5 kvs) [] := ⟨fun s hs => by obtain ⟨fr', h⟩ := K.ren2 (hd (js.map .int) (3 + 1 + 1 + 1) st6) (.int m6) k5 s; exact ren_of hs h, K.get2 _ _ _⟩
  have hm13 : f % 13 < 13 := Nat.mod_lt _ (by decide)
  obtain ⟨k6, I6, e8⟩ := told_ok (m := D.n + 2) (f := 8 + f % 13) (K.cnt2 _ (.int m6) k5) S2 Inv.nil (fun kvs => K.find2 _ _ _ kvs) (by lia) (by lia) K.three2
  refine ⟨hd (js.map .int) (3 + 1 + 1 + 1) st6 :: D.R5 (.int m6) k5 k6, ?_⟩
  unfold l16
  have hf : ((8 + f % 13 : Nat) : Int) = 8 + (f : Int).fmod 13 := by rw [Int.fmod_eq_emod_of_nonneg _ (by decide)]; lia
  have ec : eCall g_told [(eVar 60), (eVar 57), (eVar 66), (eVar 67), (eBin .Add (eVar 55) (ME.pure (.int 1))), (eVar 56), (eBin .Add (ME.pure (.int 8)) (eBin .Mod (eVar 64) (ME.pure (.int 13))))] ((57, .int (D.n + 2)) :: frB D scr (.int f) (.int (201 + v5))) (hd (js.map .int) (3 + 1 + 1 + 1) st6 :: D.R4 (.int m6) k5) = .ok (.bool true) (hd (js.map .int) (3 + 1 + 1 + 1) st6 :: D.R5 (.int m6) k5 k6) := by
    rw [call_eval (vs := [.ref D.cnt, .int (D.n + 2), .int D.n, .int (D.n + 1), .int (D.L + 1), .int D.O, .int ((8 + f % 13 : Nat) : Int)]) (σ1 := hd (js.map .int) (3 + 1 + 1 + 1) st6 :: D.R4 (.int m6) k5)]
    · exact e8
    · rw [hf]; rfl
  simp only [sRet, sBind, ec]
end
end Mine
/-! C16 -/
namespace Mine
open PySem
theorem heap_new (fr : Loc) (h : Mine.O) : eCall (newM 3 g_Heap_init) [] fr [h] = .ok (.ref 1) (h :: heap0) := by kernel_rfl
theorem law_plain {is : List Int} (hl : is.length ≤ 1000) : ∃ σ', g_law [.list (is.map .int)] [] = .ok (.bool true) σ' := by
  obtain ⟨js, st, hj, hh⟩ := hand_ok hl
  obtain ⟨v1, st1, h10, h11, e1⟩ := pick_ok hj (k := 0) (st := st) (m := 3) (by decide) (by decide) (by decide) (by decide) heap0
  obtain ⟨v2, st2, h20, h21, e2⟩ := pick_ok hj (k := 0 + 1) (st := st1) (m := 2) (by decide) (by decide) (by decide) (by decide) heap0
  have a0 : l0 [(53, .list (is.map .int))] [] = .next [(68, .ref 1), (50, .ref 0), (53, .list (is.map .int))] (hd (js.map .int) 0 st :: heap0) := by
    unfold l0
    have e : eTup [(eCall g_hand [(eVar 53)]), (eCall (newM 3 g_Heap_init) [])] [(53, .list (is.map .int))] [] = .ok (.tup [.ref 0, .ref 1]) (hd (js.map .int) 0 st :: heap0) := by
      have e0 : eCall g_hand [(eVar 53)] [(53, .list (is.map .int))] [] = .ok (.ref 0) [hd (js.map .int) 0 st] := (call_eval (list1 (var_eval rfl))).trans hh
      simp only [eTup, eList, ME.bind, e0, andThen_ok, heap_new, ME.pure]; rfl
    simp only [sUnpack, sBind, e]; rfl
  have a1 : l1 [(68, .ref 1), (50, .ref 0), (53, .list (is.map .int))] (hd (js.map .int) 0 st :: heap0) = .next [(55, .int (1 + v1)), (56, .int (1 + v2)), (68, .ref 1), (50, .ref 0), (53, .list (is.map .int))] (hd (js.map .int) (0 + 1 + 1) st2 :: heap0) := by
    unfold l1
    have b1 : eBin .Add (ME.pure (.int 1)) (eCall g_pick [(eVar 50), (ME.pure (.int 3))]) [(68, .ref 1), (50, .ref 0), (53, .list (is.map .int))] (hd (js.map .int) 0 st :: heap0) = .ok (.int (1 + v1)) (hd (js.map .int) (0 + 1) st1 :: heap0) := by
      rw [bin_eval (a := .int 1) (b := .int v1) rfl ((pick_at rfl rfl).trans e1)]; rfl
    have b2 : eBin .Add (ME.pure (.int 1)) (eCall g_pick [(eVar 50), (ME.pure (.int 2))]) [(68, .ref 1), (50, .ref 0), (53, .list (is.map .int))] (hd (js.map .int) (0 + 1) st1 :: heap0) = .ok (.int (1 + v2)) (hd (js.map .int) (0 + 1 + 1) st2 :: heap0) := by
      rw [bin_eval (a := .int 1) (b := .int v2) rfl ((pick_at rfl rfl).trans e2)]; rfl
    have e : eTup [(eBin .Add (ME.pure (.int 1)) (eCall g_pick [(eVar 50), (ME.pure (.int 3))])), (eBin .Add (ME.pure (.int 1)) (eCall g_pick [(eVar 50), (ME.pure (.int 2))]))] [(68, .ref 1), (50, .ref 0), (53, .list (is.map .int))] (hd (js.map .int) 0 st :: heap0) = .ok (.tup [.int (1 + v1), .int (1 + v2)]) (hd (js.map .int) (0 + 1 + 1) st2 :: heap0) := by
      simp only [eTup, eList, ME.bind, b1, b2, andThen_ok]; rfl
    simp only [sUnpack, sBind, e]; rfl
  show ∃ σ', outcome (m_law [(53, .list (is.map .int))] []) = _
  rw [law_mid, seq_next a0, seq_next a1]
  have fin : ∀ (D : Dat), D.Ok → (1 + v1 = D.L) → (1 + v2 = D.O) → ∃ σ', outcome (sSeq l2 (sSeq mid (sSeq l9 (sSeq l10 (sSeq l11 (sSeq (sSeq l12 l13) (sSeq l14 (sSeq l15 l16))))))) [(55, .int (1 + v1)), (56, .int (1 + v2)), (68, .ref 1), (50, .ref 0), (53, .list (is.map .int))] (hd (js.map .int) (0 + 1 + 1) st2 :: heap0)) = .ok (.bool true) σ' := by
    intro D K hL hO
    have hm : ∃ m : Int, 0 < m ∧ m ≤ 193 ∧ eIf (tCmp .Eq (eVar 56) (ME.pure (.int 1))) (ME.pure (.int 193)) (ME.pure (.int 13)) [(55, .int (1 + v1)), (56, .int (1 + v2)), (68, .ref 1), (50, .ref 0), (53, .list (is.map .int))] (hd (js.map .int) (0 + 1 + 1) st2 :: heap0) = .ok (.int m) (hd (js.map .int) (0 + 1 + 1) st2 :: heap0) := by
      have et : tCmp .Eq (eVar 56) (ME.pure (.int 1)) [(55, .int (1 + v1)), (56, .int (1 + v2)), (68, .ref 1), (50, .ref 0), (53, .list (is.map .int))] (hd (js.map .int) (0 + 1 + 1) st2 :: heap0) = .ok (decide (1 + v2 = 1)) (hd (js.map .int) (0 + 1 + 1) st2 :: heap0) := rfl
      by_cases h : 1 + v2 = 1
      · exact ⟨193, by decide, by decide, by simp only [eIf, ME.bind, et, andThen_ok, decide_eq_true h, if_true]; rfl⟩
      · exact ⟨13, by decide, by decide, by simp only [eIf, ME.bind, et, andThen_ok, decide_eq_false h, if_false, Bool.false_eq_true]; rfl⟩
    obtain ⟨m, hm0, hm1, em⟩ := hm
    obtain ⟨v3, st3, h30, h31, e3⟩ := pick_ok hj (k := 0 + 1 + 1) (st := st2) (m := m) (by decide) (by decide) hm0 (by lia) heap0
    obtain ⟨f, hf⟩ : ∃ f : Nat, 8 + v3 = f := ⟨(8 + v3).toNat, by lia⟩
    have a2 : l2 [(55, .int (1 + v1)), (56, .int (1 + v2)), (68, .ref 1), (50, .ref 0), (53, .list (is.map .int))] (hd (js.map .int) (0 + 1 + 1) st2 :: heap0) = .next [(64, .int f), (55, .int D.L), (56, .int D.O), (68, .ref 1), (50, .ref 0), (53, .list (is.map .int))] (hd (js.map .int) 3 st3 :: heap0) := by
      unfold l2
      have e : eBin .Add (ME.pure (.int 8)) (eCall g_pick [(eVar 50), (eIf (tCmp .Eq (eVar 56) (ME.pure (.int 1))) (ME.pure (.int 193)) (ME.pure (.int 13)))]) [(55, .int (1 + v1)), (56, .int (1 + v2)), (68, .ref 1), (50, .ref 0), (53, .list (is.map .int))] (hd (js.map .int) (0 + 1 + 1) st2 :: heap0) = .ok (.int (8 + v3)) (hd (js.map .int) 3 st3 :: heap0) := by
        rw [bin_eval (a := .int 8) (b := .int v3) rfl ((pick_at rfl em).trans e3)]; rfl
      simp only [sAssign, sBind, e]
      rw [← hf, ← hL, ← hO]; rfl
    rw [seq_next a2]
    obtain ⟨σ', h⟩ := law_tail (scr := .list (is.map .int)) K hj st3 (f := f) (by lia) (by lia)
    exact ⟨σ', by rw [h]; rfl⟩
  have hv1 : v1 = 0 ∨ v1 = 1 ∨ v1 = 2 := by lia
  have hv2 : v2 = 0 ∨ v2 = 1 := by lia
  rcases hv1 with rfl | rfl | rfl <;> rcases hv2 with rfl | rfl
  · exact fin D11 D11_ok rfl rfl
  · exact fin D12 D12_ok rfl rfl
  · exact fin D21 D21_ok rfl rfl
  · exact fin D22 D22_ok rfl rfl
  · exact fin D31 D31_ok rfl rfl
  · exact fin D32 D32_ok rfl rfl
end Mine
/-! D2 -/
namespace Mine
open PySem PySem.W PyProof.Rows
theorem frag_in (h : Heap) : (fragOf h).In h := by
  have : ∀ l : List Addr, ∀ a o, (l.filterMap fun a => (h.get? a).map fun o => (a, o)).lookup a = some o → h.get? a = some o := by
    intro l
    induction l with
    | nil => intro a o e; cases e
    | cons b l ih =>
      intro a o e
      rw [List.filterMap_cons] at e
      cases hb : h.get? b with
      | none => rw [hb] at e; exact ih a o e
      | some x =>
        rw [hb] at e
        simp only [Option.map_some, List.lookup_cons] at e
        split at e
        · rename_i q; cases e; rw [beq_iff_eq.mp q]; exact hb
        · exact ih a o e
  exact this _
theorem fn_of {K : Frag} {a : Addr} {P : FnParts} (e : fnObs K a = fnVal P) : FnAt K a P := by
  unfold fnObs fnVal at e
  simp only [Prod.mk.injEq] at e
  obtain ⟨e1, e2, e3⟩ := e
  refine ⟨e1, e2, ?_⟩
  split at e3
  · rename_i c d fd sl ho
    simp only [Option.some.injEq, Prod.mk.injEq] at e3
    obtain ⟨h1, h2, h3, h4, h5, h6, h7, h8, h9⟩ := e3
    exact ⟨_, fd, ho, rfl, h1, h2, h3, h4, h5, h6, h7, h8, h9⟩
  · cases e3
theorem cls_of {K : Frag} {c f : Addr} (e : clsObs K c = clsVal f) : ClsAt K c f := by
  unfold clsObs clsVal at e
  simp only [Prod.mk.injEq, List.cons.injEq, and_true] at e
  obtain ⟨⟨h1, h2, h3, h4, h5⟩, h6, h7⟩ := e
  exact ⟨h1, h2, h3, h4, h5, h6, h7⟩
theorem exc_facts {K : Frag} (e : excObs K = excVal) : keepIn K (.ref 72) = true ∧ ExcAt K := by
  unfold excObs excVal at e
  simp only [Prod.mk.injEq, List.cons.injEq, and_true] at e
  obtain ⟨⟨h2, h3, h4⟩, ⟨h5, h6, h7⟩, h8, h9, h10, h11, h12, h13, h14⟩ := e
  refine ⟨h2, h5, h6, ?_, h7, h4, h9, h10, h11, h12, h13, h14⟩
  split at h8
  · rename_i c d vs sl ho
    simp only [Option.some.injEq, Prod.mk.injEq] at h8
    obtain ⟨rfl, rfl, rfl, q⟩ := h8
    exact ⟨vs, _, ho, q, h3⟩
  · cases h8
theorem facts_of {K : Frag} (e : allObs K = allVal) : Facts K := by
  unfold allObs allVal at e
  simp only [Prod.mk.injEq, List.map_inj_left, List.mem_range] at e
  obtain ⟨h1, h2, h3, h4, h5, h6⟩ := e
  obtain ⟨b, c⟩ := exc_facts h6
  exact ⟨h1, h2, h3, fun k hk => cls_of (h4 k hk), fun i hi => fn_of (h5 i hi), b, c⟩
noncomputable abbrev YP (_w : World) (h : Heap) : Prop := ∃ K : Frag, K.In h ∧ Facts K ∧ ∃ o, h.get? sysModules = some o
theorem y_of (w : World) (s : Shared) (e : Yf s = Ya w) : YP w s.heap := by
  unfold Yf Ya at e
  simp only [Prod.mk.injEq] at e
  exact ⟨_, frag_in _, facts_of e.1, Option.isSome_iff_exists.mp e.2⟩
theorem y_keeps (w : World) (h h' : Heap) (y : YP w h) (k : ∀ b o, h.get? b = some o → h'.get? b = some o) : YP w h' := by
  obtain ⟨K, x, F, o, ho⟩ := y
  exact ⟨K, x.keeps k, F, o, k _ _ ho⟩
end Mine
/-! D4 -/
namespace Mine
open PySem PySem.W PyProof.Rows
theorem walk_ (d : DefRec) (hn : d.name = "law") : WalkO view [] (XL view []) YP law02.row.toRowW d [] fun f vs => PySem.call f vs := by
  intro w s₀ s₁ mg mb G Y fa o pm cd doc dV kV ho hd hcd hD hmg hg args vals as hpre hlay hrd hwl hlo
  obtain ⟨K, KX, F, hsys⟩ := Y
  wrow_args hpre hlay hrd hwl hlo
  rename_i is hs hlay0 hL1 hr1 hl2 w4 w3 a ms w0 hL ra w1 r0 hI hr hlen htrue
  have hfa : (538 : Addr) = fa := by
    rw [hn, mg_of KX G.T.g F.ex.law] at hmg
    injection hmg with e; injection e
  subst hfa
  let x : WIn := ⟨w, s₁.heap, K, mg, mb, s₁.gens, s₁.os, KX, hsys, topRead_of G.T, F⟩
  obtain ⟨σ', hlaw⟩ := law_plain (is := is) (by omega)
  have room : Room 214 callerA [] := ⟨rfl, rfl, by decide, by decide⟩
  have S : St x.W Rho.nil [] s₁ := ⟨⟨fun b o e => e, fun b h => (by cases h), fun b h => (by cases h), List.nodup_nil, rfl, fun i o p h => (by cases i <;> cases h)⟩, rfl, rfl⟩
  have live : Live x.W [] Rho.nil s₁.heap := fun e h => (by cases h)
  obtain ⟨ob, hob, hcls, ne, hdat⟩ := hL
  have rv : VReps Rho.nil s₁.heap [.list (is.map .int)] [.ref a] := .cons (.list hob hcls hdat (fun h => by cases h) (ints_back hI)) .nil
  refine PySem.wpAny_call (c_law x (n := 214) (by decide) callerA [] room Rho.nil [] s₁ _ _ S live rv _ ?_)
  rw [hlaw]
  intro ρ' s' mv S' E' r'
  cases r'
  refine GoodW.toG ⟨.inl ⟨.bool true, .bool true, [], rfl, fun cls => ?_, .bool true, ?_, fun _ => ⟨List.nodup_nil, fun a h => by cases h⟩⟩, S'.heap.base, S'.os, S'.gens.trans hg⟩
  · rfl
  · wrow_post
end Mine
/-! D5 -/
namespace Mine
open PySem PySem.W PyProof.Rows
theorem said : law02.wellSaid = true := by kernel_rfl
noncomputable def lawDef : DefRec := match defOf view law02.row.name with
  | some p => p.1
  | none => ⟨law02.name, noArgs, [], law02.prog.main.scope, ⟨0, 0, 0, 0⟩⟩
theorem lawDef_at : defOf view law02.row.name = some (lawDef, []) := by kernel_rfl
theorem lawDef_name : lawDef.name = "law" := by kernel_rfl
theorem hp_ : law02.row.prog.theDef law02.row.name = some (lawDef.params, lawDef.body, lawDef.scope) := by kernel_rfl
theorem hk_ : kwWritten? lawDef.params.kwonlyargs lawDef.params.kw_defaults = some [] := by kernel_rfl
theorem ok_ : (chainsOk view && opensWell law02.row.prog && (frees law02.row.toRowW && law02.row.within.isEmpty)) = true := by decide +kernel
theorem bare_ : law02.row.prog.bare := ⟨rfl, rfl, rfl, rfl, rfl, by decide +kernel⟩
theorem hw_ : law02.row.toRowW.promised := by w_witness2
theorem holds_of (left : LeftO law02.row.prog view [] (fun s => xlAt view [] s && recOk (RowW.records law02.row.toRowW) s) Yf Ya 7214) : law02.Holds :=
  holds_law said fun s => holds_open (q := view) (loose := []) (Xt := fun s => xlAt view [] s && recOk (RowW.records law02.row.toRowW) s) (XP := XL view []) (Yf := Yf) (Ya := Ya) (YP := YP) (N := 7214) left y_of y_keeps
    (fun s e => xl_of s (Bool.and_eq_true_iff.mp e).1) XL.keeps lawDef_at hp_ hk_ (fun s e => recFacts_of (Bool.and_eq_true_iff.mp e).2) rfl s ok_ bare_ hw_ (walk_ lawDef lawDef_name)
end Mine
/-! D6 -/
namespace Mine
open PySem PySem.W PyProof.Rows
theorem left_of {p q : Program} {loose : List PySem.Str} {Xt : Shared → Bool} {α : Type} {Yf : Shared → α} {Ya : World → α} {N : Nat} {H₀ : Params → PySem.Heap} {gs₀ : Array GenState} {d₀ : Drawn} {k₀ : Nat}
    (open_ : ∀ w : World, (fencedOpening treeTable p w N).map (fun s => (s.heap, s.gens, s.drawn, s.toks)) = some (H₀ w.params, gs₀, d₀, k₀))
    (h : ∀ (w : World) (os : OsState), (topFrom treeTable p w N ⟨H₀ w.params, gs₀, d₀, k₀, os⟩).map (fun s => (openSeen q loose (importedModules p.main.body) Xt true s, Yf s)) = some (openGood q loose, Ya w)) : LeftO p q loose Xt Yf Ya N := fun w => by
  obtain ⟨⟨h0, gs, d, k, os⟩, e, e'⟩ := Option.map_eq_some_iff.mp (open_ w)
  obtain ⟨rfl, rfl, rfl, rfl⟩ : h0 = H₀ w.params ∧ gs = gs₀ ∧ d = d₀ ∧ k = k₀ := by simpa using e'
  unfold openEnds
  rw [e]
  exact h w os
section
variable {tb : String → Option Builtin} {p : Program} {w : World} {n₀ : Nat} {ann : Option Value} {env : Env} {q : Pos}
theorem piece_all {n N : Nat} {s s' r : Shared} {l : List Stmt} {c c' : Code} {pos p' : Pos} (h : segRun tb p w n₀ ann 1 n s (piecesOf l env c pos [topFrame q]) = some (.next, s', c', p'))
    (k : topRun tb p w n₀ ann N s' ⟨doneF .next, c', p', [topFrame q]⟩ = some r) : topRun tb p w n₀ ann (n + N) s (restOf l env c pos [topFrame q]) = some r := by
  obtain ⟨a, ha, hN⟩ := seg_top (res := id) (K' := fun f => match f with | .next => (execs [] env).wrap doneF (leaveH env) id id | f => doneF f) (H' := leaveH env) (B := [topFrame q]) rfl n s (piecesOf l env c pos [topFrame q])
    ⟨(execs l env).wrap (fun f => match f with | .next => (execs [] env).wrap doneF (leaveH env) id id | f => doneF f) (leaveH env) id id, c, pos, [topFrame q]⟩ _ _ _ _ ⟨rfl, rfl, .inl ⟨rfl, rfl, _, rfl, rfl⟩⟩ h
  obtain rfl : a = .next := ha
  have := hN N r k
  unfold restOf
  rw [← List.append_nil l, execs_app_wrap]
  exact this
end
noncomputable def SB (w : World) (os : OsState) : Shared := ⟨boot_heap w.params, Array.mk [], boot_drawn, boot_toks, os⟩
theorem boot_ : ∀ w : World, (fencedOpening treeTable prog02 w 7214).map (fun s => (s.heap, s.gens, s.drawn, s.toks)) = some (boot_heap w.params, Array.mk [], boot_drawn, boot_toks) :=
  boot_open (by kernel_rfl) (by kernel_rfl) (fun _ => by kernel_rfl)
theorem size_ (w : World) (os : OsState) : ((SB w os).heap.isNs mainGlobals && (SB w os).gens.size == 0, (SB w os).heap.objs.size, (SB w os).heap.nsMap mainGlobals "__annotations__") = (true, 11, some (.ref 6)) := by kernel_rfl
theorem pre_ (w : World) (os : OsState) : topGo treeTable prog02 w 11 (some (.ref 6)) 12 (SB w os) (topStub prog02) = some ((S0T w os).abs, ⟨denote treeTable codeM, codeM, q0, [topFrame q0]⟩) := by kernel_rfl
theorem block_ (w : World) (os : OsState) : segRun treeTable prog02 w 11 (some (.ref 6)) 1 1 (S0T w os).abs (blockOf bodyM envM codeM q0 [topFrame q0]) = some (.next, (S0T w os).abs, codeM, q0) := by kernel_rfl
end Mine
/-! D7 -/
namespace Mine
open PySem PySem.W PyProof.Rows
end Mine
/-! D8 -/
namespace Mine
open PySem PySem.W PyProof.Rows
theorem end_inv {p : Program} {w : World} {x : Option (Flow × SharedT × Code × Pos)} {r : Shared} (h : endT p w x = some r) :
    ∃ s' c' p', x = some (.next, s', c', p') ∧ topRun treeTable p w 11 (some (.ref 6)) 2 s'.abs ⟨doneF .next, c', p', [topFrame q0]⟩ = some r := by
  unfold endT at h
  split at h
  · rename_i s' c' p'; exact ⟨s', c', p', rfl, h⟩
  · cases h
theorem left_tree : LeftO law02.row.prog view [] (fun s => xlAt view [] s && recOk (RowW.records law02.row.toRowW) s) Yf Ya 7214 := left_of boot_ fun w os => by
  obtain ⟨s₁, hs, hobs⟩ := Option.map_eq_some_iff.mp (main_ w os)
  obtain ⟨r, hr, hchk⟩ := Option.bind_eq_some_iff.mp hs
  obtain ⟨s', c', p', e1, e2⟩ := end_inv hr
  have h4 := topRun_mono (7214 - (12 + (1 + (4000 + 2)))) _ _ _ _ (go_top (pre_ w os) (piece_block (block_ w os) (piece_all (segRun_of e1) e2)))
  rw [show 12 + (1 + (4000 + 2)) + (7214 - (12 + (1 + (4000 + 2)))) = 7214 from rfl] at h4
  have hz := size_ w os
  simp only [Prod.mk.injEq] at hz
  obtain ⟨z1, z2, z3⟩ := hz
  have t : topFrom treeTable prog02 w 7214 (SB w os) = some s₁ := by
    unfold topFrom
    rw [z1, z2, z3, h4]
    exact hchk
  exact (congrArg (Option.map _) t).trans (congrArg some hobs)
theorem holds_ : law02.Holds := holds_of left_tree
end Mine

theorem PySem.Challenge.cw_sa0043_02_holds : PySem.Challenge.rw_sa0043_02.Holds :=
  Mine.holds_
