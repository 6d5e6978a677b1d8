import PyProof.Rows.All
import Wide.All
import OpenK.AllK
import Wide.FinOn
import Lean
import PySem.Challenge.RW_pb0189_01
set_option Elab.async false
set_option maxRecDepth 100000
local macro_rules | `(tactic| walk_at "one") => `(tactic| ((fail_if_success k_end); (first | walk1 | (dsimp only; walk1))))
local macro_rules | `(tactic| walk_at "mem") => `(tactic| (first | ((repeat' (first | exact List.forall_mem_nil _ | refine' List.forall_mem_cons.mpr ⟨?_, ?_⟩ | k_mem | refine' And.intro ?_ ?_ | (refine' Or.inr ?_; k_mem) | (refine' Or.inl ?_; k_mem))); done) | simp))

section
open PySem PySem.W PySem.Calls PySem.Spec PyProof.Rows
namespace Mine

/-- the top's run over a tree of objects, in the words of a stepper -/
noncomputable def runG (thr ok : Thread → Bool) (st : SharedT → Thread → Option (SharedT × Thread)) : Nat → SharedT → Thread → Option SharedT
  | 0, _, _ => none
  | n + 1, s, t => match thr t with
    | true => some s
    | false => match ok t with
      | false => none
      | true => match st s t with
        | some (s', t') => runG thr ok st n s' t'
        | none => none

theorem runG_top {p : Program} {w : World} {n₀ : Nat} {ann : Option Value} : ∀ {n : Nat} {s s' : SharedT} {t : Thread},
    runG through (stepOk n₀ ann) (stepT (denote treeTable) p w) n s t = some s' → topRun treeTable p w n₀ ann n s.abs t = some s'.abs
  | 0, _, _, _, h => by cases h
  | n + 1, s, s', t, h => by
    unfold runG at h
    unfold topRun
    cases ht : through t with
    | true => rw [ht] at h; cases h; rfl
    | false =>
      rw [ht] at h
      cases hk : stepOk n₀ ann t with
      | false => rw [hk] at h; cases h
      | true =>
        rw [hk] at h
        cases hs : stepT (denote treeTable) p w s t with
        | none => rw [hs] at h; cases h
        | some r => obtain ⟨s₂, t₂⟩ := r; rw [hs] at h; rw [stepT_spec hs]; exact runG_top h

/-- what is asked of the state behind the top -/
noncomputable def looksOf (p q : Program) (loose : List Str) (Xt : Shared → Bool) {α : Type} (Yf : Shared → α) (h₀ : Heap) (s : Shared) :=
  ((staticsOk (importedModules p.main.body) h₀ s.heap && namesBound p s.heap && gensDone s && laidKept h₀ s.heap), openSeen q loose (importedModules p.main.body) Xt true s, Yf s)

theorem left_of_runG {p q : Program} {loose : List Str} {Xt : Shared → Bool} {α : Type} {Yf : Shared → α} {Ya : World → α} {N M : Nat} {H₀ : Params → Heap} {gs₀ : Array GenState} {d₀ : Drawn} {k₀ m₀ : Nat} {ann : Option Value}
    {S₀ : World → OsState → SharedT}
    (open_ : ∀ w : World, (fencedOpening treeTable p w N).map (fun s => (s.heap, s.gens, s.drawn, s.toks)) = some (H₀ w.params, gs₀, d₀, k₀))
    (size : ∀ w : World, ((H₀ w.params).isNs mainGlobals && gs₀.size == 0, (H₀ w.params).objs.size, (H₀ w.params).nsMap mainGlobals "__annotations__") = (true, m₀, ann))
    (tree : ∀ w os, (S₀ w os).abs = ⟨H₀ w.params, gs₀, d₀, k₀, os⟩) (le : Nat.ble M N = true)
    (run : ∀ w os, (runG through (stepOk m₀ ann) (stepT (denote treeTable) p w) M (S₀ w os) (topStub p)).map (fun s => looksOf p q loose Xt Yf (H₀ w.params) s.abs) = some (true, openGood q loose, Ya w)) :
    LeftO p q loose Xt Yf Ya N := fun w => by
  obtain ⟨⟨h, gs, d, k, os⟩, e, e'⟩ := Option.map_eq_some_iff.mp (open_ w)
  obtain ⟨rfl, rfl, rfl, rfl⟩ : h = H₀ w.params ∧ gs = gs₀ ∧ d = d₀ ∧ k = k₀ := by simpa using e'
  obtain ⟨z1, z2, z3⟩ : _ ∧ _ ∧ _ := by simpa only [Prod.mk.injEq] using size w
  obtain ⟨s₁, r, l⟩ := Option.map_eq_some_iff.mp (run w os)
  obtain ⟨l1, l2, l3⟩ : _ ∧ _ ∧ _ := by simpa only [looksOf, Prod.mk.injEq] using l
  have r := runG_top r
  rw [tree] at r
  have r := topRun_mono (N - M) _ _ _ _ r
  rw [show M + (N - M) = N by have := Nat.le_of_ble_eq_true le; omega] at r
  have t : topFrom treeTable p w N ⟨H₀ w.params, gs, d, k, os⟩ = some s₁.abs := by
    unfold topFrom
    dsimp only
    rw [z1, z2, z3, r]
    show (match staticsOk (importedModules p.main.body) (H₀ w.params) s₁.abs.heap && namesBound p s₁.abs.heap && gensDone s₁.abs && laidKept (H₀ w.params) s₁.abs.heap with | true => _ | false => _) = _
    rw [l1]
  unfold openEnds
  rw [e]
  show (topFrom treeTable p w N _).map _ = _
  rw [t]
  exact congrArg some (Prod.ext l2 l3)
end Mine
end

section
open PySem PySem.W PySem.Calls PySem.Spec PyProof.Rows
namespace Mine
/-- the statement at a path of the text -/
noncomputable def stmtAt (b : List Stmt) : List Nat → Option Stmt
  | [] => none
  | i :: r => match r with
    | [] => b[i]?
    | _ :: _ => match b[i]? with
      | some (.ClassDef _ _ _ body ..) => stmtAt body r
      | some (.FunctionDef _ _ body ..) => stmtAt body r
      | _ => none
noncomputable def defAt (l : List Nat) : Option (Arguments × List Stmt × Scope) := match stmtAt PySem.Challenge.pw_pb0189_01.main.body l with
  | some (.FunctionDef _ a b _ _ _ s ..) => some (a, b, s)
  | _ => none
set_option maxHeartbeats 4000000 in
noncomputable def K : Params → Frag := fun P => (fun (a0 : Arguments) (b0 : List Stmt) (s0 : Scope) (_ : defAt [0] = some (a0, b0, s0))
    (a1 : Arguments) (b1 : List Stmt) (s1 : Scope) (_ : defAt [3, 0] = some (a1, b1, s1))
    (a2 : Arguments) (b2 : List Stmt) (s2 : Scope) (_ : defAt [3, 1] = some (a2, b2, s2))
    (a3 : Arguments) (b3 : List Stmt) (s3 : Scope) (_ : defAt [4, 0] = some (a3, b3, s3))
    (a4 : Arguments) (b4 : List Stmt) (s4 : Scope) (_ : defAt [5] = some (a4, b4, s4))
    (a5 : Arguments) (b5 : List Stmt) (s5 : Scope) (_ : defAt [10, 0] = some (a5, b5, s5))
    (a6 : Arguments) (b6 : List Stmt) (s6 : Scope) (_ : defAt [11] = some (a6, b6, s6))
    (a7 : Arguments) (b7 : List Stmt) (s7 : Scope) (_ : defAt [12] = some (a7, b7, s7))
    (a8 : Arguments) (b8 : List Stmt) (s8 : Scope) (_ : defAt [13] = some (a8, b8, s8))
    (a9 : Arguments) (b9 : List Stmt) (s9 : Scope) (_ : defAt [14] = some (a9, b9, s9))
    (a10 : Arguments) (b10 : List Stmt) (s10 : Scope) (_ : defAt [15] = some (a10, b10, s10))
    (a11 : Arguments) (b11 : List Stmt) (s11 : Scope) (_ : defAt [16] = some (a11, b11, s11))
    (a12 : Arguments) (b12 : List Stmt) (s12 : Scope) (_ : defAt [18, 0] = some (a12, b12, s12))
    (a13 : Arguments) (b13 : List Stmt) (s13 : Scope) (_ : defAt [18, 1] = some (a13, b13, s13))
    (a14 : Arguments) (b14 : List Stmt) (s14 : Scope) (_ : defAt [18, 2] = some (a14, b14, s14))
    (a15 : Arguments) (b15 : List Stmt) (s15 : Scope) (_ : defAt [19, 0] = some (a15, b15, s15))
    (a16 : Arguments) (b16 : List Stmt) (s16 : Scope) (_ : defAt [19, 1] = some (a16, b16, s16))
    (a17 : Arguments) (b17 : List Stmt) (s17 : Scope) (_ : defAt [19, 2] = some (a17, b17, s17))
    (a18 : Arguments) (b18 : List Stmt) (s18 : Scope) (_ : defAt [19, 3] = some (a18, b18, s18))
    (a19 : Arguments) (b19 : List Stmt) (s19 : Scope) (_ : defAt [19, 4] = some (a19, b19, s19))
    (a20 : Arguments) (b20 : List Stmt) (s20 : Scope) (_ : defAt [19, 5] = some (a20, b20, s20))
    (a21 : Arguments) (b21 : List Stmt) (s21 : Scope) (_ : defAt [21, 0] = some (a21, b21, s21))
    (a22 : Arguments) (b22 : List Stmt) (s22 : Scope) (_ : defAt [21, 1] = some (a22, b22, s22))
    (a23 : Arguments) (b23 : List Stmt) (s23 : Scope) (_ : defAt [21, 2] = some (a23, b23, s23))
    (a24 : Arguments) (b24 : List Stmt) (s24 : Scope) (_ : defAt [21, 3] = some (a24, b24, s24))
    (a25 : Arguments) (b25 : List Stmt) (s25 : Scope) (_ : defAt [21, 4] = some (a25, b25, s25))
    (a26 : Arguments) (b26 : List Stmt) (s26 : Scope) (_ : defAt [23, 0] = some (a26, b26, s26))
    (a27 : Arguments) (b27 : List Stmt) (s27 : Scope) (_ : defAt [23, 1] = some (a27, b27, s27))
    (a28 : Arguments) (b28 : List Stmt) (s28 : Scope) (_ : defAt [23, 2] = some (a28, b28, s28))
    (a29 : Arguments) (b29 : List Stmt) (s29 : Scope) (_ : defAt [23, 3] = some (a29, b29, s29))
    (a30 : Arguments) (b30 : List Stmt) (s30 : Scope) (_ : defAt [23, 4] = some (a30, b30, s30))
    (a31 : Arguments) (b31 : List Stmt) (s31 : Scope) (_ : defAt [25] = some (a31, b31, s31))
    (a32 : Arguments) (b32 : List Stmt) (s32 : Scope) (_ : defAt [26] = some (a32, b32, s32))
    (a33 : Arguments) (b33 : List Stmt) (s33 : Scope) (_ : defAt [27] = some (a33, b33, s33))
    (a34 : Arguments) (b34 : List Stmt) (s34 : Scope) (_ : defAt [28] = some (a34, b34, s34)) =>
  ((nat_lit 2, (Obj.mk .none (none:Option Nat) (.dict #[] (0:Nat)) #[])) ::
  (nat_lit 3, (Obj.mk (.type "dict") (none:Option Nat) (.dict #[(DictEntry.mk (PyData.keyHash P "__name__") (.str "__name__" (165:Nat)) (.str "law_pb0189_01" (641:Nat))),(DictEntry.mk (PyData.keyHash P "__doc__") (.str "__doc__" (166:Nat)) .none),(DictEntry.mk (PyData.keyHash P "__package__") (.str "__package__" (167:Nat)) .none),(DictEntry.mk (PyData.keyHash P "__loader__") (.str "__loader__" (168:Nat)) (.builtin "__main__.__loader__#opaque")),(DictEntry.mk (PyData.keyHash P "__spec__") (.str "__spec__" (169:Nat)) .none),(DictEntry.mk (PyData.keyHash P "__annotations__") (.str "__annotations__" (170:Nat)) (.ref (6:Nat))),(DictEntry.mk (PyData.keyHash P "__builtins__") (.str "__builtins__" (171:Nat)) (.ref (4:Nat))),(DictEntry.mk (PyData.keyHash P "__file__") (.str "__file__" (173:Nat)) (.str "/claim/cut.py" (172:Nat))),(DictEntry.mk (PyData.keyHash P "__cached__") (.str "__cached__" (174:Nat)) .none),(DictEntry.mk (PyData.keyHash P "_wall") (.str "_wall" (193:Nat)) (.ref (21:Nat))),(DictEntry.mk (PyData.keyHash P "USE_SET") (.str "USE_SET" (197:Nat)) (.int 16 (196:Nat))),(DictEntry.mk (PyData.keyHash P "Lookup") (.str "Lookup" (238:Nat)) (.ref (43:Nat))),(DictEntry.mk (PyData.keyHash P "Scene") (.str "Scene" (279:Nat)) (.ref (65:Nat))),(DictEntry.mk (PyData.keyHash P "nested_scene") (.str "nested_scene" (288:Nat)) (.ref (76:Nat))),(DictEntry.mk (PyData.keyHash P "MOST_DEPTH") (.str "MOST_DEPTH" (292:Nat)) (.int 6 (291:Nat))),(DictEntry.mk (PyData.keyHash P "MOST_PLACES") (.str "MOST_PLACES" (294:Nat)) (.int 64 (293:Nat))),(DictEntry.mk (PyData.keyHash P "MOST_ACTIONS") (.str "MOST_ACTIONS" (296:Nat)) (.int 256 (295:Nat))),(DictEntry.mk (PyData.keyHash P "Places") (.str "Places" (327:Nat)) (.ref (93:Nat))),(DictEntry.mk (PyData.keyHash P "inner_scene") (.str "inner_scene" (335:Nat)) (.ref (104:Nat))),(DictEntry.mk (PyData.keyHash P "grow") (.str "grow" (341:Nat)) (.ref (109:Nat))),(DictEntry.mk (PyData.keyHash P "shrink") (.str "shrink" (347:Nat)) (.ref (114:Nat))),(DictEntry.mk (PyData.keyHash P "move") (.str "move" (356:Nat)) (.ref (121:Nat))),(DictEntry.mk (PyData.keyHash P "do_action") (.str "do_action" (371:Nat)) (.ref (128:Nat))),(DictEntry.mk (PyData.keyHash P "do_actions") (.str "do_actions" (382:Nat)) (.ref (135:Nat))),(DictEntry.mk (PyData.keyHash P "Info") (.str "Info" (444:Nat)) (.ref (166:Nat))),(DictEntry.mk (PyData.keyHash P "Buffer") (.str "Buffer" (510:Nat)) (.ref (219:Nat))),(DictEntry.mk (PyData.keyHash P "ClassDef") (.str "ClassDef" (570:Nat)) (.ref (266:Nat))),(DictEntry.mk (PyData.keyHash P "Gdef") (.str "Gdef" (640:Nat)) (.ref (314:Nat))),(DictEntry.mk (PyData.keyHash P "_law_take") (.str "_law_take" (651:Nat)) (.ref (325:Nat))),(DictEntry.mk (PyData.keyHash P "_law_edit") (.str "_law_edit" (657:Nat)) (.ref (330:Nat))),(DictEntry.mk (PyData.keyHash P "_law_done") (.str "_law_done" (663:Nat)) (.ref (335:Nat))),(DictEntry.mk (PyData.keyHash P "law") (.str "law" (669:Nat)) (.ref (340:Nat)))] (32:Nat)) #[])) ::
  (nat_lit 15, (Obj.mk (.type "tuple") (none:Option Nat) (.seq #[] (0:Nat)) #[])) ::
  (nat_lit 17, (Obj.mk (.type "tuple") (none:Option Nat) (.seq #[(.str "k" (190:Nat))] (0:Nat)) #[])) ::
  (nat_lit 18, (Obj.mk (.type "tuple") (none:Option Nat) (.seq #[] (0:Nat)) #[])) ::
  (nat_lit 20, (Obj.mk (.type "code") (none:Option Nat) (.fields #[(.str "_wall" (187:Nat)),(.str "_wall" (188:Nat)),(.str "/claim/cut.py" (189:Nat)),(.int 1 (0:Nat)),(.int 1 (0:Nat)),(.int 0 (0:Nat)),(.int 0 (0:Nat)),(.int 3 (0:Nat)),(.ref (15:Nat)),(.bool true),(.int 181 (0:Nat)),(.ref (16:Nat)),.none,(.ref (17:Nat)),(.ref (18:Nat)),(.ref (19:Nat)),(.int 191 (0:Nat)),(.int 1 (0:Nat)),(.str "/claim/cut.py" (192:Nat))]) #[])) ::
  (nat_lit 21, (Obj.mk (.type "function") (none:Option Nat) (.func (FuncData.mk "_wall" "_wall" a0 (.stmts b0) s0 (3:Nat) ([]:List (Str × Nat)) .none .none .none (.str "__main__" (164:Nat)) (none:Option Nat) (.ref (20:Nat)) .none (0:Nat))) #[])) ::
  (nat_lit 29, (Obj.mk (.type "tuple") (none:Option Nat) (.seq #[] (0:Nat)) #[])) ::
  (nat_lit 31, (Obj.mk (.type "tuple") (none:Option Nat) (.seq #[(.str "self" (213:Nat)),(.str "kind" (214:Nat)),(.str "flag" (215:Nat)),(.str "mark_set" (216:Nat)),(.str "tables" (217:Nat))] (0:Nat)) #[])) ::
  (nat_lit 32, (Obj.mk (.type "tuple") (none:Option Nat) (.seq #[] (0:Nat)) #[])) ::
  (nat_lit 34, (Obj.mk (.type "code") (none:Option Nat) (.fields #[(.str "__init__" (210:Nat)),(.str "Lookup.__init__" (211:Nat)),(.str "/claim/cut.py" (212:Nat)),(.int 8 (0:Nat)),(.int 5 (0:Nat)),(.int 0 (0:Nat)),(.int 0 (0:Nat)),(.int 3 (0:Nat)),(.ref (29:Nat)),(.bool true),(.int 181 (0:Nat)),(.ref (30:Nat)),.none,(.ref (31:Nat)),(.ref (32:Nat)),(.ref (33:Nat)),(.int 218 (0:Nat)),(.int 8 (0:Nat)),(.str "/claim/cut.py" (219:Nat))]) #[])) ::
  (nat_lit 35, (Obj.mk (.type "function") (none:Option Nat) (.func (FuncData.mk "__init__" "Lookup.__init__" a1 (.stmts b1) s1 (3:Nat) ([]:List (Str × Nat)) .none .none .none (.str "joinedhand.flags" (194:Nat)) (none:Option Nat) (.ref (34:Nat)) .none (0:Nat))) #[])) ::
  (nat_lit 36, (Obj.mk (.type "tuple") (none:Option Nat) (.seq #[] (0:Nat)) #[])) ::
  (nat_lit 39, (Obj.mk (.type "code") (none:Option Nat) (.fields #[(.str "told" (221:Nat)),(.str "Lookup.told" (222:Nat)),(.str "/claim/cut.py" (223:Nat)),(.int 14 (0:Nat)),(.int 1 (0:Nat)),(.int 0 (0:Nat)),(.int 0 (0:Nat)),(.int 3 (0:Nat)),(.ref (36:Nat)),(.bool true),(.int 181 (0:Nat)),(.ref (37:Nat)),.none,.none,.none,(.ref (38:Nat)),(.int 224 (0:Nat)),(.int 14 (0:Nat)),(.str "/claim/cut.py" (225:Nat))]) #[])) ::
  (nat_lit 40, (Obj.mk (.type "function") (none:Option Nat) (.func (FuncData.mk "told" "Lookup.told" a2 (.stmts b2) s2 (3:Nat) ([]:List (Str × Nat)) .none .none .none (.str "joinedhand.flags" (194:Nat)) (none:Option Nat) (.ref (39:Nat)) .none (0:Nat))) #[])) ::
  (nat_lit 41, (Obj.mk (.type "tuple") (none:Option Nat) (.seq #[(.str "flag" (227:Nat)),(.str "kind" (228:Nat)),(.str "mark_set" (229:Nat)),(.str "tables" (230:Nat))] (0:Nat)) #[])) ::
  (nat_lit 42, (Obj.mk (.type "dict") (none:Option Nat) (.dict #[(DictEntry.mk (PyData.keyHash P "__module__") (.str "__module__" (205:Nat)) (.str "joinedhand.flags" (194:Nat))),(DictEntry.mk (PyData.keyHash P "__firstlineno__") (.str "__firstlineno__" (209:Nat)) (.int 6 (208:Nat))),(DictEntry.mk (PyData.keyHash P "__init__") (.str "__init__" (220:Nat)) (.ref (35:Nat))),(DictEntry.mk (PyData.keyHash P "told") (.str "told" (226:Nat)) (.ref (40:Nat))),(DictEntry.mk (PyData.keyHash P "__static_attributes__") (.str "__static_attributes__" (231:Nat)) (.ref (41:Nat))),(DictEntry.mk (PyData.keyHash P "__dict__") (.str "__dict__" (233:Nat)) (.ref (44:Nat))),(DictEntry.mk (PyData.keyHash P "__weakref__") (.str "__weakref__" (235:Nat)) (.ref (45:Nat))),(DictEntry.mk (PyData.keyHash P "__doc__") (.str "__doc__" (236:Nat)) .none)] (4:Nat)) #[])) ::
  (nat_lit 43, (Obj.mk (.type "type") (none:Option Nat) (.cls (ClassData.mk "Lookup" [(.type "object")] [(.ref (43:Nat)),(.type "object")] (42:Nat) "Lookup" true [] [] false none false)) #[none,none,(some (.str "Lookup" (198:Nat))),(some (.str "Lookup" (206:Nat))),(some (.builtin "object.__new__")),(some (.bool true))])) ::
  (nat_lit 44, (Obj.mk (.type "getset_descriptor") (none:Option Nat) (.fields #[(.str "__dict__" (232:Nat)),(.ref (43:Nat)),(.builtin "function.__dict__"),(.builtin "function.__dict__#set")]) #[])) ::
  (nat_lit 45, (Obj.mk (.type "getset_descriptor") (none:Option Nat) (.fields #[(.str "__weakref__" (234:Nat)),(.ref (43:Nat)),(.builtin "ExceptionGroup.__weakref__"),.none]) #[])) ::
  (nat_lit 55, (Obj.mk (.type "tuple") (none:Option Nat) (.seq #[(.int 0 (251:Nat))] (0:Nat)) #[])) ::
  (nat_lit 56, (Obj.mk (.type "tuple") (none:Option Nat) (.seq #[] (0:Nat)) #[])) ::
  (nat_lit 58, (Obj.mk (.type "tuple") (none:Option Nat) (.seq #[(.str "self" (255:Nat)),(.str "buffer" (256:Nat)),(.str "gdef" (257:Nat)),(.str "lookups" (258:Nat)),(.str "lookup" (259:Nat)),(.str "mask" (260:Nat)),(.str "depth" (261:Nat))] (0:Nat)) #[])) ::
  (nat_lit 59, (Obj.mk (.type "tuple") (none:Option Nat) (.seq #[] (0:Nat)) #[])) ::
  (nat_lit 61, (Obj.mk (.type "code") (none:Option Nat) (.fields #[(.str "__init__" (252:Nat)),(.str "Scene.__init__" (253:Nat)),(.str "/claim/cut.py" (254:Nat)),(.int 19 (0:Nat)),(.int 7 (0:Nat)),(.int 0 (0:Nat)),(.int 0 (0:Nat)),(.int 3 (0:Nat)),(.ref (56:Nat)),(.bool true),(.int 181 (0:Nat)),(.ref (57:Nat)),.none,(.ref (58:Nat)),(.ref (59:Nat)),(.ref (60:Nat)),(.int 262 (0:Nat)),(.int 19 (0:Nat)),(.str "/claim/cut.py" (263:Nat))]) #[])) ::
  (nat_lit 62, (Obj.mk (.type "function") (none:Option Nat) (.func (FuncData.mk "__init__" "Scene.__init__" a3 (.stmts b3) s3 (3:Nat) ([]:List (Str × Nat)) (.ref (55:Nat)) .none .none (.str "joinedhand.flags" (194:Nat)) (none:Option Nat) (.ref (61:Nat)) .none (0:Nat))) #[])) ::
  (nat_lit 63, (Obj.mk (.type "tuple") (none:Option Nat) (.seq #[(.str "buffer" (265:Nat)),(.str "depth" (266:Nat)),(.str "gdef" (267:Nat)),(.str "lookup" (268:Nat)),(.str "lookups" (269:Nat)),(.str "mask" (270:Nat)),(.str "steps" (271:Nat))] (0:Nat)) #[])) ::
  (nat_lit 64, (Obj.mk (.type "dict") (none:Option Nat) (.dict #[(DictEntry.mk (PyData.keyHash P "__module__") (.str "__module__" (246:Nat)) (.str "joinedhand.flags" (194:Nat))),(DictEntry.mk (PyData.keyHash P "__firstlineno__") (.str "__firstlineno__" (250:Nat)) (.int 17 (249:Nat))),(DictEntry.mk (PyData.keyHash P "__init__") (.str "__init__" (264:Nat)) (.ref (62:Nat))),(DictEntry.mk (PyData.keyHash P "__static_attributes__") (.str "__static_attributes__" (272:Nat)) (.ref (63:Nat))),(DictEntry.mk (PyData.keyHash P "__dict__") (.str "__dict__" (274:Nat)) (.ref (66:Nat))),(DictEntry.mk (PyData.keyHash P "__weakref__") (.str "__weakref__" (276:Nat)) (.ref (67:Nat))),(DictEntry.mk (PyData.keyHash P "__doc__") (.str "__doc__" (277:Nat)) .none)] (4:Nat)) #[])) ::
  (nat_lit 65, (Obj.mk (.type "type") (none:Option Nat) (.cls (ClassData.mk "Scene" [(.type "object")] [(.ref (65:Nat)),(.type "object")] (64:Nat) "Scene" true [] [] false none false)) #[none,none,(some (.str "Scene" (239:Nat))),(some (.str "Scene" (247:Nat))),(some (.builtin "object.__new__")),(some (.bool true))])) ::
  (nat_lit 66, (Obj.mk (.type "getset_descriptor") (none:Option Nat) (.fields #[(.str "__dict__" (273:Nat)),(.ref (65:Nat)),(.builtin "function.__dict__"),(.builtin "function.__dict__#set")]) #[])) ::
  (nat_lit 67, (Obj.mk (.type "getset_descriptor") (none:Option Nat) (.fields #[(.str "__weakref__" (275:Nat)),(.ref (65:Nat)),(.builtin "ExceptionGroup.__weakref__"),.none]) #[])) ::
  (nat_lit 70, (Obj.mk (.type "tuple") (none:Option Nat) (.seq #[] (0:Nat)) #[])) ::
  (nat_lit 72, (Obj.mk (.type "tuple") (none:Option Nat) (.seq #[(.str "scene" (283:Nat)),(.str "number" (284:Nat)),(.str "found" (285:Nat))] (0:Nat)) #[])) ::
  (nat_lit 73, (Obj.mk (.type "tuple") (none:Option Nat) (.seq #[] (0:Nat)) #[])) ::
  (nat_lit 75, (Obj.mk (.type "code") (none:Option Nat) (.fields #[(.str "nested_scene" (280:Nat)),(.str "nested_scene" (281:Nat)),(.str "/claim/cut.py" (282:Nat)),(.int 27 (0:Nat)),(.int 2 (0:Nat)),(.int 0 (0:Nat)),(.int 0 (0:Nat)),(.int 3 (0:Nat)),(.ref (70:Nat)),(.bool true),(.int 181 (0:Nat)),(.ref (71:Nat)),.none,(.ref (72:Nat)),(.ref (73:Nat)),(.ref (74:Nat)),(.int 286 (0:Nat)),(.int 27 (0:Nat)),(.str "/claim/cut.py" (287:Nat))]) #[])) ::
  (nat_lit 76, (Obj.mk (.type "function") (none:Option Nat) (.func (FuncData.mk "nested_scene" "nested_scene" a4 (.stmts b4) s4 (3:Nat) ([]:List (Str × Nat)) .none .none .none (.str "joinedhand.flags" (194:Nat)) (none:Option Nat) (.ref (75:Nat)) .none (0:Nat))) #[])) ::
  (nat_lit 84, (Obj.mk (.type "tuple") (none:Option Nat) (.seq #[] (0:Nat)) #[])) ::
  (nat_lit 86, (Obj.mk (.type "tuple") (none:Option Nat) (.seq #[(.str "self" (312:Nat)),(.str "row" (313:Nat)),(.str "end" (314:Nat))] (0:Nat)) #[])) ::
  (nat_lit 87, (Obj.mk (.type "tuple") (none:Option Nat) (.seq #[] (0:Nat)) #[])) ::
  (nat_lit 89, (Obj.mk (.type "code") (none:Option Nat) (.fields #[(.str "__init__" (309:Nat)),(.str "Places.__init__" (310:Nat)),(.str "/claim/cut.py" (311:Nat)),(.int 39 (0:Nat)),(.int 3 (0:Nat)),(.int 0 (0:Nat)),(.int 0 (0:Nat)),(.int 3 (0:Nat)),(.ref (84:Nat)),(.bool true),(.int 181 (0:Nat)),(.ref (85:Nat)),.none,(.ref (86:Nat)),(.ref (87:Nat)),(.ref (88:Nat)),(.int 315 (0:Nat)),(.int 39 (0:Nat)),(.str "/claim/cut.py" (316:Nat))]) #[])) ::
  (nat_lit 90, (Obj.mk (.type "function") (none:Option Nat) (.func (FuncData.mk "__init__" "Places.__init__" a5 (.stmts b5) s5 (3:Nat) ([]:List (Str × Nat)) .none .none .none (.str "joinedhand.nested" (289:Nat)) (none:Option Nat) (.ref (89:Nat)) .none (0:Nat))) #[])) ::
  (nat_lit 91, (Obj.mk (.type "tuple") (none:Option Nat) (.seq #[(.str "end" (318:Nat)),(.str "row" (319:Nat))] (0:Nat)) #[])) ::
  (nat_lit 92, (Obj.mk (.type "dict") (none:Option Nat) (.dict #[(DictEntry.mk (PyData.keyHash P "__module__") (.str "__module__" (304:Nat)) (.str "joinedhand.nested" (289:Nat))),(DictEntry.mk (PyData.keyHash P "__firstlineno__") (.str "__firstlineno__" (308:Nat)) (.int 37 (307:Nat))),(DictEntry.mk (PyData.keyHash P "__init__") (.str "__init__" (317:Nat)) (.ref (90:Nat))),(DictEntry.mk (PyData.keyHash P "__static_attributes__") (.str "__static_attributes__" (320:Nat)) (.ref (91:Nat))),(DictEntry.mk (PyData.keyHash P "__dict__") (.str "__dict__" (322:Nat)) (.ref (94:Nat))),(DictEntry.mk (PyData.keyHash P "__weakref__") (.str "__weakref__" (324:Nat)) (.ref (95:Nat))),(DictEntry.mk (PyData.keyHash P "__doc__") (.str "__doc__" (325:Nat)) .none)] (4:Nat)) #[])) ::
  (nat_lit 93, (Obj.mk (.type "type") (none:Option Nat) (.cls (ClassData.mk "Places" [(.type "object")] [(.ref (93:Nat)),(.type "object")] (92:Nat) "Places" true [] [] false none false)) #[none,none,(some (.str "Places" (297:Nat))),(some (.str "Places" (305:Nat))),(some (.builtin "object.__new__")),(some (.bool true))])) ::
  (nat_lit 94, (Obj.mk (.type "getset_descriptor") (none:Option Nat) (.fields #[(.str "__dict__" (321:Nat)),(.ref (93:Nat)),(.builtin "function.__dict__"),(.builtin "function.__dict__#set")]) #[])) ::
  (nat_lit 95, (Obj.mk (.type "getset_descriptor") (none:Option Nat) (.fields #[(.str "__weakref__" (323:Nat)),(.ref (93:Nat)),(.builtin "ExceptionGroup.__weakref__"),.none]) #[])) ::
  (nat_lit 98, (Obj.mk (.type "tuple") (none:Option Nat) (.seq #[] (0:Nat)) #[])) ::
  (nat_lit 100, (Obj.mk (.type "tuple") (none:Option Nat) (.seq #[(.str "scene" (331:Nat)),(.str "number" (332:Nat))] (0:Nat)) #[])) ::
  (nat_lit 101, (Obj.mk (.type "tuple") (none:Option Nat) (.seq #[] (0:Nat)) #[])) ::
  (nat_lit 103, (Obj.mk (.type "code") (none:Option Nat) (.fields #[(.str "inner_scene" (328:Nat)),(.str "inner_scene" (329:Nat)),(.str "/claim/cut.py" (330:Nat)),(.int 42 (0:Nat)),(.int 2 (0:Nat)),(.int 0 (0:Nat)),(.int 0 (0:Nat)),(.int 3 (0:Nat)),(.ref (98:Nat)),(.bool true),(.int 181 (0:Nat)),(.ref (99:Nat)),.none,(.ref (100:Nat)),(.ref (101:Nat)),(.ref (102:Nat)),(.int 333 (0:Nat)),(.int 42 (0:Nat)),(.str "/claim/cut.py" (334:Nat))]) #[])) ::
  (nat_lit 104, (Obj.mk (.type "function") (none:Option Nat) (.func (FuncData.mk "inner_scene" "inner_scene" a6 (.stmts b6) s6 (3:Nat) ([]:List (Str × Nat)) .none .none .none (.str "joinedhand.nested" (289:Nat)) (none:Option Nat) (.ref (103:Nat)) .none (0:Nat))) #[])) ::
  (nat_lit 105, (Obj.mk (.type "tuple") (none:Option Nat) (.seq #[] (0:Nat)) #[])) ::
  (nat_lit 108, (Obj.mk (.type "code") (none:Option Nat) (.fields #[(.str "grow" (336:Nat)),(.str "grow" (337:Nat)),(.str "/claim/cut.py" (338:Nat)),(.int 44 (0:Nat)),(.int 3 (0:Nat)),(.int 0 (0:Nat)),(.int 0 (0:Nat)),(.int 3 (0:Nat)),(.ref (105:Nat)),(.bool true),(.int 181 (0:Nat)),(.ref (106:Nat)),.none,.none,.none,(.ref (107:Nat)),(.int 339 (0:Nat)),(.int 44 (0:Nat)),(.str "/claim/cut.py" (340:Nat))]) #[])) ::
  (nat_lit 109, (Obj.mk (.type "function") (none:Option Nat) (.func (FuncData.mk "grow" "grow" a7 (.stmts b7) s7 (3:Nat) ([]:List (Str × Nat)) .none .none .none (.str "joinedhand.nested" (289:Nat)) (none:Option Nat) (.ref (108:Nat)) .none (0:Nat))) #[])) ::
  (nat_lit 110, (Obj.mk (.type "tuple") (none:Option Nat) (.seq #[] (0:Nat)) #[])) ::
  (nat_lit 113, (Obj.mk (.type "code") (none:Option Nat) (.fields #[(.str "shrink" (342:Nat)),(.str "shrink" (343:Nat)),(.str "/claim/cut.py" (344:Nat)),(.int 47 (0:Nat)),(.int 3 (0:Nat)),(.int 0 (0:Nat)),(.int 0 (0:Nat)),(.int 3 (0:Nat)),(.ref (110:Nat)),(.bool true),(.int 181 (0:Nat)),(.ref (111:Nat)),.none,.none,.none,(.ref (112:Nat)),(.int 345 (0:Nat)),(.int 47 (0:Nat)),(.str "/claim/cut.py" (346:Nat))]) #[])) ::
  (nat_lit 114, (Obj.mk (.type "function") (none:Option Nat) (.func (FuncData.mk "shrink" "shrink" a8 (.stmts b8) s8 (3:Nat) ([]:List (Str × Nat)) .none .none .none (.str "joinedhand.nested" (289:Nat)) (none:Option Nat) (.ref (113:Nat)) .none (0:Nat))) #[])) ::
  (nat_lit 115, (Obj.mk (.type "tuple") (none:Option Nat) (.seq #[] (0:Nat)) #[])) ::
  (nat_lit 117, (Obj.mk (.type "tuple") (none:Option Nat) (.seq #[(.str "places" (351:Nat)),(.str "index" (352:Nat)),(.str "change" (353:Nat))] (0:Nat)) #[])) ::
  (nat_lit 118, (Obj.mk (.type "tuple") (none:Option Nat) (.seq #[] (0:Nat)) #[])) ::
  (nat_lit 120, (Obj.mk (.type "code") (none:Option Nat) (.fields #[(.str "move" (348:Nat)),(.str "move" (349:Nat)),(.str "/claim/cut.py" (350:Nat)),(.int 49 (0:Nat)),(.int 3 (0:Nat)),(.int 0 (0:Nat)),(.int 0 (0:Nat)),(.int 3 (0:Nat)),(.ref (115:Nat)),(.bool true),(.int 181 (0:Nat)),(.ref (116:Nat)),.none,(.ref (117:Nat)),(.ref (118:Nat)),(.ref (119:Nat)),(.int 354 (0:Nat)),(.int 49 (0:Nat)),(.str "/claim/cut.py" (355:Nat))]) #[])) ::
  (nat_lit 121, (Obj.mk (.type "function") (none:Option Nat) (.func (FuncData.mk "move" "move" a9 (.stmts b9) s9 (3:Nat) ([]:List (Str × Nat)) .none .none .none (.str "joinedhand.nested" (289:Nat)) (none:Option Nat) (.ref (120:Nat)) .none (0:Nat))) #[])) ::
  (nat_lit 122, (Obj.mk (.type "tuple") (none:Option Nat) (.seq #[] (0:Nat)) #[])) ::
  (nat_lit 124, (Obj.mk (.type "tuple") (none:Option Nat) (.seq #[(.str "scene" (360:Nat)),(.str "places" (361:Nat)),(.str "action" (362:Nat)),(.str "apply_at" (363:Nat)),(.str "index" (364:Nat)),(.str "number" (365:Nat)),(.str "inner" (366:Nat)),(.str "size" (367:Nat)),(.str "change" (368:Nat))] (0:Nat)) #[])) ::
  (nat_lit 125, (Obj.mk (.type "tuple") (none:Option Nat) (.seq #[] (0:Nat)) #[])) ::
  (nat_lit 127, (Obj.mk (.type "code") (none:Option Nat) (.fields #[(.str "do_action" (357:Nat)),(.str "do_action" (358:Nat)),(.str "/claim/cut.py" (359:Nat)),(.int 58 (0:Nat)),(.int 4 (0:Nat)),(.int 0 (0:Nat)),(.int 0 (0:Nat)),(.int 3 (0:Nat)),(.ref (122:Nat)),(.bool true),(.int 181 (0:Nat)),(.ref (123:Nat)),.none,(.ref (124:Nat)),(.ref (125:Nat)),(.ref (126:Nat)),(.int 369 (0:Nat)),(.int 58 (0:Nat)),(.str "/claim/cut.py" (370:Nat))]) #[])) ::
  (nat_lit 128, (Obj.mk (.type "function") (none:Option Nat) (.func (FuncData.mk "do_action" "do_action" a10 (.stmts b10) s10 (3:Nat) ([]:List (Str × Nat)) .none .none .none (.str "joinedhand.nested" (289:Nat)) (none:Option Nat) (.ref (127:Nat)) .none (0:Nat))) #[])) ::
  (nat_lit 129, (Obj.mk (.type "tuple") (none:Option Nat) (.seq #[] (0:Nat)) #[])) ::
  (nat_lit 131, (Obj.mk (.type "tuple") (none:Option Nat) (.seq #[(.str "scene" (375:Nat)),(.str "places" (376:Nat)),(.str "actions" (377:Nat)),(.str "apply_at" (378:Nat)),(.str "action" (379:Nat))] (0:Nat)) #[])) ::
  (nat_lit 132, (Obj.mk (.type "tuple") (none:Option Nat) (.seq #[] (0:Nat)) #[])) ::
  (nat_lit 134, (Obj.mk (.type "code") (none:Option Nat) (.fields #[(.str "do_actions" (372:Nat)),(.str "do_actions" (373:Nat)),(.str "/claim/cut.py" (374:Nat)),(.int 76 (0:Nat)),(.int 4 (0:Nat)),(.int 0 (0:Nat)),(.int 0 (0:Nat)),(.int 3 (0:Nat)),(.ref (129:Nat)),(.bool true),(.int 181 (0:Nat)),(.ref (130:Nat)),.none,(.ref (131:Nat)),(.ref (132:Nat)),(.ref (133:Nat)),(.int 380 (0:Nat)),(.int 76 (0:Nat)),(.str "/claim/cut.py" (381:Nat))]) #[])) ::
  (nat_lit 135, (Obj.mk (.type "function") (none:Option Nat) (.func (FuncData.mk "do_actions" "do_actions" a11 (.stmts b11) s11 (3:Nat) ([]:List (Str × Nat)) .none .none .none (.str "joinedhand.nested" (289:Nat)) (none:Option Nat) (.ref (134:Nat)) .none (0:Nat))) #[])) ::
  (nat_lit 143, (Obj.mk (.type "tuple") (none:Option Nat) (.seq #[] (0:Nat)) #[])) ::
  (nat_lit 145, (Obj.mk (.type "tuple") (none:Option Nat) (.seq #[(.str "self" (400:Nat)),(.str "code" (401:Nat)),(.str "glyph" (402:Nat)),(.str "cluster" (403:Nat))] (0:Nat)) #[])) ::
  (nat_lit 146, (Obj.mk (.type "tuple") (none:Option Nat) (.seq #[] (0:Nat)) #[])) ::
  (nat_lit 148, (Obj.mk (.type "code") (none:Option Nat) (.fields #[(.str "__init__" (397:Nat)),(.str "Info.__init__" (398:Nat)),(.str "/claim/cut.py" (399:Nat)),(.int 84 (0:Nat)),(.int 4 (0:Nat)),(.int 0 (0:Nat)),(.int 0 (0:Nat)),(.int 3 (0:Nat)),(.ref (143:Nat)),(.bool true),(.int 181 (0:Nat)),(.ref (144:Nat)),.none,(.ref (145:Nat)),(.ref (146:Nat)),(.ref (147:Nat)),(.int 404 (0:Nat)),(.int 84 (0:Nat)),(.str "/claim/cut.py" (405:Nat))]) #[])) ::
  (nat_lit 149, (Obj.mk (.type "function") (none:Option Nat) (.func (FuncData.mk "__init__" "Info.__init__" a12 (.stmts b12) s12 (3:Nat) ([]:List (Str × Nat)) .none .none .none (.str "joinedhand.buffer" (383:Nat)) (none:Option Nat) (.ref (148:Nat)) .none (0:Nat))) #[])) ::
  (nat_lit 150, (Obj.mk (.type "tuple") (none:Option Nat) (.seq #[] (0:Nat)) #[])) ::
  (nat_lit 152, (Obj.mk (.type "tuple") (none:Option Nat) (.seq #[(.str "self" (410:Nat))] (0:Nat)) #[])) ::
  (nat_lit 153, (Obj.mk (.type "tuple") (none:Option Nat) (.seq #[] (0:Nat)) #[])) ::
  (nat_lit 155, (Obj.mk (.type "code") (none:Option Nat) (.fields #[(.str "copied" (407:Nat)),(.str "Info.copied" (408:Nat)),(.str "/claim/cut.py" (409:Nat)),(.int 102 (0:Nat)),(.int 1 (0:Nat)),(.int 0 (0:Nat)),(.int 0 (0:Nat)),(.int 3 (0:Nat)),(.ref (150:Nat)),(.bool true),(.int 181 (0:Nat)),(.ref (151:Nat)),.none,(.ref (152:Nat)),(.ref (153:Nat)),(.ref (154:Nat)),(.int 411 (0:Nat)),(.int 102 (0:Nat)),(.str "/claim/cut.py" (412:Nat))]) #[])) ::
  (nat_lit 156, (Obj.mk (.type "function") (none:Option Nat) (.func (FuncData.mk "copied" "Info.copied" a13 (.stmts b13) s13 (3:Nat) ([]:List (Str × Nat)) .none .none .none (.str "joinedhand.buffer" (383:Nat)) (none:Option Nat) (.ref (155:Nat)) .none (0:Nat))) #[])) ::
  (nat_lit 157, (Obj.mk (.type "tuple") (none:Option Nat) (.seq #[] (0:Nat)) #[])) ::
  (nat_lit 159, (Obj.mk (.type "tuple") (none:Option Nat) (.seq #[(.str "self" (417:Nat))] (0:Nat)) #[])) ::
  (nat_lit 160, (Obj.mk (.type "tuple") (none:Option Nat) (.seq #[] (0:Nat)) #[])) ::
  (nat_lit 162, (Obj.mk (.type "code") (none:Option Nat) (.fields #[(.str "told" (414:Nat)),(.str "Info.told" (415:Nat)),(.str "/claim/cut.py" (416:Nat)),(.int 105 (0:Nat)),(.int 1 (0:Nat)),(.int 0 (0:Nat)),(.int 0 (0:Nat)),(.int 3 (0:Nat)),(.ref (157:Nat)),(.bool true),(.int 181 (0:Nat)),(.ref (158:Nat)),.none,(.ref (159:Nat)),(.ref (160:Nat)),(.ref (161:Nat)),(.int 418 (0:Nat)),(.int 105 (0:Nat)),(.str "/claim/cut.py" (419:Nat))]) #[])) ::
  (nat_lit 163, (Obj.mk (.type "function") (none:Option Nat) (.func (FuncData.mk "told" "Info.told" a14 (.stmts b14) s14 (3:Nat) ([]:List (Str × Nat)) .none .none .none (.str "joinedhand.buffer" (383:Nat)) (none:Option Nat) (.ref (162:Nat)) .none (0:Nat))) #[])) ::
  (nat_lit 164, (Obj.mk (.type "tuple") (none:Option Nat) (.seq #[(.str "bond" (421:Nat)),(.str "cluster" (422:Nat)),(.str "code" (423:Nat)),(.str "glyph" (424:Nat)),(.str "is_unsafe" (425:Nat)),(.str "kind" (426:Nat)),(.str "lig_count" (427:Nat)),(.str "lig_id" (428:Nat)),(.str "lig_part" (429:Nat)),(.str "mask" (430:Nat)),(.str "parent" (431:Nat)),(.str "split_id" (432:Nat)),(.str "x_advance" (433:Nat)),(.str "x_offset" (434:Nat)),(.str "y_advance" (435:Nat)),(.str "y_offset" (436:Nat))] (0:Nat)) #[])) ::
  (nat_lit 165, (Obj.mk (.type "dict") (none:Option Nat) (.dict #[(DictEntry.mk (PyData.keyHash P "__module__") (.str "__module__" (392:Nat)) (.str "joinedhand.buffer" (383:Nat))),(DictEntry.mk (PyData.keyHash P "__firstlineno__") (.str "__firstlineno__" (396:Nat)) (.int 82 (395:Nat))),(DictEntry.mk (PyData.keyHash P "__init__") (.str "__init__" (406:Nat)) (.ref (149:Nat))),(DictEntry.mk (PyData.keyHash P "copied") (.str "copied" (413:Nat)) (.ref (156:Nat))),(DictEntry.mk (PyData.keyHash P "told") (.str "told" (420:Nat)) (.ref (163:Nat))),(DictEntry.mk (PyData.keyHash P "__static_attributes__") (.str "__static_attributes__" (437:Nat)) (.ref (164:Nat))),(DictEntry.mk (PyData.keyHash P "__dict__") (.str "__dict__" (439:Nat)) (.ref (167:Nat))),(DictEntry.mk (PyData.keyHash P "__weakref__") (.str "__weakref__" (441:Nat)) (.ref (168:Nat))),(DictEntry.mk (PyData.keyHash P "__doc__") (.str "__doc__" (442:Nat)) .none)] (4:Nat)) #[])) ::
  (nat_lit 166, (Obj.mk (.type "type") (none:Option Nat) (.cls (ClassData.mk "Info" [(.type "object")] [(.ref (166:Nat)),(.type "object")] (165:Nat) "Info" true [] [] false none false)) #[none,none,(some (.str "Info" (385:Nat))),(some (.str "Info" (393:Nat))),(some (.builtin "object.__new__")),(some (.bool true))])) ::
  (nat_lit 167, (Obj.mk (.type "getset_descriptor") (none:Option Nat) (.fields #[(.str "__dict__" (438:Nat)),(.ref (166:Nat)),(.builtin "function.__dict__"),(.builtin "function.__dict__#set")]) #[])) ::
  (nat_lit 168, (Obj.mk (.type "getset_descriptor") (none:Option Nat) (.fields #[(.str "__weakref__" (440:Nat)),(.ref (166:Nat)),(.builtin "ExceptionGroup.__weakref__"),.none]) #[])) ::
  (nat_lit 178, (Obj.mk (.type "tuple") (none:Option Nat) (.seq #[(.bool false)] (0:Nat)) #[])) ::
  (nat_lit 179, (Obj.mk (.type "tuple") (none:Option Nat) (.seq #[] (0:Nat)) #[])) ::
  (nat_lit 181, (Obj.mk (.type "tuple") (none:Option Nat) (.seq #[(.str "self" (460:Nat)),(.str "infos" (461:Nat)),(.str "is_backward" (462:Nat))] (0:Nat)) #[])) ::
  (nat_lit 182, (Obj.mk (.type "tuple") (none:Option Nat) (.seq #[] (0:Nat)) #[])) ::
  (nat_lit 184, (Obj.mk (.type "code") (none:Option Nat) (.fields #[(.str "__init__" (457:Nat)),(.str "Buffer.__init__" (458:Nat)),(.str "/claim/cut.py" (459:Nat)),(.int 109 (0:Nat)),(.int 3 (0:Nat)),(.int 0 (0:Nat)),(.int 0 (0:Nat)),(.int 3 (0:Nat)),(.ref (179:Nat)),(.bool true),(.int 181 (0:Nat)),(.ref (180:Nat)),.none,(.ref (181:Nat)),(.ref (182:Nat)),(.ref (183:Nat)),(.int 463 (0:Nat)),(.int 109 (0:Nat)),(.str "/claim/cut.py" (464:Nat))]) #[])) ::
  (nat_lit 185, (Obj.mk (.type "function") (none:Option Nat) (.func (FuncData.mk "__init__" "Buffer.__init__" a15 (.stmts b15) s15 (3:Nat) ([]:List (Str × Nat)) (.ref (178:Nat)) .none .none (.str "joinedhand.buffer" (383:Nat)) (none:Option Nat) (.ref (184:Nat)) .none (0:Nat))) #[])) ::
  (nat_lit 186, (Obj.mk (.type "tuple") (none:Option Nat) (.seq #[] (0:Nat)) #[])) ::
  (nat_lit 189, (Obj.mk (.type "code") (none:Option Nat) (.fields #[(.str "glyphs" (466:Nat)),(.str "Buffer.glyphs" (467:Nat)),(.str "/claim/cut.py" (468:Nat)),(.int 115 (0:Nat)),(.int 1 (0:Nat)),(.int 0 (0:Nat)),(.int 0 (0:Nat)),(.int 3 (0:Nat)),(.ref (186:Nat)),(.bool true),(.int 181 (0:Nat)),(.ref (187:Nat)),.none,.none,.none,(.ref (188:Nat)),(.int 469 (0:Nat)),(.int 115 (0:Nat)),(.str "/claim/cut.py" (470:Nat))]) #[])) ::
  (nat_lit 190, (Obj.mk (.type "function") (none:Option Nat) (.func (FuncData.mk "glyphs" "Buffer.glyphs" a16 (.stmts b16) s16 (3:Nat) ([]:List (Str × Nat)) .none .none .none (.str "joinedhand.buffer" (383:Nat)) (none:Option Nat) (.ref (189:Nat)) .none (0:Nat))) #[])) ::
  (nat_lit 191, (Obj.mk (.type "tuple") (none:Option Nat) (.seq #[] (0:Nat)) #[])) ::
  (nat_lit 193, (Obj.mk (.type "tuple") (none:Option Nat) (.seq #[(.str "self" (475:Nat))] (0:Nat)) #[])) ::
  (nat_lit 194, (Obj.mk (.type "tuple") (none:Option Nat) (.seq #[] (0:Nat)) #[])) ::
  (nat_lit 196, (Obj.mk (.type "code") (none:Option Nat) (.fields #[(.str "clusters" (472:Nat)),(.str "Buffer.clusters" (473:Nat)),(.str "/claim/cut.py" (474:Nat)),(.int 118 (0:Nat)),(.int 1 (0:Nat)),(.int 0 (0:Nat)),(.int 0 (0:Nat)),(.int 3 (0:Nat)),(.ref (191:Nat)),(.bool true),(.int 181 (0:Nat)),(.ref (192:Nat)),.none,(.ref (193:Nat)),(.ref (194:Nat)),(.ref (195:Nat)),(.int 476 (0:Nat)),(.int 118 (0:Nat)),(.str "/claim/cut.py" (477:Nat))]) #[])) ::
  (nat_lit 197, (Obj.mk (.type "function") (none:Option Nat) (.func (FuncData.mk "clusters" "Buffer.clusters" a17 (.stmts b17) s17 (3:Nat) ([]:List (Str × Nat)) .none .none .none (.str "joinedhand.buffer" (383:Nat)) (none:Option Nat) (.ref (196:Nat)) .none (0:Nat))) #[])) ::
  (nat_lit 198, (Obj.mk (.type "tuple") (none:Option Nat) (.seq #[] (0:Nat)) #[])) ::
  (nat_lit 201, (Obj.mk (.type "code") (none:Option Nat) (.fields #[(.str "told" (479:Nat)),(.str "Buffer.told" (480:Nat)),(.str "/claim/cut.py" (481:Nat)),(.int 121 (0:Nat)),(.int 1 (0:Nat)),(.int 0 (0:Nat)),(.int 0 (0:Nat)),(.int 3 (0:Nat)),(.ref (198:Nat)),(.bool true),(.int 181 (0:Nat)),(.ref (199:Nat)),.none,.none,.none,(.ref (200:Nat)),(.int 482 (0:Nat)),(.int 121 (0:Nat)),(.str "/claim/cut.py" (483:Nat))]) #[])) ::
  (nat_lit 202, (Obj.mk (.type "function") (none:Option Nat) (.func (FuncData.mk "told" "Buffer.told" a18 (.stmts b18) s18 (3:Nat) ([]:List (Str × Nat)) .none .none .none (.str "joinedhand.buffer" (383:Nat)) (none:Option Nat) (.ref (201:Nat)) .none (0:Nat))) #[])) ::
  (nat_lit 203, (Obj.mk (.type "tuple") (none:Option Nat) (.seq #[] (0:Nat)) #[])) ::
  (nat_lit 205, (Obj.mk (.type "tuple") (none:Option Nat) (.seq #[(.str "self" (488:Nat))] (0:Nat)) #[])) ::
  (nat_lit 206, (Obj.mk (.type "tuple") (none:Option Nat) (.seq #[] (0:Nat)) #[])) ::
  (nat_lit 208, (Obj.mk (.type "code") (none:Option Nat) (.fields #[(.str "next_lig" (485:Nat)),(.str "Buffer.next_lig" (486:Nat)),(.str "/claim/cut.py" (487:Nat)),(.int 124 (0:Nat)),(.int 1 (0:Nat)),(.int 0 (0:Nat)),(.int 0 (0:Nat)),(.int 3 (0:Nat)),(.ref (203:Nat)),(.bool true),(.int 181 (0:Nat)),(.ref (204:Nat)),.none,(.ref (205:Nat)),(.ref (206:Nat)),(.ref (207:Nat)),(.int 489 (0:Nat)),(.int 124 (0:Nat)),(.str "/claim/cut.py" (490:Nat))]) #[])) ::
  (nat_lit 209, (Obj.mk (.type "function") (none:Option Nat) (.func (FuncData.mk "next_lig" "Buffer.next_lig" a19 (.stmts b19) s19 (3:Nat) ([]:List (Str × Nat)) .none .none .none (.str "joinedhand.buffer" (383:Nat)) (none:Option Nat) (.ref (208:Nat)) .none (0:Nat))) #[])) ::
  (nat_lit 210, (Obj.mk (.type "tuple") (none:Option Nat) (.seq #[] (0:Nat)) #[])) ::
  (nat_lit 212, (Obj.mk (.type "tuple") (none:Option Nat) (.seq #[(.str "self" (495:Nat))] (0:Nat)) #[])) ::
  (nat_lit 213, (Obj.mk (.type "tuple") (none:Option Nat) (.seq #[] (0:Nat)) #[])) ::
  (nat_lit 215, (Obj.mk (.type "code") (none:Option Nat) (.fields #[(.str "next_split" (492:Nat)),(.str "Buffer.next_split" (493:Nat)),(.str "/claim/cut.py" (494:Nat)),(.int 127 (0:Nat)),(.int 1 (0:Nat)),(.int 0 (0:Nat)),(.int 0 (0:Nat)),(.int 3 (0:Nat)),(.ref (210:Nat)),(.bool true),(.int 181 (0:Nat)),(.ref (211:Nat)),.none,(.ref (212:Nat)),(.ref (213:Nat)),(.ref (214:Nat)),(.int 496 (0:Nat)),(.int 127 (0:Nat)),(.str "/claim/cut.py" (497:Nat))]) #[])) ::
  (nat_lit 216, (Obj.mk (.type "function") (none:Option Nat) (.func (FuncData.mk "next_split" "Buffer.next_split" a20 (.stmts b20) s20 (3:Nat) ([]:List (Str × Nat)) .none .none .none (.str "joinedhand.buffer" (383:Nat)) (none:Option Nat) (.ref (215:Nat)) .none (0:Nat))) #[])) ::
  (nat_lit 217, (Obj.mk (.type "tuple") (none:Option Nat) (.seq #[(.str "is_backward" (499:Nat)),(.str "last_lig" (500:Nat)),(.str "last_split" (501:Nat)),(.str "row" (502:Nat))] (0:Nat)) #[])) ::
  (nat_lit 218, (Obj.mk (.type "dict") (none:Option Nat) (.dict #[(DictEntry.mk (PyData.keyHash P "__module__") (.str "__module__" (452:Nat)) (.str "joinedhand.buffer" (383:Nat))),(DictEntry.mk (PyData.keyHash P "__firstlineno__") (.str "__firstlineno__" (456:Nat)) (.int 107 (455:Nat))),(DictEntry.mk (PyData.keyHash P "__init__") (.str "__init__" (465:Nat)) (.ref (185:Nat))),(DictEntry.mk (PyData.keyHash P "glyphs") (.str "glyphs" (471:Nat)) (.ref (190:Nat))),(DictEntry.mk (PyData.keyHash P "clusters") (.str "clusters" (478:Nat)) (.ref (197:Nat))),(DictEntry.mk (PyData.keyHash P "told") (.str "told" (484:Nat)) (.ref (202:Nat))),(DictEntry.mk (PyData.keyHash P "next_lig") (.str "next_lig" (491:Nat)) (.ref (209:Nat))),(DictEntry.mk (PyData.keyHash P "next_split") (.str "next_split" (498:Nat)) (.ref (216:Nat))),(DictEntry.mk (PyData.keyHash P "__static_attributes__") (.str "__static_attributes__" (503:Nat)) (.ref (217:Nat))),(DictEntry.mk (PyData.keyHash P "__dict__") (.str "__dict__" (505:Nat)) (.ref (220:Nat))),(DictEntry.mk (PyData.keyHash P "__weakref__") (.str "__weakref__" (507:Nat)) (.ref (221:Nat))),(DictEntry.mk (PyData.keyHash P "__doc__") (.str "__doc__" (508:Nat)) .none)] (4:Nat)) #[])) ::
  (nat_lit 219, (Obj.mk (.type "type") (none:Option Nat) (.cls (ClassData.mk "Buffer" [(.type "object")] [(.ref (219:Nat)),(.type "object")] (218:Nat) "Buffer" true [] [] false none false)) #[none,none,(some (.str "Buffer" (445:Nat))),(some (.str "Buffer" (453:Nat))),(some (.builtin "object.__new__")),(some (.bool true))])) ::
  (nat_lit 220, (Obj.mk (.type "getset_descriptor") (none:Option Nat) (.fields #[(.str "__dict__" (504:Nat)),(.ref (219:Nat)),(.builtin "function.__dict__"),(.builtin "function.__dict__#set")]) #[])) ::
  (nat_lit 221, (Obj.mk (.type "getset_descriptor") (none:Option Nat) (.fields #[(.str "__weakref__" (506:Nat)),(.ref (219:Nat)),(.builtin "ExceptionGroup.__weakref__"),.none]) #[])) ::
  (nat_lit 231, (Obj.mk (.type "tuple") (none:Option Nat) (.seq #[] (0:Nat)) #[])) ::
  (nat_lit 233, (Obj.mk (.type "tuple") (none:Option Nat) (.seq #[(.str "self" (528:Nat)),(.str "classes" (529:Nat))] (0:Nat)) #[])) ::
  (nat_lit 234, (Obj.mk (.type "tuple") (none:Option Nat) (.seq #[] (0:Nat)) #[])) ::
  (nat_lit 236, (Obj.mk (.type "code") (none:Option Nat) (.fields #[(.str "__init__" (525:Nat)),(.str "ClassDef.__init__" (526:Nat)),(.str "/claim/cut.py" (527:Nat)),(.int 132 (0:Nat)),(.int 2 (0:Nat)),(.int 0 (0:Nat)),(.int 0 (0:Nat)),(.int 3 (0:Nat)),(.ref (231:Nat)),(.bool true),(.int 181 (0:Nat)),(.ref (232:Nat)),.none,(.ref (233:Nat)),(.ref (234:Nat)),(.ref (235:Nat)),(.int 530 (0:Nat)),(.int 132 (0:Nat)),(.str "/claim/cut.py" (531:Nat))]) #[])) ::
  (nat_lit 237, (Obj.mk (.type "function") (none:Option Nat) (.func (FuncData.mk "__init__" "ClassDef.__init__" a21 (.stmts b21) s21 (3:Nat) ([]:List (Str × Nat)) .none .none .none (.str "joinedhand.classdefs" (511:Nat)) (none:Option Nat) (.ref (236:Nat)) .none (0:Nat))) #[])) ::
  (nat_lit 238, (Obj.mk (.type "tuple") (none:Option Nat) (.seq #[] (0:Nat)) #[])) ::
  (nat_lit 240, (Obj.mk (.type "tuple") (none:Option Nat) (.seq #[(.str "self" (536:Nat)),(.str "glyph" (537:Nat))] (0:Nat)) #[])) ::
  (nat_lit 241, (Obj.mk (.type "tuple") (none:Option Nat) (.seq #[] (0:Nat)) #[])) ::
  (nat_lit 243, (Obj.mk (.type "code") (none:Option Nat) (.fields #[(.str "class_of" (533:Nat)),(.str "ClassDef.class_of" (534:Nat)),(.str "/claim/cut.py" (535:Nat)),(.int 135 (0:Nat)),(.int 2 (0:Nat)),(.int 0 (0:Nat)),(.int 0 (0:Nat)),(.int 3 (0:Nat)),(.ref (238:Nat)),(.bool true),(.int 181 (0:Nat)),(.ref (239:Nat)),.none,(.ref (240:Nat)),(.ref (241:Nat)),(.ref (242:Nat)),(.int 538 (0:Nat)),(.int 135 (0:Nat)),(.str "/claim/cut.py" (539:Nat))]) #[])) ::
  (nat_lit 244, (Obj.mk (.type "function") (none:Option Nat) (.func (FuncData.mk "class_of" "ClassDef.class_of" a22 (.stmts b22) s22 (3:Nat) ([]:List (Str × Nat)) .none .none .none (.str "joinedhand.classdefs" (511:Nat)) (none:Option Nat) (.ref (243:Nat)) .none (0:Nat))) #[])) ::
  (nat_lit 245, (Obj.mk (.type "tuple") (none:Option Nat) (.seq #[] (0:Nat)) #[])) ::
  (nat_lit 247, (Obj.mk (.type "tuple") (none:Option Nat) (.seq #[(.str "self" (544:Nat)),(.str "number" (545:Nat))] (0:Nat)) #[])) ::
  (nat_lit 248, (Obj.mk (.type "tuple") (none:Option Nat) (.seq #[] (0:Nat)) #[])) ::
  (nat_lit 250, (Obj.mk (.type "code") (none:Option Nat) (.fields #[(.str "glyphs_of" (541:Nat)),(.str "ClassDef.glyphs_of" (542:Nat)),(.str "/claim/cut.py" (543:Nat)),(.int 138 (0:Nat)),(.int 2 (0:Nat)),(.int 0 (0:Nat)),(.int 0 (0:Nat)),(.int 3 (0:Nat)),(.ref (245:Nat)),(.bool true),(.int 181 (0:Nat)),(.ref (246:Nat)),.none,(.ref (247:Nat)),(.ref (248:Nat)),(.ref (249:Nat)),(.int 546 (0:Nat)),(.int 138 (0:Nat)),(.str "/claim/cut.py" (547:Nat))]) #[])) ::
  (nat_lit 251, (Obj.mk (.type "function") (none:Option Nat) (.func (FuncData.mk "glyphs_of" "ClassDef.glyphs_of" a23 (.stmts b23) s23 (3:Nat) ([]:List (Str × Nat)) .none .none .none (.str "joinedhand.classdefs" (511:Nat)) (none:Option Nat) (.ref (250:Nat)) .none (0:Nat))) #[])) ::
  (nat_lit 252, (Obj.mk (.type "tuple") (none:Option Nat) (.seq #[] (0:Nat)) #[])) ::
  (nat_lit 254, (Obj.mk (.type "tuple") (none:Option Nat) (.seq #[(.str "self" (552:Nat))] (0:Nat)) #[])) ::
  (nat_lit 255, (Obj.mk (.type "tuple") (none:Option Nat) (.seq #[] (0:Nat)) #[])) ::
  (nat_lit 257, (Obj.mk (.type "code") (none:Option Nat) (.fields #[(.str "count" (549:Nat)),(.str "ClassDef.count" (550:Nat)),(.str "/claim/cut.py" (551:Nat)),(.int 141 (0:Nat)),(.int 1 (0:Nat)),(.int 0 (0:Nat)),(.int 0 (0:Nat)),(.int 3 (0:Nat)),(.ref (252:Nat)),(.bool true),(.int 181 (0:Nat)),(.ref (253:Nat)),.none,(.ref (254:Nat)),(.ref (255:Nat)),(.ref (256:Nat)),(.int 553 (0:Nat)),(.int 141 (0:Nat)),(.str "/claim/cut.py" (554:Nat))]) #[])) ::
  (nat_lit 258, (Obj.mk (.type "function") (none:Option Nat) (.func (FuncData.mk "count" "ClassDef.count" a24 (.stmts b24) s24 (3:Nat) ([]:List (Str × Nat)) .none .none .none (.str "joinedhand.classdefs" (511:Nat)) (none:Option Nat) (.ref (257:Nat)) .none (0:Nat))) #[])) ::
  (nat_lit 259, (Obj.mk (.type "tuple") (none:Option Nat) (.seq #[] (0:Nat)) #[])) ::
  (nat_lit 262, (Obj.mk (.type "code") (none:Option Nat) (.fields #[(.str "told" (556:Nat)),(.str "ClassDef.told" (557:Nat)),(.str "/claim/cut.py" (558:Nat)),(.int 144 (0:Nat)),(.int 1 (0:Nat)),(.int 0 (0:Nat)),(.int 0 (0:Nat)),(.int 3 (0:Nat)),(.ref (259:Nat)),(.bool true),(.int 181 (0:Nat)),(.ref (260:Nat)),.none,.none,.none,(.ref (261:Nat)),(.int 559 (0:Nat)),(.int 144 (0:Nat)),(.str "/claim/cut.py" (560:Nat))]) #[])) ::
  (nat_lit 263, (Obj.mk (.type "function") (none:Option Nat) (.func (FuncData.mk "told" "ClassDef.told" a25 (.stmts b25) s25 (3:Nat) ([]:List (Str × Nat)) .none .none .none (.str "joinedhand.classdefs" (511:Nat)) (none:Option Nat) (.ref (262:Nat)) .none (0:Nat))) #[])) ::
  (nat_lit 264, (Obj.mk (.type "tuple") (none:Option Nat) (.seq #[(.str "classes" (562:Nat))] (0:Nat)) #[])) ::
  (nat_lit 265, (Obj.mk (.type "dict") (none:Option Nat) (.dict #[(DictEntry.mk (PyData.keyHash P "__module__") (.str "__module__" (520:Nat)) (.str "joinedhand.classdefs" (511:Nat))),(DictEntry.mk (PyData.keyHash P "__firstlineno__") (.str "__firstlineno__" (524:Nat)) (.int 130 (523:Nat))),(DictEntry.mk (PyData.keyHash P "__init__") (.str "__init__" (532:Nat)) (.ref (237:Nat))),(DictEntry.mk (PyData.keyHash P "class_of") (.str "class_of" (540:Nat)) (.ref (244:Nat))),(DictEntry.mk (PyData.keyHash P "glyphs_of") (.str "glyphs_of" (548:Nat)) (.ref (251:Nat))),(DictEntry.mk (PyData.keyHash P "count") (.str "count" (555:Nat)) (.ref (258:Nat))),(DictEntry.mk (PyData.keyHash P "told") (.str "told" (561:Nat)) (.ref (263:Nat))),(DictEntry.mk (PyData.keyHash P "__static_attributes__") (.str "__static_attributes__" (563:Nat)) (.ref (264:Nat))),(DictEntry.mk (PyData.keyHash P "__dict__") (.str "__dict__" (565:Nat)) (.ref (267:Nat))),(DictEntry.mk (PyData.keyHash P "__weakref__") (.str "__weakref__" (567:Nat)) (.ref (268:Nat))),(DictEntry.mk (PyData.keyHash P "__doc__") (.str "__doc__" (568:Nat)) .none)] (4:Nat)) #[])) ::
  (nat_lit 266, (Obj.mk (.type "type") (none:Option Nat) (.cls (ClassData.mk "ClassDef" [(.type "object")] [(.ref (266:Nat)),(.type "object")] (265:Nat) "ClassDef" true [] [] false none false)) #[none,none,(some (.str "ClassDef" (513:Nat))),(some (.str "ClassDef" (521:Nat))),(some (.builtin "object.__new__")),(some (.bool true))])) ::
  (nat_lit 267, (Obj.mk (.type "getset_descriptor") (none:Option Nat) (.fields #[(.str "__dict__" (564:Nat)),(.ref (266:Nat)),(.builtin "function.__dict__"),(.builtin "function.__dict__#set")]) #[])) ::
  (nat_lit 268, (Obj.mk (.type "getset_descriptor") (none:Option Nat) (.fields #[(.str "__weakref__" (566:Nat)),(.ref (266:Nat)),(.builtin "ExceptionGroup.__weakref__"),.none]) #[])) ::
  (nat_lit 278, (Obj.mk (.type "tuple") (none:Option Nat) (.seq #[.none,.none] (0:Nat)) #[])) ::
  (nat_lit 279, (Obj.mk (.type "tuple") (none:Option Nat) (.seq #[] (0:Nat)) #[])) ::
  (nat_lit 281, (Obj.mk (.type "tuple") (none:Option Nat) (.seq #[(.str "self" (588:Nat)),(.str "classes" (589:Nat)),(.str "attach" (590:Nat)),(.str "sets" (591:Nat)),(.str "points" (592:Nat)),(.str "carets" (593:Nat))] (0:Nat)) #[])) ::
  (nat_lit 282, (Obj.mk (.type "tuple") (none:Option Nat) (.seq #[] (0:Nat)) #[])) ::
  (nat_lit 284, (Obj.mk (.type "code") (none:Option Nat) (.fields #[(.str "__init__" (585:Nat)),(.str "Gdef.__init__" (586:Nat)),(.str "/claim/cut.py" (587:Nat)),(.int 149 (0:Nat)),(.int 6 (0:Nat)),(.int 0 (0:Nat)),(.int 0 (0:Nat)),(.int 3 (0:Nat)),(.ref (279:Nat)),(.bool true),(.int 181 (0:Nat)),(.ref (280:Nat)),.none,(.ref (281:Nat)),(.ref (282:Nat)),(.ref (283:Nat)),(.int 594 (0:Nat)),(.int 149 (0:Nat)),(.str "/claim/cut.py" (595:Nat))]) #[])) ::
  (nat_lit 285, (Obj.mk (.type "function") (none:Option Nat) (.func (FuncData.mk "__init__" "Gdef.__init__" a26 (.stmts b26) s26 (3:Nat) ([]:List (Str × Nat)) (.ref (278:Nat)) .none .none (.str "joinedhand.gdef" (571:Nat)) (none:Option Nat) (.ref (284:Nat)) .none (0:Nat))) #[])) ::
  (nat_lit 286, (Obj.mk (.type "tuple") (none:Option Nat) (.seq #[] (0:Nat)) #[])) ::
  (nat_lit 288, (Obj.mk (.type "tuple") (none:Option Nat) (.seq #[(.str "self" (600:Nat)),(.str "glyph" (601:Nat))] (0:Nat)) #[])) ::
  (nat_lit 289, (Obj.mk (.type "tuple") (none:Option Nat) (.seq #[] (0:Nat)) #[])) ::
  (nat_lit 291, (Obj.mk (.type "code") (none:Option Nat) (.fields #[(.str "glyph_class" (597:Nat)),(.str "Gdef.glyph_class" (598:Nat)),(.str "/claim/cut.py" (599:Nat)),(.int 156 (0:Nat)),(.int 2 (0:Nat)),(.int 0 (0:Nat)),(.int 0 (0:Nat)),(.int 3 (0:Nat)),(.ref (286:Nat)),(.bool true),(.int 181 (0:Nat)),(.ref (287:Nat)),.none,(.ref (288:Nat)),(.ref (289:Nat)),(.ref (290:Nat)),(.int 602 (0:Nat)),(.int 156 (0:Nat)),(.str "/claim/cut.py" (603:Nat))]) #[])) ::
  (nat_lit 292, (Obj.mk (.type "function") (none:Option Nat) (.func (FuncData.mk "glyph_class" "Gdef.glyph_class" a27 (.stmts b27) s27 (3:Nat) ([]:List (Str × Nat)) .none .none .none (.str "joinedhand.gdef" (571:Nat)) (none:Option Nat) (.ref (291:Nat)) .none (0:Nat))) #[])) ::
  (nat_lit 293, (Obj.mk (.type "tuple") (none:Option Nat) (.seq #[] (0:Nat)) #[])) ::
  (nat_lit 295, (Obj.mk (.type "tuple") (none:Option Nat) (.seq #[(.str "self" (608:Nat)),(.str "glyph" (609:Nat))] (0:Nat)) #[])) ::
  (nat_lit 296, (Obj.mk (.type "tuple") (none:Option Nat) (.seq #[] (0:Nat)) #[])) ::
  (nat_lit 298, (Obj.mk (.type "code") (none:Option Nat) (.fields #[(.str "attach_class" (605:Nat)),(.str "Gdef.attach_class" (606:Nat)),(.str "/claim/cut.py" (607:Nat)),(.int 159 (0:Nat)),(.int 2 (0:Nat)),(.int 0 (0:Nat)),(.int 0 (0:Nat)),(.int 3 (0:Nat)),(.ref (293:Nat)),(.bool true),(.int 181 (0:Nat)),(.ref (294:Nat)),.none,(.ref (295:Nat)),(.ref (296:Nat)),(.ref (297:Nat)),(.int 610 (0:Nat)),(.int 159 (0:Nat)),(.str "/claim/cut.py" (611:Nat))]) #[])) ::
  (nat_lit 299, (Obj.mk (.type "function") (none:Option Nat) (.func (FuncData.mk "attach_class" "Gdef.attach_class" a28 (.stmts b28) s28 (3:Nat) ([]:List (Str × Nat)) .none .none .none (.str "joinedhand.gdef" (571:Nat)) (none:Option Nat) (.ref (298:Nat)) .none (0:Nat))) #[])) ::
  (nat_lit 300, (Obj.mk (.type "tuple") (none:Option Nat) (.seq #[] (0:Nat)) #[])) ::
  (nat_lit 302, (Obj.mk (.type "tuple") (none:Option Nat) (.seq #[(.str "self" (616:Nat)),(.str "number" (617:Nat)),(.str "glyph" (618:Nat))] (0:Nat)) #[])) ::
  (nat_lit 303, (Obj.mk (.type "tuple") (none:Option Nat) (.seq #[] (0:Nat)) #[])) ::
  (nat_lit 305, (Obj.mk (.type "code") (none:Option Nat) (.fields #[(.str "is_in_set" (613:Nat)),(.str "Gdef.is_in_set" (614:Nat)),(.str "/claim/cut.py" (615:Nat)),(.int 162 (0:Nat)),(.int 3 (0:Nat)),(.int 0 (0:Nat)),(.int 0 (0:Nat)),(.int 3 (0:Nat)),(.ref (300:Nat)),(.bool true),(.int 181 (0:Nat)),(.ref (301:Nat)),.none,(.ref (302:Nat)),(.ref (303:Nat)),(.ref (304:Nat)),(.int 619 (0:Nat)),(.int 162 (0:Nat)),(.str "/claim/cut.py" (620:Nat))]) #[])) ::
  (nat_lit 306, (Obj.mk (.type "function") (none:Option Nat) (.func (FuncData.mk "is_in_set" "Gdef.is_in_set" a29 (.stmts b29) s29 (3:Nat) ([]:List (Str × Nat)) .none .none .none (.str "joinedhand.gdef" (571:Nat)) (none:Option Nat) (.ref (305:Nat)) .none (0:Nat))) #[])) ::
  (nat_lit 307, (Obj.mk (.type "tuple") (none:Option Nat) (.seq #[] (0:Nat)) #[])) ::
  (nat_lit 310, (Obj.mk (.type "code") (none:Option Nat) (.fields #[(.str "told" (622:Nat)),(.str "Gdef.told" (623:Nat)),(.str "/claim/cut.py" (624:Nat)),(.int 165 (0:Nat)),(.int 1 (0:Nat)),(.int 0 (0:Nat)),(.int 0 (0:Nat)),(.int 3 (0:Nat)),(.ref (307:Nat)),(.bool true),(.int 181 (0:Nat)),(.ref (308:Nat)),.none,.none,.none,(.ref (309:Nat)),(.int 625 (0:Nat)),(.int 165 (0:Nat)),(.str "/claim/cut.py" (626:Nat))]) #[])) ::
  (nat_lit 311, (Obj.mk (.type "function") (none:Option Nat) (.func (FuncData.mk "told" "Gdef.told" a30 (.stmts b30) s30 (3:Nat) ([]:List (Str × Nat)) .none .none .none (.str "joinedhand.gdef" (571:Nat)) (none:Option Nat) (.ref (310:Nat)) .none (0:Nat))) #[])) ::
  (nat_lit 312, (Obj.mk (.type "tuple") (none:Option Nat) (.seq #[(.str "attach" (628:Nat)),(.str "carets" (629:Nat)),(.str "classes" (630:Nat)),(.str "points" (631:Nat)),(.str "sets" (632:Nat))] (0:Nat)) #[])) ::
  (nat_lit 313, (Obj.mk (.type "dict") (none:Option Nat) (.dict #[(DictEntry.mk (PyData.keyHash P "__module__") (.str "__module__" (580:Nat)) (.str "joinedhand.gdef" (571:Nat))),(DictEntry.mk (PyData.keyHash P "__firstlineno__") (.str "__firstlineno__" (584:Nat)) (.int 147 (583:Nat))),(DictEntry.mk (PyData.keyHash P "__init__") (.str "__init__" (596:Nat)) (.ref (285:Nat))),(DictEntry.mk (PyData.keyHash P "glyph_class") (.str "glyph_class" (604:Nat)) (.ref (292:Nat))),(DictEntry.mk (PyData.keyHash P "attach_class") (.str "attach_class" (612:Nat)) (.ref (299:Nat))),(DictEntry.mk (PyData.keyHash P "is_in_set") (.str "is_in_set" (621:Nat)) (.ref (306:Nat))),(DictEntry.mk (PyData.keyHash P "told") (.str "told" (627:Nat)) (.ref (311:Nat))),(DictEntry.mk (PyData.keyHash P "__static_attributes__") (.str "__static_attributes__" (633:Nat)) (.ref (312:Nat))),(DictEntry.mk (PyData.keyHash P "__dict__") (.str "__dict__" (635:Nat)) (.ref (315:Nat))),(DictEntry.mk (PyData.keyHash P "__weakref__") (.str "__weakref__" (637:Nat)) (.ref (316:Nat))),(DictEntry.mk (PyData.keyHash P "__doc__") (.str "__doc__" (638:Nat)) .none)] (4:Nat)) #[])) ::
  (nat_lit 314, (Obj.mk (.type "type") (none:Option Nat) (.cls (ClassData.mk "Gdef" [(.type "object")] [(.ref (314:Nat)),(.type "object")] (313:Nat) "Gdef" true [] [] false none false)) #[none,none,(some (.str "Gdef" (573:Nat))),(some (.str "Gdef" (581:Nat))),(some (.builtin "object.__new__")),(some (.bool true))])) ::
  (nat_lit 315, (Obj.mk (.type "getset_descriptor") (none:Option Nat) (.fields #[(.str "__dict__" (634:Nat)),(.ref (314:Nat)),(.builtin "function.__dict__"),(.builtin "function.__dict__#set")]) #[])) ::
  (nat_lit 316, (Obj.mk (.type "getset_descriptor") (none:Option Nat) (.fields #[(.str "__weakref__" (636:Nat)),(.ref (314:Nat)),(.builtin "ExceptionGroup.__weakref__"),.none]) #[])) ::
  (nat_lit 319, (Obj.mk (.type "tuple") (none:Option Nat) (.seq #[] (0:Nat)) #[])) ::
  (nat_lit 321, (Obj.mk (.type "tuple") (none:Option Nat) (.seq #[(.str "pool" (646:Nat)),(.str "many" (647:Nat)),(.str "digit" (648:Nat))] (0:Nat)) #[])) ::
  (nat_lit 322, (Obj.mk (.type "tuple") (none:Option Nat) (.seq #[] (0:Nat)) #[])) ::
  (nat_lit 324, (Obj.mk (.type "code") (none:Option Nat) (.fields #[(.str "_law_take" (643:Nat)),(.str "_law_take" (644:Nat)),(.str "/claim/cut.py" (645:Nat)),(.int 170 (0:Nat)),(.int 2 (0:Nat)),(.int 0 (0:Nat)),(.int 0 (0:Nat)),(.int 3 (0:Nat)),(.ref (319:Nat)),(.bool true),(.int 181 (0:Nat)),(.ref (320:Nat)),.none,(.ref (321:Nat)),(.ref (322:Nat)),(.ref (323:Nat)),(.int 649 (0:Nat)),(.int 170 (0:Nat)),(.str "/claim/cut.py" (650:Nat))]) #[])) ::
  (nat_lit 325, (Obj.mk (.type "function") (none:Option Nat) (.func (FuncData.mk "_law_take" "_law_take" a31 (.stmts b31) s31 (3:Nat) ([]:List (Str × Nat)) .none .none .none (.str "law_pb0189_01" (641:Nat)) (none:Option Nat) (.ref (324:Nat)) .none (0:Nat))) #[])) ::
  (nat_lit 326, (Obj.mk (.type "tuple") (none:Option Nat) (.seq #[] (0:Nat)) #[])) ::
  (nat_lit 329, (Obj.mk (.type "code") (none:Option Nat) (.fields #[(.str "_law_edit" (652:Nat)),(.str "_law_edit" (653:Nat)),(.str "/claim/cut.py" (654:Nat)),(.int 178 (0:Nat)),(.int 3 (0:Nat)),(.int 0 (0:Nat)),(.int 0 (0:Nat)),(.int 3 (0:Nat)),(.ref (326:Nat)),(.bool true),(.int 181 (0:Nat)),(.ref (327:Nat)),.none,.none,.none,(.ref (328:Nat)),(.int 655 (0:Nat)),(.int 178 (0:Nat)),(.str "/claim/cut.py" (656:Nat))]) #[])) ::
  (nat_lit 330, (Obj.mk (.type "function") (none:Option Nat) (.func (FuncData.mk "_law_edit" "_law_edit" a32 (.stmts b32) s32 (3:Nat) ([]:List (Str × Nat)) .none .none .none (.str "law_pb0189_01" (641:Nat)) (none:Option Nat) (.ref (329:Nat)) .none (0:Nat))) #[])) ::
  (nat_lit 331, (Obj.mk (.type "tuple") (none:Option Nat) (.seq #[] (0:Nat)) #[])) ::
  (nat_lit 334, (Obj.mk (.type "code") (none:Option Nat) (.fields #[(.str "_law_done" (658:Nat)),(.str "_law_done" (659:Nat)),(.str "/claim/cut.py" (660:Nat)),(.int 184 (0:Nat)),(.int 4 (0:Nat)),(.int 0 (0:Nat)),(.int 0 (0:Nat)),(.int 3 (0:Nat)),(.ref (331:Nat)),(.bool true),(.int 181 (0:Nat)),(.ref (332:Nat)),.none,.none,.none,(.ref (333:Nat)),(.int 661 (0:Nat)),(.int 184 (0:Nat)),(.str "/claim/cut.py" (662:Nat))]) #[])) ::
  (nat_lit 335, (Obj.mk (.type "function") (none:Option Nat) (.func (FuncData.mk "_law_done" "_law_done" a33 (.stmts b33) s33 (3:Nat) ([]:List (Str × Nat)) .none .none .none (.str "law_pb0189_01" (641:Nat)) (none:Option Nat) (.ref (334:Nat)) .none (0:Nat))) #[])) ::
  (nat_lit 336, (Obj.mk (.type "tuple") (none:Option Nat) (.seq #[] (0:Nat)) #[])) ::
  (nat_lit 339, (Obj.mk (.type "code") (none:Option Nat) (.fields #[(.str "law" (664:Nat)),(.str "law" (665:Nat)),(.str "/claim/cut.py" (666:Nat)),(.int 199 (0:Nat)),(.int 1 (0:Nat)),(.int 0 (0:Nat)),(.int 0 (0:Nat)),(.int 3 (0:Nat)),(.ref (336:Nat)),(.bool true),(.int 181 (0:Nat)),(.ref (337:Nat)),.none,.none,.none,(.ref (338:Nat)),(.int 667 (0:Nat)),(.int 199 (0:Nat)),(.str "/claim/cut.py" (668:Nat))]) #[])) ::
  (nat_lit 340, (Obj.mk (.type "function") (none:Option Nat) (.func (FuncData.mk "law" "law" a34 (.stmts b34) s34 (3:Nat) ([]:List (Str × Nat)) .none .none .none (.str "law_pb0189_01" (641:Nat)) (none:Option Nat) (.ref (339:Nat)) .none (0:Nat))) #[])) :: [] : List (Nat × Obj)))
  _ _ _ rfl _ _ _ rfl _ _ _ rfl _ _ _ rfl _ _ _ rfl _ _ _ rfl _ _ _ rfl _ _ _ rfl _ _ _ rfl _ _ _ rfl _ _ _ rfl _ _ _ rfl _ _ _ rfl _ _ _ rfl _ _ _ rfl _ _ _ rfl _ _ _ rfl _ _ _ rfl _ _ _ rfl _ _ _ rfl _ _ _ rfl _ _ _ rfl _ _ _ rfl _ _ _ rfl _ _ _ rfl _ _ _ rfl _ _ _ rfl _ _ _ rfl _ _ _ rfl _ _ _ rfl _ _ _ rfl _ _ _ rfl _ _ _ rfl _ _ _ rfl _ _ _ rfl
noncomputable def Kas : List Nat := nat_lit 2 :: nat_lit 3 :: nat_lit 15 :: nat_lit 17 :: nat_lit 18 :: nat_lit 20 :: nat_lit 21 :: nat_lit 29 :: nat_lit 31 :: nat_lit 32 :: nat_lit 34 :: nat_lit 35 :: nat_lit 36 :: nat_lit 39 :: nat_lit 40 :: nat_lit 41 :: nat_lit 42 :: nat_lit 43 :: nat_lit 44 :: nat_lit 45 :: nat_lit 55 :: nat_lit 56 :: nat_lit 58 :: nat_lit 59 :: nat_lit 61 :: nat_lit 62 :: nat_lit 63 :: nat_lit 64 :: nat_lit 65 :: nat_lit 66 :: nat_lit 67 :: nat_lit 70 :: nat_lit 72 :: nat_lit 73 :: nat_lit 75 :: nat_lit 76 :: nat_lit 84 :: nat_lit 86 :: nat_lit 87 :: nat_lit 89 :: nat_lit 90 :: nat_lit 91 :: nat_lit 92 :: nat_lit 93 :: nat_lit 94 :: nat_lit 95 :: nat_lit 98 :: nat_lit 100 :: nat_lit 101 :: nat_lit 103 :: nat_lit 104 :: nat_lit 105 :: nat_lit 108 :: nat_lit 109 :: nat_lit 110 :: nat_lit 113 :: nat_lit 114 :: nat_lit 115 :: nat_lit 117 :: nat_lit 118 :: nat_lit 120 :: nat_lit 121 :: nat_lit 122 :: nat_lit 124 :: nat_lit 125 :: nat_lit 127 :: nat_lit 128 :: nat_lit 129 :: nat_lit 131 :: nat_lit 132 :: nat_lit 134 :: nat_lit 135 :: nat_lit 143 :: nat_lit 145 :: nat_lit 146 :: nat_lit 148 :: nat_lit 149 :: nat_lit 150 :: nat_lit 152 :: nat_lit 153 :: nat_lit 155 :: nat_lit 156 :: nat_lit 157 :: nat_lit 159 :: nat_lit 160 :: nat_lit 162 :: nat_lit 163 :: nat_lit 164 :: nat_lit 165 :: nat_lit 166 :: nat_lit 167 :: nat_lit 168 :: nat_lit 178 :: nat_lit 179 :: nat_lit 181 :: nat_lit 182 :: nat_lit 184 :: nat_lit 185 :: nat_lit 186 :: nat_lit 189 :: nat_lit 190 :: nat_lit 191 :: nat_lit 193 :: nat_lit 194 :: nat_lit 196 :: nat_lit 197 :: nat_lit 198 :: nat_lit 201 :: nat_lit 202 :: nat_lit 203 :: nat_lit 205 :: nat_lit 206 :: nat_lit 208 :: nat_lit 209 :: nat_lit 210 :: nat_lit 212 :: nat_lit 213 :: nat_lit 215 :: nat_lit 216 :: nat_lit 217 :: nat_lit 218 :: nat_lit 219 :: nat_lit 220 :: nat_lit 221 :: nat_lit 231 :: nat_lit 233 :: nat_lit 234 :: nat_lit 236 :: nat_lit 237 :: nat_lit 238 :: nat_lit 240 :: nat_lit 241 :: nat_lit 243 :: nat_lit 244 :: nat_lit 245 :: nat_lit 247 :: nat_lit 248 :: nat_lit 250 :: nat_lit 251 :: nat_lit 252 :: nat_lit 254 :: nat_lit 255 :: nat_lit 257 :: nat_lit 258 :: nat_lit 259 :: nat_lit 262 :: nat_lit 263 :: nat_lit 264 :: nat_lit 265 :: nat_lit 266 :: nat_lit 267 :: nat_lit 268 :: nat_lit 278 :: nat_lit 279 :: nat_lit 281 :: nat_lit 282 :: nat_lit 284 :: nat_lit 285 :: nat_lit 286 :: nat_lit 288 :: nat_lit 289 :: nat_lit 291 :: nat_lit 292 :: nat_lit 293 :: nat_lit 295 :: nat_lit 296 :: nat_lit 298 :: nat_lit 299 :: nat_lit 300 :: nat_lit 302 :: nat_lit 303 :: nat_lit 305 :: nat_lit 306 :: nat_lit 307 :: nat_lit 310 :: nat_lit 311 :: nat_lit 312 :: nat_lit 313 :: nat_lit 314 :: nat_lit 315 :: nat_lit 316 :: nat_lit 319 :: nat_lit 321 :: nat_lit 322 :: nat_lit 324 :: nat_lit 325 :: nat_lit 326 :: nat_lit 329 :: nat_lit 330 :: nat_lit 331 :: nat_lit 334 :: nat_lit 335 :: nat_lit 336 :: nat_lit 339 :: nat_lit 340 :: []
theorem Kas_eq : ∀ P, Kas = (K P).map (·.1) := fun _ => by kernel_rfl
end Mine
end

section
open PySem PySem.W PySem.Calls PySem.Spec PyProof.Rows
namespace Mine
noncomputable def Q : Program := view PySem.Challenge.pw_pb0189_01 [0, 2, 3, 4, 5, 7, 8, 9, 10, 11, 12, 13, 14, 15, 16, 18, 19, 21, 23, 25, 26, 27, 28]
noncomputable abbrev H : Hook := kmHook K Kas Kas_eq [332]
noncomputable abbrev rowR : RowW := PySem.Challenge.rw_pb0189_01.row.toRowW
noncomputable abbrev Xt : Shared → Bool := fun s => xlAt Q [] s && recOk (RowW.records rowR) s
noncomputable def S0 (w : World) (os : OsState) : SharedT :=
  ⟨.node (boot_o_0 w.params)
      (.node (boot_o_1 w.params) (.node (boot_o_3 w.params) (.node (boot_o_7 w.params) .nil .nil) .nil) (.node (boot_o_5 w.params) (.node (boot_o_9 w.params) .nil .nil) .nil))
      (.node (boot_o_2 w.params) (.node (boot_o_4 w.params) (.node (boot_o_8 w.params) .nil .nil) .nil) (.node (boot_o_6 w.params) (.node (boot_o_10 w.params) .nil .nil) .nil)),
    11, (boot_heap w.params).life, Array.mk [], boot_drawn, boot_toks, os⟩
theorem tree0 : ∀ w os, (S0 w os).abs = ⟨boot_heap w.params, Array.mk [], boot_drawn, boot_toks, os⟩ := fun w os => by kernel_rfl
theorem open0 : ∀ w : World, (fencedOpening treeTable PySem.Challenge.pw_pb0189_01 w 5196).map (fun s => (s.heap, s.gens, s.drawn, s.toks)) = some (boot_heap w.params, Array.mk [], boot_drawn, boot_toks) :=
  boot_open (by kernel_rfl) (by decide +kernel) (fun s => by kernel_rfl)
theorem size0 : ∀ w : World, ((boot_heap w.params).isNs mainGlobals && (Array.mk ([] : List GenState)).size == 0, (boot_heap w.params).objs.size, (boot_heap w.params).nsMap mainGlobals "__annotations__") = (true, 11, some (Value.ref 6)) :=
  fun w => by kernel_rfl
set_option maxHeartbeats 4000000 in
theorem run0 : ∀ w os, (runG through (stepOk 11 (some (.ref 6))) (stepT (denote treeTable) PySem.Challenge.pw_pb0189_01 w) 2600 (S0 w os) (topStub PySem.Challenge.pw_pb0189_01)).map
    (fun s => looksOf PySem.Challenge.pw_pb0189_01 Q [] Xt H.obs (boot_heap w.params) s.abs) = some (true, openGood Q [], H.val w) := fun w os => by
  rw [PySem.W.Fast.te10156331382660048174, PySem.W.Fast.te6613529449190102663, PySem.W.Fast.te11892475500146522536, PySem.W.Fast.te14364793385576792824]
  kernel_rfl
theorem left0 : LeftO PySem.Challenge.pw_pb0189_01 Q [] Xt H.obs H.val 5196 := left_of_runG open0 size0 tree0 (by decide +kernel) run0
theorem said0 : PySem.Challenge.rw_pb0189_01.wellSaid = true := by
  unfold OpenLaw.wellSaid
  repeat' (with_reducible refine look_both ?_ ?_)
  all_goals (try unfold OpenRow.wellSaid)
  repeat' (with_reducible refine look_both ?_ ?_)
  all_goals (try unfold OpenRow.partSaid)
  repeat' (with_reducible refine look_both ?_ ?_)
  all_goals (try unfold looksOpen)
  repeat' (with_reducible refine look_both ?_ ?_)
  all_goals decide +kernel
/-- the law's own def, as the text writes it -/
noncomputable def lawAt : Option DefRec := match stmtAt PySem.Challenge.pw_pb0189_01.main.body [28] with
  | some (.FunctionDef n a b _ _ _ s _ _ p) => some ⟨n, a, b, s, p⟩
  | _ => none
theorem def0 : defOf Q "law" = lawAt.map fun d => (d, []) := by kernel_rfl
theorem def1 : PySem.Challenge.pw_pb0189_01.theDef "law" = lawAt.map fun d => (d.params, d.body, d.scope) := by kernel_rfl
theorem def2 : lawAt.map (fun d => kwWritten? d.params.kwonlyargs d.params.kw_defaults) = some (some []) := by kernel_rfl
theorem ok0 : (chainsOk Q && opensWell PySem.Challenge.pw_pb0189_01 && (frees rowR && rowR.within.isEmpty)) = true := by decide +kernel
theorem bare0 : PySem.Challenge.pw_pb0189_01.bare := ⟨rfl, rfl, rfl, rfl, rfl, by decide +kernel⟩
theorem prom0 : PySem.Challenge.rw_pb0189_01.row.toRowW.promised := by w_witness2
theorem head {d : DefRec} (h : lawAt = some d) (walk : WalkO Q [] (XL Q []) (kmHook K Kas Kas_eq [332]).says PySem.Challenge.rw_pb0189_01.row.toRowW d [] fun f vs => PySem.call f vs) : PySem.Challenge.rw_pb0189_01.Holds :=
  holds_law said0 fun said => PySem.W.holds_open (r := PySem.Challenge.rw_pb0189_01.row) (q := Q) (loose := []) (Xt := Xt) (XP := XL Q []) (Yf := H.obs) (Ya := H.val) (YP := H.says) (N := 5196) (d := d) (kwd := []) left0 H.of H.keeps
    (fun s e => xl_of s (Bool.and_eq_true_iff.mp e).1) XL.keeps (def0.trans (by rw [h]; rfl)) (def1.trans (by rw [h]; rfl)) (by have := def2; rw [h] at this; exact Option.some.inj this) (fun s e => recFacts_of (Bool.and_eq_true_iff.mp e).2) rfl said ok0 bare0 prom0 walk
end Mine
end

section
open PySem PySem.W PySem.Calls PySem.Spec PyProof.Rows
namespace Mine

/-- all that stood stands, but for the addresses of S -/
def Kp (S : List Addr) (h h' : Heap) : Prop := ∀ b o, h.get? b = some o → b ∉ S → h'.get? b = some o

theorem Kp.refl (S : List Addr) (h : Heap) : Kp S h h := fun _ _ e _ => e
theorem Kp.trans {S : List Addr} {h h' h'' : Heap} (a : Kp S h h') (b : Kp S h' h'') : Kp S h h'' := fun x o e n => b x o (a x o e n) n
theorem Kp.mono {S S' : List Addr} {h h' : Heap} (a : Kp S h h') (hs : ∀ b ∈ S, b ∈ S') : Kp S' h h' := fun x o e n => a x o e fun q => n (hs x q)

section enter
variable {prog : Program} {w : World} {A : Around} {s : Shared} {Q : Value → Shared → Prop} {E : Value → Shared → Prop}
  {name qual : Str} {params : Arguments} {body : List Stmt} {scope : Scope} {cl : List (Str × Addr)} {dV kV doc pm cdv ct : Value} {an : Option Addr} {fo : Obj} {f : Addr}
  {vs : List Value} {kw : List (Str × Value)} {binds : List (Str × Value)} {news : List (Addr × Obj)}

/-- into a def of plain locals: what it may change stands in the ledger, all else stays -/
theorem enter (ho : s.heap.get? f = some fo) (hd : fo.data = .func (fnX name qual params body scope cl dV kV doc pm an cdv ct)) (hlim : s.heap.NoLimit) (hcd : s.heap.CodeRec cdv qual) (hroom : A.depth < recursionLimit)
    (hbind : BindsTo s (fnX name qual params body scope cl dV kV doc pm an cdv ct) ⟨vs, kw⟩ binds) (hloc : ∀ y ∈ binds, scope.names.lookup y.1 = some .local)
    (hn : ∀ p ∈ news, s.heap.get? p.1 = some p.2)
    (h : ∀ g L h₁, Fr g L h₁ (fun y => binds.reverse.lookup y) → News g L h₁ news → (∀ b o, s.heap.get? b = some o → b ∉ news.map (·.1) → g.get? b = some o) → (∀ b o, s.heap.get? b = some o → b < L) →
      wpAny (model prog w) (A.deeper (envX qual scope L f cdv cl)) (execs body (envX qual scope L f cdv cl))
        (fun fl s' => Q (match fl with | .ret v => v | _ => .none) s') (fun _ _ => False) { s with heap := h₁, toks := s.toks + binds.length })
    (hcell : ∀ x ∈ scope.names, x.2 ≠ .cell) (hco : scope.isCoroutine = false) (hgen : scope.isGenerator = false) (hk : scope.kind = .function) :
    wpAny (model prog w) A (call (.ref f) vs kw) Q E s := by
  refine wpAny_call (codeAny_call_def (fd := fnX name qual params body scope cl dV kV doc pm an cdv ct) (body := body) (binds := binds) hroom ho hd hlim hcd rfl hbind hcell hloc (fun h₁ hns hk₁ => ?_) hco hgen hk)
  refine wpAny_mono (h (hideAll s.heap (news.map (·.1))) s.heap.objs.size h₁ ⟨hns, fun b o e => hk₁ b o (of_hideAll _ e), Nat.le_of_eq (hideAll_size _ _)⟩
    (fun p hp => ⟨hk₁ _ _ (hn p hp), Nat.ne_of_lt (Heap.lt_size (hn p hp)), hideAll_none _ (List.mem_map_of_mem hp)⟩) (fun b o e n => hideAll_get _ e n) (fun b o e => Heap.lt_size e)) (fun fl s' hl => ?_) (fun _ _ y => y.elim)
  exact hl

/-- into a def with cells -/
theorem enterC (ho : s.heap.get? f = some fo) (hd : fo.data = .func (fnX name qual params body scope [] dV kV doc pm an cdv ct)) (hlim : s.heap.NoLimit) (hcd : s.heap.CodeRec cdv qual) (hroom : A.depth < recursionLimit)
    (hbind : BindsTo s (fnX name qual params body scope [] dV kV doc pm an cdv ct) ⟨vs, kw⟩ binds)
    (hkind : ∀ n, ∀ x ∈ binds, scope.names.lookup x.1 = some .local ∨ (scope.names.lookup x.1 = some .cell ∧ ((cellsFrom n scope.names []).lookup x.1).isSome = true))
    (hnd : ((cellsFrom 0 scope.names []).map (·.1)).Nodup)
    (hn : ∀ p ∈ news, s.heap.get? p.1 = some p.2)
    (h : ∀ g L h₁ tk cells, Fr g L h₁ (bindL (envOfC qual scope L f cdv).kindOf binds fun _ => none) → News g L h₁ (cells ++ news) →
      CellsAre (bindC (envOfC qual scope L f cdv).kindOf binds fun _ => none) (cellsFrom (L + 1) scope.names []) cells →
      (∀ b o, s.heap.get? b = some o → b ∉ news.map (·.1) → g.get? b = some o) → (∀ b o, s.heap.get? b = some o → b < L) →
      wpAny (model prog w) (A.deeper (envOfC qual scope L f cdv)) (execs body (envOfC qual scope L f cdv))
        (fun fl s' => Q (match fl with | .ret v => v | _ => .none) s') (fun _ _ => False) { s with heap := h₁, toks := tk })
    (hco : scope.isCoroutine = false) (hgen : scope.isGenerator = false) (hk : scope.kind = .function) :
    wpAny (model prog w) A (call (.ref f) vs kw) Q E s := by
  refine wpAny_call (codeAny_call_function hroom ho hd hco hgen rfl hcd (hbind _ _ _ _ ?_))
  refine wpAny_newFunctionEnv_cells hk (hkind _) fun env' he s' x => ?_
  subst he
  refine ⟨hlim.keeps x.toInCall.keep, codeAny_func ?_⟩
  obtain ⟨h₁, tk, rfl, _⟩ := x.done
  have hk₁ := x.toInCall.keep
  obtain ⟨cells, NC, Y⟩ := Cl.news (h₀ := s.heap) (Nat.le_refl _) fun n c hm => ⟨x.cell n c (lookup_of_mem_nodup (cellsFrom_names scope.names 0 (s.heap.objs.size + 1) [] [] rfl ▸ hnd) hm), x.above n c hm⟩
  refine wpAny_mono (h (hideAll s.heap (news.map (·.1))) s.heap.objs.size h₁ tk cells ⟨x.toInCall.ns, fun b o e => hk₁ b o (of_hideAll _ e), Nat.le_of_eq (hideAll_size _ _)⟩ (fun p hp => ?_) Y
    (fun b o e n => hideAll_get _ e n) (fun b o e => Heap.lt_size e)) (fun fl s' hl => ?_) fun _ _ y => y.elim
  · rcases List.mem_append.mp hp with hp | hp
    · refine ⟨(NC p hp).1, (NC p hp).2.1, ?_⟩
      cases q : (hideAll s.heap (news.map (·.1))).get? p.1 with
      | none => rfl
      | some o => have := of_hideAll _ q; rw [(NC p hp).2.2] at this; cases this
    · exact ⟨hk₁ _ _ (hn p hp), Nat.ne_of_lt (Heap.lt_size (hn p hp)), hideAll_none _ (List.mem_map_of_mem hp)⟩
  · exact hl
end enter

/-- what stands from the top on -/
structure Amb (w : World) (p : Program) (loose : List Str) (mean : ExcName → Option Value) (mg mb : Str → Option Value) (h : Heap) : Prop where
  X : (Mine.K w.params).In h
  T : Top p loose mean mg mb h

theorem Amb.keeps {w : World} {p : Program} {loose : List Str} {mean : ExcName → Option Value} {mg mb : Str → Option Value} {h h' : Heap} (a : Amb w p loose mean mg mb h) (k : h.StaysIn h') : Amb w p loose mean mg mb h' := ⟨a.X.keeps k, a.T.keeps k⟩

section enterK
variable {prog : Program} {w : World} {A : Around} {s : Shared} {Q : Value → Shared → Prop} {E : Value → Shared → Prop} {R : Result → Shared → Prop} {K : Frag} {G : Heap} {p : Program} {loose : List Str} {mean : ExcName → Option Value} {mg mb : Str → Option Value}
  {name qual : Str} {params : Arguments} {body : List Stmt} {scope : Scope} {dV kV doc pm cdv ct oc : Value} {an od : Option Addr} {osl : Array (Option Value)} {f : Addr}
  {vs : List Value} {kw : List (Str × Value)} {binds : List (Str × Value)}

theorem stays_of {h g : Heap} {news : List (Addr × Obj)} (hs : G.StaysIn h) (hn : ∀ q ∈ news, h.get? q.1 = some q.2 ∧ G.get? q.1 = none) (hg : ∀ b o, h.get? b = some o → b ∉ news.map (·.1) → g.get? b = some o) : G.StaysIn g := fun b o e => hg b o (hs b o e) fun hm => by
  obtain ⟨q, hq, rfl⟩ := List.mem_map.mp hm
  rw [(hn q hq).2] at e; cases e

theorem enterCode (news : List (Addr × Obj)) (X : K.In G) (T : Top p loose mean mg mb G) (hs : G.StaysIn s.heap)
    (ho : K.lookup f = some ⟨oc, od, .func (fnOf name qual params body scope dV kV doc pm an cdv ct), osl⟩) (hcd : codeIn K cdv qual = true) (hroom : A.depth < recursionLimit)
    (hbind : BindsTo s (fnOf name qual params body scope dV kV doc pm an cdv ct) ⟨vs, kw⟩ binds) (hloc : ∀ y ∈ binds, scope.names.lookup y.1 = some .local)
    (hn : ∀ q ∈ news, s.heap.get? q.1 = some q.2 ∧ G.get? q.1 = none)
    (h : ∀ g L h₁ tk, Fr g L h₁ (fun y => binds.reverse.lookup y) → News g L h₁ news → K.In g → Top p loose mean mg mb g → (∀ b o, s.heap.get? b = some o → b ∉ news.map (·.1) → g.get? b = some o) → (∀ b o, s.heap.get? b = some o → b < L) → G.StaysIn g →
      wpAny (model prog w) (A.deeper (envOf qual scope L f cdv)) (execs body (envOf qual scope L f cdv))
        (fun fl s' => R (.ok (.ret (match fl with | .ret v => v | _ => .none))) s') (fun _ _ => False) { s with heap := h₁, toks := tk })
    (hcell : ∀ x ∈ scope.names, x.2 ≠ .cell) (hco : scope.isCoroutine = false) (hgen : scope.isGenerator = false) (hk : scope.kind = .function) :
    codeAny (model prog w) A (.call (.ref f) ⟨vs, kw⟩) R s := by
  refine codeAny_call_def (fd := fnX name qual params body scope [] dV kV doc pm an cdv ct) (body := body) (binds := binds) hroom (hs _ _ (X _ _ ho)) rfl (T.nolimit.keeps hs) (codeRec_of (X.keeps hs) hcd) rfl hbind hcell hloc (fun h₁ hns hk₁ => ?_) hco hgen hk
  have hg : ∀ b o, s.heap.get? b = some o → b ∉ news.map (·.1) → (hideAll s.heap (news.map (·.1))).get? b = some o := fun b o e n => hideAll_get _ e n
  have st := stays_of hs hn hg
  have X' := X.keeps st
  have T' := T.keeps st
  refine wpAny_mono (h (hideAll s.heap (news.map (·.1))) s.heap.objs.size h₁ _ ⟨hns, fun b o e => hk₁ b o (of_hideAll _ e), Nat.le_of_eq (hideAll_size _ _)⟩
    (fun q hq => ⟨hk₁ _ _ (hn q hq).1, Nat.ne_of_lt (Heap.lt_size (hn q hq).1), hideAll_none _ (List.mem_map_of_mem hq)⟩) X' T' hg (fun b o e => Heap.lt_size e) st) (fun fl s' hl => ?_) (fun _ _ y => y.elim)
  exact hl

theorem enterK (news : List (Addr × Obj)) (X : K.In G) (T : Top p loose mean mg mb G) (hs : G.StaysIn s.heap)
    (ho : K.lookup f = some ⟨oc, od, .func (fnOf name qual params body scope dV kV doc pm an cdv ct), osl⟩) (hcd : codeIn K cdv qual = true) (hroom : A.depth < recursionLimit)
    (hbind : BindsTo s (fnOf name qual params body scope dV kV doc pm an cdv ct) ⟨vs, kw⟩ binds) (hloc : ∀ y ∈ binds, scope.names.lookup y.1 = some .local)
    (hn : ∀ q ∈ news, s.heap.get? q.1 = some q.2 ∧ G.get? q.1 = none)
    (h : ∀ g L h₁ tk, Fr g L h₁ (fun y => binds.reverse.lookup y) → News g L h₁ news → K.In g → Top p loose mean mg mb g → (∀ b o, s.heap.get? b = some o → b ∉ news.map (·.1) → g.get? b = some o) → (∀ b o, s.heap.get? b = some o → b < L) → G.StaysIn g →
      wpAny (model prog w) (A.deeper (envOf qual scope L f cdv)) (execs body (envOf qual scope L f cdv))
        (fun fl s' => Q (match fl with | .ret v => v | _ => .none) s') (fun _ _ => False) { s with heap := h₁, toks := tk })
    (hcell : ∀ x ∈ scope.names, x.2 ≠ .cell) (hco : scope.isCoroutine = false) (hgen : scope.isGenerator = false) (hk : scope.kind = .function) :
    wpAny (model prog w) A (call (.ref f) vs kw) Q E s :=
  wpAny_call (enterCode news X T hs ho hcd hroom hbind hloc hn h hcell hco hgen hk)

theorem enterKC (news : List (Addr × Obj)) (X : K.In G) (T : Top p loose mean mg mb G) (hs : G.StaysIn s.heap)
    (ho : K.lookup f = some ⟨oc, od, .func (fnOf name qual params body scope dV kV doc pm an cdv ct), osl⟩) (hcd : codeIn K cdv qual = true) (hroom : A.depth < recursionLimit)
    (hbind : BindsTo s (fnOf name qual params body scope dV kV doc pm an cdv ct) ⟨vs, kw⟩ binds)
    (hkind : (binds.all fun y => scope.names.lookup y.1 == some .local || scope.names.lookup y.1 == some .cell) = true)
    (hnd : ((cellsFrom 0 scope.names []).map (·.1)).Nodup)
    (hn : ∀ q ∈ news, s.heap.get? q.1 = some q.2 ∧ G.get? q.1 = none)
    (h : ∀ g L h₁ tk cells, Fr g L h₁ (bindL (envOfC qual scope L f cdv).kindOf binds fun _ => none) → News g L h₁ (cells ++ news) →
      CellsAre (bindC (envOfC qual scope L f cdv).kindOf binds fun _ => none) (cellsFrom (L + 1) scope.names []) cells →
      K.In g → Top p loose mean mg mb g →
      (∀ b o, s.heap.get? b = some o → b ∉ news.map (·.1) → g.get? b = some o) → (∀ b o, s.heap.get? b = some o → b < L) → G.StaysIn g →
      wpAny (model prog w) (A.deeper (envOfC qual scope L f cdv)) (execs body (envOfC qual scope L f cdv))
        (fun fl s' => Q (match fl with | .ret v => v | _ => .none) s') (fun _ _ => False) { s with heap := h₁, toks := tk })
    (hco : scope.isCoroutine = false) (hgen : scope.isGenerator = false) (hk : scope.kind = .function) :
    wpAny (model prog w) A (call (.ref f) vs kw) Q E s :=
  enterC (hs _ _ (X _ _ ho)) rfl (T.nolimit.keeps hs) (codeRec_of (X.keeps hs) hcd) hroom hbind (kindsX hkind) hnd (fun q hq => (hn q hq).1)
    (fun g L h₁ tk cells F N Y hg hL => h g L h₁ tk cells F N Y (X.keeps (stays_of hs hn hg)) (T.keeps (stays_of hs hn hg)) hg hL (stays_of hs hn hg)) hco hgen hk

/-- a class of the text's own is called: the new object, its empty dict, and __init__'s body over them -/
theorem classK {C fI : Addr} {bs : Addr → List (Str × Value)} (X : K.In G) (T : Top p loose mean mg mb G) (hs : G.StaysIn s.heap) (hm : makesIn K C = true) (hi : findIn K (.ref C) "__init__" = some (some (.ref fI))) (hf : isFn K (.ref fI) = true)
    (ho : K.lookup fI = some ⟨oc, od, .func (fnOf name qual params body scope dV kV doc pm an cdv ct), osl⟩) (hcd : codeIn K cdv qual = true) (hroom : A.depth + 2 < recursionLimit)
    (hbind : ∀ x h', G.StaysIn h' → BindsTo { s with heap := h' } (fnOf name qual params body scope dV kV doc pm an cdv ct) ⟨.ref x :: vs, kw⟩ (bs x)) (hloc : ∀ x, ((bs x).all fun y => scope.names.lookup y.1 == some .local) = true)
    (h : ∀ g L h₁ x dx tk, Fr g L h₁ (fun y => (bs x).reverse.lookup y) → News g L h₁ [(x, instObj C dx), (dx, dictOf [] 0)] → K.In g → Top p loose mean mg mb g → (∀ b o, s.heap.get? b = some o → g.get? b = some o) →
      (∀ b o, s.heap.get? b = some o → b < dx) → @LT.lt Nat _ dx x → @LT.lt Nat _ x L → s.heap.get? x = none → s.heap.get? dx = none →
      wpAny (model prog w) ((A.under (.builtin "type.__call__" ⟨.ref C :: vs, kw⟩)).deeper (envOf qual scope L fI cdv)) (execs body (envOf qual scope L fI cdv))
        (fun fl s' => (match fl with | .ret v => v | _ => .none) = Value.none ∧ Q (.ref x) s') (fun _ _ => False) { s with heap := h₁, toks := tk })
    (hcell : ∀ x ∈ scope.names, x.2 ≠ .cell) (hco : scope.isCoroutine = false) (hgen : scope.isGenerator = false) (hk : scope.kind = .function) :
    wpAny (model prog w) A (call (.ref C) vs kw) Q E s := by
  obtain ⟨hh, gn, d, t, os⟩ := s
  have Xs := X.keeps hs
  have k : ∀ b o, hh.get? b = some o → ((hh.push emptyDict).push (instObj C hh.objs.size)).get? b = some o := fun b o e => Heap.get?_push_of_some _ (Heap.get?_push_of_some _ e)
  have hx : ((hh.push emptyDict).push (instObj C hh.objs.size)).get? (hh.objs.size + 1) = some (instObj C hh.objs.size) := by heap_get
  have hdx : ((hh.push emptyDict).push (instObj C hh.objs.size)).get? hh.objs.size = some emptyDict := Heap.get?_push_of_some _ (Heap.get?_push_size _ rfl)
  have frh : ∀ a, hh.objs.size ≤ a → hh.get? a = none := fun a ha => by
    cases e : hh.get? a with
    | none => rfl
    | some o => exact absurd (Heap.lt_size e) (Nat.not_lt.mpr ha)
  have fr : ∀ a, hh.objs.size ≤ a → G.get? a = none := fun a ha => by
    cases e : G.get? a with
    | none => rfl
    | some o => have := hs a o e; rw [frh a ha] at this; cases this
  refine wpAny_call (make_core (makes_of Xs hm) (looks_findIn Xs hi) (fun self => bind_fn Xs self (beq_iff_eq.mp hf)) (.inl rfl) ?_)
  refine enterCode (K := K) (G := G) (binds := bs (hh.objs.size + 1)) [(hh.objs.size + 1, instObj C hh.objs.size), (hh.objs.size, emptyDict)] X T (fun b o e => k b o (hs b o e)) ho hcd (by rw [depth_under_kw]; omega)
    (hbind _ _ (fun b o e => k b o (hs b o e))) (fun y hy => by have := List.all_eq_true.mp (hloc (hh.objs.size + 1)) y hy; simpa using this) ?_ ?_ hcell hco hgen hk
  · intro q hq
    rcases List.mem_cons.mp hq with rfl | hq
    · exact ⟨hx, fr _ (Nat.le_succ _)⟩
    · rw [List.mem_singleton.mp hq]; exact ⟨hdx, fr _ (Nat.le_refl _)⟩
  · intro g L h₁ tk F N X' T' hg hL _
    exact h g L h₁ (hh.objs.size + 1) hh.objs.size tk F N X' T'
      (fun b o e => hg b o (k b o e) (by
        intro hm
        have hlt := Heap.lt_size e
        simp only [List.map_cons, List.map_nil, List.mem_cons, List.not_mem_nil, or_false] at hm
        rcases hm with rfl | rfl
        · exact absurd hlt (Nat.not_lt.mpr (Nat.le_succ _))
        · exact absurd hlt (Nat.lt_irrefl _)))
      (fun b o e => Heap.lt_size e) (Nat.lt_succ_self _) (hL _ _ hx) (frh _ (Nat.le_succ _)) (frh _ (Nat.le_refl _))
end enterK

abbrev ent (w : World) (x : Str) (t : Tok) (v : Value) : DictEntry := ⟨PyData.keyHash w.params x, .str x t, v⟩
end Mine
end

section
open PySem PySem.W PySem.Calls PySem.Spec PyProof.Rows
namespace Mine

theorem News.sub {h₀ h : Heap} {L : Addr} {news news' : List (Addr × Obj)} (N : News h₀ L h news) (hs : ∀ q ∈ news', q ∈ news) : News h₀ L h news' := fun q hq => N q (hs q hq)

/-- a list's items written out: the object -/
abbrev lo (vs : List Value) (n : Nat) : Obj := { cls := .type "list", data := .seq vs.toArray n }

theorem isList_of {h : Heap} {l : Addr} {vs : List Value} {n : Nat} (e : h.get? l = some (lo vs n)) : h.IsList l vs.toArray := ⟨_, e, rfl, n, rfl⟩

section
variable {prog : Program} {w : World} {A : Around} {E : Value → Shared → Prop} {s : Shared} {h₀ : Heap} {L l : Addr} {m : Str → Option Value} {news : List (Addr × Obj)} {value slice : PySem.Expr} {vs ws : List Value} {Q : Value → Shared → Prop}

theorem slTo {k : Nat} {x : Int} {t : Tok} (F : Fr h₀ L s.heap m) (N : News h₀ L s.heap news) (hl : s.heap.IsList l vs.toArray) (hx : x = (k : Int)) (hz : vs.length ≤ sizeLine)
    (h : ∀ D h', Fr h₀ L h' m → News h₀ L h' ((D, lo (vs.take k) 0) :: news) → (∀ q ∈ news, q.1 < D) → Q (.ref D) { s with heap := h' })
    (hs : subscripted slice false (.ref l) (.ref s.heap.objs.size) = operate [.ref s.heap.objs.size, .ref l] (getItem (.ref l) (.ref s.heap.objs.size)) := by with_unfolding_all rfl)
    (ht : ∀ r, letTemporaryGo value (.ref l) r = pure () := by intro _; with_unfolding_all rfl) :
    wpAny (model prog w) A (subscriptTail value slice (.ref l) (.ref s.heap.objs.size)) Q E { s with heap := s.heap.push { cls := .type "slice", data := .fields #[.none, .int x t, .none] } } := by
  subst hx
  refine kmk_slice F N hl .none (.int _ _) (fun D h' F' N' l1 => h D h' F' ?_ l1) hs ht (by rw [List.size_toArray]; exact hz)
  rw [slicePick_upto'] at N'
  exact N'

theorem slFrom {k : Nat} {x : Int} {t : Tok} (F : Fr h₀ L s.heap m) (N : News h₀ L s.heap news) (hl : s.heap.IsList l vs.toArray) (hx : x = (k : Int)) (hz : vs.length ≤ sizeLine)
    (h : ∀ D h', Fr h₀ L h' m → News h₀ L h' ((D, lo (vs.drop k) 0) :: news) → (∀ q ∈ news, q.1 < D) → Q (.ref D) { s with heap := h' })
    (hs : subscripted slice false (.ref l) (.ref s.heap.objs.size) = operate [.ref s.heap.objs.size, .ref l] (getItem (.ref l) (.ref s.heap.objs.size)) := by with_unfolding_all rfl)
    (ht : ∀ r, letTemporaryGo value (.ref l) r = pure () := by intro _; with_unfolding_all rfl) :
    wpAny (model prog w) A (subscriptTail value slice (.ref l) (.ref s.heap.objs.size)) Q E { s with heap := s.heap.push { cls := .type "slice", data := .fields #[.int x t, .none, .none] } } := by
  subst hx
  refine kmk_slice F N hl (.int _ _) .none (fun D h' F' N' l1 => h D h' F' ?_ l1) hs ht (by rw [List.size_toArray]; exact hz)
  rw [slicePick_from'] at N'
  exact N'

theorem addL {b : Addr} (F : Fr h₀ L s.heap m) (N : News h₀ L s.heap news) (hl : s.heap.IsList l vs.toArray) (hb : s.heap.IsList b ws.toArray) (hz : vs.length + ws.length ≤ sizeLine)
    (h : ∀ D h', Fr h₀ L h' m → News h₀ L h' ((D, lo (vs ++ ws) 0) :: news) → (∀ q ∈ news, q.1 < D) → Q (.ref D) { s with heap := h' }) :
    wpAny (model prog w) A (binaryOp .Add (.ref l) (.ref b)) Q E s :=
  add_lists F N hl hb (fun h' F' N' => h _ h' F' N' fun q hq => Heap.lt_size (N q hq).1) hz
end

theorem kp_of {news : List (Addr × Obj)} {h g h' : Heap} {S : List Addr} {L : Addr} {m : Str → Option Value} {news' : List (Addr × Obj)} (hg : ∀ b o, h.get? b = some o → b ∉ news.map (·.1) → g.get? b = some o) (F : Fr g L h' m) (N : News g L h' news')
    (hn : ∀ q ∈ news, h.get? q.1 = some q.2) (hs : ∀ q ∈ news, q.1 ∈ S ∨ q ∈ news') : Kp S h h' := by
  intro b o e nb
  by_cases hb : b ∈ news.map (·.1)
  · obtain ⟨q, hq, rfl⟩ := List.mem_map.mp hb
    rcases hs q hq with h1 | h1
    · exact absurd h1 nb
    · have := hn q hq; rw [e] at this; cases this; exact (N q h1).1
  · exact F.keep b o (hg b o e hb)
end Mine
end

section
open PySem PySem.W PySem.Calls PySem.Spec PyProof.Rows
namespace Mine

/-- what stands where -/
abbrev Rel := Addr → Obj → Prop
/-- the heap's own relation, what lay before the call left out -/
abbrev at_ (G h : Heap) : Rel := fun a o => h.get? a = some o ∧ G.get? a = none
theorem atN {G g h : Heap} {L a : Addr} {o : Obj} {news : List (Addr × Obj)} (hG : G.StaysIn g) (N : News g L h news) (hm : (a, o) ∈ news) : at_ G h a o :=
  ⟨N.get hm, by cases q : G.get? a with
    | none => rfl
    | some o' => have := hG a o' q; rw [N.fresh hm] at this; cases this⟩
theorem at_kp {G h h' : Heap} {S : List Addr} {a : Addr} {o : Obj} (H : at_ G h a o) (k : Kp S h h') (n : a ∉ S) : at_ G h' a o := ⟨k a o H.1 n, H.2⟩

def IsInfo (R : Rel) (v : Value) (g : Int) : Prop := ∃ a d es n t, v = .ref a ∧ R a (instObj 166 d) ∧ R d (dictOf es n) ∧ getL "glyph" es = some (some (.int g t))
inductive Infos (R : Rel) : List Value → List Int → Prop
  | nil : Infos R [] []
  | cons {v : Value} {g : Int} {vs : List Value} {gs : List Int} : IsInfo R v g → Infos R vs gs → Infos R (v :: vs) (g :: gs)

theorem IsInfo.mono {R R' : Rel} {v : Value} {g : Int} (h : IsInfo R v g) (hr : ∀ a o, (∃ d, o = instObj 166 d) ∨ (∃ es n g t, o = dictOf es n ∧ getL "glyph" es = some (some (.int g t))) → R a o → R' a o) : IsInfo R' v g := by
  obtain ⟨a, d, es, n, t, rfl, h1, h2, h3⟩ := h
  exact ⟨a, d, es, n, t, rfl, hr _ _ (.inl ⟨d, rfl⟩) h1, hr _ _ (.inr ⟨es, n, g, t, rfl, h3⟩) h2, h3⟩
theorem Infos.mono {R R' : Rel} {vs : List Value} {gs : List Int} (h : Infos R vs gs) (hr : ∀ a o, (∃ d, o = instObj 166 d) ∨ (∃ es n g t, o = dictOf es n ∧ getL "glyph" es = some (some (.int g t))) → R a o → R' a o) : Infos R' vs gs := by
  induction h with
  | nil => exact .nil
  | cons h1 _ ih => exact .cons (h1.mono hr) ih
theorem Infos.length {R : Rel} {vs : List Value} {gs : List Int} (h : Infos R vs gs) : vs.length = gs.length := by
  induction h with
  | nil => rfl
  | cons _ _ ih => simp [ih]
theorem Infos.append {R : Rel} {vs ws : List Value} {gs ks : List Int} (h : Infos R vs gs) (h' : Infos R ws ks) : Infos R (vs ++ ws) (gs ++ ks) := by
  induction h with
  | nil => exact h'
  | cons a _ ih => exact .cons a ih
theorem Infos.take {R : Rel} {vs : List Value} {gs : List Int} (h : Infos R vs gs) : ∀ k, Infos R (vs.take k) (gs.take k) := by
  induction h with
  | nil => intro k; simpa using Infos.nil
  | cons a _ ih => intro k; cases k with
    | zero => exact .nil
    | succ k => exact .cons a (ih k)
theorem Infos.drop {R : Rel} {vs : List Value} {gs : List Int} (h : Infos R vs gs) : ∀ k, Infos R (vs.drop k) (gs.drop k) := by
  induction h with
  | nil => intro k; simpa using Infos.nil
  | cons a b ih => intro k; cases k with
    | zero => exact .cons a b
    | succ k => exact ih k
theorem Infos.get {R : Rel} {vs : List Value} {gs : List Int} (h : Infos R vs gs) : ∀ (i : Nat) v, vs[i]? = some v → ∃ g, gs[i]? = some g ∧ IsInfo R v g := by
  induction h with
  | nil => intro i v e; simp at e
  | cons a _ ih => intro i v e; cases i with
    | zero => simp at e; subst e; exact ⟨_, rfl, a⟩
    | succ i => simpa using ih i v (by simpa using e)

theorem ne_live {h : Heap} {a b : Addr} {o : Obj} (e : h.get? a = some o) (n : h.get? b = none) : @Ne Nat a b := by rintro rfl; rw [n] at e; cases e
theorem neCls {h : Heap} {a b : Addr} {o o' : Obj} (e : h.get? a = some o) (e' : h.get? b = some o') (n : o.cls ≠ o'.cls) : @Ne Nat a b := by rintro rfl; rw [e] at e'; exact n (congrArg Obj.cls (Option.some.inj e'))
theorem ne_objs {h : Heap} {a b : Addr} {o o' : Obj} (e : h.get? a = some o) (e' : h.get? b = some o') (n : o ≠ o') : @Ne Nat a b := by rintro rfl; rw [e] at e'; exact n (Option.some.inj e')
theorem frKp {g h h' : Heap} {L : Addr} {m : Str → Option Value} {S : List Addr} (F : Fr g L h m) (k : Kp S h h') (hS : ∀ b ∈ S, b ≠ L ∧ g.get? b = none) : Fr g L h' m :=
  ⟨F.ns.at' fun o e => k L o e fun hm => (hS L hm).1 rfl, fun b o e => k b o (F.keep b o e) fun hm => (by rw [(hS b hm).2] at e; cases e), F.above⟩
theorem nwKp {g h h' : Heap} {L : Addr} {news : List (Addr × Obj)} {S : List Addr} (N : News g L h news) (k : Kp S h h') (hS : ∀ q ∈ news, q.1 ∉ S) : News g L h' news := fun q hq => ⟨k _ _ (N q hq).1 (hS q hq), (N q hq).2⟩
theorem nwCons {g h : Heap} {L x : Addr} {o : Obj} {news : List (Addr × Obj)} (N : News g L h news) (e : h.get? x = some o) (n1 : x ≠ L) (n2 : g.get? x = none) : News g L h ((x, o) :: news) := fun q hq => by
  rcases List.mem_cons.mp hq with rfl | hq
  · exact ⟨e, n1, n2⟩
  · exact N q hq
/-- an object that the frame's heap did not hold -/
theorem newOf {g h : Heap} {L x : Addr} {m : Str → Option Value} (F : Fr g L h m) (n : h.get? x = none) : x ≠ L ∧ g.get? x = none :=
  ⟨fun q => (by obtain ⟨o, _, _, e, _⟩ := F.ns; rw [← q, n] at e; cases e), by cases q : g.get? x with
    | none => rfl
    | some o => have := F.keep x o q; rw [n] at this; cases this⟩
theorem at_new {G h h' : Heap} {a : Addr} {o : Obj} (hs : G.StaysIn h) (n : h.get? a = none) (e : h'.get? a = some o) : at_ G h' a o :=
  ⟨e, by cases q : G.get? a with
    | none => rfl
    | some o' => have := hs a o' q; rw [n] at this; cases this⟩

/-- no object of S is an Info or an Info's dict -/
def NoInfo (S : List Addr) (h : Heap) : Prop := ∀ b ∈ S, ∀ o, h.get? b = some o → (∀ d, o ≠ instObj 166 d) ∧ ∀ es n, o = dictOf es n → ∀ g t, getL "glyph" es ≠ some (some (.int g t))
theorem lo_ne_inst {vs : List Value} {n : Nat} {C d : Addr} : lo vs n ≠ instObj C d := fun q => by have := congrArg Obj.cls q; simp at this
theorem lo_ne_dict {vs : List Value} {n : Nat} {es : List DictEntry} {k : Nat} : lo vs n ≠ dictOf es k := fun q => by have := congrArg Obj.cls q; simp at this
theorem noInfo_list {h : Heap} {b : Addr} {vs : List Value} {n : Nat} (e : h.get? b = some (lo vs n)) : NoInfo [b] h := fun x hx o e' => by
  have ex : x = b := by simpa using hx
  rw [ex, e] at e'; cases e'
  exact ⟨fun d q => lo_ne_inst q, fun es n q => absurd q lo_ne_dict⟩
theorem Infos.kp {G : Heap} {S : List Addr} {h h' : Heap} {vs : List Value} {gs : List Int} (H : Infos (at_ G h) vs gs) (k : Kp S h h') (hS : NoInfo S h) : Infos (at_ G h') vs gs :=
  H.mono fun a o ho e => at_kp e k fun hm => by
    obtain ⟨h1, h2⟩ := hS a hm o e.1
    rcases ho with ⟨d, rfl⟩ | ⟨es, n, g, t, rfl, hg⟩
    · exact h1 d rfl
    · exact h2 es n rfl g t hg

section
variable (w : World)
/-- the places: the object pa, its dict pd; its list is not av -/
def IsPl (R : Rel) (av pa pd : Addr) (ps : List Int) (e : Int) : Prop := ∃ t1 t2 te rl vs n, R pa (instObj 93 pd) ∧ R pd (dictOf [ent w "row" t1 (.ref rl), ent w "end" t2 (.int e te)] 2) ∧ R rl (lo vs n) ∧ IntsAre vs ps ∧ rl ≠ av
def IsBu (R : Rel) (av bu bd : Addr) (gs : List Int) : Prop := ∃ t1 t2 t3 t4 b2 b3 b4 rl vs n, R bu (instObj 219 bd) ∧ R bd (dictOf [ent w "row" t1 (.ref rl), ent w "is_backward" t2 b2, ent w "last_lig" t3 b3, ent w "last_split" t4 b4] 4) ∧ R rl (lo vs n) ∧ Infos R vs gs ∧ rl ≠ av
def IsLk (R : Rel) (v : Value) (k : Int) : Prop := ∃ a d t1 t2 t3 t4 v1 v2 v4 t, v = .ref a ∧ R a (instObj 43 d) ∧ R d (dictOf [ent w "kind" t1 v1, ent w "flag" t2 v2, ent w "mark_set" t3 (.int k t), ent w "tables" t4 v4] 4)
def IsLks (R : Rel) (ll : Addr) : Prop := ∃ vs n, R ll (lo vs n) ∧ vs.length = 5 ∧ ∀ k : Nat, k < 5 → ∃ v, vs[k]? = some v ∧ IsLk w R v k
def IsSc (R : Rel) (sc bu ll st : Addr) : Prop := ∃ sd t1 t2 t3 t4 t5 t6 t7 ga la mm tm td, R sc (instObj 65 sd) ∧
  R sd (dictOf [ent w "buffer" t1 (.ref bu), ent w "gdef" t2 (.ref ga), ent w "lookups" t3 (.ref ll), ent w "lookup" t4 (.ref la), ent w "mask" t5 (.int mm tm), ent w "depth" t6 (.int 0 td), ent w "steps" t7 (.ref st)] 7)
/-- an inner scene's dict: its lookup is lv -/
def InD (od : Obj) (lv : Value) : Prop := ∃ t1 t2 t3 t4 t5 t6 t7 v1 v2 v3 v5 v6 v7, od = dictOf [ent w "buffer" t1 v1, ent w "gdef" t2 v2, ent w "lookups" t3 v3, ent w "lookup" t4 lv, ent w "mask" t5 v5, ent w "depth" t6 v6, ent w "steps" t7 v7] 7
/-- an inner scene whose lookup is number k -/
def IsIn (R : Rel) (fs : Addr) (k : Int) : Prop := ∃ fd t1 t2 t3 t4 t5 t6 t7 v1 v2 v3 lv v5 v6 v7, R fs (instObj 65 fd) ∧
  R fd (dictOf [ent w "buffer" t1 v1, ent w "gdef" t2 v2, ent w "lookups" t3 v3, ent w "lookup" t4 lv, ent w "mask" t5 v5, ent w "depth" t6 v6, ent w "steps" t7 v7] 7) ∧ IsLk w R lv k
end

/-- the places' ints behind grow, shrink, move -/
def growL (ps : List Int) (i l : Int) : List Int := ps.take (i + 1).toNat ++ (List.range l.toNat).map (fun (k : Nat) => ps.getD i.toNat 0 + 1 + (k : Int)) ++ (ps.drop (i + 1).toNat).map (· + l)
def shrinkL (ps : List Int) (i l : Int) : List Int := ps.take (i + 1).toNat ++ (ps.drop (i + 1 + l).toNat).map (· - l)
def moveC (ps : List Int) (e i c : Int) : Int := if e + c < ps.getD i.toNat 0 then c + ps.getD i.toNat 0 - (e + c) else c
def moveE (ps : List Int) (e i c : Int) : Int := if e + c < ps.getD i.toNat 0 then ps.getD i.toNat 0 else e + c
def moveP (ps : List Int) (i c : Int) : List Int := if c > 0 then growL ps i c else if c < 0 then shrinkL ps i (-c) else ps

/-- the row's glyphs behind _law_edit -/
def editL (gs : List Int) (a k : Int) : List Int :=
  if k = 0 then gs.take a.toNat ++ [8] ++ gs.drop (a + 1).toNat else if k < 3 then gs.take (a + 1).toNat ++ List.replicate k.toNat 9 ++ gs.drop (a + 1).toNat else gs.take (a + 1).toNat ++ gs.drop (a + k - 1).toNat

/-- one action: the row, the places, the end behind it -/
structure St where
  gs : List Int
  ps : List Int
  e : Int
def actS (z : St) (i k : Int) : St :=
  if i < z.ps.length ∧ z.ps.getD i.toNat 0 < z.gs.length then
    let gs' := editL z.gs (z.ps.getD i.toNat 0) k
    let c : Int := (gs'.length : Int) - z.gs.length
    if c = 0 then ⟨gs', z.ps, z.e⟩ else ⟨gs', moveP z.ps i (moveC z.ps z.e i c), moveE z.ps z.e i c⟩
  else z

section
variable {ps : List Int} {e i c x : Int}
theorem move_lt (hg : ps.getD i.toNat 0 = x) (h : e + c < x) : moveC ps e i c = c + x - (e + c) ∧ moveE ps e i c = x := by unfold moveC moveE; rw [hg, if_pos h, if_pos h]; exact ⟨rfl, rfl⟩
theorem move_ge (hg : ps.getD i.toNat 0 = x) (h : ¬ e + c < x) : moveC ps e i c = c ∧ moveE ps e i c = e + c := by unfold moveC moveE; rw [hg, if_neg h, if_neg h]; exact ⟨rfl, rfl⟩
theorem moveP_pos (h : 0 < c) : moveP ps i c = growL ps i c := by unfold moveP; rw [if_pos h]
theorem moveP_neg (h : c < 0) : moveP ps i c = shrinkL ps i (-c) := by unfold moveP; rw [if_neg (by omega), if_pos h]
theorem moveP_zero (h1 : ¬ 0 < c) (h : ¬ c < 0) : moveP ps i c = ps := by unfold moveP; rw [if_neg (by omega), if_neg h]
end

section
variable {prog : Program} {w : World} {A : Around} {E : Value → Shared → Prop} {s : Shared} {l : Addr} {value slice : PySem.Expr} {vs : List Value} {Q : Value → Shared → Prop}
theorem itemL {k : Int} {u : Tok} {v : Value} (hl : s.heap.IsList l vs.toArray) (h0 : 0 ≤ k) (hhi : k < 2 ^ 63) (hx : vs[k.toNat]? = some v) (h : Q v s)
    (hs : subscripted slice false (.ref l) (.int k u) = operate [.ref l, .int k u] (getItem (.ref l) (.int k u)) := by with_unfolding_all rfl) :
    wpAny (model prog w) A (subscriptTail value slice (.ref l) (.int k u)) Q E s :=
  tail_any hl.typeIs slot_list_getitem.lookup (wpAny_getItem_list hl h0 hhi (by simpa using hx) h) hs
theorem lenL (hl : s.heap.IsList l vs.toArray) (hz : vs.length < 2 ^ 62) (h : Q (.int (vs.length : Nat) (s.toks + 1)) { s with toks := s.toks + 1 + 1 }) : wpAny (model prog w) A (call (.builtin "len") [.ref l]) Q E s :=
  Calls.call_len_list hl (by rw [List.size_toArray]; omega) (by rw [List.size_toArray]; exact h)
end

section
variable {w : World} {G h h' : Heap} {S : List Addr}
/-- what lies apart from S stands in the new heap -/
theorem IsLk.kp {v : Value} {k : Int} (H : IsLk w (at_ G h) v k) (kp : Kp S h h') (hS : ∀ b ∈ S, ∀ o, h.get? b = some o → (∀ d, o ≠ instObj 43 d) ∧ ∀ t1 v1 es n, o ≠ dictOf (ent w "kind" t1 v1 :: es) n) : IsLk w (at_ G h') v k := by
  obtain ⟨a, d, t1, t2, t3, t4, v1, v2, v4, t, e, h1, h2⟩ := H
  exact ⟨a, d, t1, t2, t3, t4, v1, v2, v4, t, e, at_kp h1 kp (fun hm => (hS a hm _ h1.1).1 d rfl), at_kp h2 kp (fun hm => (hS d hm _ h2.1).2 _ _ _ _ rfl)⟩
end

theorem editL_len {gs : List Int} {a k : Int} (ha : 0 ≤ a) (ha1 : a < gs.length) (hk0 : 0 ≤ k) (hk1 : k < 5) : -2 ≤ ((editL gs a k).length : Int) - gs.length ∧ ((editL gs a k).length : Int) - gs.length ≤ 2 := by
  unfold editL
  split
  · simp only [List.length_append, List.length_take, List.length_drop, List.length_cons, List.length_nil]; omega
  · split
    · simp only [List.length_append, List.length_take, List.length_drop, List.length_replicate]; omega
    · simp only [List.length_append, List.length_take, List.length_drop]; omega
theorem actS_go {z : St} {i k x : Int} (hg : z.ps.getD i.toNat 0 = x) (h : i < z.ps.length) (h2 : x < z.gs.length) :
    (actS z i k).gs = editL z.gs x k ∧ (((editL z.gs x k).length : Int) - z.gs.length = 0 → (actS z i k).ps = z.ps ∧ (actS z i k).e = z.e) ∧
    (((editL z.gs x k).length : Int) - z.gs.length ≠ 0 → (actS z i k).ps = moveP z.ps i (moveC z.ps z.e i (((editL z.gs x k).length : Int) - z.gs.length)) ∧ (actS z i k).e = moveE z.ps z.e i (((editL z.gs x k).length : Int) - z.gs.length)) := by
  unfold actS
  rw [hg, if_pos ⟨h, h2⟩]
  dsimp only
  refine ⟨by split <;> rfl, fun q => by rw [if_pos q]; exact ⟨rfl, rfl⟩, fun q => by rw [if_neg q]; exact ⟨rfl, rfl⟩⟩
def foldS (z : St) (acts : List (Int × Int)) : St := acts.foldl (fun z a => actS z a.1 a.2) z
/-- the bounds under which the walk goes -/
def Fine (z : St) : Prop := z.ps.length ≤ 50 ∧ z.gs.length ≤ 500 ∧ (∀ x ∈ z.ps, 0 ≤ x ∧ x ≤ z.e) ∧ z.e < 300
abbrev pairO (i k : Int) (ti tk : Tok) : Obj := { cls := .type "tuple", data := .seq [Value.int i ti, Value.int k tk].toArray }
def IsAct (R : Rel) (v : Value) (a : Int × Int) : Prop := ∃ ac ti tk, v = .ref ac ∧ R ac (pairO a.1 a.2 ti tk)
inductive Acts (R : Rel) : List Value → List (Int × Int) → Prop
  | nil : Acts R [] []
  | cons {v : Value} {a : Int × Int} {vs : List Value} {as : List (Int × Int)} : IsAct R v a → Acts R vs as → Acts R (v :: vs) (a :: as)
theorem Acts.length {R : Rel} {vs : List Value} {as : List (Int × Int)} (h : Acts R vs as) : vs.length = as.length := by
  induction h with
  | nil => rfl
  | cons _ _ ih => simp [ih]
theorem Acts.get {R : Rel} {vs : List Value} {as : List (Int × Int)} (h : Acts R vs as) : ∀ (i : Nat) v, vs[i]? = some v → ∃ a, as[i]? = some a ∧ IsAct R v a := by
  induction h with
  | nil => intro i v e; simp at e
  | cons a _ ih => intro i v e; cases i with
    | zero => simp at e; subst e; exact ⟨_, rfl, a⟩
    | succ i => simpa using ih i v (by simpa using e)
theorem Acts.mono {R R' : Rel} {vs : List Value} {as : List (Int × Int)} (h : Acts R vs as) (hr : ∀ a i k ti tk, R a (pairO i k ti tk) → R' a (pairO i k ti tk)) : Acts R' vs as := by
  induction h with
  | nil => exact .nil
  | cons h1 _ ih => obtain ⟨ac, ti, tk, rfl, h2⟩ := h1; exact .cons ⟨ac, ti, tk, rfl, hr _ _ _ _ _ h2⟩ ih
theorem actS_no {z : St} {i k : Int} (h : ¬ (i < z.ps.length ∧ z.ps.getD i.toNat 0 < z.gs.length)) : actS z i k = z := by unfold actS; rw [if_neg h]

section
variable {w : World} {G h h' : Heap}
theorem IsLk.kp0 {v : Value} {k : Int} (H : IsLk w (at_ G h) v k) (kp : Kp [] h h') : IsLk w (at_ G h') v k := H.kp kp fun _ h => nomatch h
theorem IsLks.kp0 {ll : Addr} (H : IsLks w (at_ G h) ll) (kp : Kp [] h h') : IsLks w (at_ G h') ll := by
  obtain ⟨vs, n, h1, h2, h3⟩ := H
  refine ⟨vs, n, at_kp h1 kp (by simp), h2, fun k hk => ?_⟩
  obtain ⟨v, hv, hl⟩ := h3 k hk
  exact ⟨v, hv, hl.kp0 kp⟩
theorem IsSc.kp0 {sc bu ll st : Addr} (H : IsSc w (at_ G h) sc bu ll st) (kp : Kp [] h h') : IsSc w (at_ G h') sc bu ll st := by
  obtain ⟨sd, t1, t2, t3, t4, t5, t6, t7, ga, la, mm, tm, td, h1, h2⟩ := H
  exact ⟨sd, t1, t2, t3, t4, t5, t6, t7, ga, la, mm, tm, td, at_kp h1 kp (by simp), at_kp h2 kp (by simp)⟩
theorem IsPl.kp0 {av pa pd : Addr} {ps : List Int} {e : Int} (H : IsPl w (at_ G h) av pa pd ps e) (kp : Kp [] h h') : IsPl w (at_ G h') av pa pd ps e := by
  obtain ⟨t1, t2, te, rl, vs, n, h1, h2, h3, h4, h5⟩ := H
  exact ⟨t1, t2, te, rl, vs, n, at_kp h1 kp (by simp), at_kp h2 kp (by simp), at_kp h3 kp (by simp), h4, h5⟩
theorem IsBu.kp0 {av bu bd : Addr} {gs : List Int} (H : IsBu w (at_ G h) av bu bd gs) (kp : Kp [] h h') : IsBu w (at_ G h') av bu bd gs := by
  obtain ⟨t1, t2, t3, t4, b2, b3, b4, rl, vs, n, h1, h2, h3, h4, h5⟩ := H
  exact ⟨t1, t2, t3, t4, b2, b3, b4, rl, vs, n, at_kp h1 kp (by simp), at_kp h2 kp (by simp), at_kp h3 kp (by simp), h4.kp kp (fun _ h => nomatch h), h5⟩
theorem IsIn.kp0 {fs : Addr} {k : Int} (H : IsIn w (at_ G h) fs k) (kp : Kp [] h h') : IsIn w (at_ G h') fs k := by
  obtain ⟨fd, t1, t2, t3, t4, t5, t6, t7, v1, v2, v3, lv, v5, v6, v7, h1, h2, h3⟩ := H
  exact ⟨fd, t1, t2, t3, t4, t5, t6, t7, v1, v2, v3, lv, v5, v6, v7, at_kp h1 kp (by simp), at_kp h2 kp (by simp), h3.kp0 kp⟩
end

/-- apply_at's contract, over the objects FO that stand for it -/
def ApplyOk (prog : Program) (w : World) (G : Heap) (fa bu bd av : Addr) (FO : List (Addr × Obj)) : Prop :=
  ∀ (A : Around) (s : Shared) (Q E : Value → Shared → Prop) (gs : List Int) (fs : Addr) (a k : Int) (ta : Tok), A.depth + 40 < recursionLimit → A.handled = none → G.StaysIn s.heap → (∀ q ∈ FO, at_ G s.heap q.1 q.2) →
    IsBu w (at_ G s.heap) av bu bd gs → IsIn w (at_ G s.heap) fs k → (∃ o, s.heap.get? av = some o) → gs.length < 900 → 0 ≤ a → a < 900 → 0 ≤ k → k < 5 →
    (∀ h' tk' t', Kp [bd] s.heap h' → IsBu w (at_ G h') av bu bd (editL gs a k) → Q (.int (a + 1) t') { s with heap := h', toks := tk' }) →
    wpAny (model prog w) A (call (.ref fa) [.ref fs, .int a ta]) Q E s
end Mine
end

section
open PySem PySem.W PySem.Calls PySem.Spec PyProof.Rows
set_option maxHeartbeats 4000000
theorem Mine.fillIt : PySem.Challenge.rw_pb0189_01 = PySem.Challenge.rw_pb0189_01 ∧ Mine.K = Mine.K := by
  w_top off; k_fill; exact ⟨rfl, rfl⟩
namespace Mine
theorem noneG {h g : Heap} {a : Addr} (hg : ∀ b o, h.get? b = some o → g.get? b = some o) (e : g.get? a = none) : h.get? a = none := by
  cases q : h.get? a with
  | none => rfl
  | some o => have := hg a o q; rw [e] at this; cases this
section
variable {prog : Program} {w : World} {p : Program} {loose : List Str} {mean : ExcName → Option Value} {mg mb : Str → Option Value} {G : Heap} {A : Around} {s : Shared} {Q E : Value → Shared → Prop}

theorem places_new (am : Amb w p loose mean mg mb G) (hs : G.StaysIn s.heap) (hroom : A.depth + 2 < recursionLimit) {v1 v2 : Value}
    (ret : ∀ h' tk' x dx t1 t2 , Kp [] s.heap h' → h'.get? x = some (instObj 93 dx) → h'.get? dx = some (dictOf [ent w "row" t1 v1, ent w "end" t2 v2] 2) → s.heap.get? x = none → s.heap.get? dx = none → @Ne Nat x dx → Q (.ref x) { s with heap := h', toks := tk' }) :
    wpAny (model prog w) A (call (.ref 93) [v1, v2]) Q E s := by
  have X := am.X
  have T := am.T
  refine' classK (fI := 90) X T hs ?hm ?hi ?hf ?ho ?hcd hroom ?hbind ?hloc ?_ ?hcell ?hco ?hgen ?hk
  case hm => k_is
  case hi => k_is
  case hf => k_is
  case ho => k_is
  case hcd => k_is
  case hbind => intro x h' hs'; exact BindsTo.of_eq rfl
  case hloc => intro x; exact rfl
  case hcell => decide
  case hco => exact rfl
  case hgen => exact rfl
  case hk => exact rfl
  intro g L h₁ x dx tk F N X T hg hL l1 l2 n1 n2
  try dsimp only
  (repeat' walk_at "one")
  try dsimp only
  rename Fr _ _ _ _ => F9
  rename News _ _ _ _ => N9
  refine ⟨rfl, ret _ _ x dx _ _ (fun b o e _ => F9.keep b o (hg b o e)) (N9.get (by k_mem)) (N9.get (by k_mem)) n1 n2 (Nat.ne_of_gt l1)⟩

theorem lookup_new (am : Amb w p loose mean mg mb G) (hs : G.StaysIn s.heap) (hroom : A.depth + 2 < recursionLimit) {v1 v2 v3 v4 : Value}
    (ret : ∀ h' tk' x dx t1 t2 t3 t4 , Kp [] s.heap h' → h'.get? x = some (instObj 43 dx) → h'.get? dx = some (dictOf [ent w "kind" t1 v1, ent w "flag" t2 v2, ent w "mark_set" t3 v3, ent w "tables" t4 v4] 4) → s.heap.get? x = none → s.heap.get? dx = none → @Ne Nat x dx → Q (.ref x) { s with heap := h', toks := tk' }) :
    wpAny (model prog w) A (call (.ref 43) [v1, v2, v3, v4]) Q E s := by
  have X := am.X
  have T := am.T
  refine' classK (fI := 35) X T hs ?hm ?hi ?hf ?ho ?hcd hroom ?hbind ?hloc ?_ ?hcell ?hco ?hgen ?hk
  case hm => k_is
  case hi => k_is
  case hf => k_is
  case ho => k_is
  case hcd => k_is
  case hbind => intro x h' hs'; exact BindsTo.of_eq rfl
  case hloc => intro x; exact rfl
  case hcell => decide
  case hco => exact rfl
  case hgen => exact rfl
  case hk => exact rfl
  intro g L h₁ x dx tk F N X T hg hL l1 l2 n1 n2
  try dsimp only
  (repeat' walk_at "one")
  try dsimp only
  rename Fr _ _ _ _ => F9
  rename News _ _ _ _ => N9
  refine ⟨rfl, ret _ _ x dx _ _ _ _ (fun b o e _ => F9.keep b o (hg b o e)) (N9.get (by k_mem)) (N9.get (by k_mem)) n1 n2 (Nat.ne_of_gt l1)⟩

theorem classdef_new (am : Amb w p loose mean mg mb G) (hs : G.StaysIn s.heap) (hroom : A.depth + 2 < recursionLimit) {v1 : Value}
    (ret : ∀ h' tk' x, Kp [] s.heap h' → Q (.ref x) { s with heap := h', toks := tk' }) :
    wpAny (model prog w) A (call (.ref 266) [v1]) Q E s := by
  have X := am.X
  have T := am.T
  refine' classK (fI := 237) X T hs ?hm ?hi ?hf ?ho ?hcd hroom ?hbind ?hloc ?_ ?hcell ?hco ?hgen ?hk
  case hm => k_is
  case hi => k_is
  case hf => k_is
  case ho => k_is
  case hcd => k_is
  case hbind => intro x h' hs'; exact BindsTo.of_eq rfl
  case hloc => intro x; exact rfl
  case hcell => decide
  case hco => exact rfl
  case hgen => exact rfl
  case hk => exact rfl
  intro g L h₁ x dx tk F N X T hg hL l1 l2 n1 n2
  try dsimp only
  (repeat' walk_at "one")
  try dsimp only
  rename Fr _ _ _ _ => F9
  rename News _ _ _ _ => N9
  refine ⟨rfl, ret _ _ x  (fun b o e _ => F9.keep b o (hg b o e))⟩

theorem gdef_new (am : Amb w p loose mean mg mb G) (hs : G.StaysIn s.heap) (hroom : A.depth + 2 < recursionLimit) {v1 v2 v3 : Value}
    (ret : ∀ h' tk' x, Kp [] s.heap h' → Q (.ref x) { s with heap := h', toks := tk' }) :
    wpAny (model prog w) A (call (.ref 314) [v1, v2, v3]) Q E s := by
  have X := am.X
  have T := am.T
  refine' classK (fI := 285) X T hs ?hm ?hi ?hf ?ho ?hcd hroom ?hbind ?hloc ?_ ?hcell ?hco ?hgen ?hk
  case hm => k_is
  case hi => k_is
  case hf => k_is
  case ho => k_is
  case hcd => k_is
  case hbind => intro x h' hs'; exact binds_K (X.keeps hs') rfl (by k_is) rfl rfl rfl
  case hloc => intro x; exact rfl
  case hcell => decide
  case hco => exact rfl
  case hgen => exact rfl
  case hk => exact rfl
  intro g L h₁ x dx tk F N X T hg hL l1 l2 n1 n2
  try dsimp only
  (repeat' walk_at "one")
  try dsimp only
  rename Fr _ _ _ _ => F9
  rename News _ _ _ _ => N9
  refine ⟨rfl, ret _ _ x  (fun b o e _ => F9.keep b o (hg b o e))⟩

theorem buffer_new (am : Amb w p loose mean mg mb G) (hs : G.StaysIn s.heap) (hroom : A.depth + 2 < recursionLimit) {v1 : Value}
    (ret : ∀ h' tk' x dx t1 t2 t3 t4 b2 b3 b4, Kp [] s.heap h' → h'.get? x = some (instObj 219 dx) → h'.get? dx = some (dictOf [ent w "row" t1 v1, ent w "is_backward" t2 b2, ent w "last_lig" t3 b3, ent w "last_split" t4 b4] 4) → s.heap.get? x = none → s.heap.get? dx = none → @Ne Nat x dx → Q (.ref x) { s with heap := h', toks := tk' }) :
    wpAny (model prog w) A (call (.ref 219) [v1]) Q E s := by
  have X := am.X
  have T := am.T
  refine' classK (fI := 185) X T hs ?hm ?hi ?hf ?ho ?hcd hroom ?hbind ?hloc ?_ ?hcell ?hco ?hgen ?hk
  case hm => k_is
  case hi => k_is
  case hf => k_is
  case ho => k_is
  case hcd => k_is
  case hbind => intro x h' hs'; exact binds_K (X.keeps hs') rfl (by k_is) rfl rfl rfl
  case hloc => intro x; exact rfl
  case hcell => decide
  case hco => exact rfl
  case hgen => exact rfl
  case hk => exact rfl
  intro g L h₁ x dx tk F N X T hg hL l1 l2 n1 n2
  try dsimp only
  (repeat' walk_at "one")
  try dsimp only
  rename Fr _ _ _ _ => F9
  rename News _ _ _ _ => N9
  refine ⟨rfl, ret _ _ x dx _ _ _ _ _ _ _ (fun b o e _ => F9.keep b o (hg b o e)) (N9.get (by k_mem)) (N9.get (by k_mem)) n1 n2 (Nat.ne_of_gt l1)⟩

theorem scene_new5 (am : Amb w p loose mean mg mb G) (hs : G.StaysIn s.heap) (hroom : A.depth + 2 < recursionLimit) {v1 v2 v3 v4 v5 : Value}
    (ret : ∀ h' tk' x dx t1 t2 t3 t4 t5 t6 t7 td st tc, Kp [] s.heap h' → h'.get? x = some (instObj 65 dx) → h'.get? dx = some (dictOf [ent w "buffer" t1 v1, ent w "gdef" t2 v2, ent w "lookups" t3 v3, ent w "lookup" t4 v4, ent w "mask" t5 v5, ent w "depth" t6 (.int 0 td), ent w "steps" t7 (.ref st)] 7) → h'.get? st = some (lo [.int 0 tc] 0) → s.heap.get? st = none → @Ne Nat st dx → @Ne Nat st x → s.heap.get? x = none → s.heap.get? dx = none → @Ne Nat x dx → Q (.ref x) { s with heap := h', toks := tk' }) :
    wpAny (model prog w) A (call (.ref 65) [v1, v2, v3, v4, v5]) Q E s := by
  have X := am.X
  have T := am.T
  refine' classK (fI := 62) X T hs ?hm ?hi ?hf ?ho ?hcd hroom ?hbind ?hloc ?_ ?hcell ?hco ?hgen ?hk
  case hm => k_is
  case hi => k_is
  case hf => k_is
  case ho => k_is
  case hcd => k_is
  case hbind => intro x h' hs'; exact binds_K (X.keeps hs') rfl (by k_is) rfl rfl rfl
  case hloc => intro x; exact rfl
  case hcell => decide
  case hco => exact rfl
  case hgen => exact rfl
  case hk => exact rfl
  intro g L h₁ x dx tk F N X T hg hL l1 l2 n1 n2
  try dsimp only
  (repeat' walk_at "one")
  try dsimp only
  rename Fr _ _ _ _ => F9
  rename News _ _ _ _ => N9
  refine ⟨rfl, ret _ _ x dx _ _ _ _ _ _ _ _ _ _ (fun b o e _ => F9.keep b o (hg b o e)) (N9.get (by k_mem)) (N9.get (by k_mem)) (N9.get (by k_mem)) (noneG hg (N9.fresh (o := lo _ 0) (by k_mem))) (by omega) (by omega) n1 n2 (Nat.ne_of_gt l1)⟩

theorem scene_new6 (am : Amb w p loose mean mg mb G) (hs : G.StaysIn s.heap) (hroom : A.depth + 2 < recursionLimit) {v1 v2 v3 v4 v5 v6 : Value}
    (ret : ∀ h' tk' x dx t1 t2 t3 t4 t5 t6 t7 st tc, Kp [] s.heap h' → h'.get? x = some (instObj 65 dx) → h'.get? dx = some (dictOf [ent w "buffer" t1 v1, ent w "gdef" t2 v2, ent w "lookups" t3 v3, ent w "lookup" t4 v4, ent w "mask" t5 v5, ent w "depth" t6 v6, ent w "steps" t7 (.ref st)] 7) → h'.get? st = some (lo [.int 0 tc] 0) → s.heap.get? st = none → @Ne Nat st dx → @Ne Nat st x → s.heap.get? x = none → s.heap.get? dx = none → @Ne Nat x dx → Q (.ref x) { s with heap := h', toks := tk' }) :
    wpAny (model prog w) A (call (.ref 65) [v1, v2, v3, v4, v5, v6]) Q E s := by
  have X := am.X
  have T := am.T
  refine' classK (fI := 62) X T hs ?hm ?hi ?hf ?ho ?hcd hroom ?hbind ?hloc ?_ ?hcell ?hco ?hgen ?hk
  case hm => k_is
  case hi => k_is
  case hf => k_is
  case ho => k_is
  case hcd => k_is
  case hbind => intro x h' hs'; exact binds_K (X.keeps hs') rfl (by k_is) rfl rfl rfl
  case hloc => intro x; exact rfl
  case hcell => decide
  case hco => exact rfl
  case hgen => exact rfl
  case hk => exact rfl
  intro g L h₁ x dx tk F N X T hg hL l1 l2 n1 n2
  try dsimp only
  (repeat' walk_at "one")
  try dsimp only
  rename Fr _ _ _ _ => F9
  rename News _ _ _ _ => N9
  refine ⟨rfl, ret _ _ x dx _ _ _ _ _ _ _ _ _ (fun b o e _ => F9.keep b o (hg b o e)) (N9.get (by k_mem)) (N9.get (by k_mem)) (N9.get (by k_mem)) (noneG hg (N9.fresh (o := lo _ 0) (by k_mem))) (by omega) (by omega) n1 n2 (Nat.ne_of_gt l1)⟩

theorem info_new (am : Amb w p loose mean mg mb G) (hs : G.StaysIn s.heap) (hroom : A.depth + 2 < recursionLimit) {v1 v2 v3 : Value}
    (ret : ∀ h' tk' x dx es n, Kp [] s.heap h' → h'.get? x = some (instObj 166 dx) → h'.get? dx = some (dictOf es n) → getL "glyph" es = some (some v2) → s.heap.get? x = none → s.heap.get? dx = none → @Ne Nat x dx → Q (.ref x) { s with heap := h', toks := tk' }) :
    wpAny (model prog w) A (call (.ref 166) [v1, v2, v3]) Q E s := by
  have X := am.X
  have T := am.T
  refine' classK (fI := 149) X T hs ?hm ?hi ?hf ?ho ?hcd hroom ?hbind ?hloc ?_ ?hcell ?hco ?hgen ?hk
  case hm => k_is
  case hi => k_is
  case hf => k_is
  case ho => k_is
  case hcd => k_is
  case hbind => intro x h' hs'; exact BindsTo.of_eq rfl
  case hloc => intro x; exact rfl
  case hcell => decide
  case hco => exact rfl
  case hgen => exact rfl
  case hk => exact rfl
  intro g L h₁ x dx tk F N X T hg hL l1 l2 n1 n2
  try dsimp only
  (repeat' walk_at "one")
  try dsimp only
  rename Fr _ _ _ _ => F9
  rename News _ _ _ _ => N9
  refine ⟨rfl, ret _ _ x dx _ _ (fun b o e _ => F9.keep b o (hg b o e)) (N9.get (by k_mem)) (N9.get (by k_mem)) (by k_get) n1 n2 (Nat.ne_of_gt l1)⟩
end
end Mine
end

section
open PySem PySem.W PySem.Calls PySem.Spec PyProof.Rows
namespace Mine
theorem newAt {h g : Heap} {news : List (Addr × Obj)} {a : Addr} (hg : ∀ b o, h.get? b = some o → b ∉ news.map (·.1) → g.get? b = some o) (n : g.get? a = none) (hn : a ∉ news.map (·.1)) : h.get? a = none := by
  cases q : h.get? a with
  | none => rfl
  | some o => have := hg a o q hn; rw [n] at this; cases this

section
variable {prog : Program} {w : World} {A : Around} {g : Heap} {L : Addr} {m : Str → Option Value} {env : Env} {elt : Expr} {x : Str} {scope : Scope} {cl : List (Str × Addr)} {s : Shared} {S : List (Addr × Obj) → Prop} {P : Nat → Value → Prop} {Fin : List Value → List (Addr × Obj) → Prop} {news₀ : List (Addr × Obj)}

/-- a comprehension whose element makes one Info: the ledger grows by it -/
theorem infoRest {n : Nat} {gs : List Int} (hn : gs.length = n) (hS : ∀ news, (∀ q ∈ news₀, q ∈ news) → S news)
    (turn : ∀ i v I oI C oC D m₂ ys news h tk (Qe E' : Value → Shared → Prop), i < n → P i v → LCg.NsObj oC m₂ → m₂ x = some v → Fr g L h m → News g L h ((I, oI) :: (C, oC) :: (D, LCg.lst ys) :: news) → (∀ q ∈ news₀, q ∈ news) →
      (∀ h' tk' a d es ne t, Kp [] h h' → h'.get? a = some (instObj 166 d) → h'.get? d = some (dictOf es ne) → getL "glyph" es = some (some (.int (gs.getD i 0) t)) → h.get? a = none → h.get? d = none → @Ne Nat a d → Qe (.ref a) { s with heap := h', toks := tk' }) →
      wpAny (model prog w) A (eval elt (compEnvC scope cl C env)) Qe E' { s with heap := h, toks := tk })
    (fin : ∀ ys news, (∀ q ∈ news₀, q ∈ news) → Infos (fun a o => (a, o) ∈ news) ys gs → Fin ys news) :
    LCg.CompRest prog w A g L m env elt x scope cl s S P Fin n 0 [] news₀ := by
  have key : ∀ (j i : Nat) (ys : List Value) (news : List (Addr × Obj)), i + j = n → (∀ q ∈ news₀, q ∈ news) → Infos (fun a o => (a, o) ∈ news) ys (gs.take i) → LCg.CompRest prog w A g L m env elt x scope cl s S P Fin j i ys news := by
    intro j
    induction j with
    | zero =>
      intro i ys news hi hsub hy
      have e : i = gs.length := by omega
      subst e
      rw [List.take_length] at hy
      exact LCg.CompRest.zero (fin ys news hsub hy)
    | succ j ih =>
      intro i ys news hi hsub hy
      refine LCg.CompRest.succ ?_
      intro v I oI C oC D m₂ h tk E' hv hC hx F N off ne
      refine turn i v I oI C oC D m₂ ys news h tk _ E' (by omega) hv hC hx F N hsub ?_
      intro h' tk' a d es nn t k1 ha hd hgl n1 n2 n3
      have F' := frKp F k1 (fun _ h => nomatch h)
      have N' := nwKp N k1 (fun _ _ h => nomatch h)
      have oa := newOf F n1
      have od := newOf F n2
      have Nw : News g L h' ((I, oI) :: (C, oC) :: (D, LCg.lst ys) :: (a, instObj 166 d) :: (d, dictOf es nn) :: news) := by
        intro q hq
        simp only [List.mem_cons] at hq
        rcases hq with rfl | rfl | rfl | rfl | rfl | hq
        · exact N' _ (by simp)
        · exact N' _ (by simp)
        · exact N' _ (by simp)
        · exact ⟨ha, oa.1, oa.2⟩
        · exact ⟨hd, od.1, od.2⟩
        · exact N' _ (by simp [hq])
      have live : ∀ (b : Addr) o, (b, o) ∈ ((I, oI) :: (C, oC) :: (D, LCg.lst ys) :: news) → a ≠ b ∧ d ≠ b := fun b o hb => by
        have e := (N _ hb).1
        dsimp only at e
        exact ⟨fun q => (by rw [← q, n1] at e; cases e), fun q => (by rw [← q, n2] at e; cases e)⟩
      refine LCg.CompEnd.intro F' Nw ((a, instObj 166 d) :: (d, dictOf es nn) :: news) (fun q hq => hq) ?_ (hS _ fun q hq => .tail _ (.tail _ (hsub q hq))) ?_
      · have l1 := live I oI (by simp)
        have l2 := live C oC (by simp)
        have l3 := live D (LCg.lst ys) (by simp)
        exact ⟨⟨l1.1, l2.1, l3.1⟩, ⟨l1.2, l2.2, l3.2⟩, off⟩
      · refine ih (i + 1) _ _ (by omega) (fun q hq => .tail _ (.tail _ (hsub q hq))) ?_
        have hlt : i < gs.length := by omega
        have e1 : gs.take (i + 1) = gs.take i ++ [gs.getD i 0] := by
          rw [List.take_add_one, List.getD_eq_getElem?_getD]
          simp [hlt]
        rw [e1]
        refine Infos.append (hy.mono fun b o _ hb => .tail _ (.tail _ hb)) (.cons ⟨a, d, es, nn, t, rfl, .head _, .tail _ (.head _), hgl⟩ .nil)
  exact key n 0 [] news₀ (by omega) (fun _ h => h) (by rw [List.take_zero]; exact .nil)
end
end Mine
end

section
open PySem PySem.W PySem.Calls PySem.Spec PyProof.Rows
namespace Mine

/-- all that the heap holds beside the base and the frame -/
def allOf (g : Heap) (L : Addr) (h : Heap) : List (Addr × Obj) := (List.range h.objs.size).filterMap fun a => if a = L then none else if (g.get? a).isSome then none else (h.get? a).map fun o => (a, o)
theorem mem_allOf {g h : Heap} {L a : Addr} {o : Obj} (e : h.get? a = some o) (n1 : a ≠ L) (n2 : g.get? a = none) : (a, o) ∈ allOf g L h :=
  List.mem_filterMap.mpr ⟨a, List.mem_range.mpr (Heap.lt_size e), by rw [if_neg n1, n2]; simp [e]⟩
theorem allOf_news {g h : Heap} {L : Addr} : News g L h (allOf g L h) := fun q hq => by
  obtain ⟨a, _, h2⟩ := List.mem_filterMap.mp hq
  split at h2
  · cases h2
  · rename_i n1
    split at h2
    · cases h2
    · rename_i n2
      obtain ⟨o, ho, rfl⟩ := Option.map_eq_some_iff.mp h2
      exact ⟨ho, n1, by simpa using n2⟩

/-- the ledger with all else behind it: whatever comes, all else stands but the frame -/
theorem withAll {g h : Heap} {L : Addr} {m : Str → Option Value} {lit : List (Addr × Obj)} (F : Fr g L h m) (N : News g L h lit) :
    ∃ tail, News g L h (lit ++ tail) ∧ ∀ h' m', Fr g L h' m' → News g L h' tail → Kp [L] h h' := by
  refine ⟨allOf g L h, fun q hq => (List.mem_append.mp hq).elim (N q) (allOf_news q), fun h' m' F' N' b o e nb => ?_⟩
  have n1 : b ≠ L := fun q => nb (by rw [q]; exact .head _)
  cases q : g.get? b with
  | some o' =>
    have e1 := F.keep b o' q
    rw [e] at e1; cases e1
    exact F'.keep b _ q
  | none => exact N'.get (mem_allOf e n1 q)

theorem Kp.transL {S : List Addr} {L : Addr} {h h' h'' : Heap} (a : Kp S h h') (b : Kp [L] h' h'') (hL : ∀ x o, h.get? x = some o → x < L) : Kp S h h'' :=
  fun x o e n => b x o (a x o e n) (by
    intro hm
    have e1 : x = L := by simpa using hm
    exact absurd (hL x o e) (by rw [e1]; exact Nat.lt_irrefl _))

/-- a dict that holds a name that the frame does not is not the frame -/
theorem frNe {g h : Heap} {L d : Addr} {m : Str → Option Value} {x : Str} {es : List DictEntry} {n : Nat} {v : Value} (F : Fr g L h m) (hm : m x = none) (e : h.get? d = some (dictOf es n)) (hx : getL x es = some (some v)) : d ≠ L := by
  rintro rfl
  obtain ⟨o, es', ep, e', hd, _, hf⟩ := F.ns
  rw [e] at e'; cases e'
  cases hd
  have h1 := hf x
  rw [hm] at h1
  unfold nsFind findBy at h1
  rw [List.find?_toArray] at h1
  unfold getL at hx
  cases q : es.find? (·.key.isStr x) with
  | none => rw [q] at hx; dsimp only at hx; split at hx <;> cases hx
  | some en => rw [q] at h1; cases h1
theorem frNeL {g h : Heap} {L d : Addr} {m : Str → Option Value} {o : Obj} (F : Fr g L h m) (e : h.get? d = some o) (hx : ∀ es n, o.data ≠ .dict es n) : d ≠ L := by
  rintro rfl
  obtain ⟨o', es', ep, e', hd, _, _⟩ := F.ns
  rw [e] at e'; cases e'
  exact hx _ _ hd

section
variable {w : World} {G g h h' : Heap} {L : Addr} {m : Str → Option Value}
theorem Infos.kpL {vs : List Value} {gs : List Int} (H : Infos (at_ G h) vs gs) (F : Fr g L h m) (hm : m "glyph" = none) (k : Kp [L] h h') : Infos (at_ G h') vs gs :=
  H.mono fun a o ho e => at_kp e k fun hm' => by
    have ea : a = L := by simpa using hm'
    rcases ho with ⟨d, rfl⟩ | ⟨es, n, gg, t, rfl, hg⟩
    · exact frNeL F e.1 (fun _ _ q => by cases q) ea
    · exact frNe F hm e.1 hg ea
theorem IsBu.kpL {av bu bd : Addr} {gs : List Int} (H : IsBu w (at_ G h) av bu bd gs) (F : Fr g L h m) (hm : m "glyph" = none) (hm2 : m "row" = none) (k : Kp [L] h h') : IsBu w (at_ G h') av bu bd gs := by
  obtain ⟨t1, t2, t3, t4, b2, b3, b4, rl, vs, n, h1, h2, h3, h4, h5⟩ := H
  refine ⟨t1, t2, t3, t4, b2, b3, b4, rl, vs, n, at_kp h1 k ?_, at_kp h2 k ?_, at_kp h3 k ?_, h4.kpL F hm k, h5⟩
  · simpa using frNeL F h1.1 (fun _ _ q => by cases q)
  · simpa using frNe F hm2 h2.1 (v := .ref rl) rfl
  · simpa using frNeL F h3.1 (fun _ _ q => by cases q)
theorem IsPl.kpL {av pa pd : Addr} {ps : List Int} {e : Int} (H : IsPl w (at_ G h) av pa pd ps e) (F : Fr g L h m) (hm2 : m "row" = none) (k : Kp [L] h h') : IsPl w (at_ G h') av pa pd ps e := by
  obtain ⟨t1, t2, te, rl, vs, n, h1, h2, h3, h4, h5⟩ := H
  refine ⟨t1, t2, te, rl, vs, n, at_kp h1 k ?_, at_kp h2 k ?_, at_kp h3 k ?_, h4, h5⟩
  · simpa using frNeL F h1.1 (fun _ _ q => by cases q)
  · simpa using frNe F hm2 h2.1 (v := .ref rl) rfl
  · simpa using frNeL F h3.1 (fun _ _ q => by cases q)
/-- the row stands where the places' dict alone is changed -/
theorem IsBu.kpPd {av bu bd pd : Addr} {gs : List Int} {t1 t2 : Tok} {v1 v2 : Value} (H : IsBu w (at_ G h) av bu bd gs) (k : Kp [pd] h h') (hpd : h.get? pd = some (dictOf [ent w "row" t1 v1, ent w "end" t2 v2] 2)) : IsBu w (at_ G h') av bu bd gs := by
  obtain ⟨u1, u2, u3, u4, b2, b3, b4, rl, vs, n, h1, h2, h3, h4, h5⟩ := H
  refine ⟨u1, u2, u3, u4, b2, b3, b4, rl, vs, n, at_kp h1 k ?_, at_kp h2 k ?_, at_kp h3 k ?_, h4.kp k ?_, h5⟩
  · simpa using ne_objs h1.1 hpd (by simp)
  · simpa using ne_objs h2.1 hpd (by simp)
  · simpa using ne_objs h3.1 hpd (by simp)
  · intro b hb o e
    have eb : b = pd := by simpa using hb
    subst eb
    rw [hpd] at e; cases e
    refine ⟨fun d q => (by cases q), fun es n q gg t hgl => ?_⟩
    have e2 : es = [ent w "row" t1 v1, ent w "end" t2 v2] := by
      have := congrArg Obj.data q
      simp only [Data.dict.injEq] at this
      have q2 := congrArg Array.toList this.1
      simpa using q2.symm
    subst e2
    cases hgl
end
end Mine
end

section
open PySem PySem.W PySem.Calls PySem.Spec PyProof.Rows
set_option maxHeartbeats 4000000
theorem Mine.fillItGr : PySem.Challenge.rw_pb0189_01 = PySem.Challenge.rw_pb0189_01 ∧ Mine.K = Mine.K := by
  w_top off; k_fill; exact ⟨rfl, rfl⟩
namespace Mine
section
variable {prog : Program} {w : World} {p : Program} {loose : List Str} {mean : ExcName → Option Value} {mg mb : Str → Option Value} {G : Heap} {A : Around} {s : Shared} {Q E : Value → Shared → Prop}
theorem grow_raw (am : Amb w p loose mean mg mb G) (hs : G.StaysIn s.heap) (hroom : A.depth + 8 < recursionLimit) (hh : A.handled = none) {av pa pd : Addr} {ps : List Int} {i l e : Int} {ti tl : Tok} {x : Int} {oav : Obj}
    (hP : IsPl w (at_ G s.heap) av pa pd ps e) (hav : s.heap.get? av = some oav) (hsz : ps.length < 1000) (hi0 : 0 ≤ i) (hi1 : i < 1000) (hl0 : 0 ≤ l) (hl1 : l < 1000) (hx : ps[i.toNat]? = some x)
    (ret : ∀ h' tk', Kp [pd] s.heap h' → IsPl w (at_ G h') av pa pd (growL ps i l) e → Q .none { s with heap := h', toks := tk' }) :
    wpAny (model prog w) A (call (.ref 109) [.ref pa, .int i ti, .int l tl]) Q E s := by
  obtain ⟨t1, t2, te, rl, vs, n, ⟨hpa, hpa0⟩, ⟨hpd, hpd0⟩, ⟨hrl, hrl0⟩, hi, hrav⟩ := hP
  have X := am.X
  have T := am.T
  have hne1 : @Ne Nat pd pa := by intro q; rw [q, hpa] at hpd; simp at hpd
  have hne2 : @Ne Nat pd rl := by intro q; rw [q, hrl] at hpd; simp at hpd
  have hne3 : @Ne Nat pa rl := by intro q; rw [q, hrl] at hpa; simp at hpa
  refine' enterKC [(pd, dictOf [ent w "row" t1 (.ref rl), ent w "end" t2 (.int e te)] 2), (pa, instObj 93 pd), (rl, lo vs n)] X T hs ?ho ?hcd (by (try dsimp only); omega) ?hbind ?hkind ?hnd ?hn ?_ ?hco ?hgen ?hk
  case ho => k_is
  case hcd => k_is
  case hbind => exact BindsTo.of_eq rfl
  case hkind => exact rfl
  case hnd => decide +kernel
  case hn => first | ((repeat' (first | exact List.forall_mem_nil _ | refine' List.forall_mem_cons.mpr ⟨?_, ?_⟩ | k_mem | exact hpa | exact fun h => hpa (List.mem_singleton.mp h) | exact hpd | exact fun h => hpd (List.mem_singleton.mp h) | exact hrl | exact fun h => hrl (List.mem_singleton.mp h) | exact hpd0 | exact fun h => hpd0 (List.mem_singleton.mp h) | exact hpa0 | exact fun h => hpa0 (List.mem_singleton.mp h) | exact hrl0 | exact fun h => hrl0 (List.mem_singleton.mp h) | refine' And.intro ?_ ?_ | (refine' Or.inr ?_; k_mem) | (refine' Or.inl ?_; k_mem))); done) | simp [hpa, hpd, hrl, hpd0, hpa0, hrl0]
  case hco => exact rfl
  case hgen => exact rfl
  case hk => exact rfl
  k_whole
  intro g L h₁ tk cells F N Y X T hg hL hGg
  k_cells Y
  have hp1 : @LT.lt Nat _ pd L := hL _ _ hpd
  have hp2 : @LT.lt Nat _ pa L := hL _ _ hpa
  have hp3 : @LT.lt Nat _ rl L := hL _ _ hrl
  simp only [List.cons_append, List.nil_append] at N
  have hlen := hi.length
  (repeat' walk_at "one")
  rename IsRange _ _ _ _ _ _ _ _ => R0
  rename Fr _ _ _ _ => F0
  rename News _ _ _ _ => N0
  refine LCg.CompSrc.range hh F0 N0 R0 (small_one (by omega) (by omega) (by omega) (by omega)) (rangeSize_nat _ _) (by rw [sizeLine_eq]; omega) ?_
  intro g'
  try dsimp only
  refine kcf_range (fun k => x + 1 + k) ?_ ?_
  · intro k t I oI C oC D m₂ ys h tk E' hk1 hk2 hC hx2 F N off ne mk
    try dsimp only
    simp only [LCg.Off3, and_true] at off
    repeat' ((fail_if_success (with_reducible show wpAny _ _ (subscriptTail _ _ _ _) _ _ _)); walk_at "one")
    all_goals (try dsimp only)
    obtain ⟨tx, hvx⟩ := hi.get _ _ hx
    refine itemL (s := ⟨_, _, _, _, _⟩) (News.isList N (by k_mem)) hi0 (by omega) hvx ?_
    (repeat' walk_at "one")
    try dsimp only
    refine LCg.CompEnd.intro F N _ (fun q hq => hq) (by simp only [LCg.Off3, and_true]; exact off) trivial ⟨rfl, _, rfl⟩
  · intro ys hys
    unfold LCg.FinA
    intro D h tk F N off
    simp only [LCg.Off1, and_true] at off
    try dsimp only
    have hle : ys.length = l.toNat := by have := hys.length; simpa [rangeKs] using this
    repeat' ((fail_if_success (with_reducible show wpAny _ _ (subscriptTail _ _ _ _) _ _ _)); walk_at "one")
    all_goals (try dsimp only)
    walk_at "one"
    try dsimp only
    refine slTo (s := ⟨_, _, _, _, _⟩) (k := (i + 1).toNat) (vs := vs) F N (News.isList N (by k_mem)) (by omega) (by rw [sizeLine_eq]; omega) ?_
    intro D1 h1 F1 N1 l1
    k_lt l1
    try dsimp only
    repeat' ((fail_if_success (with_reducible show wpAny _ _ (binaryOp Operator.Add (Value.ref _) (Value.ref _)) _ _ _)); walk_at "one")
    all_goals (try dsimp only)
    refine addL (s := ⟨_, _, _, _, _⟩) F1 N1 (News.isList N1 (List.Mem.head _)) (News.isList N1 (List.Mem.tail _ (List.Mem.head _))) (by rw [sizeLine_eq, List.length_take]; omega) ?_
    intro D2 h2 F2 N2 l2
    k_lt l2
    try dsimp only
    refine LCg.ListComp_U (F₀ := by k_asm) (by with_unfolding_all rfl) (by decide) (by rfl) (by decide) (by rfl) ?_
    repeat' ((fail_if_success (with_reducible show wpAny _ _ (subscriptTail _ _ _ _) _ _ _)); walk_at "one")
    all_goals (try dsimp only)
    walk_at "one"
    try dsimp only
    refine slFrom (s := ⟨_, _, _, _, _⟩) (k := (i + 1).toNat) (vs := vs) F2 N2 (News.isList N2 (by k_mem)) (by omega) (by rw [sizeLine_eq]; omega) ?_
    intro D3 h3 F3 N3 l3
    k_lt l3
    try dsimp only
    refine LCg.CompSrc.ledger hh F3 N3 (List.Mem.head _) (by rw [sizeLine_eq, List.size_toArray, List.length_drop]; omega) ?_
    intro g''
    try dsimp only
    refine kcf_list (· + l) (hi.drop _) ?_ ?_
    · intro k t I oI C oC D' m₂ ys' h' tk' E' hk hC hx' F' N' off' ne mk
      try dsimp only
      (repeat' walk_at "one")
      try dsimp only
      refine LCg.CompEnd.intro F' N' _ (fun q hq => hq) off' (.inr ⟨_, List.Mem.head _, rfl, _, rfl⟩) ⟨rfl, _, rfl⟩
    · intro zs hzs
      unfold LCg.FinE
      intro D4 h4 tk4 F4 N4 off4
      simp only [LCg.Off1, and_true] at off4
      try dsimp only
      have hzl : zs.length = ps.length - (i + 1).toNat := by have := hzs.length; simpa using this
      refine addL (s := ⟨_, _, _, _, _⟩) F4 N4 (News.isList N4 (List.Mem.tail _ (List.Mem.tail _ (List.Mem.head _)))) (News.isList N4 (List.Mem.head _)) (by rw [sizeLine_eq, List.length_append, List.length_take]; omega) ?_
      intro D5 h5 F5 N5 l5
      k_lt l5
      try dsimp only
      repeat' ((fail_if_success (with_reducible show wpAny _ _ (setAttr _ _ _) _ _ _)); walk_at "one")
      all_goals (try dsimp only)
      refine' set_dict (s := ⟨_, _, _, _, _⟩) F5 X N5 ?k4 ?k5 ?k6 ?k7 ?k8 ?k9 ?k10 ?k11 ?k12 ?k13 ?_
      case k4 => k_inst
      case k5 => exact rfl
      case k6 => k_is
      case k7 => k_is
      case k8 => k_is
      case k9 => k_is
      case k10 => k_get
      case k11 => k_put
      case k12 => k_upd
      case k13 => exact Nat.le_of_ble_eq_true rfl
      k_whole
      intro h6 F6 N6
      try dsimp only
      (repeat' walk_at "one")
      try dsimp only
      have hp4 : @LT.lt Nat _ av L := hL _ _ hav
      have hxe : ps.getD i.toNat 0 = x := by rw [List.getD_eq_getElem?_getD, hx]; rfl
      refine ret _ _ (kp_of hg F6 N6 (by first | ((repeat' (first | exact List.forall_mem_nil _ | refine' List.forall_mem_cons.mpr ⟨?_, ?_⟩ | k_mem | exact hpa | exact fun h => hpa (List.mem_singleton.mp h) | exact hpd | exact fun h => hpd (List.mem_singleton.mp h) | exact hrl | exact fun h => hrl (List.mem_singleton.mp h) | refine' And.intro ?_ ?_ | (refine' Or.inr ?_; k_mem) | (refine' Or.inl ?_; k_mem))); done) | simp [hpa, hpd, hrl]) (by walk_at "mem")) ⟨_, _, _, D5, _, _, atN hGg N6 (by k_mem), atN hGg N6 (by k_mem), atN hGg N6 (by k_mem), ?_, Nat.ne_of_gt (show @LT.lt Nat _ av D5 by omega)⟩
      unfold growL
      refine IntsAre.append (IntsAre.append (hi.take _) ?_) hzs
      have e : List.map (fun k => x + 1 + k) (rangeKs 0 (l - 0).toNat) = (List.range l.toNat).map (fun (k : Nat) => ps.getD i.toNat 0 + 1 + (k : Int)) := by
        rw [hxe]; simp [rangeKs, List.map_map, Function.comp_def]
      rw [← e]; exact hys
end
end Mine
end

section
open PySem PySem.W PySem.Calls PySem.Spec PyProof.Rows
set_option maxHeartbeats 4000000
theorem Mine.fillItSh : PySem.Challenge.rw_pb0189_01 = PySem.Challenge.rw_pb0189_01 ∧ Mine.K = Mine.K := by
  w_top off; k_fill; exact ⟨rfl, rfl⟩
namespace Mine
section
variable {prog : Program} {w : World} {p : Program} {loose : List Str} {mean : ExcName → Option Value} {mg mb : Str → Option Value} {G : Heap} {A : Around} {s : Shared} {Q E : Value → Shared → Prop}
theorem shrink_raw (am : Amb w p loose mean mg mb G) (hs : G.StaysIn s.heap) (hroom : A.depth + 8 < recursionLimit) (hh : A.handled = none) {av pa pd : Addr} {ps : List Int} {i l e : Int} {ti tl : Tok} {oav : Obj}
    (hP : IsPl w (at_ G s.heap) av pa pd ps e) (hav : s.heap.get? av = some oav) (hsz : ps.length < 1000) (hi0 : 0 ≤ i) (hi1 : i < 1000) (hl0 : 0 ≤ l) (hl1 : l < 1000)
    (ret : ∀ h' tk', Kp [pd] s.heap h' → IsPl w (at_ G h') av pa pd (shrinkL ps i l) e → Q .none { s with heap := h', toks := tk' }) :
    wpAny (model prog w) A (call (.ref 114) [.ref pa, .int i ti, .int l tl]) Q E s := by
  obtain ⟨t1, t2, te, rl, vs, n, ⟨hpa, hpa0⟩, ⟨hpd, hpd0⟩, ⟨hrl, hrl0⟩, hi, hrav⟩ := hP
  have X := am.X
  have T := am.T
  have hne1 : @Ne Nat pd pa := by intro q; rw [q, hpa] at hpd; simp at hpd
  have hne2 : @Ne Nat pd rl := by intro q; rw [q, hrl] at hpd; simp at hpd
  have hne3 : @Ne Nat pa rl := by intro q; rw [q, hrl] at hpa; simp at hpa
  refine' enterKC [(pd, dictOf [ent w "row" t1 (.ref rl), ent w "end" t2 (.int e te)] 2), (pa, instObj 93 pd), (rl, lo vs n)] X T hs ?ho ?hcd (by (try dsimp only); omega) ?hbind ?hkind ?hnd ?hn ?_ ?hco ?hgen ?hk
  case ho => k_is
  case hcd => k_is
  case hbind => exact BindsTo.of_eq rfl
  case hkind => exact rfl
  case hnd => decide +kernel
  case hn => first | ((repeat' (first | exact List.forall_mem_nil _ | refine' List.forall_mem_cons.mpr ⟨?_, ?_⟩ | k_mem | exact hpa | exact fun h => hpa (List.mem_singleton.mp h) | exact hpd | exact fun h => hpd (List.mem_singleton.mp h) | exact hrl | exact fun h => hrl (List.mem_singleton.mp h) | exact hpd0 | exact fun h => hpd0 (List.mem_singleton.mp h) | exact hpa0 | exact fun h => hpa0 (List.mem_singleton.mp h) | exact hrl0 | exact fun h => hrl0 (List.mem_singleton.mp h) | refine' And.intro ?_ ?_ | (refine' Or.inr ?_; k_mem) | (refine' Or.inl ?_; k_mem))); done) | simp [hpa, hpd, hrl, hpd0, hpa0, hrl0]
  case hco => exact rfl
  case hgen => exact rfl
  case hk => exact rfl
  k_whole
  intro g L h₁ tk cells F N Y X T hg hL hGg
  k_cells Y
  have hp1 : @LT.lt Nat _ pd L := hL _ _ hpd
  have hp2 : @LT.lt Nat _ pa L := hL _ _ hpa
  have hp3 : @LT.lt Nat _ rl L := hL _ _ hrl
  simp only [List.cons_append, List.nil_append] at N
  have hlen := hi.length
  repeat' ((fail_if_success (with_reducible show wpAny _ _ (subscriptTail _ _ _ _) _ _ _)); walk_at "one")
  all_goals (try dsimp only)
  walk_at "one"
  try dsimp only
  refine slTo (s := ⟨_, _, _, _, _⟩) (k := (i + 1).toNat) (vs := vs) F N (News.isList N (by k_mem)) (by omega) (by rw [sizeLine_eq]; omega) ?_
  intro D1 h1 F1 N1 l1
  k_lt l1
  try dsimp only
  refine LCg.ListComp_U (F₀ := by k_asm) (by with_unfolding_all rfl) (by decide) (by rfl) (by decide) (by rfl) ?_
  repeat' ((fail_if_success (with_reducible show wpAny _ _ (subscriptTail _ _ _ _) _ _ _)); walk_at "one")
  all_goals (try dsimp only)
  walk_at "one"
  try dsimp only
  refine slFrom (s := ⟨_, _, _, _, _⟩) (k := (i + 1 + l).toNat) (vs := vs) F1 N1 (News.isList N1 (by k_mem)) (by omega) (by rw [sizeLine_eq]; omega) ?_
  intro D2 h2 F2 N2 l2
  k_lt l2
  try dsimp only
  refine LCg.CompSrc.ledger hh F2 N2 (List.Mem.head _) (by rw [sizeLine_eq, List.size_toArray, List.length_drop]; omega) ?_
  intro g'
  try dsimp only
  refine kcf_list (· - l) (hi.drop _) ?_ ?_
  · intro k t I oI C oC D m₂ ys h tk E' hk hC hx F N off ne mk
    try dsimp only
    (repeat' walk_at "one")
    try dsimp only
    refine LCg.CompEnd.intro F N _ (fun q hq => hq) off (.inr ⟨_, List.Mem.head _, rfl, _, rfl⟩) ⟨rfl, _, rfl⟩
  · intro ys hys
    unfold LCg.FinE
    intro D h tk F N off
    simp only [LCg.Off1, and_true] at off
    try dsimp only
    have hyl : ys.length = ps.length - (i + 1 + l).toNat := by have := hys.length; simpa using this
    refine addL (s := ⟨_, _, _, _, _⟩) F N (News.isList N (List.Mem.tail _ (List.Mem.tail _ (List.Mem.head _)))) (News.isList N (List.Mem.head _)) (by rw [sizeLine_eq, List.length_take]; omega) ?_
    intro D3 h3 F3 N3 l3
    k_lt l3
    try dsimp only
    repeat' ((fail_if_success (with_reducible show wpAny _ _ (setAttr _ _ _) _ _ _)); walk_at "one")
    all_goals (try dsimp only)
    refine' set_dict (s := ⟨_, _, _, _, _⟩) F3 X N3 ?k4 ?k5 ?k6 ?k7 ?k8 ?k9 ?k10 ?k11 ?k12 ?k13 ?_
    case k4 => k_inst
    case k5 => exact rfl
    case k6 => k_is
    case k7 => k_is
    case k8 => k_is
    case k9 => k_is
    case k10 => k_get
    case k11 => k_put
    case k12 => k_upd
    case k13 => exact Nat.le_of_ble_eq_true rfl
    k_whole
    intro h4 F4 N4
    try dsimp only
    (repeat' walk_at "one")
    try dsimp only
    have hp4 : @LT.lt Nat _ av L := hL _ _ hav
    refine ret _ _ (kp_of hg F4 N4 (by first | ((repeat' (first | exact List.forall_mem_nil _ | refine' List.forall_mem_cons.mpr ⟨?_, ?_⟩ | k_mem | exact hpa | exact fun h => hpa (List.mem_singleton.mp h) | exact hpd | exact fun h => hpd (List.mem_singleton.mp h) | exact hrl | exact fun h => hrl (List.mem_singleton.mp h) | refine' And.intro ?_ ?_ | (refine' Or.inr ?_; k_mem) | (refine' Or.inl ?_; k_mem))); done) | simp [hpa, hpd, hrl]) (by walk_at "mem")) ⟨_, _, _, D3, _, _, atN hGg N4 (by k_mem), atN hGg N4 (by k_mem), atN hGg N4 (by k_mem), ?_, Nat.ne_of_gt (show @LT.lt Nat _ av D3 by omega)⟩
    exact (hi.take _).append hys
end
end Mine
end

section
open PySem PySem.W PySem.Calls PySem.Spec PyProof.Rows
set_option maxHeartbeats 4000000
theorem Mine.fillItTk : PySem.Challenge.rw_pb0189_01 = PySem.Challenge.rw_pb0189_01 ∧ Mine.K = Mine.K := by
  w_top off; k_fill; exact ⟨rfl, rfl⟩
namespace Mine
section
variable {prog : Program} {w : World} {p : Program} {loose : List Str} {mean : ExcName → Option Value} {mg mb : Str → Option Value} {G : Heap} {A : Around} {s : Shared} {Q E : Value → Shared → Prop}
theorem take_raw (am : Amb w p loose mean mg mb G) (hs : G.StaysIn s.heap) (hroom : A.depth + 2 < recursionLimit) (hh : A.handled = none) {pl : Addr} {vs : List Value} {n : Nat} {ns : List Int} {k : Int} {tk0 : Tok}
    (hP : at_ G s.heap pl (lo vs n)) (hi : IntsAre vs ns) (hsz : ns.length ≤ 1000) (hk0 : 0 < k) (hk1 : k < 1000)
    (ret : ∀ h' tk' d td vs' n' ns', Kp [pl] s.heap h' → at_ G h' pl (lo vs' n') → IntsAre vs' ns' → ns'.length ≤ ns.length → 0 ≤ d → d < k → Q (.int d td) { s with heap := h', toks := tk' }) :
    wpAny (model prog w) A (call (.ref 325) [.ref pl, .int k tk0]) Q E s := by
  obtain ⟨hpl, hpl0⟩ := hP
  have X := am.X
  have T := am.T
  refine' enterK [(pl, lo vs n)] X T hs ?ho ?hcd (by (try dsimp only); omega) ?hbind ?hloc ?hn ?_ ?hcell ?hco ?hgen ?hk
  case ho => k_is
  case hcd => k_is
  case hbind => exact BindsTo.of_eq rfl
  case hloc => exact locs rfl
  case hn => first | ((repeat' (first | exact List.forall_mem_nil _ | refine' List.forall_mem_cons.mpr ⟨?_, ?_⟩ | k_mem | exact hpl | exact fun h => hpl (List.mem_singleton.mp h) | exact hpl0 | exact fun h => hpl0 (List.mem_singleton.mp h) | refine' And.intro ?_ ?_ | (refine' Or.inr ?_; k_mem) | (refine' Or.inl ?_; k_mem) | refine' List.Mem.tail _ ?_)); done) | simp [hpl, hpl0]
  case hcell => decide
  case hco => exact rfl
  case hgen => exact rfl
  case hk => exact rfl
  k_whole
  intro g L h₁ tk F N X T hg hL hGg
  try dsimp only
  rcases ns with _ | ⟨x, ns⟩
  · (repeat' walk_at "one")
    try dsimp only
    rename Fr _ _ _ _ => F9
    rename News _ _ _ _ => N9
    exact ret _ _ 0 _ _ n _ (kp_of hg F9 N9 (by first | ((repeat' (first | exact List.forall_mem_nil _ | refine' List.forall_mem_cons.mpr ⟨?_, ?_⟩ | k_mem | exact hpl | exact fun h => hpl (List.mem_singleton.mp h) | refine' And.intro ?_ ?_ | (refine' Or.inr ?_; k_mem) | (refine' Or.inl ?_; k_mem) | refine' List.Mem.tail _ ?_)); done) | simp [hpl]) (by walk_at "mem")) (atN hGg N9 (by k_mem)) hi (Nat.le_refl _) (by omega) hk0
  · have hsz' : ns.length + 1 ≤ 1000 := hsz
    (repeat' walk_at "one")
    all_goals (try dsimp only)
    · omega
    · rename Fr _ _ _ _ => F9
      rename News _ _ _ _ => N9
      rename IntsAre (List.set _ _ _) _ => hi9
      generalize hvs9 : List.set vs _ _ = vs9 at N9 hi9
      have hl9 : ((x :: ns).set (Int.toNat 0) (((x :: ns).getD (Int.toNat 0) 0).fdiv k)).length = ns.length + 1 := by simp
      generalize hns9 : (x :: ns).set (Int.toNat 0) _ = ns9 at hi9 hl9
      rcases hi9 with _ | ⟨x9, t9, hi9⟩
      · simp at hl9
      rename_i us9 ms9
      simp only [List.length_cons] at hl9
      refine' kl_popAt (s := ⟨_, _, _, _, _⟩) (k := 0) (p := []) (q := us9) F9 N9 (by decide) (by first | ((repeat' (first | exact List.forall_mem_nil _ | refine' List.forall_mem_cons.mpr ⟨?_, ?_⟩ | k_mem | exact seqIndex? | exact fun h => seqIndex? (List.mem_singleton.mp h) | refine' And.intro ?_ ?_ | (refine' Or.inr ?_; k_mem) | (refine' Or.inl ?_; k_mem) | refine' List.Mem.tail _ ?_)); done) | simp [seqIndex?]) rfl (Upd.head (fun _ h => nomatch h)) ?_ ?_
      · have := hi9.length
        show (List.length (_ :: us9)) ≤ sizeLine
        rw [sizeLine_eq, List.length_cons]; omega
      intro h' F8 N8
      (repeat' walk_at "one")
      try dsimp only
      refine ret _ _ _ _ us9 _ ms9 (kp_of hg F8 N8 (by first | ((repeat' (first | exact List.forall_mem_nil _ | refine' List.forall_mem_cons.mpr ⟨?_, ?_⟩ | k_mem | exact hpl | exact fun h => hpl (List.mem_singleton.mp h) | refine' And.intro ?_ ?_ | (refine' Or.inr ?_; k_mem) | (refine' Or.inl ?_; k_mem) | refine' List.Mem.tail _ ?_)); done) | simp [hpl]) (by walk_at "mem")) (atN hGg N8 (by k_mem)) hi9 (by simp; omega) (fmod_lo _ hk0) (fmod_hi _ hk0)
    · rename Fr _ _ _ _ => F9
      rename News _ _ _ _ => N9
      rename IntsAre (List.set _ _ _) _ => hi9
      refine ret _ _ _ _ _ _ _ (kp_of hg F9 N9 (by first | ((repeat' (first | exact List.forall_mem_nil _ | refine' List.forall_mem_cons.mpr ⟨?_, ?_⟩ | k_mem | exact hpl | exact fun h => hpl (List.mem_singleton.mp h) | refine' And.intro ?_ ?_ | (refine' Or.inr ?_; k_mem) | (refine' Or.inl ?_; k_mem) | refine' List.Mem.tail _ ?_)); done) | simp [hpl]) (by walk_at "mem")) (atN hGg N9 (by k_mem)) hi9 (by walk_at "mem") (fmod_lo _ hk0) (fmod_hi _ hk0)
end
end Mine
end

section
open PySem PySem.W PySem.Calls PySem.Spec PyProof.Rows
namespace Mine

section
variable {prog : Program} {w : World} {A : Around} {s : Shared} {env : Env} {g : Heap} {x : Str} {px pos : Pos} {body : List Stmt} {Q : Flow → Shared → Prop} {E : Value → Shared → Prop}
  {I : Addr} {fp wr : List Addr} {n : Nat} {P : Nat → Value → Prop} {St : Nat → Heap → Prop} {m₀ : Str → Option Value}

/-- a for loop by what holds of the heap between its turns -/
theorem loopRaw (W : Walks prog w A I fp wr n P St) (hx : env.kindOf x = some .local)
    (hp : (env.scope.kind == .class || (env.scope.kind == .module && env.locals != env.globals)) = false) (hLf : env.locals ∉ fp) (hwr : ∀ b ∈ wr, g.get? b = none)
    (M : (Str → Option Value) → Prop) (Inv : Nat → Heap → Prop) (hM : ∀ m v, M m → M (fun y => if y = x then some v else m y))
    (stab : ∀ i h h' m, Fr g env.locals h m → M m → St i h → Inv i h → Kp (env.locals :: wr) h h' → Inv i h')
    (hst : St 0 s.heap) (F : Fr g env.locals s.heap m₀) (hm : M m₀) (h0 : Inv 0 s.heap)
    (step : ∀ i v h m tk, i < n → P i v → St (i + 1) h → Fr g env.locals h (fun y => if y = x then some v else m y) → M m → Inv i h →
      wpAny (model prog w) A (execs body env) (fun f s' => match f with
        | .ret v => Q (.ret v) s'
        | .brk => Q .next s'
        | _ => ∃ h' tk' m', s' = { s with heap := h', toks := tk' } ∧ Fr g env.locals h' m' ∧ M m' ∧ Inv (i + 1) h' ∧ (∀ b ∈ fp, ∀ o, h.get? b = some o → h'.get? b = some o)) (fun _ _ => False) { s with heap := h, toks := tk })
    (done : ∀ h m tk, Fr g env.locals h m → M m → Inv n h → Q .next { s with heap := h, toks := tk }) :
    codeAny (model prog w) A (.forLoop (.Name x px) (.ref I) body [] env) (fun r s' => match r with | .ok f => Q f s' | .error e => cameBackBy (model prog w) A env E e s') s := by
  have hLw : env.locals ∉ wr := fun h => hLf (W.sub _ h)
  refine codeAny_forLoop (fun k s' => ∃ h tk m i, s' = { s with heap := h, toks := tk } ∧ St i h ∧ Fr g env.locals h m ∧ M m ∧ Inv i h ∧ i ≤ n ∧ k = n + 1 - i) ?_ (n + 1) ⟨s.heap, s.toks, m₀, 0, rfl, hst, F, hm, h0, Nat.zero_le _, rfl⟩
  rintro k s' ⟨h, tk, m, i, rfl, hst', F', hm', hI, hi, rfl⟩
  have next : ∀ h₁ : Heap, (∀ b o, b ∉ wr → h.get? b = some o → h₁.get? b = some o) → Fr g env.locals h₁ m := fun h₁ hk₁ =>
    ⟨F'.ns.at' fun o e => hk₁ _ o hLw e, fun b o e => hk₁ b o (fun hb => by rw [hwr b hb] at e; cases e) (F'.keep b o e), F'.above⟩
  by_cases hlt : i < n
  · refine W.item i _ _ _ hlt hst' fun v h₁ tk₁ hP hst₁ hk₁ => ?_
    have F₁ := next h₁ hk₁
    refine wpAny_assign_Name (wpAny_storeName_local hx F₁.ns (fun h₂ hn₂ hs₂ => ?_) hp)
    have F₂ := F₁.set hn₂ hs₂
    have hst₂ : St (i + 1) h₂ := W.frame _ _ _ hst₁ fun b hb o e => (hs₂.2 b fun q => hLf (q ▸ hb)).trans e
    have kk : Kp (env.locals :: wr) h h₂ := fun b o e nb => by
      have n1 : b ≠ env.locals := fun q => nb (by rw [q]; exact .head _)
      have n2 : b ∉ wr := fun q => nb (.tail _ q)
      exact (hs₂.2 b n1).trans (hk₁ b o n2 e)
    refine wpAny_mono (step i v h₂ m _ hlt hP hst₂ F₂ hm' (stab i h h₂ m F' hm' hst' hI kk)) (fun f s₃ h₃ => ?_) (fun _ _ e => e.elim)
    cases f with
    | ret v => exact h₃
    | brk => exact h₃
    | cont =>
      obtain ⟨h₃', tk₃, m₃, rfl, F₃, hm₃, hI₃, hk₃⟩ := h₃
      exact ⟨n + 1 - (i + 1), by omega, h₃', tk₃, m₃, i + 1, rfl, W.frame _ _ _ hst₂ fun b hb o e => hk₃ b hb o e, F₃, hm₃, hI₃, hlt, rfl⟩
    | next =>
      obtain ⟨h₃', tk₃, m₃, rfl, F₃, hm₃, hI₃, hk₃⟩ := h₃
      exact ⟨n + 1 - (i + 1), by omega, h₃', tk₃, m₃, i + 1, rfl, W.frame _ _ _ hst₂ fun b hb o e => hk₃ b hb o e, F₃, hm₃, hI₃, hlt, rfl⟩
  · have hin : i = n := by omega
    subst hin
    refine W.done _ _ _ hst' fun h₁ tk₁ hk₁ => ?_
    have kk : Kp (env.locals :: wr) h h₁ := fun b o e nb => hk₁ b o (fun q => nb (.tail _ q)) e
    exact wpAny_mono (wpAny_pure (a := Flow.next) (done h₁ m _ (next h₁ hk₁) hm' (stab _ h h₁ m F' hm' hst' hI kk))) (fun _ _ y => y) fun _ _ y => y
end

/-- an object that bears no own object, no list, no dict with a glyph or a row -/
def Alien (h : Heap) (b : Addr) : Prop := ∀ o, h.get? b = some o → (∀ C d, o ≠ instObj C d) ∧ (∀ vs n, o ≠ lo vs n) ∧ ∀ es n, o = dictOf es n → (∀ v, getL "glyph" es ≠ some (some v)) ∧ (∀ v, getL "row" es ≠ some (some v))
theorem alien_fr {g h : Heap} {L : Addr} {m : Str → Option Value} (F : Fr g L h m) (h1 : m "glyph" = none) (h2 : m "row" = none) : Alien h L := fun o e =>
  ⟨fun C d q => frNeL F e (by subst q; intro _ _ z; cases z) rfl, fun vs n q => frNeL F e (by subst q; intro _ _ z; cases z) rfl, fun es n q => by subst q; exact ⟨fun v hv => frNe F h1 e hv rfl, fun v hv => frNe F h2 e hv rfl⟩⟩
theorem alien_fields {h : Heap} {b : Addr} {o : Obj} {fs : Array Value} (e : h.get? b = some o) (hd : o.data = .fields fs) : Alien h b := fun o' e' => by
  rw [e] at e'; cases e'
  exact ⟨fun C d q => (by subst q; cases hd), fun vs n q => (by subst q; cases hd), fun es n q => (by subst q; cases hd)⟩

section
variable {w : World} {G h h' : Heap} {S : List Addr}
theorem Infos.kpA {vs : List Value} {gs : List Int} (H : Infos (at_ G h) vs gs) (k : Kp S h h') (hS : ∀ b ∈ S, Alien h b) : Infos (at_ G h') vs gs :=
  H.mono fun a o ho e => at_kp e k fun hm => by
    obtain ⟨h1, h2, h3⟩ := hS a hm o e.1
    rcases ho with ⟨d, rfl⟩ | ⟨es, n, gg, t, rfl, hg⟩
    · exact h1 _ _ rfl
    · exact (h3 es n rfl).1 _ hg
theorem IsBu.kpA {av bu bd : Addr} {gs : List Int} (H : IsBu w (at_ G h) av bu bd gs) (k : Kp S h h') (hS : ∀ b ∈ S, Alien h b) : IsBu w (at_ G h') av bu bd gs := by
  obtain ⟨t1, t2, t3, t4, b2, b3, b4, rl, vs, n, h1, h2, h3, h4, h5⟩ := H
  exact ⟨t1, t2, t3, t4, b2, b3, b4, rl, vs, n, at_kp h1 k (fun hm => (hS _ hm _ h1.1).1 _ _ rfl), at_kp h2 k (fun hm => ((hS _ hm _ h2.1).2.2 _ _ rfl).2 (.ref rl) rfl), at_kp h3 k (fun hm => (hS _ hm _ h3.1).2.1 _ _ rfl), h4.kpA k hS, h5⟩
theorem IsPl.kpA {av pa pd : Addr} {ps : List Int} {e : Int} (H : IsPl w (at_ G h) av pa pd ps e) (k : Kp S h h') (hS : ∀ b ∈ S, Alien h b) : IsPl w (at_ G h') av pa pd ps e := by
  obtain ⟨t1, t2, te, rl, vs, n, h1, h2, h3, h4, h5⟩ := H
  exact ⟨t1, t2, te, rl, vs, n, at_kp h1 k (fun hm => (hS _ hm _ h1.1).1 _ _ rfl), at_kp h2 k (fun hm => ((hS _ hm _ h2.1).2.2 _ _ rfl).2 (.ref rl) rfl), at_kp h3 k (fun hm => (hS _ hm _ h3.1).2.1 _ _ rfl), h4, h5⟩
end

theorem IsBu.fresh {w : World} {G h : Heap} {av st bu bd : Addr} {gs : List Int} (H : IsBu w (at_ G h) av bu bd gs) (n : h.get? st = none) : IsBu w (at_ G h) st bu bd gs := by
  obtain ⟨t1, t2, t3, t4, b2, b3, b4, rl, vs, k, h1, h2, h3, h4, h5⟩ := H
  exact ⟨t1, t2, t3, t4, b2, b3, b4, rl, vs, k, h1, h2, h3, h4, ne_live h3.1 n⟩
theorem alien_cell {h : Heap} {b : Addr} {o : Obj} {v : Option Value} (e : h.get? b = some o) (hd : o.data = .cell v) : Alien h b := fun o' e' => by
  rw [e] at e'; cases e'
  exact ⟨fun C d q => (by subst q; cases hd), fun vs n q => (by subst q; cases hd), fun es n q => (by subst q; cases hd)⟩
/-- what holds between two actions -/
structure Run (w : World) (G h : Heap) (st pa pd bu bd : Addr) (nst : Nat) (z : St) (c : Int) : Prop where
  steps : ∃ c' tc, at_ G h st (lo [.int c' tc] nst) ∧ 0 ≤ c' ∧ c' ≤ c
  pl : IsPl w (at_ G h) st pa pd z.ps z.e
  bu : IsBu w (at_ G h) st bu bd z.gs
theorem Run.kpA {w : World} {G h h' : Heap} {st pa pd bu bd : Addr} {nst : Nat} {z : St} {c : Int} {S : List Addr} (R : Run w G h st pa pd bu bd nst z c) (k : Kp S h h') (hS : ∀ b ∈ S, Alien h b) : Run w G h' st pa pd bu bd nst z c :=
  ⟨by obtain ⟨c', tc, h1, h2⟩ := R.steps; exact ⟨c', tc, at_kp h1 k (fun hm => (hS _ hm _ h1.1).2.1 _ _ rfl), h2⟩, R.pl.kpA k hS, R.bu.kpA k hS⟩

theorem Kp.transNew {S S' : List Addr} {h h' h'' : Heap} (a : Kp S h h') (b : Kp S' h' h'') (hn : ∀ x ∈ S', h.get? x = none) : Kp S h h'' :=
  fun x o e n => b x o (a x o e n) fun hm => by rw [hn x hm] at e; cases e

/-- what no action changes -/
structure Still (w : World) (G h : Heap) (sc bu ll st : Addr) (FO : List (Addr × Obj)) : Prop where
  sc : IsSc w (at_ G h) sc bu ll st
  lks : IsLks w (at_ G h) ll
  fo : ∀ q ∈ FO, at_ G h q.1 q.2

section
variable {w : World} {G h h' : Heap} {S : List Addr}
/-- an object that is no scene, no lookup, no lookup list, none of FO -/
def Moves (h : Heap) (ll : Addr) (FO : List (Addr × Obj)) (b : Addr) : Prop := b ≠ ll ∧ (∀ q ∈ FO, q.1 ≠ b) ∧ ∀ o, h.get? b = some o → (∀ d, o ≠ instObj 65 d) ∧ (∀ es, o ≠ dictOf es 7) ∧ (∀ d, o ≠ instObj 43 d) ∧ ∀ t1 v1 es n, ∀ w : World, o ≠ dictOf (ent w "kind" t1 v1 :: es) n
theorem Still.kp {sc bu ll st : Addr} {FO : List (Addr × Obj)} (H : Still w G h sc bu ll st FO) (k : Kp S h h') (hS : ∀ b ∈ S, Moves h ll FO b) : Still w G h' sc bu ll st FO := by
  refine ⟨?_, ?_, fun q hq => at_kp (H.fo q hq) k fun hm => (hS _ hm).2.1 q hq rfl⟩
  · obtain ⟨sd, t1, t2, t3, t4, t5, t6, t7, ga, la, mm, tm, td, h1, h2⟩ := H.sc
    exact ⟨sd, t1, t2, t3, t4, t5, t6, t7, ga, la, mm, tm, td, at_kp h1 k (fun hm => ((hS _ hm).2.2 _ h1.1).1 _ rfl), at_kp h2 k (fun hm => ((hS _ hm).2.2 _ h2.1).2.1 _ rfl)⟩
  · obtain ⟨vs, n, h1, h2, h3⟩ := H.lks
    refine ⟨vs, n, at_kp h1 k (fun hm => (hS _ hm).1 rfl), h2, fun j hj => ?_⟩
    obtain ⟨v, hv, hl⟩ := h3 j hj
    exact ⟨v, hv, hl.kp k fun b hb o e => ⟨((hS b hb).2.2 o e).2.2.1, fun t1 v1 es n => ((hS b hb).2.2 o e).2.2.2 t1 v1 es n w⟩⟩
end
theorem dict_ne {es es' : List DictEntry} {n n' : Nat} (h : n ≠ n') : dictOf es n ≠ dictOf es' n' := fun q => by
  have := congrArg Obj.data q
  simp only [Data.dict.injEq] at this
  exact h this.2
theorem dict_ne_key {w w' : World} {t t' : Tok} {v v' : Value} {x y : Str} {es es' : List DictEntry} {n n' : Nat} (h : x ≠ y) : dictOf (ent w x t v :: es) n ≠ dictOf (ent w' y t' v' :: es') n' := fun q => by
  have := congrArg Obj.data q
  simp only [Data.dict.injEq] at this
  have q2 := congrArg Array.toList this.1
  simp only [List.cons.injEq, DictEntry.mk.injEq, Value.str.injEq] at q2
  exact h q2.1.2.1.1
theorem inst_ne_dict {C d : Addr} {es : List DictEntry} {n : Nat} : dictOf es n ≠ instObj C d := fun q => by have := congrArg Obj.cls q; simp at this
theorem moves_list {h : Heap} {ll b : Addr} {FO : List (Addr × Obj)} {vs : List Value} {n : Nat} (e : h.get? b = some (lo vs n)) (h1 : b ≠ ll) (h2 : ∀ q ∈ FO, q.1 ≠ b) : Moves h ll FO b := ⟨h1, h2, fun o e' => by
  rw [e] at e'; cases e'
  exact ⟨fun d q => lo_ne_inst q, fun es q => lo_ne_dict q, fun d q => lo_ne_inst q, fun _ _ _ _ _ q => lo_ne_dict q⟩⟩
theorem moves_dict {h : Heap} {ll b : Addr} {FO : List (Addr × Obj)} {w : World} {t : Tok} {v : Value} {es : List DictEntry} {n : Nat} (e : h.get? b = some (dictOf (ent w "row" t v :: es) n)) (hn : n ≠ 7) (h1 : b ≠ ll) (h2 : ∀ q ∈ FO, q.1 ≠ b) : Moves h ll FO b := ⟨h1, h2, fun o e' => by
  rw [e] at e'; cases e'
  exact ⟨fun d q => inst_ne_dict q, fun es q => dict_ne hn q, fun d q => inst_ne_dict q, fun _ _ _ _ _ q => dict_ne_key (by decide) q⟩⟩

abbrev oddNames : List Str := ["glyph", "row", "buffer", "kind"]
/-- an object that is no own object, no list, no dict with a name of ours -/
def Odd (h : Heap) (b : Addr) : Prop := ∀ o, h.get? b = some o → (∀ C d, o ≠ instObj C d) ∧ (∀ vs n, o ≠ lo vs n) ∧ ∀ es n, o = dictOf es n → ∀ x ∈ oddNames, ∀ v, getL x es ≠ some (some v)
theorem Odd.alien {h : Heap} {b : Addr} (H : Odd h b) : Alien h b := fun o e => ⟨(H o e).1, (H o e).2.1, fun es n q => ⟨(H o e).2.2 es n q _ (by simp), (H o e).2.2 es n q _ (by simp)⟩⟩
theorem odd_fr {g h : Heap} {L : Addr} {m : Str → Option Value} (F : Fr g L h m) (hm : ∀ x ∈ oddNames, m x = none) : Odd h L := fun o e =>
  ⟨fun C d q => frNeL F e (by subst q; intro _ _ z; cases z) rfl, fun vs n q => frNeL F e (by subst q; intro _ _ z; cases z) rfl, fun es n q x hx v hv => by subst q; exact frNe F (hm x hx) e hv rfl⟩
theorem odd_data {h : Heap} {b : Addr} {o : Obj} (e : h.get? b = some o) (h1 : o.data ≠ .plain) (h2 : ∀ xs n, o.data ≠ .seq xs n) (h3 : ∀ es n, o.data ≠ .dict es n) : Odd h b := fun o' e' => by
  rw [e] at e'; cases e'
  exact ⟨fun C d q => h1 (by rw [q]), fun vs n q => h2 _ _ (by rw [q]), fun es n q => absurd (by rw [q]) (h3 es.toArray n)⟩
section
variable {w : World} {G h h' : Heap} {S : List Addr}
theorem IsSc.kpO {sc bu ll st : Addr} (H : IsSc w (at_ G h) sc bu ll st) (k : Kp S h h') (hS : ∀ b ∈ S, Odd h b) : IsSc w (at_ G h') sc bu ll st := by
  obtain ⟨sd, t1, t2, t3, t4, t5, t6, t7, ga, la, mm, tm, td, h1, h2⟩ := H
  exact ⟨sd, t1, t2, t3, t4, t5, t6, t7, ga, la, mm, tm, td, at_kp h1 k (fun hm => (hS _ hm _ h1.1).1 _ _ rfl), at_kp h2 k (fun hm => (hS _ hm _ h2.1).2.2 _ _ rfl "buffer" (by simp) (.ref bu) rfl)⟩
theorem IsLks.kpO {ll : Addr} (H : IsLks w (at_ G h) ll) (k : Kp S h h') (hS : ∀ b ∈ S, Odd h b) : IsLks w (at_ G h') ll := by
  obtain ⟨vs, n, h1, h2, h3⟩ := H
  refine ⟨vs, n, at_kp h1 k (fun hm => (hS _ hm _ h1.1).2.1 _ _ rfl), h2, fun j hj => ?_⟩
  obtain ⟨v, hv, a, d, t1, t2, t3, t4, v1, v2, v4, t, e, q1, q2⟩ := h3 j hj
  exact ⟨v, hv, a, d, t1, t2, t3, t4, v1, v2, v4, t, e, at_kp q1 k (fun hm => (hS _ hm _ q1.1).1 _ _ rfl), at_kp q2 k (fun hm => (hS _ hm _ q2.1).2.2 _ _ rfl "kind" (by simp) v1 rfl)⟩
theorem Run.kpO {st pa pd bu bd : Addr} {nst : Nat} {z : St} {c : Int} (R : Run w G h st pa pd bu bd nst z c) (k : Kp S h h') (hS : ∀ b ∈ S, Odd h b) : Run w G h' st pa pd bu bd nst z c := R.kpA k fun b hb => (hS b hb).alien
theorem Still.kpO {sc bu ll st : Addr} {FO : List (Addr × Obj)} (H : Still w G h sc bu ll st FO) (k : Kp S h h') (hS : ∀ b ∈ S, Odd h b) (hF : ∀ q ∈ FO, q.1 ∉ S) : Still w G h' sc bu ll st FO :=
  ⟨H.sc.kpO k hS, H.lks.kpO k hS, fun q hq => at_kp (H.fo q hq) k (hF q hq)⟩
theorem lo_kpO {a : Addr} {vs : List Value} {n : Nat} (H : at_ G h a (lo vs n)) (k : Kp S h h') (hS : ∀ b ∈ S, Odd h b) : at_ G h' a (lo vs n) := at_kp H k fun hm => (hS _ hm _ H.1).2.1 _ _ rfl
end
end Mine
end

section
open PySem PySem.W PySem.Calls PySem.Spec PyProof.Rows
set_option maxHeartbeats 4000000
theorem Mine.fillItNs : PySem.Challenge.rw_pb0189_01 = PySem.Challenge.rw_pb0189_01 ∧ Mine.K = Mine.K := by
  w_top off; k_fill; exact ⟨rfl, rfl⟩
namespace Mine
section
variable {prog : Program} {w : World} {p : Program} {loose : List Str} {mean : ExcName → Option Value} {mg mb : Str → Option Value} {G : Heap} {A : Around} {s : Shared} {Q E : Value → Shared → Prop}
theorem nested_raw (am : Amb w p loose mean mg mb G) (hs : G.StaysIn s.heap) (hroom : A.depth + 16 < recursionLimit) (hh : A.handled = none) {sc bu ll st : Addr} {k : Int} {tk0 : Tok}
    {vs : List Value} {n : Nat} {la2 : Addr}
    (hS : IsSc w (at_ G s.heap) sc bu ll st) (hLL : at_ G s.heap ll (lo vs n)) (hvl : vs.length = 5) (hlv : vs[k.toNat]? = some (.ref la2)) (hk0 : 0 ≤ k) (hk1 : k < 5)
    (ret : ∀ h' tk' fs fd od, Kp [] s.heap h' → h'.get? fs = some (instObj 65 fd) → h'.get? fd = some od → InD w od (.ref la2) → s.heap.get? fs = none → s.heap.get? fd = none → @Ne Nat fs fd → Q (.ref fs) { s with heap := h', toks := tk' }) :
    wpAny (model prog w) A (call (.ref 76) [.ref sc, .int k tk0]) Q E s := by
  obtain ⟨sd, t1, t2, t3, t4, t5, t6, t7, ga, la, mm, tm, td, ⟨hsc, hsc0⟩, ⟨hsd, hsd0⟩⟩ := hS
  obtain ⟨hll, hll0⟩ := hLL
  have X := am.X
  have T := am.T
  refine' enterK [(sd, dictOf [ent w "buffer" t1 (.ref bu), ent w "gdef" t2 (.ref ga), ent w "lookups" t3 (.ref ll), ent w "lookup" t4 (.ref la), ent w "mask" t5 (.int mm tm), ent w "depth" t6 (.int 0 td), ent w "steps" t7 (.ref st)] 7), (sc, instObj 65 sd), (ll, lo vs n)] X T hs ?ho ?hcd (by (try dsimp only); omega) ?hbind ?hloc ?hn ?_ ?hcell ?hco ?hgen ?hk
  case ho => k_is
  case hcd => k_is
  case hbind => exact BindsTo.of_eq rfl
  case hloc => exact locs rfl
  case hn => first | ((repeat' (first | exact List.forall_mem_nil _ | refine' List.forall_mem_cons.mpr ⟨?_, ?_⟩ | k_mem | exact hsc | exact fun h => hsc (List.mem_singleton.mp h) | exact hsd | exact fun h => hsd (List.mem_singleton.mp h) | exact hll | exact fun h => hll (List.mem_singleton.mp h) | exact hsc0 | exact fun h => hsc0 (List.mem_singleton.mp h) | exact hsd0 | exact fun h => hsd0 (List.mem_singleton.mp h) | exact hll0 | exact fun h => hll0 (List.mem_singleton.mp h) | refine' And.intro ?_ ?_ | (refine' Or.inr ?_; k_mem) | (refine' Or.inl ?_; k_mem))); done) | simp [hsc, hsd, hll, hsc0, hsd0, hll0]
  case hcell => decide
  case hco => exact rfl
  case hgen => exact rfl
  case hk => exact rfl
  k_whole
  intro g L h₁ tk0 F N X T hg hL hGg
  repeat' ((fail_if_success (with_reducible show wpAny _ _ (call _ _ _) _ _ _)); walk_at "one")
  all_goals (try dsimp only)
  refine lenL (s := ⟨_, _, _, _, _⟩) (News.isList N (by k_mem)) (by omega) ?_
  try dsimp only
  rw [hvl]
  repeat' ((fail_if_success (with_reducible show wpAny _ _ (subscriptTail _ _ _ _) _ _ _)); walk_at "one")
  all_goals (try dsimp only)
  refine itemL (s := ⟨_, _, _, _, _⟩) (News.isList N (by k_mem)) hk0 (by omega) hlv ?_
  try dsimp only
  repeat' ((fail_if_success (with_reducible show wpAny _ _ (call _ _ _) _ _ _)); walk_at "one")
  all_goals (try dsimp only)
  rename Fr _ _ _ _ => F1
  rename News _ _ _ _ => N1
  refine ⟨X.keeps F1.keep, ?_⟩
  have k0 := kp_of (S := []) hg F1 N1 (by first | ((repeat' (first | exact List.forall_mem_nil _ | refine' List.forall_mem_cons.mpr ⟨?_, ?_⟩ | k_mem | exact hsc | exact fun h => hsc (List.mem_singleton.mp h) | exact hsd | exact fun h => hsd (List.mem_singleton.mp h) | exact hll | exact fun h => hll (List.mem_singleton.mp h) | refine' And.intro ?_ ?_ | (refine' Or.inr ?_; k_mem) | (refine' Or.inl ?_; k_mem))); done) | simp [hsc, hsd, hll]) (by walk_at "mem")
  refine scene_new6 (s := ⟨_, _, _, _, _⟩) am (fun b o q => F1.keep b o (hGg b o q)) (by rw [depth_deeper]; omega) ?_
  intro h2 tk2 x dx r1 r2 r3 r4 r5 r6 r7 st2 tc2 k1 hx hdx hst2 n3 n4 n5 n1 n2 n0
  have F2 := frKp F1 k1 (fun _ h => nomatch h)
  have N2 := nwCons (nwCons (nwKp N1 k1 (fun _ _ h => nomatch h)) hdx (newOf F1 n2).1 (newOf F1 n2).2) hx (newOf F1 n1).1 (newOf F1 n1).2
  have m1 := ne_live (N1.get (a := sd) (by k_mem)) n2
  have m2 := ne_live (N1.get (a := sc) (by k_mem)) n2
  have m3 := ne_live (N1.get (a := ll) (by k_mem)) n2
  clear F1 N1
  try dsimp only
  (repeat' walk_at "one")
  try dsimp only
  rename Fr _ _ _ _ => F9
  rename News _ _ _ _ => N9
  have k9 := kp_of (S := []) hg F9 N9 (by first | ((repeat' (first | exact List.forall_mem_nil _ | refine' List.forall_mem_cons.mpr ⟨?_, ?_⟩ | k_mem | exact hsc | exact fun h => hsc (List.mem_singleton.mp h) | exact hsd | exact fun h => hsd (List.mem_singleton.mp h) | exact hll | exact fun h => hll (List.mem_singleton.mp h) | refine' And.intro ?_ ?_ | (refine' Or.inr ?_; k_mem) | (refine' Or.inl ?_; k_mem))); done) | simp [hsc, hsd, hll]) (by walk_at "mem")
  have a1 := atN hGg N9 (a := x) (o := instObj 65 dx) (by k_mem)
  have a2 := atN hGg N9 (a := dx) (o := _) (List.Mem.tail _ (List.Mem.head _))
  have none_of : ∀ q, h₁.get? q = none → s.heap.get? q = none := fun q e => by
    cases e' : s.heap.get? q with
    | none => rfl
    | some o => have := k0 q o e' (by walk_at "mem"); rw [e] at this; cases this
  exact ret _ _ x dx _ k9 a1.1 a2.1 ⟨_, _, _, _, _, _, _, _, _, _, _, _, _, rfl⟩ (none_of _ n1) (none_of _ n2) n0
end
end Mine
end

section
open PySem PySem.W PySem.Calls PySem.Spec PyProof.Rows
set_option maxHeartbeats 4000000
theorem Mine.fillItEd : PySem.Challenge.rw_pb0189_01 = PySem.Challenge.rw_pb0189_01 ∧ Mine.K = Mine.K := by
  w_top off; k_fill; exact ⟨rfl, rfl⟩
namespace Mine
section
variable {prog : Program} {w : World} {p : Program} {loose : List Str} {mean : ExcName → Option Value} {mg mb : Str → Option Value} {G : Heap} {A : Around} {s : Shared} {Q E : Value → Shared → Prop}
theorem edit_raw (am : Amb w p loose mean mg mb G) (hs : G.StaysIn s.heap) (hroom : A.depth + 16 < recursionLimit) (hh : A.handled = none) {rl : Addr} {vs : List Value} {n : Nat} {gs : List Int} {a k : Int} {ta tk1 : Tok}
    (hP : at_ G s.heap rl (lo vs n)) (hi : Infos (at_ G s.heap) vs gs) (hsz : gs.length < 1000) (ha0 : 0 ≤ a) (ha1 : a < 1000) (hk0 : 0 ≤ k) (hk1 : k < 5)
    (ret : ∀ h' tk' rl' vs' n', Kp [] s.heap h' → at_ G h' rl' (lo vs' n') → s.heap.get? rl' = none → Infos (at_ G h') vs' (editL gs a k) → Q (.ref rl') { s with heap := h', toks := tk' }) :
    wpAny (model prog w) A (call (.ref 330) [.ref rl, .int a ta, .int k tk1]) Q E s := by
  obtain ⟨hrl, hrl0⟩ := hP
  have X := am.X
  have T := am.T
  have hlen := hi.length
  refine' enterK [(rl, lo vs n)] X T hs ?ho ?hcd (by (try dsimp only); omega) ?hbind ?hloc ?hn ?_ ?hcell ?hco ?hgen ?hk
  case ho => k_is
  case hcd => k_is
  case hbind => exact BindsTo.of_eq rfl
  case hloc => exact locs rfl
  case hn => first | ((repeat' (first | exact List.forall_mem_nil _ | refine' List.forall_mem_cons.mpr ⟨?_, ?_⟩ | k_mem | exact hrl | exact fun h => hrl (List.mem_singleton.mp h) | exact hrl0 | exact fun h => hrl0 (List.mem_singleton.mp h) | refine' And.intro ?_ ?_ | (refine' Or.inr ?_; k_mem) | (refine' Or.inl ?_; k_mem) | refine' List.Mem.tail _ ?_)); done) | simp [hrl, hrl0]
  case hcell => decide
  case hco => exact rfl
  case hgen => exact rfl
  case hk => exact rfl
  k_whole
  intro g L h₁ tk0 F N X T hg hL hGg
  repeat' ((fail_if_success (with_reducible show wpAny _ _ (subscriptTail _ _ _ _) _ _ _)); (fail_if_success (with_reducible show wpAny _ _ (binaryOp Operator.Add (Value.ref _) _) _ _ _)); walk_at "one")
  all_goals (try dsimp only)
  · skip
    refine slTo (s := ⟨_, _, _, _, _⟩) (k := a.toNat) (vs := vs) F N (News.isList N (by k_mem)) (by omega) (by rw [sizeLine_eq]; omega) ?_
    intro D1 h1 F1 N1 l1
    k_lt l1
    try dsimp only
    repeat' ((fail_if_success (with_reducible show wpAny _ _ (call _ _ _) _ _ _)); walk_at "one")
    all_goals (try dsimp only)
    rename Fr _ _ _ _ => F2
    rename News _ _ _ _ => N2
    refine ⟨X.keeps F2.keep, ?_⟩
    refine info_new (s := ⟨_, _, _, _, _⟩) am (fun b o q => F2.keep b o (hGg b o q)) (by rw [depth_deeper]; omega) ?_
    intro h3 tk3 x dx es ne k3 hx hdx hgl n1 n2 n0
    have F3 := frKp F2 k3 (fun _ h => nomatch h)
    have N3 := nwCons (nwCons (nwKp N2 k3 (fun _ _ h => nomatch h)) hdx (newOf F2 n2).1 (newOf F2 n2).2) hx (newOf F2 n1).1 (newOf F2 n1).2
    have m1 := ne_live (N2.get (a := D1) (by k_mem)) n2
    have m2 := ne_live (N2.get (a := rl) (by k_mem)) n2
    have m3 := ne_live (N2.get (a := D1) (by k_mem)) n1
    have m4 := ne_live (N2.get (a := rl) (by k_mem)) n1
    clear F2 N2
    try dsimp only
    repeat' ((fail_if_success (with_reducible show wpAny _ _ (binaryOp Operator.Add (Value.ref _) (Value.ref _)) _ _ _)); walk_at "one")
    all_goals (try dsimp only)
    rename Fr _ _ _ _ => F4
    rename News _ _ _ _ => N4
    rename @LT.lt Nat _ _ _ ∧ _ => l4
    refine addL (s := ⟨_, _, _, _, _⟩) (ws := [.ref x]) F4 N4 (News.isList N4 (by k_mem)) (News.isList N4 (List.Mem.head _)) (by rw [sizeLine_eq, List.length_take, List.length_singleton]; omega) ?_
    intro D5 h5 F5 N5 l5
    k_lt l5
    try dsimp only
    repeat' ((fail_if_success (with_reducible show wpAny _ _ (subscriptTail _ _ _ _) _ _ _)); walk_at "one")
    all_goals (try dsimp only)
    refine slFrom (s := ⟨_, _, _, _, _⟩) (k := (a + 1).toNat) (vs := vs) F5 N5 (News.isList N5 (by k_mem)) (by omega) (by rw [sizeLine_eq]; omega) ?_
    intro D6 h6 F6 N6 l6
    k_lt l6
    try dsimp only
    repeat' ((fail_if_success (with_reducible show wpAny _ _ (binaryOp Operator.Add (Value.ref _) (Value.ref _)) _ _ _)); walk_at "one")
    all_goals (try dsimp only)
    refine addL (s := ⟨_, _, _, _, _⟩) F6 N6 (News.isList N6 (List.Mem.tail _ (List.Mem.head _))) (News.isList N6 (List.Mem.head _)) (by rw [sizeLine_eq, List.length_append, List.length_take, List.length_drop, List.length_singleton]; omega) ?_
    intro D7 h7 F7 N7 l7
    k_lt l7
    try dsimp only
    have k7 := kp_of (S := []) hg F7 N7 (by first | ((repeat' (first | exact List.forall_mem_nil _ | refine' List.forall_mem_cons.mpr ⟨?_, ?_⟩ | k_mem | exact hrl | exact fun h => hrl (List.mem_singleton.mp h) | refine' And.intro ?_ ?_ | (refine' Or.inr ?_; k_mem) | (refine' Or.inl ?_; k_mem) | refine' List.Mem.tail _ ?_)); done) | simp [hrl]) (by walk_at "mem")
    have hI := hi.kp k7 (fun _ h => nomatch h)
    refine ret _ _ D7 _ _ k7 (atN hGg N7 (by k_mem)) (newAt hg (N7.fresh (List.Mem.head _)) (by simp only [List.map_cons, List.map_nil, List.mem_singleton]; exact Nat.ne_of_gt (show @LT.lt Nat _ rl D7 by omega))) ?_
    unfold editL
    rw [if_pos (by assumption)]
    exact ((hI.take _).append (.cons ⟨x, dx, es, ne, _, rfl, atN hGg N7 (by k_mem), atN hGg N7 (by k_mem), hgl⟩ .nil)).append (hI.drop _)
  · skip
    refine slTo (s := ⟨_, _, _, _, _⟩) (k := (a + 1).toNat) (vs := vs) F N (News.isList N (by k_mem)) (by omega) (by rw [sizeLine_eq]; omega) ?_
    intro D1 h1 F1 N1 l1
    k_lt l1
    try dsimp only
    refine LCg.ListComp_U (F₀ := by k_asm) (by with_unfolding_all rfl) (by decide) (by rfl) (by decide) (by rfl) ?_
    (repeat' walk_at "one")
    rename IsRange _ _ _ _ _ _ _ _ => R0
    rename Fr _ _ _ _ => F2
    rename News _ _ _ _ => N2
    refine LCg.CompSrc.range (by exact hh) F2 N2 R0 (small_one (by omega) (by omega) (by omega) (by omega)) (rangeSize_nat _ _) (by rw [sizeLine_eq]; omega) ?_
    intro g'
    try dsimp only
    refine infoRest (gs := List.replicate k.toNat 9) (by walk_at "mem") (fun _ _ => trivial) ?_ ?_
    · intro i v I oI C oC D m₂ ys news h tk Qe E' hi' hv hC hx F N hsub hret
      try dsimp only
      (repeat' walk_at "one")
      refine ⟨X.keeps F.keep, ?_⟩
      refine info_new (s := ⟨_, _, _, _, _⟩) am (fun b o q => F.keep b o (hGg b o q)) (by rw [depth_deeper]; omega) ?_
      intro h3 tk3 x dx es ne k3 hx hdx hgl n1 n2 n0
      have e : (List.replicate k.toNat (9 : Int)).getD i 0 = 9 := by rw [List.getD_eq_getElem?_getD, List.getElem?_replicate, if_pos (by omega)]; rfl
      rw [← e] at hgl
      exact hret _ _ x dx es ne _ k3 hx hdx hgl n1 n2 n0
    · intro ys news hsub hinf
      unfold LCg.FinE
      intro D h tk F N off
      try dsimp only
      have hyl := hinf.length
      rw [List.length_replicate] at hyl
      have m1 : (D1, lo (List.take (a + 1).toNat vs) 0) ∈ news := hsub _ (by walk_at "mem")
      have m2 : (rl, lo vs n) ∈ news := hsub _ (by walk_at "mem")
      refine addL (s := ⟨_, _, _, _, _⟩) F N (News.isList N (List.Mem.tail _ m1)) (News.isList N (List.Mem.head _)) (by rw [sizeLine_eq, List.length_take]; omega) ?_
      intro D5 h5 F5 N5 l5
      try dsimp only
      repeat' ((fail_if_success (with_reducible show wpAny _ _ (subscriptTail _ _ _ _) _ _ _)); walk_at "one")
      all_goals (try dsimp only)
      refine slFrom (s := ⟨_, _, _, _, _⟩) (k := (a + 1).toNat) (vs := vs) F5 N5 (News.isList N5 (List.Mem.tail _ (List.Mem.tail _ m2))) (by omega) (by rw [sizeLine_eq]; omega) ?_
      intro D6 h6 F6 N6 l6
      try dsimp only
      repeat' ((fail_if_success (with_reducible show wpAny _ _ (binaryOp Operator.Add (Value.ref _) (Value.ref _)) _ _ _)); walk_at "one")
      all_goals (try dsimp only)
      refine addL (s := ⟨_, _, _, _, _⟩) F6 N6 (News.isList N6 (List.Mem.tail _ (List.Mem.head _))) (News.isList N6 (List.Mem.head _)) (by rw [sizeLine_eq, List.length_append, List.length_take, List.length_drop]; omega) ?_
      intro D7 h7 F7 N7 l7
      try dsimp only
      have k7 := kp_of (S := []) hg F7 N7 (by first | ((repeat' (first | exact List.forall_mem_nil _ | refine' List.forall_mem_cons.mpr ⟨?_, ?_⟩ | k_mem | exact hrl | exact fun h => hrl (List.mem_singleton.mp h) | refine' And.intro ?_ ?_ | (refine' Or.inr ?_; k_mem) | (refine' Or.inl ?_; k_mem) | refine' List.Mem.tail _ ?_)); done) | simp [hrl]) (fun q hq => .inr (by rw [List.mem_singleton.mp hq]; exact .tail _ (.tail _ (.tail _ (.tail _ m2)))))
      have hI := hi.kp k7 (fun _ h => nomatch h)
      refine ret _ _ D7 _ _ k7 (atN hGg N7 (List.Mem.head _)) (newAt hg (N7.fresh (List.Mem.head _)) (by simp only [List.map_cons, List.map_nil, List.mem_singleton]; exact Nat.ne_of_gt (show @LT.lt Nat _ rl D7 from l7 _ (.tail _ (.tail _ (.tail _ m2)))))) ?_
      unfold editL
      rw [if_neg (by assumption), if_pos (by assumption)]
      exact ((hI.take _).append (hinf.mono fun b o _ hb => atN hGg N7 (.tail _ (.tail _ (.tail _ (.tail _ hb)))))).append (hI.drop _)
  · skip
    refine slTo (s := ⟨_, _, _, _, _⟩) (k := (a + 1).toNat) (vs := vs) F N (News.isList N (by k_mem)) (by omega) (by rw [sizeLine_eq]; omega) ?_
    intro D1 h1 F1 N1 l1
    k_lt l1
    try dsimp only
    repeat' ((fail_if_success (with_reducible show wpAny _ _ (subscriptTail _ _ _ _) _ _ _)); walk_at "one")
    all_goals (try dsimp only)
    refine slFrom (s := ⟨_, _, _, _, _⟩) (k := (a + k - 1).toNat) (vs := vs) F1 N1 (News.isList N1 (by k_mem)) (by omega) (by rw [sizeLine_eq]; omega) ?_
    intro D2 h2 F2 N2 l2
    k_lt l2
    try dsimp only
    repeat' ((fail_if_success (with_reducible show wpAny _ _ (binaryOp Operator.Add (Value.ref _) (Value.ref _)) _ _ _)); walk_at "one")
    all_goals (try dsimp only)
    refine addL (s := ⟨_, _, _, _, _⟩) F2 N2 (News.isList N2 (List.Mem.tail _ (List.Mem.head _))) (News.isList N2 (List.Mem.head _)) (by rw [sizeLine_eq, List.length_take, List.length_drop]; omega) ?_
    intro D3 h3 F3 N3 l3
    k_lt l3
    try dsimp only
    have k3 := kp_of (S := []) hg F3 N3 (by first | ((repeat' (first | exact List.forall_mem_nil _ | refine' List.forall_mem_cons.mpr ⟨?_, ?_⟩ | k_mem | exact hrl | exact fun h => hrl (List.mem_singleton.mp h) | refine' And.intro ?_ ?_ | (refine' Or.inr ?_; k_mem) | (refine' Or.inl ?_; k_mem) | refine' List.Mem.tail _ ?_)); done) | simp [hrl]) (by walk_at "mem")
    have hI := hi.kp k3 (fun _ h => nomatch h)
    refine ret _ _ D3 _ _ k3 (atN hGg N3 (by k_mem)) (newAt hg (N3.fresh (List.Mem.head _)) (by simp only [List.map_cons, List.map_nil, List.mem_singleton]; exact Nat.ne_of_gt (show @LT.lt Nat _ rl D3 by omega))) ?_
    unfold editL
    rw [if_neg (by omega), if_neg (by omega)]
    exact (hI.take _).append (hI.drop _)
end
end Mine
end

section
open PySem PySem.W PySem.Calls PySem.Spec PyProof.Rows
set_option maxHeartbeats 4000000
theorem Mine.fillItMv : PySem.Challenge.rw_pb0189_01 = PySem.Challenge.rw_pb0189_01 ∧ Mine.K = Mine.K := by
  w_top off; k_fill; exact ⟨rfl, rfl⟩
namespace Mine
section
variable {prog : Program} {w : World} {p : Program} {loose : List Str} {mean : ExcName → Option Value} {mg mb : Str → Option Value} {G : Heap} {A : Around} {s : Shared} {Q E : Value → Shared → Prop}
theorem move_raw (am : Amb w p loose mean mg mb G) (hs : G.StaysIn s.heap) (hroom : A.depth + 16 < recursionLimit) (hh : A.handled = none) {av pa pd : Addr} {ps : List Int} {i c e : Int} {ti tc : Tok} {x : Int} {oav : Obj}
    (hP : IsPl w (at_ G s.heap) av pa pd ps e) (hav : s.heap.get? av = some oav) (havp : av ≠ pd) (hsz : ps.length < 1000) (hi0 : 0 ≤ i) (hi1 : i < 1000) (hc0 : -900 < c) (hc1 : c < 900) (hx : ps[i.toNat]? = some x) (hxe : x ≤ e) (hex : e < x + 900)
    (ret : ∀ h' tk', Kp [pd] s.heap h' → IsPl w (at_ G h') av pa pd (moveP ps i (moveC ps e i c)) (moveE ps e i c) → Q .none { s with heap := h', toks := tk' }) :
    wpAny (model prog w) A (call (.ref 121) [.ref pa, .int i ti, .int c tc]) Q E s := by
  obtain ⟨t1, t2, te, rl, vs, n, ⟨hpa, hpa0⟩, ⟨hpd, hpd0⟩, ⟨hrl, hrl0⟩, hi, hrav⟩ := hP
  have X := am.X
  have T := am.T
  have hne1 : @Ne Nat pd pa := by intro q; rw [q, hpa] at hpd; simp at hpd
  have hne2 : @Ne Nat pd rl := by intro q; rw [q, hrl] at hpd; simp at hpd
  have hne3 : @Ne Nat pa rl := by intro q; rw [q, hrl] at hpa; simp at hpa
  obtain ⟨tx, hvx⟩ := hi.get _ _ hx
  have hgd : ps.getD i.toNat 0 = x := by rw [List.getD_eq_getElem?_getD, hx]; rfl
  refine' enterK [(pd, dictOf [ent w "row" t1 (.ref rl), ent w "end" t2 (.int e te)] 2), (pa, instObj 93 pd), (rl, lo vs n)] X T hs ?ho ?hcd (by (try dsimp only); omega) ?hbind ?hloc ?hn ?_ ?hcell ?hco ?hgen ?hk
  case ho => k_is
  case hcd => k_is
  case hbind => exact BindsTo.of_eq rfl
  case hloc => exact locs rfl
  case hn => first | ((repeat' (first | exact List.forall_mem_nil _ | refine' List.forall_mem_cons.mpr ⟨?_, ?_⟩ | k_mem | exact hpa | exact fun h => hpa (List.mem_singleton.mp h) | exact hpd | exact fun h => hpd (List.mem_singleton.mp h) | exact hrl | exact fun h => hrl (List.mem_singleton.mp h) | exact hpd0 | exact fun h => hpd0 (List.mem_singleton.mp h) | exact hpa0 | exact fun h => hpa0 (List.mem_singleton.mp h) | exact hrl0 | exact fun h => hrl0 (List.mem_singleton.mp h) | refine' And.intro ?_ ?_ | (refine' Or.inr ?_; k_mem) | (refine' Or.inl ?_; k_mem))); done) | simp [hpa, hpd, hrl, hpd0, hpa0, hrl0]
  case hcell => decide
  case hco => exact rfl
  case hgen => exact rfl
  case hk => exact rfl
  k_whole
  intro g L h₁ tk0 F N X T hg hL hGg
  have hp1 : @LT.lt Nat _ pd L := hL _ _ hpd
  have hp2 : @LT.lt Nat _ pa L := hL _ _ hpa
  have hp3 : @LT.lt Nat _ rl L := hL _ _ hrl
  have hlen := hi.length
  repeat' ((fail_if_success (with_reducible show wpAny _ _ (subscriptTail _ _ _ _) _ _ _)); walk_at "one")
  all_goals (try dsimp only)
  rename News _ _ _ _ => N1
  refine itemL (s := ⟨_, _, _, _, _⟩) (News.isList N1 (by k_mem)) hi0 (by omega) hvx ?_
  try dsimp only
  iterate 4 walk_at "one"
  all_goals (try dsimp only)
  · skip
    repeat' ((fail_if_success (with_reducible show wpAny _ _ (subscriptTail _ _ _ _) _ _ _)); walk_at "one")
    all_goals (try dsimp only)
    refine itemL (s := ⟨_, _, _, _, _⟩) (News.isList N1 (by k_mem)) hi0 (by omega) hvx ?_
    try dsimp only
    repeat' ((fail_if_success (with_reducible show wpAny _ _ (subscriptTail _ _ _ _) _ _ _)); walk_at "one")
    all_goals (try dsimp only)
    rename News _ _ _ _ => N2
    refine itemL (s := ⟨_, _, _, _, _⟩) (News.isList N2 (by k_mem)) hi0 (by omega) hvx ?_
    try dsimp only
    repeat' ((fail_if_success (with_reducible show wpAny _ _ (call _ _ _) _ _ _)); walk_at "one")
    all_goals (try dsimp only)
    · rename _ < x => hlt
      rename Fr _ _ _ _ => F9
      rename News _ _ _ _ => N9
      have k0 := kp_of (S := [pd]) hg F9 N9 (by first | ((repeat' (first | exact List.forall_mem_nil _ | refine' List.forall_mem_cons.mpr ⟨?_, ?_⟩ | k_mem | exact hpa | exact fun h => hpa (List.mem_singleton.mp h) | exact hpd | exact fun h => hpd (List.mem_singleton.mp h) | exact hrl | exact fun h => hrl (List.mem_singleton.mp h) | refine' And.intro ?_ ?_ | (refine' Or.inr ?_; k_mem) | (refine' Or.inl ?_; k_mem))); done) | simp [hpa, hpd, hrl]) (by walk_at "mem")
      refine ⟨X.keeps F9.keep, ?_⟩
      refine shrink_raw (s := ⟨_, _, _, _, _⟩) am (fun b o q => F9.keep b o (hGg b o q)) (by rw [depth_deeper]; omega) (by exact hh) (av := av) (pd := pd) (oav := oav) ⟨_, _, _, _, _, _, atN hGg N9 (by k_mem), atN hGg N9 (by k_mem), atN hGg N9 (by k_mem), hi, hrav⟩ (k0 _ _ hav (by first | ((repeat' (first | exact List.forall_mem_nil _ | refine' List.forall_mem_cons.mpr ⟨?_, ?_⟩ | k_mem | exact havp | exact fun h => havp (List.mem_singleton.mp h) | refine' And.intro ?_ ?_ | (refine' Or.inr ?_; k_mem) | (refine' Or.inl ?_; k_mem))); done) | simp [havp])) hsz hi0 hi1 (by omega) (by omega)  ?_
      intro h' tk' kp P'
      (repeat' walk_at "one")
      try dsimp only
      refine ret _ _ (k0.trans kp) ?_
      rw [(move_lt hgd hlt).1, (move_lt hgd hlt).2, moveP_neg (by assumption)]
      exact P'
    · rename _ < x => hlt
      rename Fr _ _ _ _ => F9
      rename News _ _ _ _ => N9
      have k0 := kp_of (S := [pd]) hg F9 N9 (by first | ((repeat' (first | exact List.forall_mem_nil _ | refine' List.forall_mem_cons.mpr ⟨?_, ?_⟩ | k_mem | exact hpa | exact fun h => hpa (List.mem_singleton.mp h) | exact hpd | exact fun h => hpd (List.mem_singleton.mp h) | exact hrl | exact fun h => hrl (List.mem_singleton.mp h) | refine' And.intro ?_ ?_ | (refine' Or.inr ?_; k_mem) | (refine' Or.inl ?_; k_mem))); done) | simp [hpa, hpd, hrl]) (by walk_at "mem")
      refine ret _ _ k0 ?_
      rw [(move_lt hgd hlt).1, (move_lt hgd hlt).2, moveP_zero (by omega) (by assumption)]
      exact ⟨_, _, _, _, _, _, atN hGg N9 (by k_mem), atN hGg N9 (by k_mem), atN hGg N9 (by k_mem), hi, hrav⟩
  · skip
    repeat' ((fail_if_success (with_reducible show wpAny _ _ (call _ _ _) _ _ _)); walk_at "one")
    all_goals (try dsimp only)
    · rename ¬ _ < x => hlt
      rename Fr _ _ _ _ => F9
      rename News _ _ _ _ => N9
      have k0 := kp_of (S := [pd]) hg F9 N9 (by first | ((repeat' (first | exact List.forall_mem_nil _ | refine' List.forall_mem_cons.mpr ⟨?_, ?_⟩ | k_mem | exact hpa | exact fun h => hpa (List.mem_singleton.mp h) | exact hpd | exact fun h => hpd (List.mem_singleton.mp h) | exact hrl | exact fun h => hrl (List.mem_singleton.mp h) | refine' And.intro ?_ ?_ | (refine' Or.inr ?_; k_mem) | (refine' Or.inl ?_; k_mem))); done) | simp [hpa, hpd, hrl]) (by walk_at "mem")
      refine ⟨X.keeps F9.keep, ?_⟩
      refine grow_raw (s := ⟨_, _, _, _, _⟩) am (fun b o q => F9.keep b o (hGg b o q)) (by rw [depth_deeper]; omega) (by exact hh) (av := av) (pd := pd) (oav := oav) ⟨_, _, _, _, _, _, atN hGg N9 (by k_mem), atN hGg N9 (by k_mem), atN hGg N9 (by k_mem), hi, hrav⟩ (k0 _ _ hav (by first | ((repeat' (first | exact List.forall_mem_nil _ | refine' List.forall_mem_cons.mpr ⟨?_, ?_⟩ | k_mem | exact havp | exact fun h => havp (List.mem_singleton.mp h) | refine' And.intro ?_ ?_ | (refine' Or.inr ?_; k_mem) | (refine' Or.inl ?_; k_mem))); done) | simp [havp])) hsz hi0 hi1 (by omega) (by omega) hx ?_
      intro h' tk' kp P'
      (repeat' walk_at "one")
      try dsimp only
      refine ret _ _ (k0.trans kp) ?_
      rw [(move_ge hgd hlt).1, (move_ge hgd hlt).2, moveP_pos (by assumption)]
      exact P'
    · rename ¬ _ < x => hlt
      rename Fr _ _ _ _ => F9
      rename News _ _ _ _ => N9
      have k0 := kp_of (S := [pd]) hg F9 N9 (by first | ((repeat' (first | exact List.forall_mem_nil _ | refine' List.forall_mem_cons.mpr ⟨?_, ?_⟩ | k_mem | exact hpa | exact fun h => hpa (List.mem_singleton.mp h) | exact hpd | exact fun h => hpd (List.mem_singleton.mp h) | exact hrl | exact fun h => hrl (List.mem_singleton.mp h) | refine' And.intro ?_ ?_ | (refine' Or.inr ?_; k_mem) | (refine' Or.inl ?_; k_mem))); done) | simp [hpa, hpd, hrl]) (by walk_at "mem")
      refine ⟨X.keeps F9.keep, ?_⟩
      refine shrink_raw (s := ⟨_, _, _, _, _⟩) am (fun b o q => F9.keep b o (hGg b o q)) (by rw [depth_deeper]; omega) (by exact hh) (av := av) (pd := pd) (oav := oav) ⟨_, _, _, _, _, _, atN hGg N9 (by k_mem), atN hGg N9 (by k_mem), atN hGg N9 (by k_mem), hi, hrav⟩ (k0 _ _ hav (by first | ((repeat' (first | exact List.forall_mem_nil _ | refine' List.forall_mem_cons.mpr ⟨?_, ?_⟩ | k_mem | exact havp | exact fun h => havp (List.mem_singleton.mp h) | refine' And.intro ?_ ?_ | (refine' Or.inr ?_; k_mem) | (refine' Or.inl ?_; k_mem))); done) | simp [havp])) hsz hi0 hi1 (by omega) (by omega)  ?_
      intro h' tk' kp P'
      (repeat' walk_at "one")
      try dsimp only
      refine ret _ _ (k0.trans kp) ?_
      rw [(move_ge hgd hlt).1, (move_ge hgd hlt).2, moveP_neg (by assumption)]
      exact P'
    · rename ¬ _ < x => hlt
      rename Fr _ _ _ _ => F9
      rename News _ _ _ _ => N9
      have k0 := kp_of (S := [pd]) hg F9 N9 (by first | ((repeat' (first | exact List.forall_mem_nil _ | refine' List.forall_mem_cons.mpr ⟨?_, ?_⟩ | k_mem | exact hpa | exact fun h => hpa (List.mem_singleton.mp h) | exact hpd | exact fun h => hpd (List.mem_singleton.mp h) | exact hrl | exact fun h => hrl (List.mem_singleton.mp h) | refine' And.intro ?_ ?_ | (refine' Or.inr ?_; k_mem) | (refine' Or.inl ?_; k_mem))); done) | simp [hpa, hpd, hrl]) (by walk_at "mem")
      refine ret _ _ k0 ?_
      rw [(move_ge hgd hlt).1, (move_ge hgd hlt).2, moveP_zero (by assumption) (by assumption)]
      exact ⟨_, _, _, _, _, _, atN hGg N9 (by k_mem), atN hGg N9 (by k_mem), atN hGg N9 (by k_mem), hi, hrav⟩
end
end Mine
end

section
open PySem PySem.W PySem.Calls PySem.Spec PyProof.Rows
set_option maxHeartbeats 4000000
theorem Mine.fillItIn : PySem.Challenge.rw_pb0189_01 = PySem.Challenge.rw_pb0189_01 ∧ Mine.K = Mine.K := by
  w_top off; k_fill; exact ⟨rfl, rfl⟩
namespace Mine
section
variable {prog : Program} {w : World} {p : Program} {loose : List Str} {mean : ExcName → Option Value} {mg mb : Str → Option Value} {G : Heap} {A : Around} {s : Shared} {Q E : Value → Shared → Prop}
theorem inner_raw (am : Amb w p loose mean mg mb G) (hs : G.StaysIn s.heap) (hroom : A.depth + 20 < recursionLimit) (hh : A.handled = none) {sc bu ll st : Addr} {k : Int} {tk0 : Tok}
    {vs : List Value} {n : Nat} {la2 : Addr}
    (hS : IsSc w (at_ G s.heap) sc bu ll st) (hLL : at_ G s.heap ll (lo vs n)) (hvl : vs.length = 5) (hlv : vs[k.toNat]? = some (.ref la2)) (hk0 : 0 ≤ k) (hk1 : k < 5)
    (ret : ∀ h' tk' fs fd od, Kp [] s.heap h' → h'.get? fs = some (instObj 65 fd) → h'.get? fd = some od → InD w od (.ref la2) → s.heap.get? fs = none → s.heap.get? fd = none → @Ne Nat fs fd → Q (.ref fs) { s with heap := h', toks := tk' }) :
    wpAny (model prog w) A (call (.ref 104) [.ref sc, .int k tk0]) Q E s := by
  have hS0 := hS
  obtain ⟨sd, t1, t2, t3, t4, t5, t6, t7, ga, la, mm, tm, td, ⟨hsc, hsc0⟩, ⟨hsd, hsd0⟩⟩ := hS
  have X := am.X
  have T := am.T
  refine' enterK [(sd, dictOf [ent w "buffer" t1 (.ref bu), ent w "gdef" t2 (.ref ga), ent w "lookups" t3 (.ref ll), ent w "lookup" t4 (.ref la), ent w "mask" t5 (.int mm tm), ent w "depth" t6 (.int 0 td), ent w "steps" t7 (.ref st)] 7), (sc, instObj 65 sd)] X T hs ?ho ?hcd (by (try dsimp only); omega) ?hbind ?hloc ?hn ?_ ?hcell ?hco ?hgen ?hk
  case ho => k_is
  case hcd => k_is
  case hbind => exact BindsTo.of_eq rfl
  case hloc => exact locs rfl
  case hn => first | ((repeat' (first | exact List.forall_mem_nil _ | refine' List.forall_mem_cons.mpr ⟨?_, ?_⟩ | k_mem | exact hsc | exact fun h => hsc (List.mem_singleton.mp h) | exact hsd | exact fun h => hsd (List.mem_singleton.mp h) | exact hsc0 | exact fun h => hsc0 (List.mem_singleton.mp h) | exact hsd0 | exact fun h => hsd0 (List.mem_singleton.mp h) | refine' And.intro ?_ ?_ | (refine' Or.inr ?_; k_mem) | (refine' Or.inl ?_; k_mem))); done) | simp [hsc, hsd, hsc0, hsd0]
  case hcell => decide
  case hco => exact rfl
  case hgen => exact rfl
  case hk => exact rfl
  k_whole
  intro g L h₁ tk0 F N X T hg hL hGg
  repeat' ((fail_if_success (with_reducible show wpAny _ _ (call _ _ _) _ _ _)); walk_at "one")
  all_goals (try dsimp only)
  have k0 := kp_of (S := []) hg F N (by first | ((repeat' (first | exact List.forall_mem_nil _ | refine' List.forall_mem_cons.mpr ⟨?_, ?_⟩ | k_mem | exact hsc | exact fun h => hsc (List.mem_singleton.mp h) | exact hsd | exact fun h => hsd (List.mem_singleton.mp h) | refine' And.intro ?_ ?_ | (refine' Or.inr ?_; k_mem) | (refine' Or.inl ?_; k_mem))); done) | simp [hsc, hsd]) (by walk_at "mem")
  refine ⟨X.keeps F.keep, ?_⟩
  refine nested_raw (s := ⟨_, _, _, _, _⟩) am (fun b o q => F.keep b o (hGg b o q)) (by rw [depth_deeper]; omega) (by exact hh) (bu := bu) (ll := ll) (st := st) (hS0.kp0 k0) (at_kp hLL k0 (by walk_at "mem")) hvl hlv hk0 hk1 ?_
  · intro h' tk' fs fd od k1 e1 e2 e3 e4 e5 e6
    (repeat' walk_at "one")
    try dsimp only
    have none_of : ∀ q, h₁.get? q = none → s.heap.get? q = none := fun q e => by
      cases e' : s.heap.get? q with
      | none => rfl
      | some o => have := k0 q o e' (by walk_at "mem"); rw [e] at this; cases this
    exact ret _ _ fs fd od (k0.trans k1) e1 e2 e3 (none_of _ e4) (none_of _ e5) e6
end
end Mine
end

section
open PySem PySem.W PySem.Calls PySem.Spec PyProof.Rows
namespace Mine
section
variable {prog : Program} {w : World} {A : Around} {g : Heap} {L : Addr} {m : Str → Option Value} {env : Env} {elt : Expr} {x : Str} {scope : Scope} {cl : List (Str × Addr)} {s : Shared} {S : List (Addr × Obj) → Prop} {P : Nat → Value → Prop} {Fin : List Value → List (Addr × Obj) → Prop} {news : List (Addr × Obj)}

/-- a comprehension whose element is an int and changes nothing -/
theorem intsRest {n : Nat} {ks : List Int} (hn : ks.length = n) (hS : S news)
    (turn : ∀ i v I oI C oC D m₂ ys h tk (Qe E' : Value → Shared → Prop), i < n → P i v → LCg.NsObj oC m₂ → m₂ x = some v → Fr g L h m → News g L h ((I, oI) :: (C, oC) :: (D, LCg.lst ys) :: news) →
      (∀ t tk', Qe (.int (ks.getD i 0) t) { s with heap := h, toks := tk' }) →
      wpAny (model prog w) A (eval elt (compEnvC scope cl C env)) Qe E' { s with heap := h, toks := tk })
    (fin : ∀ ys, IntsAre ys ks → Fin ys news) :
    LCg.CompRest prog w A g L m env elt x scope cl s S P Fin n 0 [] news := by
  have key : ∀ (j i : Nat) (ys : List Value), i + j = n → IntsAre ys (ks.take i) → LCg.CompRest prog w A g L m env elt x scope cl s S P Fin j i ys news := by
    intro j
    induction j with
    | zero =>
      intro i ys hi hy
      have e : i = ks.length := by omega
      subst e
      rw [List.take_length] at hy
      exact LCg.CompRest.zero (fin ys hy)
    | succ j ih =>
      intro i ys hi hy
      refine LCg.CompRest.succ ?_
      intro v I oI C oC D m₂ h tk E' hv hC hx F N off ne
      refine turn i v I oI C oC D m₂ ys h tk _ E' (by omega) hv hC hx F N ?_
      intro t tk'
      refine LCg.CompEnd.intro F N news (fun q hq => hq) off hS ?_
      have hlt : i < ks.length := by omega
      have e1 : ks.take (i + 1) = ks.take i ++ [ks.getD i 0] := by
        rw [List.take_add_one, List.getD_eq_getElem?_getD]
        simp [hlt]
      refine ih (i + 1) _ (by omega) ?_
      rw [e1]
      exact hy.append (.cons _ _ .nil)
  exact key n 0 [] (by omega) (by rw [List.take_zero]; exact .nil)
end

section
variable {prog : Program} {w : World} {A : Around} {g : Heap} {L : Addr} {m : Str → Option Value} {env : Env} {elt : Expr} {x : Str} {scope : Scope} {cl : List (Str × Addr)} {s : Shared} {S : List (Addr × Obj) → Prop} {P : Nat → Value → Prop} {Fin : List Value → List (Addr × Obj) → Prop} {news₀ : List (Addr × Obj)}

/-- a comprehension whose element makes one object of class C: the ledger grows by it -/
theorem objRest {n : Nat} (C : Addr) (mk : Nat → Obj → Prop) (hS : ∀ news, (∀ q ∈ news₀, q ∈ news) → S news)
    (turn : ∀ i v I oI C' oC D m₂ ys news h tk (Qe E' : Value → Shared → Prop), i < n → P i v → LCg.NsObj oC m₂ → m₂ x = some v → Fr g L h m → News g L h ((I, oI) :: (C', oC) :: (D, LCg.lst ys) :: news) → (∀ q ∈ news₀, q ∈ news) →
      (∀ h' tk' a d od, Fr g L h' m → Kp [L] h h' → h'.get? a = some (instObj C d) → h'.get? d = some od → mk i od → h.get? a = none → h.get? d = none → @Ne Nat a d → Qe (.ref a) { s with heap := h', toks := tk' }) →
      wpAny (model prog w) A (eval elt (compEnvC scope cl C' env)) Qe E' { s with heap := h, toks := tk })
    (fin : ∀ ys news, (∀ q ∈ news₀, q ∈ news) → ys.length = n → (∀ i, i < n → ∃ a d od, ys[i]? = some (.ref a) ∧ (a, instObj C d) ∈ news ∧ (d, od) ∈ news ∧ mk i od) → Fin ys news) :
    LCg.CompRest prog w A g L m env elt x scope cl s S P Fin n 0 [] news₀ := by
  have key : ∀ (j i : Nat) (ys : List Value) (news : List (Addr × Obj)), i + j = n → (∀ q ∈ news₀, q ∈ news) → ys.length = i → (∀ k, k < i → ∃ a d od, ys[k]? = some (.ref a) ∧ (a, instObj C d) ∈ news ∧ (d, od) ∈ news ∧ mk k od) → LCg.CompRest prog w A g L m env elt x scope cl s S P Fin j i ys news := by
    intro j
    induction j with
    | zero =>
      intro i ys news hi hsub hl hy
      have e : i = n := by omega
      subst e
      exact LCg.CompRest.zero (fin ys news hsub hl hy)
    | succ j ih =>
      intro i ys news hi hsub hl hy
      refine LCg.CompRest.succ ?_
      intro v I oI C' oC D m₂ h tk E' hv hC hx F N off ne
      refine turn i v I oI C' oC D m₂ ys news h tk _ E' (by omega) hv hC hx F N hsub ?_
      intro h' tk' a d od F' k1 ha hd hmk n1 n2 n3
      have N' := nwKp N k1 (fun q hq => by rw [List.mem_singleton]; exact (N q hq).2.1)
      have oa := newOf F n1
      have o2 := newOf F n2
      have Nw : News g L h' ((I, oI) :: (C', oC) :: (D, LCg.lst ys) :: (a, instObj C d) :: (d, od) :: news) := by
        intro q hq
        simp only [List.mem_cons] at hq
        rcases hq with rfl | rfl | rfl | rfl | rfl | hq
        · exact N' _ (by simp)
        · exact N' _ (by simp)
        · exact N' _ (by simp)
        · exact ⟨ha, oa.1, oa.2⟩
        · exact ⟨hd, o2.1, o2.2⟩
        · exact N' _ (by simp [hq])
      have live : ∀ (b : Addr) o, (b, o) ∈ ((I, oI) :: (C', oC) :: (D, LCg.lst ys) :: news) → a ≠ b ∧ d ≠ b := fun b o hb => by
        have e := (N _ hb).1
        dsimp only at e
        exact ⟨fun q => (by rw [← q, n1] at e; cases e), fun q => (by rw [← q, n2] at e; cases e)⟩
      refine LCg.CompEnd.intro F' Nw ((a, instObj C d) :: (d, od) :: news) (fun q hq => hq) ?_ (hS _ fun q hq => .tail _ (.tail _ (hsub q hq))) ?_
      · have l1 := live I oI (by simp)
        have l2 := live C' oC (by simp)
        have l3 := live D (LCg.lst ys) (by simp)
        exact ⟨⟨l1.1, l2.1, l3.1⟩, ⟨l1.2, l2.2, l3.2⟩, off⟩
      · refine ih (i + 1) _ _ (by omega) (fun q hq => .tail _ (.tail _ (hsub q hq))) (by simp [hl]) ?_
        intro k hk
        by_cases hk2 : k < i
        · obtain ⟨a', d', od', e1, e2, e3, e4⟩ := hy k hk2
          exact ⟨a', d', od', by rw [List.getElem?_append_left (by omega)]; exact e1, .tail _ (.tail _ e2), .tail _ (.tail _ e3), e4⟩
        · have ek : k = i := by omega
          subst ek
          exact ⟨a, d, od, by rw [← hl, List.getElem?_append_right (Nat.le_refl _)]; simp, .head _, .tail _ (.head _), hmk⟩
  exact key n 0 [] news₀ (by omega) (fun _ h => h) rfl (fun k hk => absurd hk (Nat.not_lt_zero _))
end

/-- what the later heap does not hold, the elder one did not -/
theorem noneBack {g h h' : Heap} {L a : Addr} {m : Str → Option Value} {S : List Addr} (F' : Fr g L h' m) (k : Kp S h h') (hS : ∀ b ∈ S, b = L ∨ ∃ o, h'.get? b = some o) (n : h'.get? a = none) : h.get? a = none := by
  cases e : h.get? a with
  | none => rfl
  | some o =>
    by_cases hm : a ∈ S
    · rcases hS a hm with q | ⟨o', q⟩
      · exact absurd q (newOf F' n).1
      · rw [n] at q; cases q
    · have := k a o e hm; rw [n] at this; cases this
theorem withAllBut {g h : Heap} {L : Addr} {m : Str → Option Value} {lit : List (Addr × Obj)} (F : Fr g L h m) (N : News g L h lit) :
    ∃ tail, News g L h (lit ++ tail) ∧ (∀ a ∈ lit.map (·.1), ∀ q ∈ tail, q.1 ≠ a) ∧ ∀ h' m', Fr g L h' m' → News g L h' tail → Kp (L :: lit.map (·.1)) h h' := by
  refine ⟨(allOf g L h).filter (fun q => decide (q.1 ∉ lit.map (·.1))), fun q hq => (List.mem_append.mp hq).elim (N q) (fun h => allOf_news q (List.mem_filter.mp h).1), fun a ha q hq e => ?_, fun h' m' F' N' b o e nb => ?_⟩
  · have := (List.mem_filter.mp hq).2
    simp only [decide_eq_true_eq] at this
    exact this (e ▸ ha)
  · have n1 : b ≠ L := fun q => nb (by rw [q]; exact .head _)
    have n2 : b ∉ lit.map (·.1) := fun q => nb (.tail _ q)
    cases q : g.get? b with
    | some o' =>
      have e1 := F.keep b o' q
      rw [e] at e1; cases e1
      exact F'.keep b _ q
    | none => exact N'.get (List.mem_filter.mpr ⟨mem_allOf e n1 q, by simpa using n2⟩)

section
variable {M : Model} {A : Around} {E : Value → Shared → Prop} {s : Shared} {cn : Str} {cs : Scope} {L a c P : Addr} {ccd : Value} {cl : List (Str × Addr)} {h₀ : Heap} {m mg mb : Str → Option Value} {news : List (Addr × Obj)} {gg : Obj → List (Addr × Obj)}
  {p : Program} {loose : List Str} {mean : ExcName → Option Value} {name qual : Str} {params : Arguments} {body : List Stmt} {scope : Scope} {ps : Array Value} {pos : Pos} {firstLine : Nat} {clos : List (Str × Addr)}
/-- a def made in a body: anew, or by the code that a call before has laid -/
theorem nestAny {Q : Value → Shared → Prop} (F : Fr h₀ L s.heap m) (N : News h₀ L s.heap news) (T : Top p loose mean mg mb h₀) (C : CodeHd h₀ c P) (hcd : ccd = .ref c) (U : UpdF P (tabObj ps) news gg)
    (hps : ps = #[] ∨ ∃ c' oc vs t, ps = #[rawInt pos.line, rawInt pos.col, .ref c'] ∧ h₀.get? c' = some oc ∧ oc.data = .fields vs ∧ vs[1]? = some (.str qual t))
    (hcl : closureFor scope (envX cn cs L a ccd cl) = pure clos)
    (h : ∀ f c' oc vs t ctv doc h' tk, Fr h₀ L h' m → News h₀ L h' ((f, fnMade name qual params body scope clos doc ((mg "__name__").getD .none) c' ctv) :: gg (tabObj #[rawInt pos.line, rawInt pos.col, .ref c'])) →
      h'.get? c' = some oc → (h₀.get? c' = none ∨ h₀.get? c' = some oc) → oc.data = .fields vs → vs[1]? = some (.str qual t) → (∀ q ∈ news, q.1 < f) → Q (.ref f) { s with heap := h', toks := tk }) :
    wpAny M A (makeFunction name qual params (.stmts body) scope (envX cn cs L a ccd cl) [] [] [] pos firstLine) Q E s := by
  rcases hps with rfl | ⟨c', oc, vs, t, rfl, hc, hd, hv⟩
  · refine nest_K F N T C hcd U True.intro rfl hcl fun f c' oc vs t ctv doc h' tk F' N' d1 d2 l1 l2 => ?_
    refine h f c' oc vs t ctv doc h' tk F' (News.sub N' fun q hq => ?_) (N'.get (.tail _ (.head _))) (.inl (N'.fresh (.tail _ (.head _)))) d1 d2 (fun q hq => Nat.lt_trans (l1 q hq) l2)
    rcases List.mem_cons.mp hq with rfl | hq
    · exact .head _
    · exact .tail _ (.tail _ hq)
  · obtain ⟨pre, post, rfl, hgr, _, _⟩ := U.split
    refine nestHit_K (c' := c') F N T C hcd (List.mem_append_right _ (.head _)) (by simp [TriplesOk, rawInt]) (by simp [codeAmong, rawInt]) hcl fun f ctv doc h' tk F' N' l1 => ?_
    refine h f c' oc vs t ctv doc h' tk F' ?_ (F'.keep _ _ hc) (.inr hc) hd hv l1
    rw [hgr]; exact N'
end
end Mine
end

section
open PySem PySem.W PySem.Calls PySem.Spec PyProof.Rows
set_option maxHeartbeats 4000000
theorem Mine.fillItAc : PySem.Challenge.rw_pb0189_01 = PySem.Challenge.rw_pb0189_01 ∧ Mine.K = Mine.K := by
  w_top off; k_fill; exact ⟨rfl, rfl⟩
namespace Mine
section
variable {prog : Program} {w : World} {p : Program} {loose : List Str} {mean : ExcName → Option Value} {mg mb : Str → Option Value} {G : Heap} {A : Around} {s : Shared} {Q E : Value → Shared → Prop}
theorem action_raw (am : Amb w p loose mean mg mb G) (hs : G.StaysIn s.heap) (hroom : A.depth + 60 < recursionLimit) (hh : A.handled = none) {pa pd sc bu bd ll st ac fa : Addr} {z : St} {i k c : Int} {tc : Tok} {nst : Nat} {FO : List (Addr × Obj)} {fod : Option Addr} {fd : FuncData} {fsl : Array (Option Value)} {ti tk1 : Tok}
    (hS : IsSc w (at_ G s.heap) sc bu ll st) (hLk : IsLks w (at_ G s.heap) ll) (hst : at_ G s.heap st (lo [.int c tc] nst)) (hP : IsPl w (at_ G s.heap) st pa pd z.ps z.e) (hB : IsBu w (at_ G s.heap) st bu bd z.gs)
    (hac : at_ G s.heap ac { cls := .type "tuple", data := .seq [Value.int i ti, Value.int k tk1].toArray }) (hFO : ∀ q ∈ FO, at_ G s.heap q.1 q.2 ∧ q.1 ≠ st ∧ q.1 ≠ pd ∧ q.1 ≠ bd) (hfa : (fa, (⟨.type "function", fod, .func fd, fsl⟩ : Obj)) ∈ FO) (hllst : ll ≠ st)
    (hap : ApplyOk prog w G fa bu bd st FO)
    (hc0 : 0 ≤ c) (hc1 : c < 200) (hi0 : 0 ≤ i) (hi1 : i < 100) (hk0 : 0 ≤ k) (hk1 : k < 5) (hps : z.ps.length ≤ 50) (hgs : z.gs.length ≤ 500) (hin : ∀ x ∈ z.ps, 0 ≤ x ∧ x ≤ z.e) (he : z.e < 300)
    (ret : ∀ h' tk' c' tc', Kp [st, bd, pd] s.heap h' → at_ G h' st (lo [.int c' tc'] nst) → 0 ≤ c' → c' ≤ c + 1 → IsPl w (at_ G h') st pa pd (actS z i k).ps (actS z i k).e → IsBu w (at_ G h') st bu bd (actS z i k).gs → Q (.bool true) { s with heap := h', toks := tk' }) :
    wpAny (model prog w) A (call (.ref 128) [.ref sc, .ref pa, .ref ac, .ref fa]) Q E s := by
  rcases A with ⟨ahd, adp, afr, agd, aun⟩
  dsimp only at hh hroom
  subst hh
  have hS0 := hS
  have hP0 := hP
  have hB0 := hB
  obtain ⟨t1, t2, te, rl, vs, n, ⟨hpa, hpa0⟩, ⟨hpd, hpd0⟩, ⟨hrl, hrl0⟩, hi, hrlst⟩ := hP
  obtain ⟨b1, b2, b3, b4, v2, v3, v4, rw_, ws, nb, ⟨hbu, hbu0⟩, ⟨hbd, hbd0⟩, ⟨hrw, hrw0⟩, hinf, hrwst⟩ := hB
  obtain ⟨sd, s1, s2, s3, s4, s5, s6, s7, ga, la, mm, tm, td, ⟨hsc, hsc0⟩, ⟨hsd, hsd0⟩⟩ := hS
  obtain ⟨hst1, hst0⟩ := hst
  obtain ⟨hac1, hac0⟩ := hac
  have q1 : @Ne Nat ac st := neCls hac1 hst1 (by walk_at "mem")
  have q2 : @Ne Nat pa st := neCls hpa hst1 (by walk_at "mem")
  have q3 : @Ne Nat pd st := neCls hpd hst1 (by walk_at "mem")
  have q4 : @Ne Nat sc st := neCls hsc hst1 (by walk_at "mem")
  have q5 : @Ne Nat sd st := neCls hsd hst1 (by walk_at "mem")
  have q6 : @Ne Nat bu st := neCls hbu hst1 (by walk_at "mem")
  have q7 : @Ne Nat bd st := neCls hbd hst1 (by walk_at "mem")
  have r1 : @Ne Nat pa bd := neCls hpa hbd (by walk_at "mem")
  have r2 : @Ne Nat pd bd := ne_objs hpd hbd (by walk_at "mem")
  have r3 : @Ne Nat rl bd := neCls hrl hbd (by walk_at "mem")
  have r4 : @Ne Nat sc bd := neCls hsc hbd (by walk_at "mem")
  have r5 : @Ne Nat sd bd := ne_objs hsd hbd (by walk_at "mem")
  have r6 : @Ne Nat bu bd := neCls hbu hbd (by walk_at "mem")
  have r7 : @Ne Nat st bd := neCls hst1 hbd (by walk_at "mem")
  have X := am.X
  have T := am.T
  have hlen := hi.length
  have hwl := hinf.length
  refine' enterK [(ac, ({ cls := .type "tuple", data := .seq [Value.int i ti, Value.int k tk1].toArray } : Obj)), (pa, instObj 93 pd), (pd, dictOf [ent w "row" t1 (.ref rl), ent w "end" t2 (.int z.e te)] 2), (rl, lo vs n), (sc, instObj 65 sd), (sd, dictOf [ent w "buffer" s1 (.ref bu), ent w "gdef" s2 (.ref ga), ent w "lookups" s3 (.ref ll), ent w "lookup" s4 (.ref la), ent w "mask" s5 (.int mm tm), ent w "depth" s6 (.int 0 td), ent w "steps" s7 (.ref st)] 7), (bu, instObj 219 bd), (bd, dictOf [ent w "row" b1 (.ref rw_), ent w "is_backward" b2 v2, ent w "last_lig" b3 v3, ent w "last_split" b4 v4] 4), (rw_, lo ws nb), (st, lo [.int c tc] nst)] X T hs ?ho ?hcd (by (try dsimp only); omega) ?hbind ?hloc ?hn ?_ ?hcell ?hco ?hgen ?hk
  case ho => k_is
  case hcd => k_is
  case hbind => exact BindsTo.of_eq rfl
  case hloc => exact locs rfl
  case hn => first | ((repeat' (first | exact List.forall_mem_nil _ | refine' List.forall_mem_cons.mpr ⟨?_, ?_⟩ | k_mem | exact hpa | exact fun h => hpa (List.mem_singleton.mp h) | exact hpa0 | exact fun h => hpa0 (List.mem_singleton.mp h) | exact hpd | exact fun h => hpd (List.mem_singleton.mp h) | exact hpd0 | exact fun h => hpd0 (List.mem_singleton.mp h) | exact hrl | exact fun h => hrl (List.mem_singleton.mp h) | exact hrl0 | exact fun h => hrl0 (List.mem_singleton.mp h) | exact hbu | exact fun h => hbu (List.mem_singleton.mp h) | exact hbu0 | exact fun h => hbu0 (List.mem_singleton.mp h) | exact hbd | exact fun h => hbd (List.mem_singleton.mp h) | exact hbd0 | exact fun h => hbd0 (List.mem_singleton.mp h) | exact hrw | exact fun h => hrw (List.mem_singleton.mp h) | exact hrw0 | exact fun h => hrw0 (List.mem_singleton.mp h) | exact hsc | exact fun h => hsc (List.mem_singleton.mp h) | exact hsc0 | exact fun h => hsc0 (List.mem_singleton.mp h) | exact hsd | exact fun h => hsd (List.mem_singleton.mp h) | exact hsd0 | exact fun h => hsd0 (List.mem_singleton.mp h) | exact hst1 | exact fun h => hst1 (List.mem_singleton.mp h) | exact hst0 | exact fun h => hst0 (List.mem_singleton.mp h) | exact hac1 | exact fun h => hac1 (List.mem_singleton.mp h) | exact hac0 | exact fun h => hac0 (List.mem_singleton.mp h) | refine' And.intro ?_ ?_ | (refine' Or.inr ?_; k_mem) | (refine' Or.inl ?_; k_mem) | refine' List.Mem.tail _ ?_)); done) | simp [hpa, hpa0, hpd, hpd0, hrl, hrl0, hbu, hbu0, hbd, hbd0, hrw, hrw0, hsc, hsc0, hsd, hsd0, hst1, hst0, hac1, hac0]
  case hcell => decide
  case hco => exact rfl
  case hgen => exact rfl
  case hk => exact rfl
  k_whole
  intro g L h₁ tk0 F N X T hg hL hGg
  repeat' ((fail_if_success (with_reducible show wpAny _ _ (call _ _ _) _ _ _)); walk_at "one")
  all_goals (try dsimp only)
  refine lenL (s := ⟨_, _, _, _, _⟩) (News.isList (by assumption) (by k_mem)) (by omega) ?_
  rw [hlen]
  try dsimp only
  repeat' ((fail_if_success (with_reducible show wpAny _ _ (call _ _ _) _ _ _)); (fail_if_success (with_reducible show wpAny _ _ (subscriptTail _ _ _ _) _ _ _)); walk_at "one")
  all_goals (try dsimp only)
  · rename News _ _ _ _ => N9
    have hno : ¬ (i < z.ps.length ∧ z.ps.getD i.toNat 0 < z.gs.length) := by omega
    rename Fr _ _ _ _ => F9
    have k9 := kp_of (S := []) hg F9 N9 (by first | ((repeat' (first | exact List.forall_mem_nil _ | refine' List.forall_mem_cons.mpr ⟨?_, ?_⟩ | k_mem | exact hpa | exact fun h => hpa (List.mem_singleton.mp h) | exact hpd | exact fun h => hpd (List.mem_singleton.mp h) | exact hrl | exact fun h => hrl (List.mem_singleton.mp h) | exact hbu | exact fun h => hbu (List.mem_singleton.mp h) | exact hbd | exact fun h => hbd (List.mem_singleton.mp h) | exact hrw | exact fun h => hrw (List.mem_singleton.mp h) | exact hsc | exact fun h => hsc (List.mem_singleton.mp h) | exact hsd | exact fun h => hsd (List.mem_singleton.mp h) | exact hst1 | exact fun h => hst1 (List.mem_singleton.mp h) | exact hac1 | exact fun h => hac1 (List.mem_singleton.mp h) | refine' And.intro ?_ ?_ | (refine' Or.inr ?_; k_mem) | (refine' Or.inl ?_; k_mem) | refine' List.Mem.tail _ ?_)); done) | simp [hpa, hpd, hrl, hbu, hbd, hrw, hsc, hsd, hst1, hac1]) (by walk_at "mem")
    refine ret _ _ c tc (k9.mono (by walk_at "mem")) (atN hGg N9 (by k_mem)) hc0 (by omega) ?_ ?_
    · rw [actS_no hno]; exact ⟨_, _, _, _, _, _, atN hGg N9 (by k_mem), atN hGg N9 (by k_mem), atN hGg N9 (by k_mem), hi, hrlst⟩
    · rw [actS_no hno]; exact ⟨_, _, _, _, _, _, _, _, _, _, atN hGg N9 (by k_mem), atN hGg N9 (by k_mem), atN hGg N9 (by k_mem), hinf.kp k9 (fun _ h => nomatch h), hrwst⟩
  have hilt : i.toNat < z.ps.length := by omega
  obtain ⟨x, hx⟩ : ∃ x, z.ps[i.toNat]? = some x := ⟨_, List.getElem?_eq_getElem hilt⟩
  obtain ⟨tx, hvx⟩ := hi.get _ _ hx
  have hgd : z.ps.getD i.toNat 0 = x := by rw [List.getD_eq_getElem?_getD, hx]; rfl
  have hxin := hin x (List.mem_of_getElem? hx)
  refine itemL (s := ⟨_, _, _, _, _⟩) (News.isList (by assumption) (by k_mem)) hi0 (by omega) hvx ?_
  try dsimp only
  repeat' ((fail_if_success (with_reducible show wpAny _ _ (call _ _ _) _ _ _)); walk_at "one")
  all_goals (try dsimp only)
  refine lenL (s := ⟨_, _, _, _, _⟩) (News.isList (by assumption) (by k_mem)) (by omega) ?_
  rw [hwl]
  try dsimp only
  repeat' ((fail_if_success (with_reducible show wpAny _ _ (call _ _ _) _ _ _)); (fail_if_success (with_reducible show wpAny _ _ (subscriptTail _ _ _ _) _ _ _)); walk_at "one")
  all_goals (try dsimp only)
  · have hno : ¬ (i < z.ps.length ∧ z.ps.getD i.toNat 0 < z.gs.length) := by rw [hgd]; omega
    rename Fr _ _ _ _ => F9
    rename News _ _ _ _ => N9
    have k9 := kp_of (S := []) hg F9 N9 (by first | ((repeat' (first | exact List.forall_mem_nil _ | refine' List.forall_mem_cons.mpr ⟨?_, ?_⟩ | k_mem | exact hpa | exact fun h => hpa (List.mem_singleton.mp h) | exact hpd | exact fun h => hpd (List.mem_singleton.mp h) | exact hrl | exact fun h => hrl (List.mem_singleton.mp h) | exact hbu | exact fun h => hbu (List.mem_singleton.mp h) | exact hbd | exact fun h => hbd (List.mem_singleton.mp h) | exact hrw | exact fun h => hrw (List.mem_singleton.mp h) | exact hsc | exact fun h => hsc (List.mem_singleton.mp h) | exact hsd | exact fun h => hsd (List.mem_singleton.mp h) | exact hst1 | exact fun h => hst1 (List.mem_singleton.mp h) | exact hac1 | exact fun h => hac1 (List.mem_singleton.mp h) | refine' And.intro ?_ ?_ | (refine' Or.inr ?_; k_mem) | (refine' Or.inl ?_; k_mem) | refine' List.Mem.tail _ ?_)); done) | simp [hpa, hpd, hrl, hbu, hbd, hrw, hsc, hsd, hst1, hac1]) (by walk_at "mem")
    refine ret _ _ c tc (k9.mono (by walk_at "mem")) (atN hGg N9 (by k_mem)) hc0 (by omega) ?_ ?_
    · rw [actS_no hno]; exact ⟨_, _, _, _, _, _, atN hGg N9 (by k_mem), atN hGg N9 (by k_mem), atN hGg N9 (by k_mem), hi, hrlst⟩
    · rw [actS_no hno]; exact ⟨_, _, _, _, _, _, _, _, _, _, atN hGg N9 (by k_mem), atN hGg N9 (by k_mem), atN hGg N9 (by k_mem), hinf.kp k9 (fun _ h => nomatch h), hrwst⟩
  rename Fr _ _ _ _ => F2
  rename News _ _ _ _ => N2
  have k2 := kp_of (S := []) hg F2 N2 (by first | ((repeat' (first | exact List.forall_mem_nil _ | refine' List.forall_mem_cons.mpr ⟨?_, ?_⟩ | k_mem | exact hpa | exact fun h => hpa (List.mem_singleton.mp h) | exact hpd | exact fun h => hpd (List.mem_singleton.mp h) | exact hrl | exact fun h => hrl (List.mem_singleton.mp h) | exact hbu | exact fun h => hbu (List.mem_singleton.mp h) | exact hbd | exact fun h => hbd (List.mem_singleton.mp h) | exact hrw | exact fun h => hrw (List.mem_singleton.mp h) | exact hsc | exact fun h => hsc (List.mem_singleton.mp h) | exact hsd | exact fun h => hsd (List.mem_singleton.mp h) | exact hst1 | exact fun h => hst1 (List.mem_singleton.mp h) | exact hac1 | exact fun h => hac1 (List.mem_singleton.mp h) | refine' And.intro ?_ ?_ | (refine' Or.inr ?_; k_mem) | (refine' Or.inl ?_; k_mem) | refine' List.Mem.tail _ ?_)); done) | simp [hpa, hpd, hrl, hbu, hbd, hrw, hsc, hsd, hst1, hac1]) (by walk_at "mem")
  refine ⟨X.keeps F2.keep, ?_⟩
  obtain ⟨lvs, nl, hll, hvl, hlvs⟩ := hLk
  obtain ⟨lv, hlv, hlk⟩ := hlvs k.toNat (by omega)
  have hlk0 := hlk
  obtain ⟨la2, ld2, _, _, _, _, _, _, _, _, rfl, _, _⟩ := hlk
  refine inner_raw (s := ⟨_, _, _, _, _⟩) am (fun b o q => F2.keep b o (hGg b o q)) (by rw [depth_deeper]; (try dsimp only); omega) rfl (bu := bu) (ll := ll) (st := st) (hS0.kp0 k2) (at_kp hll k2 (by walk_at "mem")) hvl hlv hk0 hk1 ?_
  intro h3 tk3 fs fd_ od k3 hfs hfd hod n1 n2 n0
  have F3 := frKp F2 k3 (fun _ h => nomatch h)
  have N3 := nwCons (nwCons (nwKp N2 k3 (fun _ _ h => nomatch h)) hfd (newOf F2 n2).1 (newOf F2 n2).2) hfs (newOf F2 n1).1 (newOf F2 n1).2
  have q8 : @Ne Nat fd_ st := Ne.symm (ne_live (N2.get (a := st) (by k_mem)) n2)
  have q9 : @Ne Nat fs st := Ne.symm (ne_live (N2.get (a := st) (by k_mem)) n1)
  have q10 : @Ne Nat fd_ bd := Ne.symm (ne_live (N2.get (a := bd) (by k_mem)) n2)
  have q11 : @Ne Nat fs bd := Ne.symm (ne_live (N2.get (a := bd) (by k_mem)) n1)
  clear F2 N2
  try dsimp only
  repeat' ((fail_if_success (with_reducible show wpAny _ _ (call _ _ _) _ _ _)); (fail_if_success (with_reducible show wpAny _ _ (subscriptTail _ _ _ _) _ _ _)); (fail_if_success (with_reducible show wpAny _ _ (callWith _ (Value.ref _) _ _ _) _ _ _)); walk_at "one")
  all_goals (try dsimp only)
  refine itemL (s := ⟨_, _, _, _, _⟩) (vs := [.int c tc]) (News.isList (by assumption) (by k_mem)) (by decide) (by decide) rfl ?_
  try dsimp only
  repeat' ((fail_if_success (with_reducible show wpAny _ _ (call _ _ _) _ _ _)); (fail_if_success (with_reducible show wpAny _ _ (subscriptTail _ _ _ _) _ _ _)); (fail_if_success (with_reducible show wpAny _ _ (callWith _ (Value.ref _) _ _ _) _ _ _)); walk_at "one")
  all_goals (try dsimp only)
  refine itemL (s := ⟨_, _, _, _, _⟩) (vs := [.int c tc]) (News.isList (by assumption) (by k_mem)) (by decide) (by decide) rfl ?_
  try dsimp only
  repeat' ((fail_if_success (with_reducible show wpAny _ _ (call _ _ _) _ _ _)); (fail_if_success (with_reducible show wpAny _ _ (subscriptTail _ _ _ _) _ _ _)); (fail_if_success (with_reducible show wpAny _ _ (callWith _ (Value.ref _) _ _ _) _ _ _)); (fail_if_success (with_reducible show wpAny _ _ (setItem _ _ _) _ _ _)); walk_at "one")
  all_goals (try dsimp only)
  rename Fr _ _ _ _ => F4
  rename News _ _ _ _ => N4
  refine ksa_set (s := ⟨_, _, _, _, _⟩) (vs := [.int c tc]) (ns := [c]) (n := nst) (news := [(st, lo [.int c tc] nst), (fs, instObj 65 fd_), (fd_, od), (ac, ({ cls := .type "tuple", data := .seq [Value.int i ti, Value.int k tk1].toArray } : Obj)), (pa, instObj 93 pd), (pd, dictOf [ent w "row" t1 (.ref rl), ent w "end" t2 (.int z.e te)] 2), (rl, lo vs n), (sc, instObj 65 sd), (sd, dictOf [ent w "buffer" s1 (.ref bu), ent w "gdef" s2 (.ref ga), ent w "lookups" s3 (.ref ll), ent w "lookup" s4 (.ref la), ent w "mask" s5 (.int mm tm), ent w "depth" s6 (.int 0 td), ent w "steps" s7 (.ref st)] 7), (bu, instObj 219 bd), (bd, dictOf [ent w "row" b1 (.ref rw_), ent w "is_backward" b2 v2, ent w "last_lig" b3 v3, ent w "last_split" b4 v4] 4), (rw_, lo ws nb)])
    F4 (News.sub N4 (by walk_at "mem")) (Upd.head (by first | ((repeat' (first | exact List.forall_mem_nil _ | refine' List.forall_mem_cons.mpr ⟨?_, ?_⟩ | k_mem | exact q1 | exact fun h => q1 (List.mem_singleton.mp h) | exact q2 | exact fun h => q2 (List.mem_singleton.mp h) | exact q3 | exact fun h => q3 (List.mem_singleton.mp h) | exact q4 | exact fun h => q4 (List.mem_singleton.mp h) | exact q5 | exact fun h => q5 (List.mem_singleton.mp h) | exact q6 | exact fun h => q6 (List.mem_singleton.mp h) | exact q7 | exact fun h => q7 (List.mem_singleton.mp h) | exact q8 | exact fun h => q8 (List.mem_singleton.mp h) | exact q9 | exact fun h => q9 (List.mem_singleton.mp h) | exact hrlst | exact fun h => hrlst (List.mem_singleton.mp h) | exact hrwst | exact fun h => hrwst (List.mem_singleton.mp h) | refine' And.intro ?_ ?_ | (refine' Or.inr ?_; k_mem) | (refine' Or.inl ?_; k_mem) | refine' List.Mem.tail _ ?_)); done) | simp [q1, q2, q3, q4, q5, q6, q7, q8, q9, hrlst, hrwst])) (.cons _ _ .nil) (by decide) (by walk_at "mem") (by decide) ?_
  intro h5 F5 N5 _ _ _
  generalize hst5 : ([Value.int c tc].set (Int.toNat 0) _) = stv at N5
  obtain ⟨tst, hstv⟩ : ∃ t, stv = [.int (c + 1) t] := ⟨_, hst5.symm⟩
  clear hst5
  subst hstv
  clear F4 N4
  try dsimp only
  repeat' ((fail_if_success (with_reducible show wpAny _ _ (call _ _ _) _ _ _)); (fail_if_success (with_reducible show wpAny _ _ (subscriptTail _ _ _ _) _ _ _)); (fail_if_success (with_reducible show wpAny _ _ (callWith _ (Value.ref _) _ _ _) _ _ _)); walk_at "one")
  all_goals (try dsimp only)
  rename News _ _ _ _ => N6
  refine lenL (s := ⟨_, _, _, _, _⟩) (vs := ws) (News.isList N6 (by k_mem)) (by omega) ?_
  rw [hwl]
  try dsimp only
  repeat' ((fail_if_success (with_reducible show wpAny _ _ (call _ _ _) _ _ _)); (fail_if_success (with_reducible show wpAny _ _ (subscriptTail _ _ _ _) _ _ _)); (fail_if_success (with_reducible show wpAny _ _ (callWith _ (Value.ref _) _ _ _) _ _ _)); walk_at "one")
  all_goals (try dsimp only)
  rename Fr _ _ _ _ => F6
  rename News _ _ _ _ => N6
  have k6 := kp_of (S := [st]) hg F6 N6 (by first | ((repeat' (first | exact List.forall_mem_nil _ | refine' List.forall_mem_cons.mpr ⟨?_, ?_⟩ | k_mem | exact hpa | exact fun h => hpa (List.mem_singleton.mp h) | exact hpd | exact fun h => hpd (List.mem_singleton.mp h) | exact hrl | exact fun h => hrl (List.mem_singleton.mp h) | exact hbu | exact fun h => hbu (List.mem_singleton.mp h) | exact hbd | exact fun h => hbd (List.mem_singleton.mp h) | exact hrw | exact fun h => hrw (List.mem_singleton.mp h) | exact hsc | exact fun h => hsc (List.mem_singleton.mp h) | exact hsd | exact fun h => hsd (List.mem_singleton.mp h) | exact hst1 | exact fun h => hst1 (List.mem_singleton.mp h) | exact hac1 | exact fun h => hac1 (List.mem_singleton.mp h) | refine' And.intro ?_ ?_ | (refine' Or.inr ?_; k_mem) | (refine' Or.inl ?_; k_mem) | refine' List.Mem.tail _ ?_)); done) | simp [hpa, hpd, hrl, hbu, hbd, hrw, hsc, hsd, hst1, hac1]) (by walk_at "mem")
  have kf := fun q hq => at_kp (hFO q hq).1 k6 (by first | ((repeat' (first | exact List.forall_mem_nil _ | refine' List.forall_mem_cons.mpr ⟨?_, ?_⟩ | k_mem | exact (hFO q hq).2.1 | exact fun h => (hFO q hq).2.1 (List.mem_singleton.mp h) | refine' And.intro ?_ ?_ | (refine' Or.inr ?_; k_mem) | (refine' Or.inl ?_; k_mem) | refine' List.Mem.tail _ ?_)); done) | simp [(hFO q hq).2.1])
  refine callWith_F (q := fa) ⟨_, fod, fd, fsl, (kf _ hfa).1⟩ ?_
  repeat' ((fail_if_success (with_reducible show wpAny _ _ (call _ _ _) _ _ _)); (fail_if_success (with_reducible show wpAny _ _ (subscriptTail _ _ _ _) _ _ _)); walk_at "one")
  all_goals (try dsimp only)
  rename News _ _ _ _ => N7
  refine itemL (s := ⟨_, _, _, _, _⟩) (News.isList N7 (by k_mem)) hi0 (by omega) hvx ?_
  try dsimp only
  (repeat' walk_at "one")
  rename Fr _ _ _ _ => F8
  rename News _ _ _ _ => N8
  have k8 := kp_of (S := [st]) hg F8 N8 (by first | ((repeat' (first | exact List.forall_mem_nil _ | refine' List.forall_mem_cons.mpr ⟨?_, ?_⟩ | k_mem | exact hpa | exact fun h => hpa (List.mem_singleton.mp h) | exact hpd | exact fun h => hpd (List.mem_singleton.mp h) | exact hrl | exact fun h => hrl (List.mem_singleton.mp h) | exact hbu | exact fun h => hbu (List.mem_singleton.mp h) | exact hbd | exact fun h => hbd (List.mem_singleton.mp h) | exact hrw | exact fun h => hrw (List.mem_singleton.mp h) | exact hsc | exact fun h => hsc (List.mem_singleton.mp h) | exact hsd | exact fun h => hsd (List.mem_singleton.mp h) | exact hst1 | exact fun h => hst1 (List.mem_singleton.mp h) | exact hac1 | exact fun h => hac1 (List.mem_singleton.mp h) | refine' And.intro ?_ ?_ | (refine' Or.inr ?_; k_mem) | (refine' Or.inl ?_; k_mem) | refine' List.Mem.tail _ ?_)); done) | simp [hpa, hpd, hrl, hbu, hbd, hrw, hsc, hsd, hst1, hac1]) (by walk_at "mem")
  have kf8 := fun q hq => at_kp (hFO q hq).1 k8 (by first | ((repeat' (first | exact List.forall_mem_nil _ | refine' List.forall_mem_cons.mpr ⟨?_, ?_⟩ | k_mem | exact (hFO q hq).2.1 | exact fun h => (hFO q hq).2.1 (List.mem_singleton.mp h) | refine' And.intro ?_ ?_ | (refine' Or.inr ?_; k_mem) | (refine' Or.inl ?_; k_mem) | refine' List.Mem.tail _ ?_)); done) | simp [(hFO q hq).2.1])
  have hkk : ((k.toNat : Nat) : Int) = k := Int.toNat_of_nonneg hk0
  rw [hkk] at hlk0
  refine ⟨⟨_, fod, fd, fsl, (kf8 _ hfa).1⟩, ?_⟩
  refine hap _ ⟨_, _, _, _, _⟩ _ _ z.gs fs x k _ (by rw [depth_deeper]; (try dsimp only); omega) rfl (fun b o q => F8.keep b o (hGg b o q)) kf8 ?_ ?_ ⟨_, N8.get (a := st) (by k_mem)⟩ (by omega) hxin.1 (by omega) hk0 hk1 ?_
  · exact ⟨_, _, _, _, _, _, _, _, _, _, atN hGg N8 (by k_mem), atN hGg N8 (by k_mem), atN hGg N8 (by k_mem), hinf.kp k8 (noInfo_list hst1), hrwst⟩
  · obtain ⟨u1, u2, u3, u4, u5, u6, u7, v1, v2, v3, v5, v6, v7, rfl⟩ := hod
    exact ⟨fd_, u1, u2, u3, u4, u5, u6, u7, v1, v2, v3, .ref la2, v5, v6, v7, atN hGg N8 (by k_mem), atN hGg N8 (by k_mem), hlk0.kp k8 (fun b hb o e => by
      have eb : b = st := by simpa using hb
      rw [eb, hst1] at e; cases e
      exact ⟨fun d q => lo_ne_inst q, fun t1 v1 es n q => lo_ne_dict q⟩)⟩
  intro h9 tk9 t9 k9 hB9
  have hbdN := (N8 (bd, dictOf [ent w "row" b1 (.ref rw_), ent w "is_backward" b2 v2, ent w "last_lig" b3 v3, ent w "last_split" b4 v4] 4) (by k_mem)).2
  have F9 := frKp F8 k9 (fun b hb => by rw [List.mem_singleton.mp hb]; exact hbdN)
  have hB9' := hB9
  obtain ⟨c1, c2, c3, c4, y2, y3, y4, rw2, ws2, nb2, ⟨hbu9, hbu90⟩, ⟨hbd9, hbd90⟩, ⟨hrw9, hrw90⟩, hinf9, hrw9st⟩ := hB9
  have hwl9 := hinf9.length
  have N9 := nwCons (nwKp (News.sub (news' := [(pa, instObj 93 pd), (pd, dictOf [ent w "row" t1 (.ref rl), ent w "end" t2 (.int z.e te)] 2), (rl, lo vs n), (sc, instObj 65 sd), (sd, dictOf [ent w "buffer" s1 (.ref bu), ent w "gdef" s2 (.ref ga), ent w "lookups" s3 (.ref ll), ent w "lookup" s4 (.ref la), ent w "mask" s5 (.int mm tm), ent w "depth" s6 (.int 0 td), ent w "steps" s7 (.ref st)] 7), (bu, instObj 219 bd), (st, lo [.int (c + 1) tst] nst)]) N8 (by walk_at "mem")) k9 (by first | ((repeat' (first | exact List.forall_mem_nil _ | refine' List.forall_mem_cons.mpr ⟨?_, ?_⟩ | k_mem | exact r1 | exact fun h => r1 (List.mem_singleton.mp h) | exact r2 | exact fun h => r2 (List.mem_singleton.mp h) | exact r3 | exact fun h => r3 (List.mem_singleton.mp h) | exact r4 | exact fun h => r4 (List.mem_singleton.mp h) | exact r5 | exact fun h => r5 (List.mem_singleton.mp h) | exact r6 | exact fun h => r6 (List.mem_singleton.mp h) | exact r7 | exact fun h => r7 (List.mem_singleton.mp h) | refine' And.intro ?_ ?_ | (refine' Or.inr ?_; k_mem) | (refine' Or.inl ?_; k_mem) | refine' List.Mem.tail _ ?_)); done) | simp [r1, r2, r3, r4, r5, r6, r7])) hbd9 hbdN.1 hbdN.2
  have hBL := fun h' (k : Kp [L] h9 h') => hB9'.kpL F9 (by rfl) (by rfl) k
  obtain ⟨tail, Nt, hall⟩ := withAll F9 N9
  simp only [List.cons_append, List.nil_append] at Nt
  clear F8 N8 N9
  try dsimp only
  repeat' ((fail_if_success (with_reducible show wpAny _ _ (call _ _ _) _ _ _)); walk_at "one")
  all_goals (try dsimp only)
  refine lenL (s := ⟨_, _, _, _, _⟩) (vs := ws2) (isList_of hrw9) (by have := (editL_len (gs := z.gs) (a := x) hxin.1 (by omega) hk0 hk1); omega) ?_
  rw [hwl9]
  try dsimp only
  have hcb := editL_len (gs := z.gs) (a := x) hxin.1 (by omega) hk0 hk1
  obtain ⟨ag, a0, a1⟩ := actS_go (z := z) (i := i) (k := k) hgd (by omega) (by omega)
  iterate 4 walk_at "one"
  generalize hcg : ((editL z.gs x k).length : Int) - (z.gs.length : Int) = cg at hcb a0 a1 ⊢
  repeat' ((fail_if_success (with_reducible show wpAny _ _ (call _ _ _) _ _ _)); walk_at "one")
  all_goals (try dsimp only)
  · rename News _ _ _ _ => N10
    refine lenL (s := ⟨_, _, _, _, _⟩) (vs := vs) (News.isList N10 (by k_mem)) (by omega) ?_
    rw [hlen]
    try dsimp only
    repeat' ((fail_if_success (with_reducible show wpAny _ _ (call _ _ _) _ _ _)); walk_at "one")
    all_goals (try dsimp only)
    rotate_left
    · exfalso; omega
    rename Fr _ _ _ _ => F10
    rename News _ _ _ _ => N10
    have k10 := hall _ _ F10 (News.sub N10 (fun q hq => by (first | ((repeat' (first | exact List.forall_mem_nil _ | refine' List.forall_mem_cons.mpr ⟨?_, ?_⟩ | k_mem | exact hq | exact fun h => hq (List.mem_singleton.mp h) | refine' And.intro ?_ ?_ | (refine' Or.inr ?_; k_mem) | (refine' Or.inl ?_; k_mem) | refine' List.Mem.tail _ ?_)); done) | simp [hq])))
    have hB10 := hBL _ k10
    have k12 := ((k8.mono (S' := [st, bd, pd]) (by walk_at "mem")).trans (k9.mono (S' := [st, bd, pd]) (by walk_at "mem"))).transL k10 hL
    refine ⟨X.keeps F10.keep, ?_⟩
    refine move_raw (s := ⟨_, _, _, _, _⟩) am (fun b o q => F10.keep b o (hGg b o q)) (by rw [depth_deeper]; (try dsimp only); omega) rfl (av := st) (pd := pd) (x := x) ⟨_, _, _, _, _, _, atN hGg N10 (by k_mem), atN hGg N10 (by k_mem), atN hGg N10 (by k_mem), hi, hrlst⟩ (N10.get (a := st) (by k_mem)) (Ne.symm q3) (by omega) hi0 (by omega) (by omega) (by omega) hx hxin.2 (by omega) ?_
    intro h11 tk11 k11 P11
    have hst10 := atN hGg N10 (a := st) (o := lo [.int (c + 1) tst] nst) (by k_mem)
    have hpd10 := N10.get (a := pd) (o := dictOf [ent w "row" t1 (.ref rl), ent w "end" t2 (.int z.e te)] 2) (by k_mem)
    (repeat' walk_at "one")
    try dsimp only
    refine ret _ _ (c + 1) tst (k12.trans (k11.mono (by walk_at "mem"))) (at_kp hst10 k11 (by simpa using Ne.symm q3)) (by omega) (by omega) ?_ ?_
    · rw [(a1 (by omega)).1, (a1 (by omega)).2, ← hcg]; exact P11
    · rw [ag]; exact hB10.kpPd k11 hpd10
  · skip
    rename Fr _ _ _ _ => F10
    rename News _ _ _ _ => N10
    have k10 := hall _ _ F10 (News.sub N10 (fun q hq => by (first | ((repeat' (first | exact List.forall_mem_nil _ | refine' List.forall_mem_cons.mpr ⟨?_, ?_⟩ | k_mem | exact hq | exact fun h => hq (List.mem_singleton.mp h) | refine' And.intro ?_ ?_ | (refine' Or.inr ?_; k_mem) | (refine' Or.inl ?_; k_mem) | refine' List.Mem.tail _ ?_)); done) | simp [hq])))
    have hB10 := hBL _ k10
    have k12 := ((k8.mono (S' := [st, bd, pd]) (by walk_at "mem")).trans (k9.mono (S' := [st, bd, pd]) (by walk_at "mem"))).transL k10 hL
    refine ⟨X.keeps F10.keep, ?_⟩
    refine move_raw (s := ⟨_, _, _, _, _⟩) am (fun b o q => F10.keep b o (hGg b o q)) (by rw [depth_deeper]; (try dsimp only); omega) rfl (av := st) (pd := pd) (x := x) ⟨_, _, _, _, _, _, atN hGg N10 (by k_mem), atN hGg N10 (by k_mem), atN hGg N10 (by k_mem), hi, hrlst⟩ (N10.get (a := st) (by k_mem)) (Ne.symm q3) (by omega) hi0 (by omega) (by omega) (by omega) hx hxin.2 (by omega) ?_
    intro h11 tk11 k11 P11
    have hst10 := atN hGg N10 (a := st) (o := lo [.int (c + 1) tst] nst) (by k_mem)
    have hpd10 := N10.get (a := pd) (o := dictOf [ent w "row" t1 (.ref rl), ent w "end" t2 (.int z.e te)] 2) (by k_mem)
    (repeat' walk_at "one")
    try dsimp only
    refine ret _ _ (c + 1) tst (k12.trans (k11.mono (by walk_at "mem"))) (at_kp hst10 k11 (by simpa using Ne.symm q3)) (by omega) (by omega) ?_ ?_
    · rw [(a1 (by omega)).1, (a1 (by omega)).2, ← hcg]; exact P11
    · rw [ag]; exact hB10.kpPd k11 hpd10
  · skip
    rename Fr _ _ _ _ => F10
    rename News _ _ _ _ => N10
    have k10 := hall _ _ F10 (News.sub N10 (fun q hq => by (first | ((repeat' (first | exact List.forall_mem_nil _ | refine' List.forall_mem_cons.mpr ⟨?_, ?_⟩ | k_mem | exact hq | exact fun h => hq (List.mem_singleton.mp h) | refine' And.intro ?_ ?_ | (refine' Or.inr ?_; k_mem) | (refine' Or.inl ?_; k_mem) | refine' List.Mem.tail _ ?_)); done) | simp [hq])))
    have hB10 := hBL _ k10
    have k12 := ((k8.mono (S' := [st, bd, pd]) (by walk_at "mem")).trans (k9.mono (S' := [st, bd, pd]) (by walk_at "mem"))).transL k10 hL
    refine ret _ _ (c + 1) tst k12 (atN hGg N10 (a := st) (by k_mem)) (by omega) (by omega) ?_ ?_
    · rw [(a0 (by omega)).1, (a0 (by omega)).2]; exact ⟨_, _, _, _, _, _, atN hGg N10 (by k_mem), atN hGg N10 (by k_mem), atN hGg N10 (by k_mem), hi, hrlst⟩
    · rw [ag]; exact hB10
end
end Mine
end

section
open PySem PySem.W PySem.Calls PySem.Spec PyProof.Rows
set_option maxHeartbeats 4000000
theorem Mine.fillItGl : PySem.Challenge.rw_pb0189_01 = PySem.Challenge.rw_pb0189_01 ∧ Mine.K = Mine.K := by
  w_top off; k_fill; exact ⟨rfl, rfl⟩
namespace Mine
section
variable {prog : Program} {w : World} {p : Program} {loose : List Str} {mean : ExcName → Option Value} {mg mb : Str → Option Value} {G : Heap} {A : Around} {s : Shared} {Q E : Value → Shared → Prop}
theorem glyphs_raw (am : Amb w p loose mean mg mb G) (hs : G.StaysIn s.heap) (hroom : A.depth + 10 < recursionLimit) (hh : A.handled = none) {av bu bd : Addr} {gs : List Int}
    (hB : IsBu w (at_ G s.heap) av bu bd gs) (hgs : gs.length < 900)
    (ret : ∀ h' tk' D ys n, Kp [] s.heap h' → at_ G h' D (lo ys n) → s.heap.get? D = none → IntsAre ys gs → Q (.ref D) { s with heap := h', toks := tk' }) :
    wpAny (model prog w) A (call (.ref 190) [.ref bu]) Q E s := by
  rcases A with ⟨ahd, adp, afr, agd, aun⟩
  dsimp only at hh hroom
  subst hh
  obtain ⟨b1, b2, b3, b4, v2, v3, v4, rl, vs, n, ⟨hbu, hbu0⟩, ⟨hbd, hbd0⟩, ⟨hrl, hrl0⟩, hinf, _⟩ := hB
  have X := am.X
  have T := am.T
  have hlen := hinf.length
  refine' enterK [(rl, lo vs n), (bu, instObj 219 bd), (bd, dictOf [ent w "row" b1 (.ref rl), ent w "is_backward" b2 v2, ent w "last_lig" b3 v3, ent w "last_split" b4 v4] 4)] X T hs ?ho ?hcd (by (try dsimp only); omega) ?hbind ?hloc ?hn ?_ ?hcell ?hco ?hgen ?hk
  case ho => k_is
  case hcd => k_is
  case hbind => exact BindsTo.of_eq rfl
  case hloc => exact locs rfl
  case hn => first | ((repeat' (first | exact List.forall_mem_nil _ | refine' List.forall_mem_cons.mpr ⟨?_, ?_⟩ | k_mem | exact hbu | exact fun h => hbu (List.mem_singleton.mp h) | exact hbu0 | exact fun h => hbu0 (List.mem_singleton.mp h) | exact hbd | exact fun h => hbd (List.mem_singleton.mp h) | exact hbd0 | exact fun h => hbd0 (List.mem_singleton.mp h) | exact hrl | exact fun h => hrl (List.mem_singleton.mp h) | exact hrl0 | exact fun h => hrl0 (List.mem_singleton.mp h) | refine' And.intro ?_ ?_ | (refine' Or.inr ?_; k_mem) | (refine' Or.inl ?_; k_mem) | refine' List.Mem.tail _ ?_)); done) | simp [hbu, hbu0, hbd, hbd0, hrl, hrl0]
  case hcell => decide
  case hco => exact rfl
  case hgen => exact rfl
  case hk => exact rfl
  k_whole
  intro g L h₁ tk0 F N X T hg hL hGg
  have hinfg : Infos (fun a o => g.get? a = some o) vs gs := hinf.mono fun a o ho e => hg a o e.1 (by
    simp only [List.map_cons, List.map_nil, List.mem_cons, List.not_mem_nil, or_false]
    have e1 := e.1
    rintro (q | q | q)
    · rw [q, hrl] at e1; rcases ho with ⟨d, rfl⟩ | ⟨es, k, gg, t, rfl, _⟩
      · exact lo_ne_inst (Option.some.inj e1)
      · exact lo_ne_dict (Option.some.inj e1)
    · rw [q, hbu] at e1; rcases ho with ⟨d, rfl⟩ | ⟨es, k, gg, t, rfl, _⟩
      · have := congrArg Obj.cls (Option.some.inj e1); simp at this
      · exact inst_ne_dict (Option.some.inj e1).symm
    · rw [q, hbd] at e1; rcases ho with ⟨d, rfl⟩ | ⟨es, k, gg, t, rfl, hgl⟩
      · exact inst_ne_dict (Option.some.inj e1)
      · have := congrArg Obj.data (Option.some.inj e1)
        simp only [Data.dict.injEq] at this
        have q2 := congrArg Array.toList this.1
        simp only at q2
        subst q2
        cases hgl)
  repeat' ((fail_if_success (with_reducible show wpAny _ _ (eval (PySem.Expr.ListComp _ _ _ _) _) _ _ _)); walk_at "one")
  all_goals (try dsimp only)
  refine LCg.ListComp_U (F₀ := by k_asm) (by with_unfolding_all rfl) (by decide) (by rfl) (by decide) (by rfl) ?_
  (repeat' walk_at "one")
  refine LCg.CompSrc.ledger rfl F N (List.Mem.head _) (by rw [sizeLine_eq, List.size_toArray]; omega) ?_
  intro g'
  try dsimp only
  refine intsRest (ks := gs) (by rw [List.size_toArray]; exact hlen.symm) (.inr ⟨_, List.Mem.head _, rfl, _, rfl⟩) ?_ ?_
  · intro i v I oI C oC D m₂ ys h tk Qe E' hi' hv hC hx F N hret
    obtain ⟨gk, hgk, a, d, es, nn, t, rfl, ha, hd, hgl⟩ := hinfg.get i v (by simpa using hv)
    have egk : gs.getD i 0 = gk := by rw [List.getD_eq_getElem?_getD, hgk]; rfl
    try dsimp only
    iterate 2 walk_at "one"
    refine' get_own (s := ⟨_, _, _, _, _⟩) (C := 166) (n := nn) F X ⟨F.keep _ _ ha, rfl, rfl, F.keep _ _ hd⟩ ?g1 ?g2 ?g3 ?g4 hgl rfl ?_
    case g1 => k_is
    case g2 => k_is
    case g3 => k_is
    case g4 => k_is
    k_whole
    rw [← egk]
    exact hret _ _
  · intro ys hys
    unfold LCg.FinE
    intro D h tk F N off
    simp only [LCg.Off1, and_true] at off
    try dsimp only
    have k9 := kp_of (S := []) hg F N (by first | ((repeat' (first | exact List.forall_mem_nil _ | refine' List.forall_mem_cons.mpr ⟨?_, ?_⟩ | k_mem | exact hbu | exact fun h => hbu (List.mem_singleton.mp h) | exact hbd | exact fun h => hbd (List.mem_singleton.mp h) | exact hrl | exact fun h => hrl (List.mem_singleton.mp h) | refine' And.intro ?_ ?_ | (refine' Or.inr ?_; k_mem) | (refine' Or.inl ?_; k_mem) | refine' List.Mem.tail _ ?_)); done) | simp [hbu, hbd, hrl]) (by walk_at "mem")
    refine ret _ _ D ys _ k9 (atN hGg N (List.Mem.head _)) (newAt hg (N.fresh (List.Mem.head _)) ?_) hys
    simp only [List.map_cons, List.map_nil, List.mem_cons, List.not_mem_nil, or_false]
    rintro (q | q | q)
    · exact off.1 q.symm
    · exact off.2.1 q.symm
    · exact off.2.2 q.symm
end
end Mine
end

section
open PySem PySem.W PySem.Calls PySem.Spec PyProof.Rows
set_option maxHeartbeats 4000000
theorem Mine.fillItDs : PySem.Challenge.rw_pb0189_01 = PySem.Challenge.rw_pb0189_01 ∧ Mine.K = Mine.K := by
  w_top off; k_fill; exact ⟨rfl, rfl⟩
namespace Mine
section
variable {prog : Program} {w : World} {p : Program} {loose : List Str} {mean : ExcName → Option Value} {mg mb : Str → Option Value} {G : Heap} {A : Around} {s : Shared} {Q E : Value → Shared → Prop}
local macro_rules | `(tactic| walk_at "eval Name") => `(tactic| (k_here; k_dflt (refine' ld ?k1 ?k2 ?_; (case k1 => k_asm); (case k2 => with_reducible assumption); k_whole)))
theorem actions_raw (am : Amb w p loose mean mg mb G) (hs : G.StaysIn s.heap) (hroom : A.depth + 70 < recursionLimit) (hh : A.handled = none) {pa pd sc bu bd ll st ax fa : Addr} {z : St} {c : Int} {nst : Nat} {FO : List (Addr × Obj)} {fod : Option Addr} {fd : FuncData} {fsl : Array (Option Value)} {acts : List (Int × Int)} {avs : List Value}
    (hSt : Still w G s.heap sc bu ll st FO) (hR : Run w G s.heap st pa pd bu bd nst z c)
    (ht : s.heap.IsTuple ax avs.toArray) (hac : Acts (at_ G s.heap) avs acts) (hFO : ∀ q ∈ FO, q.1 ≠ st ∧ q.1 ≠ pd ∧ q.1 ≠ bd) (hfa : (fa, (⟨.type "function", fod, .func fd, fsl⟩ : Obj)) ∈ FO) (hllst : ll ≠ st)
    (hap : ApplyOk prog w G fa bu bd st FO) (hfine : ∀ j, j ≤ acts.length → Fine (foldS z (acts.take j))) (hacts : ∀ a ∈ acts, 0 ≤ a.1 ∧ a.1 < 100 ∧ 0 ≤ a.2 ∧ a.2 < 5) (hc : 0 ≤ c) (hcl : c + acts.length < 190)
    (ret : ∀ h' tk' te, Kp [st, bd, pd] s.heap h' → Run w G h' st pa pd bu bd nst (foldS z acts) (c + acts.length) → Q (.int (foldS z acts).e te) { s with heap := h', toks := tk' }) :
    wpAny (model prog w) A (call (.ref 135) [.ref sc, .ref pa, .ref ax, .ref fa]) Q E s := by
  rcases A with ⟨ahd, adp, afr, agd, aun⟩
  dsimp only at hh hroom
  subst hh
  obtain ⟨c0, tc, ⟨hst1, hst0⟩, hc0, hc1⟩ := hR.steps
  obtain ⟨t1, t2, te, rl, vs, n, ⟨hpa, hpa0⟩, ⟨hpd, hpd0⟩, ⟨hrl, hrl0⟩, hi, hrlst⟩ := hR.pl
  obtain ⟨b1, b2, b3, b4, v2, v3, v4, rw_, ws, nb, ⟨hbu, hbu0⟩, ⟨hbd, hbd0⟩, ⟨hrw, hrw0⟩, hinf, hrwst⟩ := hR.bu
  have X := am.X
  have T := am.T
  refine' enterK [(pa, instObj 93 pd), (pd, dictOf [ent w "row" t1 (.ref rl), ent w "end" t2 (.int z.e te)] 2), (bd, dictOf [ent w "row" b1 (.ref rw_), ent w "is_backward" b2 v2, ent w "last_lig" b3 v3, ent w "last_split" b4 v4] 4), (st, lo [.int c0 tc] nst)] X T hs ?ho ?hcd (by (try dsimp only); omega) ?hbind ?hloc ?hn ?_ ?hcell ?hco ?hgen ?hk
  case ho => k_is
  case hcd => k_is
  case hbind => exact BindsTo.of_eq rfl
  case hloc => exact locs rfl
  case hn => first | ((repeat' (first | exact List.forall_mem_nil _ | refine' List.forall_mem_cons.mpr ⟨?_, ?_⟩ | k_mem | exact hpa | exact fun h => hpa (List.mem_singleton.mp h) | exact hpa0 | exact fun h => hpa0 (List.mem_singleton.mp h) | exact hpd | exact fun h => hpd (List.mem_singleton.mp h) | exact hpd0 | exact fun h => hpd0 (List.mem_singleton.mp h) | exact hbd | exact fun h => hbd (List.mem_singleton.mp h) | exact hbd0 | exact fun h => hbd0 (List.mem_singleton.mp h) | exact hst1 | exact fun h => hst1 (List.mem_singleton.mp h) | exact hst0 | exact fun h => hst0 (List.mem_singleton.mp h) | refine' And.intro ?_ ?_ | (refine' Or.inr ?_; k_mem) | (refine' Or.inl ?_; k_mem) | refine' List.Mem.tail _ ?_)); done) | simp [hpa, hpa0, hpd, hpd0, hbd, hbd0, hst1, hst0]
  case hcell => decide
  case hco => exact rfl
  case hgen => exact rfl
  case hk => exact rfl
  k_whole
  intro g L h₁ tk0 F N X T hg hL hGg
  have gpa : pa ≠ L ∧ g.get? pa = none := (N (pa, _) (by k_mem)).2
  have gpd : pd ≠ L ∧ g.get? pd = none := (N (pd, _) (by k_mem)).2
  have gbd : bd ≠ L ∧ g.get? bd = none := (N (bd, _) (by k_mem)).2
  have gst : st ≠ L ∧ g.get? st = none := (N (st, _) (by k_mem)).2
  repeat' ((fail_if_success (with_reducible show wpAny _ _ (exec (PySem.Stmt.For _ _ _ _ _) _) _ _ _)); walk_at "one")
  all_goals (try dsimp only)
  refine wpAny_For ?_
  iterate 1 walk_at "one"
  have k01 : Kp [] s.heap h₁ := kp_of hg F N (by first | ((repeat' (first | exact List.forall_mem_nil _ | refine' List.forall_mem_cons.mpr ⟨?_, ?_⟩ | k_mem | exact hpa | exact fun h => hpa (List.mem_singleton.mp h) | exact hpd | exact fun h => hpd (List.mem_singleton.mp h) | exact hbd | exact fun h => hbd (List.mem_singleton.mp h) | exact hst1 | exact fun h => hst1 (List.mem_singleton.mp h) | refine' And.intro ?_ ?_ | (refine' Or.inr ?_; k_mem) | (refine' Or.inl ?_; k_mem) | refine' List.Mem.tail _ ?_)); done) | simp [hpa, hpd, hbd, hst1]) (by walk_at "mem")
  have hR1 := hR.kpA k01 (fun _ h => nomatch h)
  have ht1 : h₁.IsTuple ax avs.toArray := ht.at fun o e => k01 _ _ e (by walk_at "mem")
  have hllo : ∃ vs n, s.heap.get? ll = some (lo vs n) := by obtain ⟨vs, n, h1, _⟩ := hSt.lks; exact ⟨vs, n, h1.1⟩
  obtain ⟨llv, lln, hllg⟩ := hllo
  have mv : ∀ b ∈ [st, bd, pd], Moves s.heap ll FO b := by
    intro b hb
    simp only [List.mem_cons, List.not_mem_nil, or_false] at hb
    rcases hb with rfl | rfl | rfl
    · exact moves_list hst1 (Ne.symm hllst) fun q hq => (hFO q hq).1
    · exact moves_dict hbd (by decide) (neCls hbd hllg (by walk_at "mem")) fun q hq => (hFO q hq).2.2
    · exact moves_dict hpd (by decide) (neCls hpd hllg (by walk_at "mem")) fun q hq => (hFO q hq).2.1
  have hgS : ∀ b ∈ [st, bd, pd], b ≠ L ∧ g.get? b = none := by
    intro b hb
    simp only [List.mem_cons, List.not_mem_nil, or_false] at hb
    rcases hb with rfl | rfl | rfl
    · exact gst
    · exact gbd
    · exact gpd
  have hLn : s.heap.get? L = none := by
    cases q : s.heap.get? L with
    | none => rfl
    | some o => exact absurd (hL _ _ q) (Nat.lt_irrefl _)
  refine wpAny_pyIter_tuple ht1 ?_
  have hIn : h₁.get? h₁.objs.size = none := by
    cases q : h₁.get? h₁.objs.size with
    | none => rfl
    | some o => exact absurd (Heap.lt_size q) (Nat.lt_irrefl _)
  have hIs : s.heap.get? h₁.objs.size = none := by
    cases q : s.heap.get? h₁.objs.size with
    | none => rfl
    | some o => have := k01 _ _ q (by walk_at "mem"); rw [hIn] at this; cases this
  have kpush : Kp [] h₁ (h₁.push { cls := .type "tuple_iterator", data := .fields #[.ref ax, .int 0 0] }) := fun b o e _ => Heap.get?_push_of_some _ e
  have hax : ax < h₁.objs.size := by obtain ⟨o, e, _⟩ := ht1; exact Heap.lt_size e
  refine loopRaw (g := g) (Walks.tuple rfl h₁.objs.size ax (Nat.ne_of_lt hax) avs.toArray) (by rfl) (by rfl) ?hLf ?hwr
    (fun m => m "glyph" = none ∧ m "row" = none ∧ m "scene" = some (.ref sc) ∧ m "places" = some (.ref pa) ∧ m "apply_at" = some (.ref fa))
    (fun j h => Kp [st, bd, pd] s.heap h ∧ Run w G h st pa pd bu bd nst (foldS z (acts.take j)) (c + j)) ?hM ?stab ?hst (frKp F kpush (fun _ h => nomatch h)) ?hm ?h0 ?step ?done
  case hLf =>
    intro hm
    simp only [List.mem_cons, List.not_mem_nil, or_false] at hm
    rcases hm with q | q
    · exact absurd F.ns.lt (by rw [← q]; exact Nat.lt_irrefl _)
    · obtain ⟨o, e, hcl, k, hd⟩ := ht1
      exact frNeL F e (fun _ _ q => by rw [hd] at q; cases q) q.symm
  case hwr => intro b hb; rw [List.mem_singleton.mp hb]; exact (newOf F hIn).2
  case hM => intro m v ⟨m1, m2, m3, m4, m5⟩; exact ⟨(if_neg (by decide)).trans m1, (if_neg (by decide)).trans m2, (if_neg (by decide)).trans m3, (if_neg (by decide)).trans m4, (if_neg (by decide)).trans m5⟩
  case stab =>
    intro j h h' m F' hm' hst' hI kk
    refine ⟨hI.1.transNew kk ?_, hI.2.kpA kk ?_⟩
    · intro b hb
      simp only [List.mem_cons, List.not_mem_nil, or_false] at hb
      rcases hb with rfl | rfl
      · exact hLn
      · exact hIs
    · intro b hb
      simp only [List.mem_cons, List.not_mem_nil, or_false] at hb
      rcases hb with rfl | rfl
      · exact alien_fr F' hm'.1 hm'.2.1
      · obtain ⟨o, e, _, hd⟩ := hst'.1
        exact alien_fields e hd
  case hst => exact ⟨⟨_, Heap.get?_push_size _ rfl, rfl, rfl⟩, ht1.at fun o e => Heap.get?_push_of_some _ e⟩
  case hm => exact ⟨rfl, rfl, rfl, rfl, rfl⟩
  case h0 => exact ⟨(k01.mono (by walk_at "mem")).trans (kpush.mono (by walk_at "mem")), by simpa [foldS] using hR1.kpA kpush (fun _ h => nomatch h)⟩
  case done =>
    intro h m tk F' hm' hI
    change Fr g L h m at F'
    obtain ⟨m1, m2, m3, m4, m5⟩ := hm'
    obtain ⟨hK, hRn⟩ := hI
    have ez : avs.toArray.size = acts.length := by rw [List.size_toArray]; exact hac.length
    rw [ez, List.take_length] at hRn
    obtain ⟨u1, u2, ue, rl2, vs2, n2, hpa2, hpd2, hrl2, hi2, hrlst2⟩ := hRn.pl
    have N2 : News g L h [(pd, dictOf [ent w "row" u1 (.ref rl2), ent w "end" u2 (.int (foldS z acts).e ue)] 2), (pa, instObj 93 pd)] := fun q hq => by
      simp only [List.mem_cons, List.not_mem_nil, or_false] at hq
      rcases hq with rfl | rfl
      · exact ⟨hpd2.1, gpd⟩
      · exact ⟨hpa2.1, gpa⟩
    clear F N
    try dsimp only
    (repeat' walk_at "one")
    try dsimp only
    exact ret _ _ _ hK hRn
  case step =>
    intro j v h m tk hj hP hst' F' hm' hI
    change Fr g L h _ at F'
    obtain ⟨m1, m2, m3, m4, m5⟩ := hm'
    obtain ⟨hK, hRn⟩ := hI
    have hj' : j < acts.length := by rw [List.size_toArray] at hj; rw [← hac.length]; exact hj
    have e1 : (fun y : Str => if y = ("action" : Str) then some v else m y) "glyph" = none := (if_neg (by decide)).trans m1
    have e2 : (fun y : Str => if y = ("action" : Str) then some v else m y) "row" = none := (if_neg (by decide)).trans m2
    have e3 : (fun y : Str => if y = ("action" : Str) then some v else m y) "scene" = some (.ref sc) := (if_neg (by decide)).trans m3
    have e4 : (fun y : Str => if y = ("action" : Str) then some v else m y) "places" = some (.ref pa) := (if_neg (by decide)).trans m4
    have e5 : (fun y : Str => if y = ("action" : Str) then some v else m y) "apply_at" = some (.ref fa) := (if_neg (by decide)).trans m5
    have e6 : (fun y : Str => if y = ("action" : Str) then some v else m y) "action" = some v := if_pos rfl
    generalize (fun y : Str => if y = ("action" : Str) then some v else m y) = m6 at F' e1 e2 e3 e4 e5 e6
    clear m1 m2 m3 m4 m5
    obtain ⟨act, hact, ac, ti, tk1, rfl, hao⟩ := hac.get j v (by simpa using hP)
    have ham := hacts act (List.mem_of_getElem? hact)
    have hne : ∀ b ∈ [st, bd, pd], ∀ o, s.heap.get? b = some o → o.cls ≠ .type "tuple" := by
      intro b hb o e
      simp only [List.mem_cons, List.not_mem_nil, or_false] at hb
      rcases hb with rfl | rfl | rfl
      · rw [hst1] at e; cases e; simp
      · rw [hbd] at e; cases e; simp
      · rw [hpd] at e; cases e; simp
    have hao2 := at_kp hao hK (fun hm => hne _ hm _ hao.1 rfl)
    have hSth := hSt.kp hK mv
    have N0 : News g L h [] := News.nil
    clear F N
    try dsimp only
    repeat' ((fail_if_success (with_reducible show wpAny _ _ (call _ _ _) _ _ _)); walk_at "one")
    all_goals (try dsimp only)
    obtain ⟨c1, tc1, hst2, hc2, hc3⟩ := hRn.steps
    have hz : foldS z (acts.take (j + 1)) = actS (foldS z (acts.take j)) act.1 act.2 := by
      unfold foldS
      rw [List.take_add_one, hact, Option.toList_some, List.foldl_append]; rfl
    have hItp : ∀ b ∈ [h₁.objs.size, ax], ∀ o, h.get? b = some o → b ∉ [st, bd, pd] := by
      intro b hb o e hm
      simp only [List.mem_cons, List.not_mem_nil, or_false] at hb hm
      rcases hb with rfl | rfl
      · obtain ⟨o1, e1, _, hd⟩ := hst'.1
        rcases hm with q | q | q
        · rw [q, hst2.1] at e1; cases e1; cases hd
        · obtain ⟨_, _, _, _, _, _, _, _, _, _, _, hb2, _⟩ := hRn.bu; rw [q, hb2.1] at e1; cases e1; cases hd
        · obtain ⟨_, _, _, _, _, _, _, hp2, _⟩ := hRn.pl; rw [q, hp2.1] at e1; cases e1; cases hd
      · obtain ⟨o1, e1, hcl, _⟩ := hst'.2
        rcases hm with q | q | q
        · rw [q, hst2.1] at e1; cases e1; simp at hcl
        · obtain ⟨_, _, _, _, _, _, _, _, _, _, _, hb2, _⟩ := hRn.bu; rw [q, hb2.1] at e1; cases e1; simp at hcl
        · obtain ⟨_, _, _, _, _, _, _, hp2, _⟩ := hRn.pl; rw [q, hp2.1] at e1; cases e1; simp at hcl
    refine ⟨X.keeps F'.keep, ?_⟩
    refine action_raw (s := ⟨_, _, _, _, _⟩) am (fun b o q => F'.keep b o (hGg b o q)) (by rw [depth_deeper]; (try dsimp only); omega) rfl (z := foldS z (acts.take j)) (FO := FO) (fd := fd) hSth.sc hSth.lks hst2 hRn.pl hRn.bu hao2 (fun q hq => ⟨hSth.fo q hq, hFO q hq⟩) hfa hllst hap hc2 (by omega) ham.1 ham.2.1 ham.2.2.1 ham.2.2.2 (hfine j (by omega)).1 (hfine j (by omega)).2.1 (hfine j (by omega)).2.2.1 (hfine j (by omega)).2.2.2 ?_
    intro h' tk' c3 tc3 k' hst3 hc4 hc5 P' B'
    have F'' := frKp F' k' hgS
    clear F'
    try dsimp only
    (repeat' walk_at "one")
    try dsimp only
    refine ⟨h', _, m6, rfl, F'', ⟨e1, e2, e3, e4, e5⟩, ⟨hK.trans k', ⟨⟨c3, tc3, hst3, hc4, by omega⟩, ?_, ?_⟩⟩, fun b hb o e => k' b o e (hItp b hb o e)⟩
    · rw [hz]; exact P'
    · rw [hz]; exact B'
end
end Mine
end

section
open PySem PySem.W PySem.Calls PySem.Spec PyProof.Rows
namespace Mine

section
variable {prog : Program} {w : World} {A : Around} {s : Shared} {env : Env} {g : Heap} {x : Str} {px pos : Pos} {body : List Stmt} {Q : Flow → Shared → Prop} {E : Value → Shared → Prop}
  {I : Addr} {fp wr : List Addr} {n : Nat} {P : Nat → Value → Prop} {St : Nat → Heap → Prop} {m₀ : Str → Option Value}

/-- a for loop by what holds of the frame's names and the heap between its turns -/
theorem loopRaw2 (W : Walks prog w A I fp wr n P St) (hx : env.kindOf x = some .local)
    (hp : (env.scope.kind == .class || (env.scope.kind == .module && env.locals != env.globals)) = false) (hLf : env.locals ∉ fp) (hwr : ∀ b ∈ wr, g.get? b = none)
    (J : Nat → (Str → Option Value) → Heap → Prop)
    (stab : ∀ i h h' m, Fr g env.locals h m → St i h → J i m h → Kp (env.locals :: wr) h h' → J i m h')
    (hst : St 0 s.heap) (F : Fr g env.locals s.heap m₀) (h0 : J 0 m₀ s.heap)
    (step : ∀ i v h m tk, i < n → P i v → St (i + 1) h → Fr g env.locals h (fun y => if y = x then some v else m y) → J i m h →
      wpAny (model prog w) A (execs body env) (fun f s' => match f with
        | .ret v => Q (.ret v) s'
        | .brk => Q .next s'
        | _ => ∃ h' tk' m', s' = { s with heap := h', toks := tk' } ∧ Fr g env.locals h' m' ∧ J (i + 1) m' h' ∧ (∀ b ∈ fp, ∀ o, h.get? b = some o → h'.get? b = some o)) (fun _ _ => False) { s with heap := h, toks := tk })
    (done : ∀ h m tk, Fr g env.locals h m → J n m h → Q .next { s with heap := h, toks := tk }) :
    codeAny (model prog w) A (.forLoop (.Name x px) (.ref I) body [] env) (fun r s' => match r with | .ok f => Q f s' | .error e => cameBackBy (model prog w) A env E e s') s := by
  have hLw : env.locals ∉ wr := fun h => hLf (W.sub _ h)
  refine codeAny_forLoop (fun k s' => ∃ h tk m i, s' = { s with heap := h, toks := tk } ∧ St i h ∧ Fr g env.locals h m ∧ J i m h ∧ i ≤ n ∧ k = n + 1 - i) ?_ (n + 1) ⟨s.heap, s.toks, m₀, 0, rfl, hst, F, h0, Nat.zero_le _, rfl⟩
  rintro k s' ⟨h, tk, m, i, rfl, hst', F', hI, hi, rfl⟩
  have next : ∀ h₁ : Heap, (∀ b o, b ∉ wr → h.get? b = some o → h₁.get? b = some o) → Fr g env.locals h₁ m := fun h₁ hk₁ =>
    ⟨F'.ns.at' fun o e => hk₁ _ o hLw e, fun b o e => hk₁ b o (fun hb => by rw [hwr b hb] at e; cases e) (F'.keep b o e), F'.above⟩
  by_cases hlt : i < n
  · refine W.item i _ _ _ hlt hst' fun v h₁ tk₁ hP hst₁ hk₁ => ?_
    have F₁ := next h₁ hk₁
    refine wpAny_assign_Name (wpAny_storeName_local hx F₁.ns (fun h₂ hn₂ hs₂ => ?_) hp)
    have F₂ := F₁.set hn₂ hs₂
    have hst₂ : St (i + 1) h₂ := W.frame _ _ _ hst₁ fun b hb o e => (hs₂.2 b fun q => hLf (q ▸ hb)).trans e
    have kk : Kp (env.locals :: wr) h h₂ := fun b o e nb => by
      have n1 : b ≠ env.locals := fun q => nb (by rw [q]; exact .head _)
      have n2 : b ∉ wr := fun q => nb (.tail _ q)
      exact (hs₂.2 b n1).trans (hk₁ b o n2 e)
    refine wpAny_mono (step i v h₂ m _ hlt hP hst₂ F₂ (stab i h h₂ m F' hst' hI kk)) (fun f s₃ h₃ => ?_) (fun _ _ e => e.elim)
    cases f with
    | ret v => exact h₃
    | brk => exact h₃
    | cont =>
      obtain ⟨h₃', tk₃, m₃, rfl, F₃, hI₃, hk₃⟩ := h₃
      exact ⟨n + 1 - (i + 1), by omega, h₃', tk₃, m₃, i + 1, rfl, W.frame _ _ _ hst₂ fun b hb o e => hk₃ b hb o e, F₃, hI₃, hlt, rfl⟩
    | next =>
      obtain ⟨h₃', tk₃, m₃, rfl, F₃, hI₃, hk₃⟩ := h₃
      exact ⟨n + 1 - (i + 1), by omega, h₃', tk₃, m₃, i + 1, rfl, W.frame _ _ _ hst₂ fun b hb o e => hk₃ b hb o e, F₃, hI₃, hlt, rfl⟩
  · have hin : i = n := by omega
    subst hin
    refine W.done _ _ _ hst' fun h₁ tk₁ hk₁ => ?_
    have kk : Kp (env.locals :: wr) h h₁ := fun b o e nb => hk₁ b o (fun q => nb (.tail _ q)) e
    exact wpAny_mono (wpAny_pure (a := Flow.next) (done h₁ m _ (next h₁ hk₁) (stab _ h h₁ m F' hst' hI kk))) (fun _ _ y => y) fun _ _ y => y
end

section
variable {prog : Program} {w : World} {A : Around} {g : Heap} {L : Addr} {m : Str → Option Value} {env : Env} {elt : Expr} {x : Str} {scope : Scope} {cl : List (Str × Addr)} {s : Shared} {S : List (Addr × Obj) → Prop} {P : Nat → Value → Prop} {Fin : List Value → List (Addr × Obj) → Prop} {news₀ : List (Addr × Obj)}

/-- a comprehension by what holds of its items and its ledger between its turns -/
theorem genRest {n : Nat} (J : Nat → List Value → List (Addr × Obj) → Prop) (hS : ∀ i ys news, J i ys news → S news) (h0 : J 0 [] news₀)
    (turn : ∀ i v I oI C oC D m₂ ys news h tk (Qe E' : Value → Shared → Prop), i < n → P i v → LCg.NsObj oC m₂ → m₂ x = some v → Fr g L h m → News g L h ((I, oI) :: (C, oC) :: (D, LCg.lst ys) :: news) → LCg.Off3 I C D news → J i ys news →
      (∀ e h' tk' news', Fr g L h' m → News g L h' ((I, oI) :: (C, oC) :: (D, LCg.lst ys) :: news') → LCg.Off3 I C D news' → J (i + 1) (ys ++ [e]) news' → Qe e { s with heap := h', toks := tk' }) →
      wpAny (model prog w) A (eval elt (compEnvC scope cl C env)) Qe E' { s with heap := h, toks := tk })
    (fin : ∀ ys news, J n ys news → Fin ys news) :
    LCg.CompRest prog w A g L m env elt x scope cl s S P Fin n 0 [] news₀ := by
  have key : ∀ (j i : Nat) (ys : List Value) (news : List (Addr × Obj)), i + j = n → J i ys news → LCg.CompRest prog w A g L m env elt x scope cl s S P Fin j i ys news := by
    intro j
    induction j with
    | zero =>
      intro i ys news hi hy
      have e : i = n := by omega
      subst e
      exact LCg.CompRest.zero (fin ys news hy)
    | succ j ih =>
      intro i ys news hi hy
      refine LCg.CompRest.succ ?_
      intro v I oI C oC D m₂ h tk E' hv hC hx F N off ne
      refine turn i v I oI C oC D m₂ ys news h tk _ E' (by omega) hv hC hx F N off hy ?_
      intro e h' tk' news' F' N' off' hy'
      exact LCg.CompEnd.intro F' N' news' (fun q hq => hq) off' (hS _ _ _ hy') (ih (i + 1) _ _ (by omega) hy')
  exact key n 0 [] news₀ (by omega) h0
end

section
variable {prog : Program} {w : World} {A : Around} {E : Value → Shared → Prop} {s : Shared} {l : Addr} {value slice : PySem.Expr} {vs : List Value} {Q : Value → Shared → Prop}
theorem itemLast {k : Int} {u : Tok} {v : Value} (hk : k = -1) (hl : s.heap.IsList l vs.toArray) (hx : vs.getLast? = some v) (h : Q v s)
    (hs : subscripted slice false (.ref l) (.int k u) = operate [.ref l, .int k u] (getItem (.ref l) (.int k u)) := by with_unfolding_all rfl) :
    wpAny (model prog w) A (subscriptTail value slice (.ref l) (.int k u)) Q E s := by
  subst hk
  have hpos : 0 < vs.length := by cases vs with
    | nil => cases hx
    | cons => simp
  refine tail_any hl.typeIs slot_list_getitem.lookup (wpAny_getItem_list_neg hl (by decide) (by rw [List.size_toArray]; omega) (by decide) ?_ h) hs
  rw [List.size_toArray, List.getElem?_toArray]
  have e : (-1 + (vs.length : Int)).toNat = vs.length - 1 := by omega
  rw [e, ← List.getLast?_eq_getElem?]; exact hx
end
end Mine
end

section
open PySem PySem.W PySem.Calls PySem.Spec PyProof.Rows
namespace Mine
abbrev tupO (vs : List Value) : Obj := { cls := .type "tuple", data := .seq vs.toArray }
section
variable {prog : Program} {w : World} {A : Around} {E : Value → Shared → Prop} {s : Shared} {h₀ : Heap} {L l : Addr} {m : Str → Option Value} {news : List (Addr × Obj)} {vs : List Value} {Q : Value → Shared → Prop}
theorem tupOf (F : Fr h₀ L s.heap m) (N : News h₀ L s.heap news) (hl : s.heap.IsList l vs.toArray) (hz : vs.length ≤ sizeLine)
    (h : ∀ D h', Fr h₀ L h' m → News h₀ L h' ((D, tupO vs) :: news) → (∀ q ∈ news, q.1 < D) → Q (.ref D) { s with heap := h' }) :
    wpAny (model prog w) A (call (.type "tuple") [.ref l]) Q E s := by
  refine call_tuple_list hl (fun h' hk => ?_) (by rw [List.size_toArray]; exact hz)
  have F' : Fr h₀ L h' m := F.keeps hk
  have N' : News h₀ L h' news := fun q hq => ⟨hk _ _ (N q hq).1, (N q hq).2⟩
  refine h _ _ (F'.keeps fun b o e => Heap.get?_push_of_some _ e) ?_ fun q hq => Heap.lt_size (N' q hq).1
  exact news_pushed (s := { s with heap := h' }) F' N' (fun b o e => Heap.get?_push_of_some _ e) (Heap.get?_push_size _ rfl) rfl
end
def IsBatch (R : Rel) (v : Value) (as : List (Int × Int)) : Prop := ∃ ax avs, v = .ref ax ∧ R ax (tupO avs) ∧ Acts R avs as
inductive Batches (R : Rel) : List Value → List (List (Int × Int)) → Prop
  | nil : Batches R [] []
  | cons {v : Value} {a : List (Int × Int)} {vs : List Value} {as : List (List (Int × Int))} : IsBatch R v a → Batches R vs as → Batches R (v :: vs) (a :: as)
theorem Batches.length {R : Rel} {vs : List Value} {as : List (List (Int × Int))} (h : Batches R vs as) : vs.length = as.length := by
  induction h with
  | nil => rfl
  | cons _ _ ih => simp [ih]
theorem Batches.get {R : Rel} {vs : List Value} {as : List (List (Int × Int))} (h : Batches R vs as) : ∀ (i : Nat) v, vs[i]? = some v → ∃ a, as[i]? = some a ∧ IsBatch R v a := by
  induction h with
  | nil => intro i v e; simp at e
  | cons a _ ih => intro i v e; cases i with
    | zero => simp at e; subst e; exact ⟨_, rfl, a⟩
    | succ i => simpa using ih i v (by simpa using e)
theorem Batches.append {R : Rel} {vs ws : List Value} {as bs : List (List (Int × Int))} (h : Batches R vs as) (h' : Batches R ws bs) : Batches R (vs ++ ws) (as ++ bs) := by
  induction h with
  | nil => exact h'
  | cons a _ ih => exact .cons a ih
theorem Batches.mono {R R' : Rel} {vs : List Value} {as : List (List (Int × Int))} (h : Batches R vs as) (hr : ∀ a vs, R a (tupO vs) → R' a (tupO vs)) : Batches R' vs as := by
  induction h with
  | nil => exact .nil
  | cons h1 _ ih => obtain ⟨ax, avs, rfl, h2, h3⟩ := h1; exact .cons ⟨ax, avs, rfl, hr _ _ h2, h3.mono fun a i k ti tk q => hr _ _ q⟩ ih
/-- no tuple -/
def NoTup (h : Heap) (b : Addr) : Prop := ∀ o, h.get? b = some o → o.cls = .type "tuple" → ∀ xs n, o.data ≠ .seq xs n
theorem notup_cls {h : Heap} {b : Addr} {o : Obj} (e : h.get? b = some o) (n : o.cls ≠ .type "tuple") : NoTup h b := fun o' e' q => by rw [e] at e'; cases e'; exact absurd q n
theorem notup_data {h : Heap} {b : Addr} {o : Obj} (e : h.get? b = some o) (n : ∀ xs k, o.data ≠ .seq xs k) : NoTup h b := fun o' e' _ => by rw [e] at e'; cases e'; exact n
theorem notup_fr {g h : Heap} {L : Addr} {m : Str → Option Value} (F : Fr g L h m) : NoTup h L := fun o e _ xs n q => by
  obtain ⟨o', es, ep, e', hd, _, _⟩ := F.ns
  rw [e] at e'; cases e'
  rw [hd] at q; cases q
theorem at_kpT {G h h' : Heap} {S : List Addr} {a : Addr} {vs : List Value} (H : at_ G h a (tupO vs)) (k : Kp S h h') (hS : ∀ b ∈ S, NoTup h b) : at_ G h' a (tupO vs) := at_kp H k fun hm => hS _ hm _ H.1 rfl _ _ rfl
theorem Acts.kpT {G h h' : Heap} {S : List Addr} {vs : List Value} {as : List (Int × Int)} (H : Acts (at_ G h) vs as) (k : Kp S h h') (hS : ∀ b ∈ S, NoTup h b) : Acts (at_ G h') vs as :=
  H.mono fun a i k' ti tk q => at_kp q k fun hm => hS _ hm _ q.1 rfl _ _ rfl
theorem Batches.kpT {G h h' : Heap} {S : List Addr} {vs : List Value} {as : List (List (Int × Int))} (H : Batches (at_ G h) vs as) (k : Kp S h h') (hS : ∀ b ∈ S, NoTup h b) : Batches (at_ G h') vs as :=
  H.mono fun a vs q => at_kpT q k hS
theorem foldS_append {z : St} {a b : List (Int × Int)} : foldS z (a ++ b) = foldS (foldS z a) b := by unfold foldS; rw [List.foldl_append]
/-- what _law_done gives -/
def IsRes (R : Rel) (v : Value) (z : St) : Prop := ∃ rt gl pl gv pv gn pn te, v = .ref rt ∧ R rt (tupO [.ref gl, .ref pl, .int z.e te]) ∧ R gl (lo gv gn) ∧ IntsAre gv z.gs ∧ R pl (lo pv pn) ∧ IntsAre pv z.ps
/-- the table of _law_done's code -/
def TabX (R : Rel) (tps : Array Value) : Prop := ∃ c' oc vs t, tps = #[rawInt 189, rawInt 4, .ref c'] ∧ R c' oc ∧ oc.data = .fields vs ∧ vs[1]? = some (.str "_law_done.<locals>.apply_at" t)
def TabC (R : Rel) (tps : Array Value) : Prop := tps = #[] ∨ TabX R tps
theorem withAllBut2 {g h : Heap} {L : Addr} {m : Str → Option Value} {lit : List (Addr × Obj)} (F : Fr g L h m) (N : News g L h lit) :
    ∃ tail, News g L h (lit ++ tail) ∧ (∀ a ∈ lit.map (·.1), ∀ q ∈ tail, q.1 ≠ a) ∧ (∀ a o, h.get? a = some o → a ≠ L → g.get? a = none → a ∉ lit.map (·.1) → (a, o) ∈ tail) ∧ ∀ h' m', Fr g L h' m' → News g L h' tail → Kp (L :: lit.map (·.1)) h h' := by
  refine ⟨(allOf g L h).filter (fun q => decide (q.1 ∉ lit.map (·.1))), fun q hq => (List.mem_append.mp hq).elim (N q) (fun h => allOf_news q (List.mem_filter.mp h).1), fun a ha q hq e => ?_, fun a o e n1 n2 n3 => List.mem_filter.mpr ⟨mem_allOf e n1 n2, by simpa using n3⟩, fun h' m' F' N' b o e nb => ?_⟩
  · have := (List.mem_filter.mp hq).2
    simp only [decide_eq_true_eq] at this
    exact this (e ▸ ha)
  · have n1 : b ≠ L := fun q => nb (by rw [q]; exact .head _)
    have n2 : b ∉ lit.map (·.1) := fun q => nb (.tail _ q)
    cases q : g.get? b with
    | some o' =>
      have e1 := F.keep b o' q
      rw [e] at e1; cases e1
      exact F'.keep b _ q
    | none => exact N'.get (List.mem_filter.mpr ⟨mem_allOf e n1 q, by simpa using n2⟩)
section
variable {M : Model} {A : Around} {E : Value → Shared → Prop} {s : Shared} {cn : Str} {cs : Scope} {L a c P : Addr} {ccd : Value} {cl : List (Str × Addr)} {h₀ : Heap} {m mg mb : Str → Option Value} {news : List (Addr × Obj)} {gg : Obj → List (Addr × Obj)}
  {p : Program} {loose : List Str} {mean : ExcName → Option Value} {name qual : Str} {params : Arguments} {body : List Stmt} {scope : Scope} {ps : Array Value} {pos : Pos} {firstLine : Nat} {clos : List (Str × Addr)}
theorem nestAny2 {Q : Value → Shared → Prop} (F : Fr h₀ L s.heap m) (N : News h₀ L s.heap news) (T : Top p loose mean mg mb h₀) (C : CodeHd h₀ c P) (hcd : ccd = .ref c) (U : UpdF P (tabObj ps) news gg)
    (hps : ps = #[] ∨ ∃ c' oc vs t, ps = #[rawInt pos.line, rawInt pos.col, .ref c'] ∧ h₀.get? c' = some oc ∧ oc.data = .fields vs ∧ vs[1]? = some (.str qual t))
    (hcl : closureFor scope (envX cn cs L a ccd cl) = pure clos)
    (h : ∀ f c' oc vs t ctv doc h' tk, Fr h₀ L h' m → News h₀ L h' ((f, fnMade name qual params body scope clos doc ((mg "__name__").getD .none) c' ctv) :: gg (tabObj #[rawInt pos.line, rawInt pos.col, .ref c'])) →
      h'.get? c' = some oc → (h₀.get? c' = none ∨ ps = #[rawInt pos.line, rawInt pos.col, .ref c']) → oc.data = .fields vs → vs[1]? = some (.str qual t) → (∀ q ∈ news, q.1 < f) → Q (.ref f) { s with heap := h', toks := tk }) :
    wpAny M A (makeFunction name qual params (.stmts body) scope (envX cn cs L a ccd cl) [] [] [] pos firstLine) Q E s := by
  rcases hps with rfl | ⟨c', oc, vs, t, rfl, hc, hd, hv⟩
  · refine nest_K F N T C hcd U True.intro rfl hcl fun f c' oc vs t ctv doc h' tk F' N' d1 d2 l1 l2 => ?_
    refine h f c' oc vs t ctv doc h' tk F' (News.sub N' fun q hq => ?_) (N'.get (.tail _ (.head _))) (.inl (N'.fresh (.tail _ (.head _)))) d1 d2 (fun q hq => Nat.lt_trans (l1 q hq) l2)
    rcases List.mem_cons.mp hq with rfl | hq
    · exact .head _
    · exact .tail _ (.tail _ hq)
  · obtain ⟨pre, post, rfl, hgr, _, _⟩ := U.split
    refine nestHit_K (c' := c') F N T C hcd (List.mem_append_right _ (.head _)) (by simp [TriplesOk, rawInt]) (by simp [codeAmong, rawInt]) hcl fun f ctv doc h' tk F' N' l1 => ?_
    refine h f c' oc vs t ctv doc h' tk F' ?_ (F'.keep _ _ hc) (.inr rfl) hd hv l1
    rw [hgr]; exact N'
end
theorem Batches.of_idx {R : Rel} {avs : List Value} {acts : List (Int × Int)} (hac : Acts R avs acts) : ∀ {ys : List Value}, ys.length = avs.length → (∀ k, k < ys.length → ∃ ax v, ys[k]? = some (.ref ax) ∧ avs[k]? = some v ∧ R ax (tupO [v])) → Batches R ys (acts.map fun a => [a]) := by
  induction hac with
  | nil => intro ys hl _; cases ys with
    | nil => exact .nil
    | cons => simp at hl
  | cons h1 _ ih =>
    intro ys hl h
    cases ys with
    | nil => simp at hl
    | cons y ys =>
      obtain ⟨ax, v, q1, q2, q3⟩ := h 0 (by simp)
      simp at q1 q2
      subst q1 q2
      refine .cons ⟨ax, _, rfl, q3, .cons h1 .nil⟩ (ih (by simpa using hl) fun k hk => ?_)
      simpa using h (k + 1) (by simpa using hk)
theorem flat_single (acts : List (Int × Int)) : (acts.map fun a => [a]).flatten = acts := by induction acts with
  | nil => rfl
  | cons a r ih => simp [ih]
theorem flat_take {bss : List (List (Int × Int))} : ∀ {i : Nat} {b : List (Int × Int)}, bss[i]? = some b → (bss.take (i + 1)).flatten = (bss.take i).flatten ++ b ∧ ∀ j, j ≤ b.length → (bss.take i).flatten ++ b.take j = bss.flatten.take ((bss.take i).flatten.length + j) ∧ (bss.take i).flatten.length + j ≤ bss.flatten.length := by
  induction bss with
  | nil => intro i b e; simp at e
  | cons x r ih =>
    intro i b e
    cases i with
    | zero =>
      simp at e; subst e
      refine ⟨by simp, fun j hj => ⟨by simp [List.take_append_of_le_length hj], by simp; omega⟩⟩
    | succ i =>
      obtain ⟨h1, h2⟩ := ih (i := i) (b := b) (by simpa using e)
      refine ⟨by simp [h1], fun j hj => ?_⟩
      obtain ⟨h3, h4⟩ := h2 j hj
      refine ⟨?_, by simp; simp at h4; omega⟩
      simp only [List.take_succ_cons, List.flatten_cons, List.append_assoc, List.length_append]
      rw [h3, Nat.add_assoc, List.take_length_add_append]
theorem neData {h : Heap} {a b : Addr} {o o' : Obj} (e : h.get? a = some o) (e' : h.get? b = some o') (n : o.data ≠ o'.data) : @Ne Nat a b := by rintro rfl; rw [e] at e'; exact n (congrArg Obj.data (Option.some.inj e'))
theorem nwTurn {g h h' : Heap} {L D : Addr} {o o' : Obj} {pre post : List (Addr × Obj)} (N : News g L h (pre ++ (D, o) :: post)) (k : Kp [D] h h') (e : h'.get? D = some o') (n1 : ∀ q ∈ pre, q.1 ≠ D) (n2 : ∀ q ∈ post, q.1 ≠ D) : News g L h' (pre ++ (D, o') :: post) := fun q hq => by
  have zD := N (D, o) (List.mem_append_right _ (.head _))
  rcases List.mem_append.mp hq with hq | hq
  · exact ⟨k _ _ (N q (List.mem_append_left _ hq)).1 (by rw [List.mem_singleton]; exact n1 q hq), (N q (List.mem_append_left _ hq)).2⟩
  · rcases List.mem_cons.mp hq with rfl | hq
    · exact ⟨e, zD.2⟩
    · exact ⟨k _ _ (N q (List.mem_append_right _ (.tail _ hq))).1 (by rw [List.mem_singleton]; exact n2 q hq), (N q (List.mem_append_right _ (.tail _ hq))).2⟩
end Mine
end

section
open PySem PySem.W PySem.Calls PySem.Spec PyProof.Rows
namespace Mine
/-- the places as the law lays them -/
def SpotsUp (k : Int) (ss : List Int) : Prop := ss.head? = some 0 ∧ ss.Pairwise (· < ·) ∧ ∀ x ∈ ss, 0 ≤ x ∧ x ≤ k
theorem SpotsUp.one : SpotsUp 0 [0] := ⟨rfl, by simp, fun x hx => by rw [List.mem_singleton.mp hx]; omega⟩
theorem SpotsUp.add {k : Int} {ss : List Int} {x d : Int} (h : SpotsUp k ss) (hx : ss.getLast? = some x) (h0 : 0 ≤ d) (h1 : d < 2) : SpotsUp (k + 2) (ss ++ [x + 1 + d]) := by
  obtain ⟨a, b, c⟩ := h
  have hm := List.mem_of_getLast? hx
  have hxb := c x hm
  refine ⟨?_, ?_, ?_⟩
  · cases ss with
    | nil => cases a
    | cons y r => exact a
  · rw [List.pairwise_append]
    refine ⟨b, by simp, fun y hy z hz => ?_⟩
    rw [List.mem_singleton.mp hz]
    have : y ≤ x := by
      obtain ⟨r, rfl⟩ : ∃ r, ss = r ++ [x] := by
        have := List.getLast?_eq_some_iff.mp hx
        obtain ⟨r, e⟩ := this
        exact ⟨r, e⟩
      rcases List.mem_append.mp hy with hy | hy
      · exact Int.le_of_lt ((List.pairwise_append.mp b).2.2 y hy x (by simp))
      · rw [List.mem_singleton.mp hy]; omega
    omega
  · intro y hy
    rcases List.mem_append.mp hy with hy | hy
    · have := c y hy; omega
    · rw [List.mem_singleton.mp hy]; omega
section
variable {prog : Program} {w : World} {A : Around} {g : Heap} {L : Addr} {m : Str → Option Value} {env : Env} {ct elt : Expr} {x : Str} {scope : Scope} {cl : List (Str × Addr)} {s : Shared} {S : List (Addr × Obj) → Prop} {P : Nat → Value → Prop} {Fin : List Value → List (Addr × Obj) → Prop} {news : List (Addr × Obj)}
/-- a comprehension that sieves ints and changes nothing -/
theorem filtRest {n : Nat} {ks : List Int} (p : Int → Bool) (hn : ks.length = n) (hS : S news)
    (test : ∀ i v I oI C oC D m₂ ys h tk (Qe : Bool → Shared → Prop) (E' : Value → Shared → Prop), i < n → P i v → LCg.NsObj oC m₂ → m₂ x = some v → Fr g L h m → News g L h ((I, oI) :: (C, oC) :: (D, LCg.lst ys) :: news) →
      (∀ tk', Qe (p (ks.getD i 0)) { s with heap := h, toks := tk' }) →
      wpAny (model prog w) A (isTrue ct (compEnvC scope cl C env) (eval ct (compEnvC scope cl C env))) Qe E' { s with heap := h, toks := tk })
    (turn : ∀ i v I oI C oC D m₂ ys h tk (Qe E' : Value → Shared → Prop), i < n → P i v → LCg.NsObj oC m₂ → m₂ x = some v → Fr g L h m → News g L h ((I, oI) :: (C, oC) :: (D, LCg.lst ys) :: news) →
      (∀ t tk', Qe (.int (ks.getD i 0) t) { s with heap := h, toks := tk' }) →
      wpAny (model prog w) A (eval elt (compEnvC scope cl C env)) Qe E' { s with heap := h, toks := tk })
    (fin : ∀ ys, IntsAre ys (ks.filter p) → Fin ys news) :
    LCt.CompRestT prog w A g L m env ct elt x scope cl s S P Fin n 0 [] news := by
  have key : ∀ (j i : Nat) (ys : List Value), i + j = n → IntsAre ys ((ks.take i).filter p) → LCt.CompRestT prog w A g L m env ct elt x scope cl s S P Fin j i ys news := by
    intro j
    induction j with
    | zero =>
      intro i ys hi hy
      have e : i = ks.length := by omega
      subst e
      rw [List.take_length] at hy
      exact LCt.CompRestT.zero (fin ys hy)
    | succ j ih =>
      intro i ys hi hy
      refine LCt.CompRestT.succ ?_
      intro v I oI C oC D m₂ h tk E' hv hC hx F N off ne
      have hlt : i < ks.length := by omega
      have e1 : ks.take (i + 1) = ks.take i ++ [ks.getD i 0] := by
        rw [List.take_add_one, List.getD_eq_getElem?_getD]
        simp [hlt]
      refine test i v I oI C oC D m₂ ys h tk _ E' (by omega) hv hC hx F N ?_
      intro tk'
      cases hp : p (ks.getD i 0) with
      | true =>
        rw [if_pos rfl]
        refine turn i v I oI C oC D m₂ ys h tk' _ E' (by omega) hv hC hx F N ?_
        intro t tk''
        refine LCg.CompEnd.intro F N news (fun q hq => hq) off hS (ih (i + 1) _ (by omega) ?_)
        rw [e1, List.filter_append]
        refine hy.append ?_
        rw [List.filter_cons_of_pos (by exact hp)]
        exact .cons _ _ .nil
      | false =>
        rw [if_neg (by decide)]
        refine LCg.CompEnd.intro F N news (fun q hq => hq) off hS (ih (i + 1) _ (by omega) ?_)
        rw [e1, List.filter_append, List.filter_cons_of_neg (by rw [hp]; exact Bool.false_ne_true), List.filter_nil, List.append_nil]
        exact hy
  exact key n 0 [] (by omega) (by rw [List.take_zero]; exact .nil)
end
theorem filt_up {ss : List Int} {n : Int} (h : SpotsUp 6 ss) (hn : 0 < n) : SpotsUp 6 (ss.filter fun x => decide (x < n)) ∧ ∀ x ∈ ss.filter (fun x => decide (x < n)), x < n := by
  obtain ⟨a, b, c⟩ := h
  refine ⟨⟨?_, b.filter _, fun x hx => c x (List.mem_filter.mp hx).1⟩, fun x hx => by simpa using (List.mem_filter.mp hx).2⟩
  cases ss with
  | nil => cases a
  | cons y r =>
    have e : y = 0 := by simpa using a
    subst e
    rw [List.filter_cons_of_pos (by simpa using hn)]
    rfl
theorem Acts.append {R : Rel} {vs ws : List Value} {as bs : List (Int × Int)} (h : Acts R vs as) (h' : Acts R ws bs) : Acts R (vs ++ ws) (as ++ bs) := by
  induction h with
  | nil => exact h'
  | cons a _ ih => exact .cons a ih
end Mine
end

section
open PySem PySem.W PySem.Calls PySem.Spec PyProof.Rows
namespace Mine
structure Ok (z : St) : Prop where
  up : z.ps.Pairwise (· < ·)
  ne : z.ps ≠ []
  bd : ∀ x ∈ z.ps, 0 ≤ x ∧ x ≤ z.e

theorem asc_gap {ps : List Int} (up : ps.Pairwise (· < ·)) : ∀ (d i : Nat) (h : i + d < ps.length), ps[i]'(by omega) + (d : Int) ≤ ps[i + d] := by
  intro d
  induction d with
  | zero => intro i h; simp
  | succ d ih =>
    intro i h
    have a := ih i (by omega)
    have b := List.pairwise_iff_getElem.mp up (i + d) (i + (d + 1)) (by omega) h (by omega)
    omega
section
variable {ps : List Int} {e x : Int} {i : Nat}
theorem take_le (up : ps.Pairwise (· < ·)) (hi : i < ps.length) (hx : ps.getD i 0 = x) : ∀ a ∈ ps.take (i + 1), a ≤ x := by
  intro a ha
  obtain ⟨j, hj⟩ := List.mem_iff_getElem?.mp ha
  rw [List.getElem?_take] at hj
  split at hj
  · rename_i hlt
    obtain ⟨h1, h2⟩ := List.getElem?_eq_some_iff.mp hj
    have e1 : ps[i] = x := by rw [← hx, List.getD_eq_getElem?_getD]; simp [hi]
    by_cases q : j = i
    · subst q; omega
    · have := List.pairwise_iff_getElem.mp up j i h1 hi (by omega); omega
  · cases hj
theorem drop_gt (up : ps.Pairwise (· < ·)) (hi : i < ps.length) (hx : ps.getD i 0 = x) (l : Nat) : ∀ b ∈ ps.drop (i + 1 + l), x + 1 + (l : Int) ≤ b := by
  intro b hb
  obtain ⟨j, hj⟩ := List.mem_iff_getElem?.mp hb
  rw [List.getElem?_drop] at hj
  obtain ⟨h1, h2⟩ := List.getElem?_eq_some_iff.mp hj
  have e1 : ps[i] = x := by rw [← hx, List.getD_eq_getElem?_getD]; simp [hi]
  have e2 : i + (1 + l + j) = i + 1 + l + j := by omega
  have := asc_gap up (1 + l + j) i (by omega)
  simp only [e2] at this
  omega
theorem grow_up (up : ps.Pairwise (· < ·)) (bd : ∀ y ∈ ps, 0 ≤ y ∧ y ≤ e) (hi : i < ps.length) (hx : ps.getD i 0 = x) (c : Int) (hc : 0 < c) :
    (growL ps i c).Pairwise (· < ·) ∧ (∀ y ∈ growL ps i c, 0 ≤ y ∧ y ≤ e + c) ∧ (growL ps i c).length = ps.length + c.toNat := by
  have t1 := take_le up hi hx
  have d1 := drop_gt up hi hx 0
  have ei : ((i : Int) + 1).toNat = i + 1 := by omega
  have ej : (i : Int).toNat = i := by omega
  unfold growL
  rw [ei, ej, hx]
  rw [Nat.add_zero] at d1
  have hxm : x ∈ ps := by rw [← hx, List.getD_eq_getElem?_getD]; simp [hi]
  have hxb := bd x hxm
  have rng : ∀ y ∈ (List.range c.toNat).map (fun (k : Nat) => x + 1 + (k : Int)), x < y ∧ y ≤ x + c := by
    intro y hy
    obtain ⟨k, hk, rfl⟩ := List.mem_map.mp hy
    have := List.mem_range.mp hk
    omega
  refine ⟨?_, ?_, ?_⟩
  · rw [List.pairwise_append, List.pairwise_append]
    refine ⟨⟨up.sublist (List.take_sublist _ _), ?_, fun a ha b hb => ?_⟩, ?_, fun a ha b hb => ?_⟩
    · rw [List.pairwise_map]
      exact List.pairwise_lt_range.imp (fun h => by omega)
    · have := t1 a ha; have := (rng b hb).1; omega
    · rw [List.pairwise_map]
      exact (up.sublist (List.drop_sublist _ _)).imp (fun h => by omega)
    · obtain ⟨b', hb', rfl⟩ := List.mem_map.mp hb
      have := d1 b' hb'
      rcases List.mem_append.mp ha with ha | ha
      · have := t1 a ha; omega
      · have := (rng a ha).2; omega
  · intro y hy
    rcases List.mem_append.mp hy with hy | hy
    · rcases List.mem_append.mp hy with hy | hy
      · have := bd y (List.mem_of_mem_take hy); omega
      · have := rng y hy; omega
    · obtain ⟨b', hb', rfl⟩ := List.mem_map.mp hy
      have := bd b' (List.mem_of_mem_drop hb'); omega
  · simp only [List.length_append, List.length_take, List.length_map, List.length_range, List.length_drop]; omega
theorem shrink_up (up : ps.Pairwise (· < ·)) (bd : ∀ y ∈ ps, 0 ≤ y ∧ y ≤ e) (hi : i < ps.length) (hx : ps.getD i 0 = x) (l : Int) (hl : 0 < l) :
    (shrinkL ps i l).Pairwise (· < ·) ∧ (∀ y ∈ shrinkL ps i l, 0 ≤ y ∧ (y ≤ x ∨ y ≤ e - l)) ∧ (shrinkL ps i l).length ≤ ps.length ∧ shrinkL ps i l ≠ [] := by
  have t1 := take_le up hi hx
  have d1 := drop_gt up hi hx l.toNat
  have ei : ((i : Int) + 1).toNat = i + 1 := by omega
  have ej : ((i : Int) + 1 + l).toNat = i + 1 + l.toNat := by omega
  unfold shrinkL
  rw [ei, ej]
  have hxm : x ∈ ps := by rw [← hx, List.getD_eq_getElem?_getD]; simp [hi]
  have hxb := bd x hxm
  refine ⟨?_, ?_, ?_, ?_⟩
  · rw [List.pairwise_append]
    refine ⟨up.sublist (List.take_sublist _ _), ?_, fun a ha b hb => ?_⟩
    · rw [List.pairwise_map]
      exact (up.sublist (List.drop_sublist _ _)).imp (fun h => by omega)
    · obtain ⟨b', hb', rfl⟩ := List.mem_map.mp hb
      have := d1 b' hb'; have := t1 a ha; omega
  · intro y hy
    rcases List.mem_append.mp hy with hy | hy
    · have := bd y (List.mem_of_mem_take hy); have := t1 y hy; omega
    · obtain ⟨b', hb', rfl⟩ := List.mem_map.mp hy
      have := bd b' (List.mem_of_mem_drop hb'); have := d1 b' hb'; omega
  · simp only [List.length_append, List.length_take, List.length_map, List.length_drop]; omega
  · intro q
    have := congrArg List.length q
    simp only [List.length_append, List.length_take, List.length_map, List.length_drop, List.length_nil] at this
    omega
end

theorem act_ok {z : St} {i k : Int} (h : Ok z) (hi : 0 ≤ i) (hk0 : 0 ≤ k) (hk1 : k < 5) :
    Ok (actS z i k) ∧ (actS z i k).ps.length ≤ z.ps.length + 2 ∧ (actS z i k).gs.length ≤ z.gs.length + 2 ∧ (actS z i k).e ≤ z.e + 2 := by
  by_cases hc : i < z.ps.length ∧ z.ps.getD i.toNat 0 < z.gs.length
  · obtain ⟨n, rfl⟩ : ∃ n : Nat, i = n := ⟨i.toNat, by omega⟩
    have hn : n < z.ps.length := by omega
    have et : ((n : Int)).toNat = n := by omega
    rw [et] at hc
    obtain ⟨x, hx⟩ : ∃ x, z.ps.getD n 0 = x := ⟨_, rfl⟩
    rw [hx] at hc
    have hxm : x ∈ z.ps := by rw [← hx, List.getD_eq_getElem?_getD]; simp [hn]
    have hxb := h.bd x hxm
    have hcb := editL_len (gs := z.gs) (a := x) hxb.1 hc.2 hk0 hk1
    have hx' : z.ps.getD ((n : Int)).toNat 0 = x := by rw [et]; exact hx
    obtain ⟨a1, a2, a3⟩ := actS_go (z := z) (i := n) (k := k) hx' hc.1 hc.2
    generalize hcg : ((editL z.gs x k).length : Int) - z.gs.length = c at hcb a2 a3
    have hgl : (actS z n k).gs.length ≤ z.gs.length + 2 := by rw [a1]; omega
    by_cases hc0 : c = 0
    · obtain ⟨p1, p2⟩ := a2 hc0
      refine ⟨⟨by rw [p1]; exact h.up, by rw [p1]; exact h.ne, by rw [p1, p2]; exact h.bd⟩, by rw [p1]; omega, hgl, by rw [p2]; omega⟩
    · obtain ⟨p1, p2⟩ := a3 hc0
      by_cases hm : z.e + c < x
      · obtain ⟨q1, q2⟩ := move_lt (ps := z.ps) (i := (n : Int)) hx' hm
        rw [q1] at p1
        rw [q2] at p2
        by_cases hz : c + x - (z.e + c) < 0
        · rw [moveP_neg hz] at p1
          obtain ⟨s1, s2, s3, s4⟩ := shrink_up h.up h.bd hn hx (-(c + x - (z.e + c))) (by omega)
          refine ⟨⟨by rw [p1]; exact s1, by rw [p1]; exact s4, ?_⟩, by rw [p1]; omega, hgl, by rw [p2]; omega⟩
          rw [p1, p2]; intro y hy; have := s2 y hy; omega
        · rw [moveP_zero (by omega) hz] at p1
          refine ⟨⟨by rw [p1]; exact h.up, by rw [p1]; exact h.ne, ?_⟩, by rw [p1]; omega, hgl, by rw [p2]; omega⟩
          rw [p1, p2]; intro y hy; have := h.bd y hy; omega
      · obtain ⟨q1, q2⟩ := move_ge (ps := z.ps) (i := (n : Int)) hx' hm
        rw [q1] at p1
        rw [q2] at p2
        by_cases hz : c < 0
        · rw [moveP_neg hz] at p1
          obtain ⟨s1, s2, s3, s4⟩ := shrink_up h.up h.bd hn hx (-c) (by omega)
          refine ⟨⟨by rw [p1]; exact s1, by rw [p1]; exact s4, ?_⟩, by rw [p1]; omega, hgl, by rw [p2]; omega⟩
          rw [p1, p2]; intro y hy; have := s2 y hy; omega
        · rw [moveP_pos (by omega)] at p1
          obtain ⟨s1, s2, s3⟩ := grow_up h.up h.bd hn hx c (by omega)
          refine ⟨⟨by rw [p1]; exact s1, ?_, by rw [p1, p2]; exact s2⟩, by rw [p1]; omega, hgl, by rw [p2]; omega⟩
          rw [p1]; intro q; rw [q] at s3; simp at s3; omega
  · rw [actS_no hc]; exact ⟨h, by omega, by omega, by omega⟩

theorem fold_ok : ∀ {acts : List (Int × Int)} {z : St}, Ok z → (∀ a ∈ acts, 0 ≤ a.1 ∧ a.1 < 5 ∧ 0 ≤ a.2 ∧ a.2 < 5) →
    Ok (foldS z acts) ∧ (foldS z acts).ps.length ≤ z.ps.length + 2 * acts.length ∧ (foldS z acts).gs.length ≤ z.gs.length + 2 * acts.length ∧ (foldS z acts).e ≤ z.e + 2 * acts.length
  | [], z, h, _ => ⟨h, by simp [foldS], by simp [foldS], by simp [foldS]⟩
  | a :: r, z, h, hb => by
    have ha := hb a (.head _)
    obtain ⟨o, l1, l2, l3⟩ := act_ok h ha.1 ha.2.2.1 ha.2.2.2
    obtain ⟨o', m1, m2, m3⟩ := fold_ok (acts := r) o (fun b hb' => hb b (.tail _ hb'))
    have e : foldS z (a :: r) = foldS (actS z a.1 a.2) r := rfl
    rw [e]
    refine ⟨o', ?_, ?_, ?_⟩
    · simp only [List.length_cons]; omega
    · simp only [List.length_cons]; omega
    · simp only [List.length_cons]; omega
theorem fine_all {z : St} {acts : List (Int × Int)} (h : Ok z) (hb : ∀ a ∈ acts, 0 ≤ a.1 ∧ a.1 < 5 ∧ 0 ≤ a.2 ∧ a.2 < 5) (h1 : z.ps.length ≤ 4) (h2 : z.gs.length ≤ 9) (h3 : z.e ≤ 10) (hl : acts.length ≤ 5) :
    ∀ j, j ≤ acts.length → Fine (foldS z (acts.take j)) := by
  intro j hj
  obtain ⟨o, l1, l2, l3⟩ := fold_ok (acts := acts.take j) h (fun a ha => hb a (List.mem_of_mem_take ha))
  rw [List.length_take] at l1 l2 l3
  exact ⟨by omega, by omega, o.bd, by omega⟩

theorem put_take {gs ps : List Int} {e0 : Int} {n : Nat} (up : ps.Pairwise (· < ·)) (hb : ∀ x ∈ ps, 0 ≤ x ∧ x ≤ e0 ∧ x < gs.length) (hn : n < ps.length) :
    foldS ⟨gs, ps, e0 + 1⟩ [((n : Int), 1), ((n : Int), 3)] = ⟨gs, ps, e0 + 1⟩ := by
  obtain ⟨x, hx⟩ : ∃ x, ps.getD n 0 = x := ⟨_, rfl⟩
  have hxm : x ∈ ps := by rw [← hx, List.getD_eq_getElem?_getD]; simp [hn]
  obtain ⟨hx0, hx1, hx2⟩ := hb x hxm
  obtain ⟨y, rfl⟩ : ∃ y : Nat, x = y := ⟨x.toNat, by omega⟩
  have hyl : y < gs.length := by omega
  have et : ((n : Int)).toNat = n := by omega
  have e1 : editL gs (y : Int) 1 = gs.take (y + 1) ++ [9] ++ gs.drop (y + 1) := by
    unfold editL
    rw [if_neg (by decide), if_pos (by decide)]
    have : ((y : Int) + 1).toNat = y + 1 := by omega
    rw [this]; rfl
  have l1 : (editL gs (y : Int) 1).length = gs.length + 1 := by rw [e1]; simp; omega
  have s1 : actS ⟨gs, ps, e0 + 1⟩ n 1 = ⟨gs.take (y + 1) ++ [9] ++ gs.drop (y + 1), growL ps n 1, e0 + 2⟩ := by
    unfold actS
    dsimp only
    rw [et, hx, if_pos ⟨by omega, by omega⟩, l1]
    have ec : (((gs.length + 1 : Nat) : Int) - gs.length) = 1 := by omega
    rw [ec, if_neg (by decide), e1]
    obtain ⟨q1, q2⟩ := move_ge (ps := ps) (e := e0 + 1) (i := (n : Int)) (c := 1) (x := y) (by rw [et]; exact hx) (by omega)
    rw [q1, q2, moveP_pos (by decide)]
    have : e0 + 1 + 1 = e0 + 2 := by omega
    rw [this]
  have g1 : growL ps n 1 = ps.take (n + 1) ++ [(y : Int) + 1] ++ (ps.drop (n + 1)).map (· + 1) := by
    unfold growL
    have : ((n : Int) + 1).toNat = n + 1 := by omega
    rw [this, et, hx]
    simp [List.range_succ]
  have lg : (growL ps n 1).length = ps.length + 1 := by rw [g1]; simp; omega
  have gd : (growL ps n 1).getD n 0 = y := by
    rw [g1, List.getD_eq_getElem?_getD, List.append_assoc, List.getElem?_append_left (by simp; omega), List.getElem?_take, if_pos (by omega), ← List.getD_eq_getElem?_getD]
    exact hx
  have lt : (gs.take (y + 1)).length = y + 1 := by rw [List.length_take]; omega
  have e3 : editL (gs.take (y + 1) ++ [9] ++ gs.drop (y + 1)) (y : Int) 3 = gs := by
    unfold editL
    rw [if_neg (by decide), if_neg (by decide)]
    have a1 : ((y : Int) + 1).toNat = y + 1 := by omega
    have a2 : ((y : Int) + 3 - 1).toNat = y + 2 := by omega
    rw [a1, a2]
    have b1 : (gs.take (y + 1) ++ [9] ++ gs.drop (y + 1)).take (y + 1) = gs.take (y + 1) := by
      rw [List.append_assoc, List.take_append_of_le_length (by omega), List.take_of_length_le (by omega)]
    have b2 : (gs.take (y + 1) ++ [9] ++ gs.drop (y + 1)).drop (y + 2) = gs.drop (y + 1) := by
      have : (gs.take (y + 1) ++ [(9 : Int)]).length = y + 2 := by simp; omega
      rw [← this, List.drop_left]
    rw [b1, b2, List.take_append_drop]
  have s2 : actS ⟨gs.take (y + 1) ++ [9] ++ gs.drop (y + 1), growL ps n 1, e0 + 2⟩ n 3 = ⟨gs, ps, e0 + 1⟩ := by
    have lgs : (gs.take (y + 1) ++ [9] ++ gs.drop (y + 1)).length = gs.length + 1 := by simp; omega
    unfold actS
    dsimp only
    rw [et, gd, lgs, lg, if_pos ⟨by omega, by omega⟩, e3]
    have ec : ((gs.length : Int) - ((gs.length + 1 : Nat) : Int)) = -1 := by omega
    rw [ec, if_neg (by decide)]
    obtain ⟨q1, q2⟩ := move_ge (ps := growL ps n 1) (e := e0 + 2) (i := (n : Int)) (c := -1) (x := y) (by rw [et]; exact gd) (by omega)
    rw [q1, q2, moveP_neg (by decide)]
    have p1 : shrinkL (growL ps n 1) n (- -1) = ps := by
      unfold shrinkL
      have a1 : ((n : Int) + 1).toNat = n + 1 := by omega
      have a2 : ((n : Int) + 1 + - -1).toNat = n + 2 := by omega
      rw [a1, a2, g1]
      have lt' : (ps.take (n + 1)).length = n + 1 := by rw [List.length_take]; omega
      have b1 : (ps.take (n + 1) ++ [(y : Int) + 1] ++ (ps.drop (n + 1)).map (· + 1)).take (n + 1) = ps.take (n + 1) := by
        rw [List.append_assoc, List.take_append_of_le_length (by omega), List.take_of_length_le (by omega)]
      have b2 : (ps.take (n + 1) ++ [(y : Int) + 1] ++ (ps.drop (n + 1)).map (· + 1)).drop (n + 2) = (ps.drop (n + 1)).map (· + 1) := by
        have : (ps.take (n + 1) ++ [(y : Int) + 1]).length = n + 2 := by simp; omega
        rw [← this, List.drop_left]
      rw [b1, b2, List.map_map]
      have b3 : (ps.drop (n + 1)).map ((fun x => x - - -1) ∘ (· + 1)) = ps.drop (n + 1) := by
        have : ((fun x => x - - -1) ∘ (· + 1) : Int → Int) = id := by funext z; simp [Function.comp]
        rw [this, List.map_id]
      rw [b3, List.take_append_drop]
    rw [p1]
    have : e0 + 2 + -1 = e0 + 1 := by omega
    rw [this]
  show actS (actS ⟨gs, ps, e0 + 1⟩ n 1) n 3 = _
  rw [s1, s2]
theorem last_max {ss : List Int} {e0 : Int} (up : ss.Pairwise (· < ·)) (h : ss.getLast? = some e0) : ∀ x ∈ ss, x ≤ e0 := by
  obtain ⟨r, rfl⟩ := List.getLast?_eq_some_iff.mp h
  intro x hx
  rcases List.mem_append.mp hx with hx | hx
  · exact Int.le_of_lt ((List.pairwise_append.mp up).2.2 x hx e0 (by simp))
  · rw [List.mem_singleton.mp hx]; omega
end Mine
end

section
open PySem PySem.W PySem.Calls PySem.Spec PyProof.Rows
namespace Mine
/-- a tuple of two int lists and an int -/
def Trip (h : Heap) (r : Addr) (gs ps : List Int) (e : Int) : Prop := ∃ g p t gv pv gn pn, h.get? r = some (tupO [.ref g, .ref p, .int e t]) ∧ h.get? g = some (lo gv gn) ∧ IntsAre gv gs ∧ h.get? p = some (lo pv pn) ∧ IntsAre pv ps
abbrev tripD (gs ps : List Int) (e : Int) : PyData := .tuple [.list (gs.map .int), .list (ps.map .int), .int e]
theorem Trip.reads {h : Heap} {r : Addr} {gs ps : List Int} {e : Int} (H : Trip h r gs ps e) : ∃ as, Reads h (.ref r) (tripD gs ps e) as := by
  obtain ⟨g, p, t, gv, pv, gn, pn, h1, h2, h3, h4, h5⟩ := H
  exact ⟨_, reads_tuple_at h1 rfl rfl (ReadsAll.cons (reads_newData (isList_of h2) (ke_carried h3)) (ReadsAll.cons (reads_newData (isList_of h4) (ke_carried h5)) (ReadsAll.cons (Reads.int _ _) ReadsAll.nil)))⟩
theorem trip_shaped (gs ps : List Int) (e : Int) : SeqAt.shaped (tripD gs ps e) = true := by
  simp [SeqAt.shaped, PyData.canLay0, PyData.canLayAll0, PyData.depth, PyData.depthAll, ke_canLayAll0, ke_depthAll]
theorem trip_eqv (gs ps : List Int) (e : Int) : PyData.eqv (tripD gs ps e) (tripD gs ps e) = true := by
  simp [PyData.eqv, PyData.eqvAll, ked_eqvAll]
section
variable {prog : Program} {w : World} {A : Around} {E : Value → Shared → Prop} {s : Shared} {Q : Value → Shared → Prop}
theorem trip_ne {r1 r2 : Addr} {gs ps : List Int} {e : Int} (H1 : Trip s.heap r1 gs ps e) (H2 : Trip s.heap r2 gs ps e) (hu : A.units + 64 < cLine) (h : Q (.bool false) s) : wpAny (model prog w) A (compareOp .NotEq (.ref r1) (.ref r2)) Q E s := by
  obtain ⟨_, ra⟩ := H1.reads
  obtain ⟨_, rb⟩ := H2.reads
  exact ne_dataH ra rb (trip_shaped _ _ _) (trip_shaped _ _ _) hu (by rw [trip_eqv]; exact h)
theorem trip_eq {r1 r2 : Addr} {gs ps : List Int} {e : Int} (H1 : Trip s.heap r1 gs ps e) (H2 : Trip s.heap r2 gs ps e) (hu : A.units + 64 < cLine) (h : Q (.bool true) s) : wpAny (model prog w) A (compareOp .Eq (.ref r1) (.ref r2)) Q E s := by
  obtain ⟨_, ra⟩ := H1.reads
  obtain ⟨_, rb⟩ := H2.reads
  exact eq_dataH ra rb (trip_shaped _ _ _) (trip_shaped _ _ _) hu (by rw [trip_eqv]; exact h)
theorem ints_ne {l1 l2 : Addr} {v1 v2 : List Value} {ns : List Int} (H1 : s.heap.IsList l1 v1.toArray) (h1 : IntsAre v1 ns) (H2 : s.heap.IsList l2 v2.toArray) (h2 : IntsAre v2 ns) (hu : A.units + 64 < cLine) (h : Q (.bool false) s) :
    wpAny (model prog w) A (compareOp .NotEq (.ref l1) (.ref l2)) Q E s := by
  refine ke_ne_ints H1 H2 h1 h2 hu ?_
  simpa using h
end
theorem sorted_eq : ∀ {ns ps : List Int}, ns.Perm ps → ns.Pairwise (· ≤ ·) → ps.Pairwise (· < ·) → ns = ps
  | [], ps, p, _, _ => (List.Perm.nil_eq p)
  | a :: r, [], p, _, _ => absurd p.length_eq (by simp)
  | a :: r, b :: t, p, h1, h2 => by
    have ha : a ∈ b :: t := p.mem_iff.mp (.head _)
    have hb : b ∈ a :: r := p.mem_iff.mpr (.head _)
    have e : a = b := by
      rcases List.mem_cons.mp ha with q | q
      · exact q
      · have l1 := (List.pairwise_cons.mp h2).1 a q
        rcases List.mem_cons.mp hb with q2 | q2
        · exact q2.symm
        · have := (List.pairwise_cons.mp h1).1 b q2; omega
    subst e
    rw [sorted_eq (List.Perm.cons_inv p) (List.pairwise_cons.mp h1).2 (List.pairwise_cons.mp h2).2]
theorem nodup_up {ps : List Int} (h : ps.Pairwise (· < ·)) : ps.Nodup := h.imp (fun h => Int.ne_of_lt h)
end Mine
end

section
open PySem PySem.W PySem.Calls PySem.Spec PyProof.Rows
set_option maxHeartbeats 4000000
theorem Mine.fillItDn : PySem.Challenge.rw_pb0189_01 = PySem.Challenge.rw_pb0189_01 ∧ Mine.K = Mine.K := by
  w_top off; k_fill; exact ⟨rfl, rfl⟩
namespace Mine
section
variable {prog : Program} {w : World} {p : Program} {loose : List Str} {mean : ExcName → Option Value} {mg mb : Str → Option Value} {G : Heap} {A : Around} {s : Shared} {Q E : Value → Shared → Prop}
local macro_rules | `(tactic| walk_at "void0") => `(tactic| fail)
local macro_rules | `(tactic| walk_at "eval Name") => `(tactic| (k_here; k_dflt (refine' nameX_L ?k1 ?k2 ?_ ?a ?b; (case a => rfl); (case b => rfl); (case k1 => k_asm); (case k2 => with_reducible assumption); k_whole)))
local macro_rules | `(tactic| k_all) => `(tactic| with_reducible assumption)
theorem done_raw (am : Amb w p loose mean mg mb G) (hCd : CodeHd G 334 332) (hs : G.StaysIn s.heap) (hroom : A.depth + 100 < recursionLimit) (hh : A.handled = none) {ga sa aa : Addr} {gvs svs avs : List Value} {gn sn an : Nat} {gs ps : List Int} {acts : List (Int × Int)} {bb : Bool} {tps : Array Value} {e0 : Int}
    (hga : at_ G s.heap ga (lo gvs gn)) (hgi : IntsAre gvs gs) (hsa : at_ G s.heap sa (lo svs sn)) (hsi : IntsAre svs ps) (haa : at_ G s.heap aa (lo avs an)) (hac : Acts (at_ G s.heap) avs acts)
    (hgl : gs.length ≤ 20) (hpl : ps.length ≤ 20) (hpe : ps.getLast? = some e0) (he0 : 0 ≤ e0) (he1 : e0 < 100) (hal : acts.length ≤ 20)
    (htab : at_ G s.heap 332 (tabObj tps)) (htc : TabC (at_ G s.heap) tps) (hfine : ∀ j, j ≤ acts.length → Fine (foldS ⟨gs, ps, e0 + 1⟩ (acts.take j))) (hacts : ∀ a ∈ acts, 0 ≤ a.1 ∧ a.1 < 100 ∧ 0 ≤ a.2 ∧ a.2 < 5)
    (ret : ∀ v h' tk' tps', Kp [332] s.heap h' → IsRes (at_ G h') v (foldS ⟨gs, ps, e0 + 1⟩ acts) → at_ G h' 332 (tabObj tps') → TabX (at_ G h') tps' → Q v { s with heap := h', toks := tk' }) :
    wpAny (model prog w) A (call (.ref 335) [.ref ga, .ref sa, .ref aa, .bool bb]) Q E s := by
  rcases A with ⟨ahd, adp, afr, agd, aun⟩
  dsimp only at hh hroom
  subst hh
  obtain ⟨hga1, hga0⟩ := hga
  obtain ⟨hsa1, hsa0⟩ := hsa
  obtain ⟨haa1, haa0⟩ := haa
  obtain ⟨htb1, htb0⟩ := htab
  have X := am.X
  have T := am.T
  refine' enterKC [(332, tabObj tps)] X T hs ?ho ?hcd (by (try dsimp only); omega) ?hbind ?hkind ?hnd ?hn ?_ ?hco ?hgen ?hk
  case ho => k_is
  case hcd => k_is
  case hbind => exact BindsTo.of_eq rfl
  case hkind => exact rfl
  case hnd => decide +kernel
  case hn => first | ((repeat' (first | exact List.forall_mem_nil _ | refine' List.forall_mem_cons.mpr ⟨?_, ?_⟩ | k_mem | exact htb1 | exact fun h => htb1 (List.mem_singleton.mp h) | exact htb0 | exact fun h => htb0 (List.mem_singleton.mp h) | refine' And.intro ?_ ?_ | (refine' Or.inr ?_; k_mem) | (refine' Or.inl ?_; k_mem) | refine' List.Mem.tail _ ?_)); done) | simp [htb1, htb0]
  case hco => exact rfl
  case hgen => exact rfl
  case hk => exact rfl
  k_whole
  intro g L h₁ tk0 cells F N Y X T hg hL hGg
  have hY := CellsAre.one Y
  obtain ⟨o', hE', d1'⟩ := hY
  subst hE'
  clear Y
  simp only [List.cons_append, List.nil_append] at N
  have g332 := (N (332, tabObj tps) (by walk_at "mem")).2
  have hgg : g.get? ga = some (lo gvs gn) := hg _ _ hga1 (by simp only [List.map_cons, List.map_nil, List.mem_singleton]; exact neCls hga1 htb1 (by walk_at "mem"))
  have hsg : g.get? sa = some (lo svs sn) := hg _ _ hsa1 (by simp only [List.map_cons, List.map_nil, List.mem_singleton]; exact neCls hsa1 htb1 (by walk_at "mem"))
  have hag : g.get? aa = some (lo avs an) := hg _ _ haa1 (by simp only [List.map_cons, List.map_nil, List.mem_singleton]; exact neCls haa1 htb1 (by walk_at "mem"))
  have hglen := hgi.length
  repeat' ((fail_if_success (with_reducible show wpAny _ _ (eval (PySem.Expr.ListComp _ _ _ _) _) _ _ _)); walk_at "one")
  all_goals (try dsimp only)
  refine LCg.ListComp_U (F₀ := by k_asm) (by with_unfolding_all rfl) (by decide) (by rfl) (by decide) (by rfl) ?_
  (repeat' walk_at "one")
  refine LCg.CompSrc.base rfl F N (isList_of hgg) (by rw [sizeLine_eq, List.size_toArray]; omega) ?_
  intro g'
  try dsimp only
  refine infoRest (gs := gs) (by rw [List.size_toArray]; exact hglen.symm) (fun _ _ => .inl (isList_of hgg)) ?_ ?_
  · intro i v I oI C oC D m₂ ys news h tk Qe E' hi' hv hC hx F N hsub hret
    obtain ⟨tv, hvv⟩ := hgi.get i (gs.getD i 0) (by rw [List.getD_eq_getElem?_getD]; rw [List.size_toArray, hglen] at hi'; simp [hi'])
    have ev : v = .int (gs.getD i 0) tv := by
      have : gvs[i]? = some v := by simpa using hv
      rw [hvv] at this; exact (Option.some.inj this).symm
    subst ev
    (repeat' walk_at "one")
    refine ⟨X.keeps F.keep, ?_⟩
    refine info_new (s := ⟨_, _, _, _, _⟩) am (fun b o q => F.keep b o (hGg b o q)) (by rw [depth_deeper]; (try dsimp only); omega) ?_
    intro h3 tk3 x dx es ne k3 hx hdx hgl n1 n2 n0
    exact hret _ _ x dx es ne _ k3 hx hdx hgl n1 n2 n0
  · intro ys news hsub hinf
    unfold LCg.FinE
    intro D h tk F N off
    try dsimp only
    have m1 : (L + 1, o') ∈ news := hsub _ (by walk_at "mem")
    have m2 : (332, tabObj tps) ∈ news := hsub _ (by walk_at "mem")
    have h332L : @LT.lt Nat _ 332 L := hL _ _ htb1
    (repeat' walk_at "one")
    refine ⟨X.keeps F.keep, ?_⟩
    refine buffer_new (s := ⟨_, _, _, _, _⟩) am (fun b o q => F.keep b o (hGg b o q)) (by rw [depth_deeper]; (try dsimp only); omega) ?_
    intro h2 tk2 bu bd u1 u2 u3 u4 b2 b3 b4 k2 hbu hbd nbu nbd nbb
    have F2 := frKp F k2 (fun _ h => nomatch h)
    have N2 := nwKp N k2 (fun _ _ h => nomatch h)
    have obu := newOf F nbu
    have obd := newOf F nbd
    have N3 : News g L h2 [(L + 1, o'), (332, tabObj tps)] := News.sub N2 (fun q hq => by
      simp only [List.mem_cons, List.not_mem_nil, or_false] at hq
      rcases hq with rfl | rfl
      · exact .tail _ m1
      · exact .tail _ m2)
    have hinf2 : Infos (at_ G h2) ys gs := hinf.mono fun a o _ hq => atN hGg N2 (.tail _ hq)
    have hD2 : at_ G h2 D (LCg.lst ys) := atN hGg N2 (.head _)
    have hbu2 : at_ G h2 bu (instObj 219 bd) := at_new (fun b o q => F.keep b o (hGg b o q)) nbu hbu
    have hbd2 := at_new (fun b o q => F.keep b o (hGg b o q)) nbd hbd
    obtain ⟨tail, Nt, hto, hall⟩ := withAllBut F2 N3
    simp only [List.cons_append, List.nil_append] at Nt
    have ht1 : ∀ q ∈ tail, q.1 ≠ L + 1 := hto _ (by walk_at "mem")
    have ht2 : ∀ q ∈ tail, q.1 ≠ 332 := hto _ (by walk_at "mem")
    have hOd : ∀ b ∈ [L, L + 1, 332], Odd h2 b := by
      intro b hb
      simp only [List.mem_cons, List.not_mem_nil, or_false] at hb
      rcases hb with rfl | rfl | rfl
      · exact odd_fr F2 (fun x hx => by simp only [oddNames, List.mem_cons, List.not_mem_nil, or_false] at hx; rcases hx with rfl | rfl | rfl | rfl <;> rfl)
      · exact odd_data (Nt.get (by k_mem)) (by rw [d1']; simp) (by rw [d1']; simp) (by rw [d1']; simp)
      · exact odd_data (Nt.get (a := 332) (o := tabObj tps) (by k_mem)) (by walk_at "mem") (by walk_at "mem") (by walk_at "mem")
    have hBu2 : IsBu w (at_ G h2) L bu bd gs := ⟨u1, u2, u3, u4, b2, b3, b4, D, ys, _, hbu2, hbd2, hD2, hinf2, frNeL F2 hD2.1 (fun _ _ q => by cases q)⟩
    clear F N N2 N3 off
    try dsimp only
    repeat' ((fail_if_success (with_reducible show wpAny _ _ (exec (PySem.Stmt.Assign _ (PySem.Expr.ListComp _ _ _ _) _) _) _ _ _)); walk_at "one")
    all_goals (try dsimp only)
    rename Fr _ _ _ _ => F3
    rename News _ _ _ _ => N3
    rename _ = Data.cell (some _) => hcell
    refine LCg.Assign_ListComp_U (F₀ := by k_asm) (by rfl) (by with_unfolding_all rfl) (by with_unfolding_all rfl) (by decide) (by rfl) (by decide) (by rfl) (by rfl) (by rfl) ?_
    (repeat' walk_at "one")
    rename IsRange _ _ _ _ _ _ _ _ => R0
    rename Fr _ _ _ _ => F4
    rename News _ _ _ _ => N4
    refine LCg.CompSrc.range rfl F4 N4 R0 (small_one (by omega) (by omega) (by omega) (by omega)) (rangeSize_nat _ _) (by rw [sizeLine_eq]; omega) ?_
    intro g'
    try dsimp only
    refine objRest 43 (fun i od => ∃ t1 t2 t3 t4 v1 v2 v4 t, od = dictOf [ent w "kind" t1 v1, ent w "flag" t2 v2, ent w "mark_set" t3 (.int (i : Int) t), ent w "tables" t4 v4] 4) (fun _ _ => trivial) ?_ ?_
    · intro i v I oI C oC D m₂ ys news h tk Qe E' hi' hv hC hx F N hsub hret
      obtain ⟨tv, rfl⟩ := hv
      obtain ⟨tl0, Nt0, hal0⟩ := withAll F N
      simp only [List.cons_append] at Nt0
      clear N
      (repeat' walk_at "one")
      rename Fr _ _ _ _ => F5
      rename News _ _ _ _ => N5
      have k5 := hal0 _ _ F5 (News.sub N5 (fun q hq => by (first | ((repeat' (first | exact List.forall_mem_nil _ | refine' List.forall_mem_cons.mpr ⟨?_, ?_⟩ | k_mem | exact hq | exact fun h => hq (List.mem_singleton.mp h) | refine' And.intro ?_ ?_ | (refine' Or.inr ?_; k_mem) | (refine' Or.inl ?_; k_mem) | refine' List.Mem.tail _ ?_)); done) | simp [hq])))
      refine ⟨X.keeps F5.keep, ?_⟩
      refine lookup_new (s := ⟨_, _, _, _, _⟩) am (fun b o q => F5.keep b o (hGg b o q)) (by rw [depth_deeper]; (try dsimp only); omega) ?_
      intro h6 tk6 a d r1 r2 r3 r4 k6 ha hd n1 n2 n3
      have F6 := frKp F5 k6 (fun _ h => nomatch h)
      rw [Int.zero_add] at hd
      refine hret _ _ a d _ F6 (k5.trans (k6.mono (by walk_at "mem"))) ha hd ⟨r1, r2, r3, r4, _, _, _, _, rfl⟩ ?_ ?_ n3
      · exact noneBack F5 k5 (fun b hb => .inl (List.mem_singleton.mp hb)) n1
      · exact noneBack F5 k5 (fun b hb => .inl (List.mem_singleton.mp hb)) n2
    · intro ys2 news2 hsub2 hl5 hmk
      unfold LCg.FinA
      intro D2 h5 tk5 F5 N5 off5
      try dsimp only
      have c1 := hsub2 _ (List.Mem.head _)
      have c2 : (332, tabObj tps) ∈ news2 := hsub2 _ (by walk_at "mem")
      have kc := hall _ _ F5 (News.sub N5 (fun q hq => .tail _ (hsub2 q (by first | ((repeat' (first | exact List.forall_mem_nil _ | refine' List.forall_mem_cons.mpr ⟨?_, ?_⟩ | k_mem | exact hq | exact fun h => hq (List.mem_singleton.mp h) | refine' And.intro ?_ ?_ | (refine' Or.inr ?_; k_mem) | (refine' Or.inl ?_; k_mem) | refine' List.Mem.tail _ ?_)); done) | simp [hq]))))
      simp only [List.map_cons, List.map_nil] at kc
      have hBu5 := hBu2.kpA kc (fun b hb => (hOd b hb).alien)
      have hLk5 : IsLks w (at_ G h5) D2 := by
        refine ⟨ys2, _, atN hGg N5 (.head _), hl5, fun k hk => ?_⟩
        obtain ⟨a, d, od, q1, q2, q3, t1, t2, t3, t4, v1, v2, v4, t, rfl⟩ := hmk k (by simpa using hk)
        exact ⟨_, q1, a, d, t1, t2, t3, t4, v1, v2, v4, t, rfl, atN hGg N5 (.tail _ q2), atN hGg N5 (.tail _ q3)⟩
      have N6 : News g L h5 [(L + 1, _), (332, tabObj tps)] := News.sub N5 (fun q hq => by
        simp only [List.mem_cons, List.not_mem_nil, or_false] at hq
        rcases hq with rfl | rfl
        · exact .tail _ c1
        · exact .tail _ c2)
      have hOd5 : ∀ b ∈ [L, L + 1, 332], Odd h5 b := by
        intro b hb
        simp only [List.mem_cons, List.not_mem_nil, or_false] at hb
        rcases hb with rfl | rfl | rfl
        · exact odd_fr F5 (fun x hx => by simp only [oddNames, List.mem_cons, List.not_mem_nil, or_false] at hx; rcases hx with rfl | rfl | rfl | rfl <;> rfl)
        · exact odd_data (N6.get (by k_mem)) (by rw [hcell]; simp) (by rw [hcell]; simp) (by rw [hcell]; simp)
        · exact odd_data (N6.get (a := 332) (o := tabObj tps) (by k_mem)) (by walk_at "mem") (by walk_at "mem") (by walk_at "mem")
      clear hall hto ht1 ht2
      obtain ⟨tail2, Nt, hto, hall⟩ := withAllBut F5 N6
      simp only [List.cons_append, List.nil_append] at Nt
      have ht1 : ∀ q ∈ tail2, q.1 ≠ L + 1 := hto _ (by walk_at "mem")
      have ht2 : ∀ q ∈ tail2, q.1 ≠ 332 := hto _ (by walk_at "mem")
      have oD2 : D2 ≠ L ∧ g.get? D2 = none := (N5 _ (List.Mem.head _)).2
      have Nd := nwCons Nt (N5.get (List.Mem.head _)) oD2.1 oD2.2
      have hy0 : ∃ a, ys2[0]? = some (.ref a) := by obtain ⟨a, d, od, q1, _⟩ := hmk 0 (by walk_at "mem"); exact ⟨a, q1⟩
      obtain ⟨la0, hy0⟩ := hy0
      have h2l : D2 ≠ L + 1 := by
        intro q
        have e1 := N5.get (List.Mem.head _)
        have e2 := Nt.get (a := L + 1) (by k_mem)
        rw [q, e2] at e1
        have e3 := congrArg Obj.data (Option.some.inj e1)
        rw [hcell] at e3; cases e3
      try dsimp only
      repeat' ((fail_if_success (with_reducible show wpAny _ _ (call _ _ _) _ _ _)); walk_at "one")
      all_goals (try dsimp only)
      rename Fr _ _ _ _ => Fa
      rename News _ _ _ _ => Na
      refine ⟨X.keeps Fa.keep, ?_⟩
      refine classdef_new (s := ⟨_, _, _, _, _⟩) am (fun b o q => Fa.keep b o (hGg b o q)) (by rw [depth_deeper]; (try dsimp only); omega) ?_
      intro h11 tk11 x11 k11
      have F11 := frKp Fa k11 (fun _ h => nomatch h)
      have N11 := nwKp Na k11 (fun _ _ h => nomatch h)
      clear Fa Na
      try dsimp only
      repeat' ((fail_if_success (with_reducible show wpAny _ _ (call _ _ _) _ _ _)); walk_at "one")
      all_goals (try dsimp only)
      rename Fr _ _ _ _ => Fa
      rename News _ _ _ _ => Na
      refine ⟨X.keeps Fa.keep, ?_⟩
      refine classdef_new (s := ⟨_, _, _, _, _⟩) am (fun b o q => Fa.keep b o (hGg b o q)) (by rw [depth_deeper]; (try dsimp only); omega) ?_
      intro h12 tk12 x12 k12
      have F12 := frKp Fa k12 (fun _ h => nomatch h)
      have N12 := nwKp Na k12 (fun _ _ h => nomatch h)
      clear Fa Na
      try dsimp only
      repeat' ((fail_if_success (with_reducible show wpAny _ _ (call _ _ _) _ _ _)); walk_at "one")
      all_goals (try dsimp only)
      rename Fr _ _ _ _ => Fa
      rename News _ _ _ _ => Na
      refine ⟨X.keeps Fa.keep, ?_⟩
      refine gdef_new (s := ⟨_, _, _, _, _⟩) am (fun b o q => Fa.keep b o (hGg b o q)) (by rw [depth_deeper]; (try dsimp only); omega) ?_
      intro h13 tk13 x13 k13
      have F13 := frKp Fa k13 (fun _ h => nomatch h)
      have N13 := nwKp Na k13 (fun _ _ h => nomatch h)
      clear Fa Na
      try dsimp only
      repeat' ((fail_if_success (with_reducible show wpAny _ _ (call _ _ _) _ _ _)); (fail_if_success (with_reducible show wpAny _ _ (subscriptTail _ _ _ _) _ _ _)); walk_at "one")
      all_goals (try dsimp only)
      refine itemL (s := ⟨_, _, _, _, _⟩) (vs := ys2) (News.isList N13 (by k_mem)) (by decide) (by decide) hy0 ?_
      try dsimp only
      repeat' ((fail_if_success (with_reducible show wpAny _ _ (call _ _ _) _ _ _)); walk_at "one")
      all_goals (try dsimp only)
      have kc2 := hall _ _ F13 (News.sub N13 (fun q hq => by (first | ((repeat' (first | exact List.forall_mem_nil _ | refine' List.forall_mem_cons.mpr ⟨?_, ?_⟩ | k_mem | exact hq | exact fun h => hq (List.mem_singleton.mp h) | refine' And.intro ?_ ?_ | (refine' Or.inr ?_; k_mem) | (refine' Or.inl ?_; k_mem) | refine' List.Mem.tail _ ?_)); done) | simp [hq])))
      simp only [List.map_cons, List.map_nil] at kc2
      have hBu13 := hBu5.kpA kc2 (fun b hb => (hOd5 b hb).alien)
      have hLk13 := hLk5.kpO kc2 hOd5
      have N13l : News g L h13 [(L + 1, _), (332, tabObj tps), (D2, LCg.lst ys2)] := News.sub N13 (fun q hq => by
        simp only [List.mem_cons, List.not_mem_nil, or_false] at hq
        rcases hq with rfl | rfl | rfl <;> k_mem)
      refine ⟨X.keeps F13.keep, ?_⟩
      refine scene_new5 (s := ⟨_, _, _, _, _⟩) am (fun b o q => F13.keep b o (hGg b o q)) (by rw [depth_deeper]; (try dsimp only); omega) ?_
      intro h14 tk14 sc sd r1 r2 r3 r4 r5 r6 r7 td st tcs k14 hsc hsd hst hstn hs1 hs2 n1 n2 n3
      have F14 := frKp F13 k14 (fun _ h => nomatch h)
      have N14 := nwKp N13l k14 (fun _ _ h => nomatch h)
      have gst := newOf F13 hstn
      have hst14 : at_ G h14 st (lo [.int 0 tcs] 0) := at_new (fun b o q => F13.keep b o (hGg b o q)) hstn hst
      have hBu14 := (hBu13.fresh hstn).kp0 k14
      have hLk14 := hLk13.kp0 k14
      have hSc14 : IsSc w (at_ G h14) sc bu D2 st := ⟨sd, r1, r2, r3, r4, r5, r6, r7, _, _, _, _, td, at_new (fun b o q => F13.keep b o (hGg b o q)) n1 hsc, at_new (fun b o q => F13.keep b o (hGg b o q)) n2 hsd⟩
      have hD2st : @Ne Nat D2 st := ne_live (N13l.get (a := D2) (by k_mem)) hstn
      clear hall hto ht1 ht2
      have N14l : News g L h14 [(L + 1, _), (332, tabObj tps)] := News.sub N14 (fun q hq => by
        simp only [List.mem_cons, List.not_mem_nil, or_false] at hq
        rcases hq with rfl | rfl <;> k_mem)
      obtain ⟨tail3, Nt3, hto, hall⟩ := withAllBut F14 N14l
      simp only [List.cons_append, List.nil_append] at Nt3
      have ht1 : ∀ q ∈ tail3, q.1 ≠ L + 1 := hto _ (by walk_at "mem")
      have ht2 : ∀ q ∈ tail3, q.1 ≠ 332 := hto _ (by walk_at "mem")
      have hOd14 : ∀ b ∈ [L, L + 1, 332], Odd h14 b := by
        intro b hb
        simp only [List.mem_cons, List.not_mem_nil, or_false] at hb
        rcases hb with rfl | rfl | rfl
        · exact odd_fr F14 (fun x hx => by simp only [oddNames, List.mem_cons, List.not_mem_nil, or_false] at hx; rcases hx with rfl | rfl | rfl | rfl <;> rfl)
        · exact odd_data (N14l.get (by k_mem)) (by rw [hcell]; simp) (by rw [hcell]; simp) (by rw [hcell]; simp)
        · exact odd_data (N14l.get (a := 332) (o := tabObj tps) (by k_mem)) (by walk_at "mem") (by walk_at "mem") (by walk_at "mem")
      try dsimp only
      repeat' ((fail_if_success (with_reducible show wpAny _ _ (exec (PySem.Stmt.FunctionDef _ _ _ _ _ _ _ _ _ _) _) _ _ _)); walk_at "one")
      all_goals (try dsimp only)
      rename Fr _ _ _ _ => Fd
      rename News _ _ _ _ => Nd15
      have hCg : CodeHd g 334 332 := hCd.keeps hGg
      refine' nestDef_K ?d0 ?k0 ?a0 ?_
      case d0 => exact rfl
      case k0 => exact rfl
      case a0 => exact rfl
      refine' nestAny2 (s := ⟨_, _, _, _, _⟩) (c := 334) (P := 332) Fd Nd15 T hCg rfl ?U ?hps ?cl ?_
      case U => k_updF
      case hps =>
        rcases htc with q | ⟨c', oc, vsc, t, q, q1, q2, q3⟩
        · exact .inl q
        · refine .inr ⟨c', oc, vsc, t, q, hg _ _ q1.1 ?_, q2, q3⟩
          simp only [List.map_cons, List.map_nil, List.mem_singleton]
          intro e
          have q1' := q1.1
          rw [e, htb1] at q1'
          have e2 := Option.some.inj q1'
          subst e2
          cases q2
          subst q
          simp [rawInt] at q3
      case cl => exact rfl
      k_whole
      intro fa c' oc vsc t ctv doc h15 tk15 F15 N15 hc15 hcc hdc hvc lf
      try dsimp only
      try dsimp only at N15
      have hGg15 : G.StaysIn h15 := fun b o q => F15.keep b o (hGg b o q)
      have hcG : G.get? c' = none := by
        rcases hcc with q | q
        · cases e : G.get? c' with
          | none => rfl
          | some o => have := hGg _ _ e; rw [q] at this; cases this
        · rcases htc with r | ⟨c2, oc2, vs2, t2, r, r1, _⟩
          · rw [r] at q; simp at q
          · rw [r] at q
            have e : c2 = c' := by simpa using q
            rw [← e]; exact r1.2
      have hc15' : at_ G h15 c' oc := ⟨hc15, hcG⟩
      obtain ⟨co, hco15, hcod⟩ : ∃ co, at_ G h15 (L + 1) co ∧ co.data = .cell (some (.ref bu)) := ⟨_, atN hGg N15 (.tail _ (List.Mem.head _)), hcell⟩
      obtain ⟨fo, hfo15, ⟨fod, fd, fsl, rfl⟩, hap⟩ : ∃ fo, at_ G h15 fa fo ∧ (∃ fod fd fsl, fo = (⟨.type "function", fod, .func fd, fsl⟩ : Obj)) ∧ ApplyOk prog w G fa bu bd st [(fa, fo), (L + 1, co), (c', oc)] := by
        refine ⟨_, atN hGg N15 (List.Mem.head _), ⟨_, _, _, rfl⟩, ?_⟩
        intro A' s' Q' E' gs' fs a k ta hdep hh' hs' hFO hB hIn hav hgl' ha0 ha1 hk0 hk1 ret'
        rcases A' with ⟨ahd', adp', afr', agd', aun'⟩
        dsimp only at hh' hdep
        subst hh'
        have hfo := hFO _ (List.Mem.head _)
        have hco := hFO _ (.tail _ (List.Mem.head _))
        have hcc' := (hFO (c', oc) (by walk_at "mem")).1
        obtain ⟨b1, b2, b3, b4, v2, v3, v4, rw_, ws, nb, ⟨hbu, hbu0⟩, ⟨hbd, hbd0⟩, ⟨hrw, hrw0⟩, hinf, hrwst⟩ := hB
        obtain ⟨fd_, u1, u2, u3, u4, u5, u6, u7, y1, y2, y3, lv, y5, y6, y7, ⟨hfs, hfs0⟩, ⟨hfd, hfd0⟩, la2, ld, l1, l2, l3, l4, z1, z2, z4, tz, rfl, ⟨hla, hla0⟩, ⟨hld, hld0⟩⟩ := hIn
        refine enter (news := [(bd, dictOf [ent w "row" b1 (.ref rw_), ent w "is_backward" b2 v2, ent w "last_lig" b3 v3, ent w "last_split" b4 v4] 4), (L + 1, co), (bu, instObj 219 bd), (rw_, lo ws nb), (fs, instObj 65 fd_), (fd_, dictOf [ent w "buffer" u1 y1, ent w "gdef" u2 y2, ent w "lookups" u3 y3, ent w "lookup" u4 (.ref la2), ent w "mask" u5 y5, ent w "depth" u6 y6, ent w "steps" u7 y7] 7), (la2, instObj 43 ld), (ld, dictOf [ent w "kind" l1 z1, ent w "flag" l2 z2, ent w "mark_set" l3 (.int k tz), ent w "tables" l4 z4] 4)])
          hfo.1 rfl (am.T.nolimit.keeps hs') ⟨c', oc, vsc, t, rfl, hcc', hdc, hvc⟩ (by (try dsimp only); omega) (BindsTo.of_eq rfl) (locs rfl) ?hn ?_ ?hcell rfl rfl rfl
        case hn => simp only [List.forall_mem_cons]; exact ⟨hbd, hco.1, hbu, hrw, hfs, hfd, hla, hld, (fun _ h => nomatch h)⟩
        case hcell => decide
        k_whole
        intro g' L' h1' F' N' hg' hL'
        have hGg' : G.StaysIn g' := stays_of hs' (by simp only [List.forall_mem_cons]; exact ⟨⟨hbd, hbd0⟩, hco, ⟨hbu, hbu0⟩, ⟨hrw, hrw0⟩, ⟨hfs, hfs0⟩, ⟨hfd, hfd0⟩, ⟨hla, hla0⟩, ⟨hld, hld0⟩, (fun _ h => nomatch h)⟩) hg'
        have X' := am.X.keeps hGg'
        have T' := am.T.keeps hGg'
        clear hFO hcc hgg hsg hag
        repeat' ((fail_if_success (with_reducible show wpAny _ _ (call _ _ _) _ _ _)); walk_at "one")
        all_goals (try dsimp only)
        have k1 : Kp [] s'.heap h1' := kp_of hg' F' N' (by simp only [List.forall_mem_cons]; exact ⟨hbd, hco.1, hbu, hrw, hfs, hfd, hla, hld, (fun _ h => nomatch h)⟩) (fun q hq => .inr hq)
        refine ⟨X'.keeps F'.keep, ?_⟩
        refine edit_raw (s := ⟨_, _, _, _, _⟩) am (fun b o q => F'.keep b o (hGg' b o q)) (by rw [depth_deeper]; (try dsimp only); omega) rfl (gs := gs') ⟨k1 _ _ hrw (by walk_at "mem"), hrw0⟩ (hinf.kp k1 (fun _ h => nomatch h)) (by omega) ha0 (by omega) hk0 hk1 ?_
        intro h2 tk2 rl' vs' n' k2 hrl' nrl' hI2
        have F2 := frKp F' k2 (fun _ h => nomatch h)
        have o2 := newOf F' nrl'
        have N2 := nwKp N' k2 (fun _ _ h => nomatch h)
        have e1 : @Ne Nat bu bd := neCls hbu hbd (by walk_at "mem")
        have e2 : @Ne Nat bd rl' := ne_live (N'.get (a := bd) (by k_mem)) nrl'
        obtain ⟨tl, Nt, hto', hall'⟩ := withAllBut F2 (News.sub (news' := [(bd, dictOf [ent w "row" b1 (.ref rw_), ent w "is_backward" b2 v2, ent w "last_lig" b3 v3, ent w "last_split" b4 v4] 4), (bu, instObj 219 bd), (L + 1, co)]) N2 (by walk_at "mem"))
        simp only [List.cons_append, List.nil_append] at Nt
        have hAl := alien_fr F2 (by rfl) (by rfl)
        have e3 : @Ne Nat (L + 1) bd := by
          intro q
          have e4 := N2.get (a := L + 1) (o := co) (by k_mem)
          rw [q, N2.get (a := bd) (by k_mem)] at e4
          cases e4
          cases hcod
        clear N' N2 F'
        try dsimp only
        repeat' ((fail_if_success (with_reducible show wpAny _ _ (setAttr _ _ _) _ _ _)); walk_at "one")
        all_goals (try dsimp only)
        rename Fr g' _ _ _ => Fs
        rename News g' _ _ _ => Ns
        refine' set_dict (s := ⟨_, _, _, _, _⟩) Fs X' Ns ?k4 ?k5 ?k6 ?k7 ?k8 ?k9 ?k10 ?k11 ?k12 ?k13 ?_
        case k4 => k_inst
        case k5 => exact rfl
        case k6 => k_is
        case k7 => k_is
        case k8 => k_is
        case k9 => k_is
        case k10 => k_get
        case k11 => k_put
        case k12 =>
          refine Upd.head ?_
          intro q hq
          rcases List.mem_cons.mp hq with rfl | hq
          · exact e1
          · rcases List.mem_cons.mp hq with rfl | hq
            · exact e3
            · exact hto' bd (by walk_at "mem") q hq
        case k13 => exact Nat.le_of_ble_eq_true rfl
        k_whole
        intro h3 F3 N3
        try dsimp only
        have k3 := hall' _ _ F3 (News.sub N3 (fun q hq => by (first | ((repeat' (first | exact List.forall_mem_nil _ | refine' List.forall_mem_cons.mpr ⟨?_, ?_⟩ | k_mem | exact hq | exact fun h => hq (List.mem_singleton.mp h) | refine' And.intro ?_ ?_ | (refine' Or.inr ?_; k_mem) | (refine' Or.inl ?_; k_mem) | refine' List.Mem.tail _ ?_)); done) | simp [hq])))
        simp only [List.map_cons, List.map_nil] at k3
        (repeat' walk_at "one")
        try dsimp only
        have k02 : Kp [] s'.heap h2 := k1.trans k2
        have hbd2 := k02 _ _ hbd (by walk_at "mem")
        have hbu2 := k02 _ _ hbu (by walk_at "mem")
        have hco2 := k02 _ _ hco.1 (by walk_at "mem")
        refine ret' h3 _ _ ?_ ?_
        · intro b o e nb
          by_cases q1 : b = bu
          · subst q1; rw [hbu] at e; cases e; exact N3.get (by k_mem)
          · by_cases q2 : b = L + 1
            · subst q2; have e5 := hco.1; dsimp only at e5; rw [e5] at e; cases e; exact N3.get (by k_mem)
            · refine k3 b o (k02 b o e (by walk_at "mem")) ?_
              simp only [List.mem_cons, List.not_mem_nil, or_false]
              rintro (q | q | q | q)
              · exact Nat.lt_irrefl _ (q ▸ hL' b o e)
              · exact nb (by first | ((repeat' (first | exact List.forall_mem_nil _ | refine' List.forall_mem_cons.mpr ⟨?_, ?_⟩ | k_mem | exact q | exact fun h => q (List.mem_singleton.mp h) | refine' And.intro ?_ ?_ | (refine' Or.inr ?_; k_mem) | (refine' Or.inl ?_; k_mem) | refine' List.Mem.tail _ ?_)); done) | simp [q])
              · exact q1 q
              · exact q2 q
        · have nst : @Ne Nat rl' st := by
            obtain ⟨ov, hov⟩ := hav
            exact (ne_live (k1 _ _ hov (by walk_at "mem")) nrl').symm
          have m1 : @Ne Nat rl' bu := (ne_live (k1 _ _ hbu (by walk_at "mem")) nrl').symm
          have m2 : @Ne Nat rl' (L + 1) := (ne_live (k1 _ _ hco.1 (by walk_at "mem")) nrl').symm
          refine ⟨b1, b2, b3, b4, v2, v3, v4, rl', vs', n', atN hGg' N3 (by k_mem), atN hGg' N3 (List.Mem.head _), at_kp hrl' k3 ?_, ?_, nst⟩
          · simp only [List.mem_cons, List.not_mem_nil, or_false]
            rintro (q | q | q | q)
            · exact o2.1 q
            · exact e2 q.symm
            · exact m1 q
            · exact m2 q
          · refine hI2.mono fun x o ho e => at_kp e k3 ?_
            simp only [List.mem_cons, List.not_mem_nil, or_false]
            rintro (q | q | q | q)
            · subst q
              rcases ho with ⟨d, rfl⟩ | ⟨es, k, gg, t, rfl, hg⟩
              · exact (hAl _ e.1).1 _ _ rfl
              · exact ((hAl _ e.1).2.2 _ _ rfl).1 _ hg
            · subst q
              have e6 := e.1
              rw [hbd2] at e6
              rcases ho with ⟨d, rfl⟩ | ⟨es, k, gg, t, rfl, hgl⟩
              · exact inst_ne_dict (Option.some.inj e6)
              · have := congrArg Obj.data (Option.some.inj e6)
                simp only [Data.dict.injEq] at this
                have q2 := congrArg Array.toList this.1
                simp only at q2
                subst q2
                cases hgl
            · subst q
              have e6 := e.1
              rw [hbu2] at e6
              rcases ho with ⟨d, rfl⟩ | ⟨es, k, gg, t, rfl, hgl⟩
              · have := congrArg Obj.cls (Option.some.inj e6); simp at this
              · exact inst_ne_dict (Option.some.inj e6).symm
            · subst q
              have e6 := e.1
              rw [hco2] at e6
              have e7 := congrArg Obj.data (Option.some.inj e6)
              dsimp only at e7
              rw [hcod] at e7
              rcases ho with ⟨d, rfl⟩ | ⟨es, k, gg, t, rfl, hgl⟩ <;> cases e7
      have k15 := hall _ _ F15 (News.sub N15 (fun q hq => by (first | ((repeat' (first | exact List.forall_mem_nil _ | refine' List.forall_mem_cons.mpr ⟨?_, ?_⟩ | k_mem | exact hq | exact fun h => hq (List.mem_singleton.mp h) | refine' And.intro ?_ ?_ | (refine' Or.inr ?_; k_mem) | (refine' Or.inl ?_; k_mem) | refine' List.Mem.tail _ ?_)); done) | simp [hq])))
      simp only [List.map_cons, List.map_nil] at k15
      have hBu15 := hBu14.kpA k15 (fun b hb => (hOd14 b hb).alien)
      have hLk15 := hLk14.kpO k15 hOd14
      have hSc15 := hSc14.kpO k15 hOd14
      have hst15 := lo_kpO hst14 k15 hOd14
      have h332 : News g L h15 [(332, tabObj #[rawInt 189, rawInt 4, .ref c'])] := News.sub N15 (by walk_at "mem")
      have hL1 := (N15 _ (.tail _ (List.Mem.head _))).2
      have hfa2 := (N15 _ (List.Mem.head _)).2
      have N15l : News g L h15 [(L + 1, co), (332, tabObj #[rawInt 189, rawInt 4, .ref c']), (fa, (⟨.type "function", fod, .func fd, fsl⟩ : Obj))] := nwCons (nwCons (nwCons News.nil hfo15.1 hfa2.1 hfa2.2) (h332.get (List.Mem.head _)) (h332 _ (List.Mem.head _)).2.1 (h332 _ (List.Mem.head _)).2.2) hco15.1 hL1.1 hL1.2
      clear hall hto ht1 ht2 N15 Nd15 Fd
      obtain ⟨tail4, Nt4, hto4, hin4, hall4⟩ := withAllBut2 F15 N15l
      simp only [List.cons_append, List.nil_append] at Nt4
      have ht1 : ∀ q ∈ tail4, q.1 ≠ L + 1 := hto4 _ (by walk_at "mem")
      have ht2 : ∀ q ∈ tail4, q.1 ≠ 332 := hto4 _ (by walk_at "mem")
      have ht3 : ∀ q ∈ tail4, q.1 ≠ fa := hto4 _ (by walk_at "mem")
      have hOd15 : ∀ b ∈ [L, L + 1, 332, fa], Odd h15 b := by
        intro b hb
        simp only [List.mem_cons, List.not_mem_nil, or_false] at hb
        rcases hb with rfl | rfl | rfl | rfl
        · exact odd_fr F15 (fun x hx => by simp only [oddNames, List.mem_cons, List.not_mem_nil, or_false] at hx; rcases hx with rfl | rfl | rfl | rfl <;> rfl)
        · exact odd_data hco15.1 (by rw [hcod]; simp) (by rw [hcod]; simp) (by rw [hcod]; simp)
        · exact odd_data (N15l.get (a := 332) (o := tabObj #[rawInt 189, rawInt 4, .ref c']) (by walk_at "mem")) (by walk_at "mem") (by walk_at "mem") (by walk_at "mem")
        · exact odd_data hfo15.1 (by walk_at "mem") (by walk_at "mem") (by walk_at "mem")
      have sto : (st, lo [.int 0 tcs] 0) ∈ tail4 := by
        refine hin4 _ _ hst15.1 gst.1 gst.2 ?_
        simp only [List.map_cons, List.map_nil, List.mem_cons, List.not_mem_nil, or_false]
        have e1 := hst15.1
        rintro (q | q | q)
        · rw [q, hco15.1] at e1; have e2 := congrArg Obj.data (Option.some.inj e1); dsimp only at e2; rw [hcod] at e2; cases e2
        · rw [q, N15l.get (a := 332) (o := tabObj #[rawInt 189, rawInt 4, .ref c']) (by walk_at "mem")] at e1; cases e1
        · rw [q, hfo15.1] at e1; simp at e1
      have cne : c' ∉ [L, L + 1, 332, fa] := by
        simp only [List.mem_cons, List.not_mem_nil, or_false]
        have e1 := hc15
        rintro (q | q | q | q)
        · exact frNeL F15 hc15 (fun _ _ z => by rw [hdc] at z; cases z) q
        · rw [q, hco15.1] at e1; have e2 := congrArg Obj.data (Option.some.inj e1); rw [hcod, hdc] at e2; cases e2
        · rw [q, N15l.get (a := 332) (o := tabObj #[rawInt 189, rawInt 4, .ref c']) (by walk_at "mem")] at e1
          have e2 := Option.some.inj e1
          rw [← e2] at hdc
          have e3 : vsc = #[rawInt 189, rawInt 4, .ref c'] := by simpa using hdc.symm
          rw [e3] at hvc; simp [rawInt] at hvc
        · rw [q, hfo15.1] at e1; have e2 := congrArg Obj.data (Option.some.inj e1); rw [hdc] at e2; cases e2
      clear N15l
      obtain ⟨tx, hsl⟩ : ∃ t, svs.getLast? = some (.int e0 t) := by
        rw [List.getLast?_eq_getElem?] at hpe ⊢
        obtain ⟨t, ht⟩ := hsi.get _ _ hpe
        rw [hsi.length]; exact ⟨t, ht⟩
      have hslen := hsi.length
      try dsimp only
      repeat' ((fail_if_success (with_reducible show wpAny _ _ (call _ _ _) _ _ _)); walk_at "one")
      all_goals (try dsimp only)
      rename Fr _ _ _ _ => F16
      rename News _ _ _ _ => N16
      refine list_copyK (s := ⟨_, _, _, _, _⟩) F16 N16 (isList_of (F16.keep _ _ hsg)) ?_ (by rw [sizeLine_eq, List.size_toArray]; omega)
      intro pl cpl h17 F17 N17 l17
      have plst : pl ≠ st := Nat.ne_of_gt (l17 (st, lo [.int 0 tcs] 0) (.tail _ (.tail _ (.tail _ sto))))
      try dsimp only
      clear F16 N16
      repeat' ((fail_if_success (with_reducible show wpAny _ _ (call _ _ _) _ _ _)); (fail_if_success (with_reducible show wpAny _ _ (subscriptTail _ _ _ _) _ _ _)); walk_at "one")
      all_goals (try dsimp only)
      refine itemLast (s := ⟨_, _, _, _, _⟩) (by rfl) (isList_of (F17.keep _ _ hsg)) hsl ?_
      try dsimp only
      repeat' ((fail_if_success (with_reducible show wpAny _ _ (call _ _ _) _ _ _)); (fail_if_success (with_reducible show wpAny _ _ (subscriptTail _ _ _ _) _ _ _)); walk_at "one")
      all_goals (try dsimp only)
      refine ⟨X.keeps F17.keep, ?_⟩
      refine places_new (s := ⟨_, _, _, _, _⟩) am (fun b o q => F17.keep b o (hGg b o q)) (by rw [depth_deeper]; (try dsimp only); omega) ?_
      intro h18 tk18 pa pd p1 p2 k18 hpa hpd npa npd nab
      have opd := newOf F17 npd
      have opa := newOf F17 npa
      have F18 := frKp F17 k18 (fun _ h => nomatch h)
      have N18 := nwCons (nwCons (nwKp N17 k18 (fun _ _ h => nomatch h)) hpd (newOf F17 npd).1 (newOf F17 npd).2) hpa (newOf F17 npa).1 (newOf F17 npa).2
      clear F17 N17
      try dsimp only
      repeat' ((fail_if_success (with_reducible show wpAny _ _ (exec (PySem.Stmt.For _ _ _ _ _) _) _ _ _)); walk_at "one")
      all_goals (try dsimp only)
      rename Fr _ _ _ _ => F19
      rename News _ _ _ _ => N19
      have k19 := hall4 _ _ F19 (News.sub N19 (fun q hq => by (first | ((repeat' (first | exact List.forall_mem_nil _ | refine' List.forall_mem_cons.mpr ⟨?_, ?_⟩ | k_mem | exact hq | exact fun h => hq (List.mem_singleton.mp h) | refine' And.intro ?_ ?_ | (refine' Or.inr ?_; k_mem) | (refine' Or.inl ?_; k_mem) | refine' List.Mem.tail _ ?_)); done) | simp [hq])))
      simp only [List.map_cons, List.map_nil] at k19
      have hBu19 := hBu15.kpA k19 (fun b hb => (hOd15 b hb).alien)
      have hLk19 := hLk15.kpO k19 hOd15
      have hSc19 := hSc15.kpO k19 hOd15
      have hst19 := lo_kpO hst15 k19 hOd15
      have hc19 := at_kp hc15' k19 cne
      rename Heap => h19
      have hRun19 : Run w G h19 st pa pd bu bd 0 ⟨gs, ps, e0 + 1⟩ 0 := ⟨⟨0, tcs, hst19, Int.le_refl _, Int.le_refl _⟩, ⟨p1, p2, _, pl, svs, cpl, atN hGg N19 (by k_mem), atN hGg N19 (by k_mem), atN hGg N19 (by k_mem), hsi, plst⟩, hBu19⟩
      have hfo19 := atN hGg N19 (a := fa) (o := (⟨.type "function", fod, .func fd, fsl⟩ : Obj)) (by k_mem)
      have hco19 := atN hGg N19 (a := L + 1) (o := co) (by k_mem)
      have htb19 := atN hGg N19 (a := 332) (o := tabObj #[rawInt 189, rawInt 4, .ref c']) (by k_mem)
      have hSt19 : Still w G h19 sc bu D2 st [(fa, (⟨.type "function", fod, .func fd, fsl⟩ : Obj)), (L + 1, co), (c', oc)] := ⟨hSc19, hLk19, by
        simp only [List.forall_mem_cons]; exact ⟨hfo19, hco19, hc19, (fun _ h => nomatch h)⟩⟩
      have k019 : Kp [332] s.heap h19 := kp_of (S := [332]) hg F19 N19 (by first | ((repeat' (first | exact List.forall_mem_nil _ | refine' List.forall_mem_cons.mpr ⟨?_, ?_⟩ | k_mem | exact htb1 | exact fun h => htb1 (List.mem_singleton.mp h) | refine' And.intro ?_ ?_ | (refine' Or.inr ?_; k_mem) | (refine' Or.inl ?_; k_mem) | refine' List.Mem.tail _ ?_)); done) | simp [htb1]) (by walk_at "mem")
      have hac19 := hac.kpT k019 (fun b hb => by rw [List.mem_singleton.mp hb]; exact notup_cls htb1 (by walk_at "mem"))
      obtain ⟨m19, ⟨e1, e2, e3, e4, e5, e6, e7, e8, eb, ek⟩, F19m⟩ : ∃ m : Str → Option Value, (m "glyph" = none ∧ m "row" = none ∧ m "scene" = some (.ref sc) ∧ m "places" = some (.ref pa) ∧ m "apply_at" = some (.ref fa) ∧ (∃ t, m "answer" = some (.int (e0 + 1) t)) ∧ m "actions" = some (.ref aa) ∧ m "is_apart" = some (.bool bb) ∧ m "buffer" = none ∧ m "kind" = none) ∧ Fr g L h19 m :=
        ⟨_, ⟨rfl, rfl, rfl, rfl, rfl, ⟨_, rfl⟩, rfl, rfl, rfl, rfl⟩, F19⟩
      have odL19 : Odd h19 L := odd_fr F19 (fun x hx => by simp only [oddNames, List.mem_cons, List.not_mem_nil, or_false] at hx; rcases hx with rfl | rfl | rfl | rfl <;> rfl)
      clear F19 N19
      have ntL := notup_fr F19m
      have alL := alien_fr F19m e1 e2
      have odL : Odd h19 L := odL19
      have nL332 : L ≠ 332 := Nat.ne_of_gt h332L
      have hFL : ∀ q ∈ [(fa, (⟨.type "function", fod, .func fd, fsl⟩ : Obj)), (L + 1, co), (c', oc)], q.1 ∉ [L] := by
        intro q hq hm
        have hm' : q.1 = L := List.mem_singleton.mp hm
        simp only [List.mem_cons, List.not_mem_nil, or_false] at hq
        rcases hq with rfl | rfl | rfl
        · exact hfa2.1 hm'
        · exact hL1.1 hm'
        · exact cne (by rw [← hm']; exact .head _)
      refine wpAny_For ?_
      refine wpAny_mono (Q := fun v s' => ∃ ll bvs n bss h tk, v = .ref ll ∧ s' = { s with heap := h, toks := tk } ∧ Fr g L h m19 ∧ Kp [L] h19 h ∧ at_ G h ll (lo bvs n) ∧ Batches (at_ G h) bvs bss ∧ bss.flatten = acts) ?iter ?loop (fun _ _ e => e)
      case iter =>
        obtain ⟨tl, Nt, hall⟩ := withAll F19m (lit := []) News.nil
        simp only [List.nil_append] at Nt
        cases bb with
        | false =>
          try dsimp only
          repeat' ((fail_if_success (with_reducible show wpAny _ _ (call _ _ _) _ _ _)); walk_at "one")
          all_goals (try dsimp only)
          refine tupOf (s := ⟨_, _, _, _, _⟩) F19m Nt (isList_of (F19m.keep _ _ hag)) (by have := hac.length; rw [sizeLine_eq]; omega) ?_
          intro T hT FT NT lT
          try dsimp only
          (repeat' walk_at "one")
          try dsimp only
          rename Fr _ _ _ _ => Fz
          rename News _ _ _ _ => Nz
          have kz := hall _ _ Fz (News.sub Nz (fun q hq => by (first | ((repeat' (first | exact List.forall_mem_nil _ | refine' List.forall_mem_cons.mpr ⟨?_, ?_⟩ | k_mem | exact hq | exact fun h => hq (List.mem_singleton.mp h) | refine' And.intro ?_ ?_ | (refine' Or.inr ?_; k_mem) | (refine' Or.inl ?_; k_mem) | refine' List.Mem.tail _ ?_)); done) | simp [hq])))
          refine ⟨_, [.ref T], _, [acts], _, _, rfl, rfl, Fz, kz, atN hGg Nz (List.Mem.head _), .cons ⟨T, avs, rfl, atN hGg Nz (by k_mem), hac19.kpT kz (fun b hb => by rw [List.mem_singleton.mp hb]; exact ntL)⟩ .nil, by simp⟩
        | true =>
          try dsimp only
          repeat' ((fail_if_success (with_reducible show wpAny _ _ (eval (PySem.Expr.ListComp _ _ _ _) _) _ _ _)); walk_at "one")
          all_goals (try dsimp only)
          refine LCg.ListComp_U (F₀ := by k_asm) (by with_unfolding_all rfl) (by decide) (by rfl) (by decide) (by rfl) ?_
          (repeat' walk_at "one")
          refine LCg.CompSrc.base rfl F19m Nt (isList_of hag) (by have := hac.length; rw [sizeLine_eq, List.size_toArray]; omega) ?_
          intro g'
          try dsimp only
          refine genRest (fun i ys news => (∀ q ∈ tl, q ∈ news) ∧ ys.length = i ∧ ∀ k, k < i → ∃ ax v, ys[k]? = some (.ref ax) ∧ avs[k]? = some v ∧ (ax, tupO [v]) ∈ news) (fun _ _ _ _ => .inl (isList_of hag)) ⟨fun _ h => h, rfl, fun k hk => absurd hk (Nat.not_lt_zero _)⟩ ?_ ?_
          · intro i v I oI C oC D m₂ ys news h tk Qe E' hi' hv hC hx F N off hJ hret
            obtain ⟨hsub, hyl, hidx⟩ := hJ
            repeat' ((fail_if_success (with_reducible show wpAny _ _ (newTuple _) _ _ _)); walk_at "one")
            all_goals (try dsimp only)
            refine kup_newTuple (s := ⟨_, _, _, _, _⟩) (vs := [v]) F N ?_ (by show 1 ≤ sizeLine; rw [sizeLine_eq]; omega)
            intro T h' F' N' l1
            refine hret _ _ _ ((T, tupO [v]) :: news) F' (News.sub N' (fun q hq => ?_)) ⟨⟨Nat.ne_of_gt (l1 _ (.head _)), Nat.ne_of_gt (l1 _ (.tail _ (.head _))), Nat.ne_of_gt (l1 _ (.tail _ (.tail _ (.head _))))⟩, off⟩ ⟨fun q hq => .tail _ (hsub q hq), by simp [hyl], fun k hk => ?_⟩
            · simp only [List.mem_cons] at hq ⊢
              rcases hq with q | q | q | q | q
              · exact .inr (.inl q)
              · exact .inr (.inr (.inl q))
              · exact .inr (.inr (.inr (.inl q)))
              · exact .inl q
              · exact .inr (.inr (.inr (.inr q)))
            · by_cases hk2 : k < i
              · obtain ⟨ax, v', q1, q2, q3⟩ := hidx k hk2
                exact ⟨ax, v', by rw [List.getElem?_append_left (by omega)]; exact q1, q2, .tail _ q3⟩
              · have ek : k = i := by omega
                subst ek
                exact ⟨T, v, by rw [← hyl, List.getElem?_append_right (Nat.le_refl _)]; simp, by simpa using hv, .head _⟩
          · intro ys news ⟨hsub, hyl, hidx⟩
            unfold LCg.FinE
            intro D h tk F N off
            try dsimp only
            have kz := hall _ _ F (News.sub N (fun q hq => .tail _ (hsub q hq)))
            refine ⟨D, ys, _, acts.map fun a => [a], h, tk, rfl, rfl, F, kz, atN hGg N (.head _), Batches.of_idx (hac19.kpT kz (fun b hb => by rw [List.mem_singleton.mp hb]; exact ntL)) (by rw [hyl, List.size_toArray]) (fun k hk => ?_), flat_single _⟩
            obtain ⟨ax, v, q1, q2, q3⟩ := hidx k (by rw [← hyl]; exact hk)
            exact ⟨ax, v, q1, q2, atN hGg N (.tail _ q3)⟩
      case loop =>
        rintro v s' ⟨ll, bvs, nb, bss, h20, tk20, rfl, rfl, F20, k20, hll20, hbs, hfl⟩
        try dsimp only
        clear F19m
        have hR20 := hRun19.kpA k20 (fun b hb => by rw [List.mem_singleton.mp hb]; exact alL)
        have hS20 := hSt19.kpO k20 (fun b hb => by rw [List.mem_singleton.mp hb]; exact odL) hFL
        have htb20 := at_kp htb19 k20 (by simpa using Ne.symm nL332)
        have hbl := hbs.length
        have oI : h20.get? h20.objs.size = none := by
          cases q : h20.get? h20.objs.size with
          | none => rfl
          | some o => exact absurd (Heap.lt_size q) (Nat.lt_irrefl _)
        refine wpAny_pyIter_list (isList_of hll20.1) ?_
        have kpush : Kp [] h20 (h20.push { cls := .type "list_iterator", data := .fields #[.ref ll, .int 0 0] }) := fun b o e _ => Heap.get?_push_of_some _ e
        have hlls : @LT.lt Nat _ ll h20.objs.size := Heap.lt_size hll20.1
        have hgS : ∀ b ∈ [st, bd, pd], b ≠ L ∧ g.get? b = none := by
          intro b hb
          simp only [List.mem_cons, List.not_mem_nil, or_false] at hb
          rcases hb with rfl | rfl | rfl
          · exact gst
          · exact obd
          · exact opd
        have hFO : ∀ q ∈ [(fa, (⟨.type "function", fod, .func fd, fsl⟩ : Obj)), (L + 1, co), (c', oc)], q.1 ≠ st ∧ q.1 ≠ pd ∧ q.1 ≠ bd := by
          obtain ⟨_, _, hs1, _, _⟩ := hR20.steps
          obtain ⟨_, _, _, _, _, _, _, hp2, _⟩ := hR20.pl
          obtain ⟨_, _, _, _, _, _, _, _, _, _, _, hb2, _⟩ := hR20.bu
          intro q hq
          have e := (hS20.fo q hq).1
          have hd : ∃ x : Data, q.2.data = x ∧ (∀ a b, x ≠ .seq a b) ∧ ∀ a b, x ≠ .dict a b := by
            simp only [List.mem_cons, List.not_mem_nil, or_false] at hq
            rcases hq with rfl | rfl | rfl
            · exact ⟨_, rfl, (fun _ _ z => by cases z), (fun _ _ z => by cases z)⟩
            · exact ⟨_, hcod, (fun _ _ z => by cases z), (fun _ _ z => by cases z)⟩
            · exact ⟨_, hdc, (fun _ _ z => by cases z), (fun _ _ z => by cases z)⟩
          obtain ⟨x, hx1, hx2, hx3⟩ := hd
          exact ⟨neData e hs1.1 (by rw [hx1]; exact hx2 _ _), neData e hp2.1 (by rw [hx1]; exact hx3 _ _), neData e hb2.1 (by rw [hx1]; exact hx3 _ _)⟩
        have hIL : ∀ b ∈ [h20.objs.size, ll], b ≠ L := by
          intro b hb
          simp only [List.mem_cons, List.not_mem_nil, or_false] at hb
          rcases hb with rfl | rfl
          · exact Nat.ne_of_gt F20.ns.lt
          · exact frNeL F20 hll20.1 (fun _ _ q => by cases q)
        refine loopRaw2 (g := g) (Walks.list rfl h20.objs.size ll (Nat.ne_of_lt hlls) bvs.toArray) (by rfl) (by rfl) ?hLf ?hwr
          (fun i m h => (m "glyph" = none ∧ m "row" = none ∧ m "buffer" = none ∧ m "kind" = none ∧ m "scene" = some (.ref sc) ∧ m "places" = some (.ref pa) ∧ m "apply_at" = some (.ref fa) ∧ (∃ t, m "answer" = some (.int (foldS ⟨gs, ps, e0 + 1⟩ (bss.take i).flatten).e t))) ∧
            Run w G h st pa pd bu bd 0 (foldS ⟨gs, ps, e0 + 1⟩ (bss.take i).flatten) ((bss.take i).flatten.length : Nat) ∧ Still w G h sc bu D2 st [(fa, (⟨.type "function", fod, .func fd, fsl⟩ : Obj)), (L + 1, co), (c', oc)] ∧ at_ G h 332 (tabObj #[rawInt 189, rawInt 4, .ref c']) ∧ Batches (at_ G h) bvs bss)
          ?stab ?hst (frKp F20 kpush (fun _ h => nomatch h)) ?h0 ?step ?done
        case hLf => exact fun hm => hIL _ hm rfl
        case hwr => intro b hb; rw [List.mem_singleton.mp hb]; exact (newOf F20 oI).2
        case stab =>
          intro j h h' m F' hst' hJ kk
          change Fr g L h m at F'
          obtain ⟨hm, hRn, hSn, htn, hbn⟩ := hJ
          have hod : ∀ b ∈ [L, h20.objs.size], Odd h b := by
            intro b hb
            simp only [List.mem_cons, List.not_mem_nil, or_false] at hb
            rcases hb with rfl | rfl
            · exact odd_fr F' (fun x hx => by
                simp only [oddNames, List.mem_cons, List.not_mem_nil, or_false] at hx
                rcases hx with rfl | rfl | rfl | rfl
                · exact hm.1
                · exact hm.2.1
                · exact hm.2.2.1
                · exact hm.2.2.2.1)
            · obtain ⟨o, e, _, hd⟩ := hst'.1
              exact odd_data e (by rw [hd]; simp) (by rw [hd]; simp) (by rw [hd]; simp)
          have hnt : ∀ b ∈ [L, h20.objs.size], NoTup h b := by
            intro b hb
            simp only [List.mem_cons, List.not_mem_nil, or_false] at hb
            rcases hb with rfl | rfl
            · exact notup_fr F'
            · obtain ⟨o, e, _, hd⟩ := hst'.1
              exact notup_data e (by rw [hd]; simp)
          refine ⟨hm, hRn.kpO kk hod, hSn.kpO kk hod ?_, at_kp htn kk ?_, hbn.kpT kk hnt⟩
          · intro q hq hm'
            rcases List.mem_cons.mp hm' with q1 | q1
            · exact hFL q hq (by rw [q1]; exact .head _)
            · have := (hS20.fo q hq).1
              rw [List.mem_singleton.mp q1, oI] at this; cases this
          · intro hm'
            rcases List.mem_cons.mp hm' with q1 | q1
            · exact nL332 q1.symm
            · have := htb20.1
              rw [List.mem_singleton.mp q1, oI] at this; cases this
        case hst => exact ⟨⟨_, Heap.get?_push_size _ rfl, rfl, rfl⟩, isList_of (Heap.get?_push_of_some _ hll20.1)⟩
        case h0 =>
          refine ⟨⟨e1, e2, eb, ek, e3, e4, e5, ?_⟩, ?_, hS20.kpO kpush (fun _ h => nomatch h) (fun _ _ h => nomatch h), at_kp htb20 kpush (fun h => nomatch h), hbs.kpT kpush (fun _ h => nomatch h)⟩
          · simpa [foldS] using e6
          · simpa [foldS] using hR20.kpO kpush (fun _ h => nomatch h)
        case step =>
          intro j v h m tk hj hP hst' F' hJ
          change Fr g L h _ at F'
          obtain ⟨⟨m1, m2, m7, m8, m3, m4, m5, _⟩, hRn, hSn, htn, hbn⟩ := hJ
          have f1 : (fun y : Str => if y = ("some" : Str) then some v else m y) "glyph" = none := (if_neg (by decide)).trans m1
          have f2 : (fun y : Str => if y = ("some" : Str) then some v else m y) "row" = none := (if_neg (by decide)).trans m2
          have f7 : (fun y : Str => if y = ("some" : Str) then some v else m y) "buffer" = none := (if_neg (by decide)).trans m7
          have f8 : (fun y : Str => if y = ("some" : Str) then some v else m y) "kind" = none := (if_neg (by decide)).trans m8
          have f3 : (fun y : Str => if y = ("some" : Str) then some v else m y) "scene" = some (.ref sc) := (if_neg (by decide)).trans m3
          have f4 : (fun y : Str => if y = ("some" : Str) then some v else m y) "places" = some (.ref pa) := (if_neg (by decide)).trans m4
          have f5 : (fun y : Str => if y = ("some" : Str) then some v else m y) "apply_at" = some (.ref fa) := (if_neg (by decide)).trans m5
          have f6 : (fun y : Str => if y = ("some" : Str) then some v else m y) "some" = some v := if_pos rfl
          generalize (fun y : Str => if y = ("some" : Str) then some v else m y) = m6 at F' f1 f2 f3 f4 f5 f6 f7 f8
          clear m1 m2 m3 m4 m5 m7 m8 e1 e2 e3 e4 e5 e6 e7 e8 eb ek
          obtain ⟨b, hb, ax, avs', rfl, hax, hacb⟩ := hbn.get j v (by simpa using hP)
          obtain ⟨ft1, ft2⟩ := flat_take hb
          have hlen := (ft2 b.length (Nat.le_refl _)).2
          rw [hfl] at hlen
          have N0 : News g L h [] := News.nil
          clear F20
          try dsimp only
          repeat' ((fail_if_success (with_reducible show wpAny _ _ (call _ _ _) _ _ _)); walk_at "one")
          all_goals (try dsimp only)
          refine ⟨X.keeps F'.keep, ?_⟩
          refine actions_raw (s := ⟨_, _, _, _, _⟩) am (fun b o q => F'.keep b o (hGg b o q)) (by rw [depth_deeper]; (try dsimp only); omega) rfl (z := foldS ⟨gs, ps, e0 + 1⟩ (bss.take j).flatten) (FO := [(fa, (⟨.type "function", fod, .func fd, fsl⟩ : Obj)), (L + 1, co), (c', oc)]) (fod := fod) (fd := fd) (fsl := fsl) hSn hRn ⟨_, hax.1, rfl, _, rfl⟩ hacb hFO (List.Mem.head _) hD2st hap ?fine ?acts (Int.natCast_nonneg _) ?lim ?_
          case fine =>
            intro j' hj'
            obtain ⟨q1, q2⟩ := ft2 j' hj'
            rw [← foldS_append, q1, hfl]
            exact hfine _ (by rw [hfl] at q2; exact q2)
          case acts =>
            intro a ha
            exact hacts a (by rw [← hfl]; exact List.mem_flatten.mpr ⟨b, List.mem_of_getElem? hb, ha⟩)
          case lim => omega
          intro h' tk' te k' R'
          have F'' := frKp F' k' hgS
          obtain ⟨cst, tst, hs1, _, _⟩ := hRn.steps
          obtain ⟨_, _, _, _, _, _, _, hp2, _⟩ := hRn.pl
          obtain ⟨_, _, _, _, _, _, _, _, _, _, _, hb2, _⟩ := hRn.bu
          obtain ⟨llv, lln, hllg, _⟩ := hSn.lks
          have mv : ∀ b ∈ [st, bd, pd], Moves h D2 [(fa, (⟨.type "function", fod, .func fd, fsl⟩ : Obj)), (L + 1, co), (c', oc)] b := by
            intro b hb
            simp only [List.mem_cons, List.not_mem_nil, or_false] at hb
            rcases hb with rfl | rfl | rfl
            · exact moves_list hs1.1 (Ne.symm hD2st) fun q hq => (hFO q hq).1
            · exact moves_dict hb2.1 (by decide) (neCls hb2.1 hllg.1 (by walk_at "mem")) fun q hq => (hFO q hq).2.2
            · exact moves_dict hp2.1 (by decide) (neCls hp2.1 hllg.1 (by walk_at "mem")) fun q hq => (hFO q hq).2.1
          have hnt : ∀ b ∈ [st, bd, pd], NoTup h b := by
            intro b hb
            simp only [List.mem_cons, List.not_mem_nil, or_false] at hb
            rcases hb with rfl | rfl | rfl
            · exact notup_cls hs1.1 (by walk_at "mem")
            · exact notup_cls hb2.1 (by walk_at "mem")
            · exact notup_cls hp2.1 (by walk_at "mem")
          have hS' := hSn.kp k' mv
          have hb' := hbn.kpT k' hnt
          have ht' := at_kp htn k' (by
            simp only [List.mem_cons, List.not_mem_nil, or_false]
            have e := htn.1
            rintro (q | q | q)
            · rw [q, hs1.1] at e; simp at e
            · rw [q, hb2.1] at e; simp at e
            · rw [q, hp2.1] at e; simp at e)
          have hItp : ∀ b ∈ [h20.objs.size, ll], ∀ o, h.get? b = some o → b ∉ [st, bd, pd] := by
            intro b hb o e hm
            simp only [List.mem_cons, List.not_mem_nil, or_false] at hb hm
            have key : ∀ o1 : Obj, h.get? b = some o1 → (∀ vs n, o1 ≠ lo vs n) → (∀ es n, o1.data ≠ .dict es n) → False := by
              intro o1 q1 q2 q3
              rcases hm with q | q | q
              · rw [q, hs1.1] at q1; cases q1; exact q2 _ _ rfl
              · rw [q, hb2.1] at q1; cases q1; exact q3 _ _ rfl
              · rw [q, hp2.1] at q1; cases q1; exact q3 _ _ rfl
            rcases hb with rfl | rfl
            · obtain ⟨o1, q1, _, hd⟩ := hst'.1
              exact key o1 q1 (fun vs n q => by rw [q] at hd; cases hd) (fun es n q => by rw [q] at hd; cases hd)
            · obtain ⟨o1, q1, hcl, n, hd⟩ := hst'.2
              rcases hm with q | q | q
              · rw [q, hs1.1] at q1; cases q1
                simp only [Data.seq.injEq] at hd
                have e1 : [Value.int cst tst] = bvs := by simpa using hd.1
                obtain ⟨_, _, _, _, z, _⟩ := hbn.get 0 _ (by rw [← e1]; rfl)
                cases z
              · rw [q, hb2.1] at q1; cases q1; cases hd
              · rw [q, hp2.1] at q1; cases q1; cases hd
          rw [← foldS_append, ← ft1] at R'
          have hcl : ((bss.take j).flatten.length : Int) + b.length = ((bss.take (j + 1)).flatten.length : Nat) := by rw [ft1, List.length_append]; omega
          rw [hcl] at R'
          rw [← foldS_append, ← ft1]
          obtain ⟨u1, u2, ue, rl2, vs2, n2, hpa2, hpd2, hrl2, hi2, hrlst2⟩ := R'.pl
          have N2 : News g L h' [(pd, dictOf [ent w "row" u1 (.ref rl2), ent w "end" u2 (.int (foldS ⟨gs, ps, e0 + 1⟩ (bss.take (j + 1)).flatten).e ue)] 2), (pa, instObj 93 pd)] := fun q hq => by
            simp only [List.mem_cons, List.not_mem_nil, or_false] at hq
            rcases hq with rfl | rfl
            · exact ⟨hpd2.1, opd⟩
            · exact ⟨hpa2.1, opa⟩
          clear F' N0
          obtain ⟨tailF, NtF, hallF⟩ := withAll F'' N2
          have hoL : ∀ b ∈ [L], Odd h' b := fun b hb => by
            rw [List.mem_singleton.mp hb]
            exact odd_fr F'' (fun x hx => by
                simp only [oddNames, List.mem_cons, List.not_mem_nil, or_false] at hx
                rcases hx with rfl | rfl | rfl | rfl
                · exact f1
                · exact f2
                · exact f7
                · exact f8)
          have hnL : ∀ b ∈ [L], NoTup h' b := fun b hb => by rw [List.mem_singleton.mp hb]; exact notup_fr F''
          simp only [List.cons_append, List.nil_append] at NtF
          clear N2
          try dsimp only
          repeat' ((fail_if_success (with_reducible show wpAny _ _ (exec (PySem.Stmt.If _ _ _ _) _) _ _ _)); walk_at "one")
          all_goals (try dsimp only)
          rename Fr _ _ _ _ => F4
          rename News _ _ _ _ => N4
          have g1 : (fun y : Str => if y = ("answer" : Str) then some (Value.int (foldS ⟨gs, ps, e0 + 1⟩ (bss.take (j + 1)).flatten).e te) else m6 y) "glyph" = none := (if_neg (by decide)).trans f1
          have g2 : (fun y : Str => if y = ("answer" : Str) then some (Value.int (foldS ⟨gs, ps, e0 + 1⟩ (bss.take (j + 1)).flatten).e te) else m6 y) "row" = none := (if_neg (by decide)).trans f2
          have g7 : (fun y : Str => if y = ("answer" : Str) then some (Value.int (foldS ⟨gs, ps, e0 + 1⟩ (bss.take (j + 1)).flatten).e te) else m6 y) "buffer" = none := (if_neg (by decide)).trans f7
          have g8 : (fun y : Str => if y = ("answer" : Str) then some (Value.int (foldS ⟨gs, ps, e0 + 1⟩ (bss.take (j + 1)).flatten).e te) else m6 y) "kind" = none := (if_neg (by decide)).trans f8
          have g3 : (fun y : Str => if y = ("answer" : Str) then some (Value.int (foldS ⟨gs, ps, e0 + 1⟩ (bss.take (j + 1)).flatten).e te) else m6 y) "scene" = some (.ref sc) := (if_neg (by decide)).trans f3
          have g4 : (fun y : Str => if y = ("answer" : Str) then some (Value.int (foldS ⟨gs, ps, e0 + 1⟩ (bss.take (j + 1)).flatten).e te) else m6 y) "places" = some (.ref pa) := (if_neg (by decide)).trans f4
          have g5 : (fun y : Str => if y = ("answer" : Str) then some (Value.int (foldS ⟨gs, ps, e0 + 1⟩ (bss.take (j + 1)).flatten).e te) else m6 y) "apply_at" = some (.ref fa) := (if_neg (by decide)).trans f5
          have g6 : (fun y : Str => if y = ("answer" : Str) then some (Value.int (foldS ⟨gs, ps, e0 + 1⟩ (bss.take (j + 1)).flatten).e te) else m6 y) "answer" = some (Value.int (foldS ⟨gs, ps, e0 + 1⟩ (bss.take (j + 1)).flatten).e te) := if_pos rfl
          have kL : Kp [L] h' _ := hallF _ _ F4 (News.sub N4 (fun q hq => by (first | ((repeat' (first | exact List.forall_mem_nil _ | refine' List.forall_mem_cons.mpr ⟨?_, ?_⟩ | k_mem | exact hq | exact fun h => hq (List.mem_singleton.mp h) | refine' And.intro ?_ ?_ | (refine' Or.inr ?_; k_mem) | (refine' Or.inl ?_; k_mem) | refine' List.Mem.tail _ ?_)); done) | simp [hq])))
          rename Heap => h30
          generalize (fun y : Str => if y = ("answer" : Str) then some (Value.int (foldS ⟨gs, ps, e0 + 1⟩ (bss.take (j + 1)).flatten).e te) else m6 y) = m9 at F4 g1 g2 g3 g4 g5 g6 g7 g8
          generalize (foldS ⟨gs, ps, e0 + 1⟩ (bss.take (j + 1)).flatten) = zz at R' N4 g6 ⊢
          clear f1 f2 f3 f4 f5 f6 f7 f8
          (repeat' walk_at "one")
          · exact absurd rfl (by assumption)
          try dsimp only
          refine ⟨_, _, m9, rfl, F4, ⟨⟨g1, g2, g7, g8, g3, g4, g5, ⟨_, g6⟩⟩, R'.kpO kL hoL, hS'.kpO kL hoL hFL, at_kp ht' kL (by simpa using Ne.symm nL332), hb'.kpT kL hnL⟩, fun b hb o e => kL b o (k' b o e (hItp b hb o e)) (by simpa using hIL b hb)⟩
        case done =>
          intro h m tk F' hJ
          change Fr g L h m at F'
          obtain ⟨⟨m1, m2, m7, m8, m3, m4, m5, t6, m6⟩, hRn, hSn, htn, _⟩ := hJ
          have ez : bvs.toArray.size = bss.length := by rw [List.size_toArray]; exact hbl
          rw [ez, List.take_length, hfl] at hRn m6
          obtain ⟨u1, u2, ue, rl2, vs2, n2, hpa2, hpd2, hrl2, hi2, hrlst2⟩ := hRn.pl
          have hBn := hRn.bu
          obtain ⟨b1, b2, b3, b4, v2, v3, v4, rw_, ws, nb', hbu2, hbd2, hrw2, hinf, hrwst⟩ := hBn
          have hco2 := hSn.fo (L + 1, co) (by walk_at "mem")
          have hc2 := hSn.fo (c', oc) (by walk_at "mem")
          have N2 : News g L h [(L + 1, co), (bu, instObj 219 bd), (bd, dictOf [ent w "row" b1 (.ref rw_), ent w "is_backward" b2 v2, ent w "last_lig" b3 v3, ent w "last_split" b4 v4] 4), (pa, instObj 93 pd), (pd, dictOf [ent w "row" u1 (.ref rl2), ent w "end" u2 (.int (foldS ⟨gs, ps, e0 + 1⟩ acts).e ue)] 2), (332, tabObj #[rawInt 189, rawInt 4, .ref c'])] := by
            simp only [News, List.forall_mem_cons]
            exact ⟨⟨hco2.1, hL1⟩, ⟨hbu2.1, obu⟩, ⟨hbd2.1, obd⟩, ⟨hpa2.1, opa⟩, ⟨hpd2.1, opd⟩, ⟨htn.1, g332⟩, (fun _ h => nomatch h)⟩
          obtain ⟨tailG, NtG, hallG⟩ := withAll F' N2
          simp only [List.cons_append, List.nil_append] at NtG
          have rlL : rl2 ≠ L := frNeL F' hrl2.1 (fun _ _ q => by cases q)
          have cL : c' ≠ L := fun q => cne (by rw [q]; exact .head _)
          have hBG := fun h' (k : Kp [L] h h') => hRn.bu.kpL F' m1 m2 k
          clear F20 N2
          try dsimp only
          repeat' ((fail_if_success (with_reducible show wpAny _ _ (call _ _ _) _ _ _)); walk_at "one")
          all_goals (try dsimp only)
          rename Fr _ _ _ _ => F5
          rename News _ _ _ _ => N5
          have k5 := hallG _ _ F5 (News.sub N5 (fun q hq => by (first | ((repeat' (first | exact List.forall_mem_nil _ | refine' List.forall_mem_cons.mpr ⟨?_, ?_⟩ | k_mem | exact hq | exact fun h => hq (List.mem_singleton.mp h) | refine' And.intro ?_ ?_ | (refine' Or.inr ?_; k_mem) | (refine' Or.inl ?_; k_mem) | refine' List.Mem.tail _ ?_)); done) | simp [hq])))
          refine glyphs_raw (s := ⟨_, _, _, _, _⟩) am (fun b o q => F5.keep b o (hGg b o q)) (by rw [depth_deeper]; (try dsimp only); omega) rfl (hBG _ k5) ?gl ?_
          case gl =>
            have := (hfine acts.length (Nat.le_refl _)).2.1
            rw [List.take_length] at this; omega
          intro h6 tk6 D6 ys6 n6 k6 hD6 nD6 hi6
          have F6 := frKp F5 k6 (fun _ h => nomatch h)
          have N6 := nwKp N5 k6 (fun _ _ h => nomatch h)
          have dL : D6 ≠ L := frNeL F6 hD6.1 (fun _ _ q => by cases q)
          have hrl6 := at_kp (at_kp hrl2 k5 (by simpa using rlL)) k6 (fun h => nomatch h)
          have hc6 := at_kp (at_kp hc2 k5 (by simpa using cL)) k6 (fun h => nomatch h)
          clear F5 N5
          obtain ⟨tailH, NtH, hallH⟩ := withAll F6 (lit := [(pa, instObj 93 pd), (pd, dictOf [ent w "row" u1 (.ref rl2), ent w "end" u2 (.int (foldS ⟨gs, ps, e0 + 1⟩ acts).e ue)] 2), (332, tabObj #[rawInt 189, rawInt 4, .ref c'])]) (News.sub N6 (fun q hq => by
            simp only [List.mem_cons, List.not_mem_nil, or_false] at hq
            rcases hq with rfl | rfl | rfl <;> k_mem))
          simp only [List.cons_append, List.nil_append] at NtH
          clear N6
          try dsimp only
          (repeat' walk_at "one")
          try dsimp only
          rename Fr _ _ _ _ => F7
          rename News _ _ _ _ => N7
          have k7 := hallH _ _ F7 (News.sub N7 (fun q hq => by (first | ((repeat' (first | exact List.forall_mem_nil _ | refine' List.forall_mem_cons.mpr ⟨?_, ?_⟩ | k_mem | exact hq | exact fun h => hq (List.mem_singleton.mp h) | refine' And.intro ?_ ?_ | (refine' Or.inr ?_; k_mem) | (refine' Or.inl ?_; k_mem) | refine' List.Mem.tail _ ?_)); done) | simp [hq])))
          have kE : Kp [332] s.heap _ := kp_of (S := [332]) hg F7 N7 (by first | ((repeat' (first | exact List.forall_mem_nil _ | refine' List.forall_mem_cons.mpr ⟨?_, ?_⟩ | k_mem | exact htb1 | exact fun h => htb1 (List.mem_singleton.mp h) | refine' And.intro ?_ ?_ | (refine' Or.inr ?_; k_mem) | (refine' Or.inl ?_; k_mem) | refine' List.Mem.tail _ ?_)); done) | simp [htb1]) (by walk_at "mem")
          refine ret _ _ _ _ kE ⟨_, D6, rl2, ys6, vs2, n6, n2, _, rfl, atN hGg N7 (List.Mem.head _), at_kp hD6 k7 (by simpa using dL), hi6, at_kp hrl6 k7 (by simpa using rlL), hi2⟩ (atN hGg N7 (a := 332) (o := tabObj #[rawInt 189, rawInt 4, .ref c']) (by k_mem)) ⟨c', oc, vsc, t, rfl, at_kp hc6 k7 (by simpa using cL), hdc, hvc⟩
end
end Mine
end

section
open PySem PySem.W PySem.Calls PySem.Spec PyProof.Rows
namespace Mine
/-- a set's table as adding alone makes it -/
structure TOk (b : Bool) (t : SetTable) : Prop where
  led : t.led = b
  up : t.place.toList.Pairwise (· < ·)
  dum : t.dummies = #[]

theorem below_go {xs : Array Nat} {j : Nat} (up : xs.toList.Pairwise (· < ·)) : ∀ fuel lo hi, hi ≤ lo + fuel → lo ≤ hi → hi ≤ xs.size → (∀ i v, i < lo → xs[i]? = some v → v < j) → (∀ i v, hi ≤ i → xs[i]? = some v → j ≤ v) →
    SetTable.below.go xs j fuel lo hi ≤ xs.size ∧ (∀ i v, i < SetTable.below.go xs j fuel lo hi → xs[i]? = some v → v < j) ∧ ∀ i v, SetTable.below.go xs j fuel lo hi ≤ i → xs[i]? = some v → j ≤ v := by
  have lt : ∀ (i k u v : Nat), i < k → xs[i]? = some u → xs[k]? = some v → u < v := by
    intro i k u v hik hu hv
    rw [← Array.getElem?_toList] at hu hv
    obtain ⟨h1, rfl⟩ := List.getElem?_eq_some_iff.mp hu
    obtain ⟨h2, rfl⟩ := List.getElem?_eq_some_iff.mp hv
    exact List.pairwise_iff_getElem.mp up i k h1 h2 hik
  intro fuel
  induction fuel with
  | zero =>
    intro lo hi h1 h2 h3 h4 h5
    have e : lo = hi := by omega
    subst e
    exact ⟨h3, h4, h5⟩
  | succ fuel ih =>
    intro lo hi h1 h2 h3 h4 h5
    unfold SetTable.below.go
    by_cases hl : lo < hi
    · rw [if_pos hl]
      dsimp only
      have hm : (lo + hi) / 2 < xs.size := by omega
      have hg : xs[(lo + hi) / 2]? = some (xs.getD ((lo + hi) / 2) j) := by simp [Array.getD, hm]
      by_cases hc : xs.getD ((lo + hi) / 2) j < j
      · rw [if_pos hc]
        refine ih ((lo + hi) / 2 + 1) hi (by omega) (by omega) h3 (fun i v hi' hv => ?_) h5
        by_cases e : i = (lo + hi) / 2
        · rw [e, hg] at hv; cases hv; exact hc
        · have hi2 : i < (lo + hi) / 2 := by omega
          exact Nat.lt_trans (lt i ((lo + hi) / 2) v _ hi2 hv hg) hc
      · rw [if_neg hc]
        refine ih lo ((lo + hi) / 2) (by omega) (by omega) (by omega) h4 (fun i v hi' hv => ?_)
        by_cases e : i = (lo + hi) / 2
        · rw [e, hg] at hv; cases hv; omega
        · have hi2 : (lo + hi) / 2 < i := by omega
          have := lt ((lo + hi) / 2) i _ v hi2 hg hv; omega
    · rw [if_neg hl]
      have e : lo = hi := by omega
      subst e
      exact ⟨h3, h4, h5⟩
theorem below_spec {xs : Array Nat} {j : Nat} (up : xs.toList.Pairwise (· < ·)) :
    SetTable.below xs j ≤ xs.size ∧ (∀ i v, i < SetTable.below xs j → xs[i]? = some v → v < j) ∧ ∀ i v, SetTable.below xs j ≤ i → xs[i]? = some v → j ≤ v :=
  below_go up xs.size 0 xs.size (by omega) (Nat.zero_le _) (Nat.le_refl _) (fun i v h => absurd h (Nat.not_lt_zero _)) (fun i v h hv => by
    have := (Array.getElem?_eq_some_iff.mp hv).1; omega)
theorem below_zero {xs : Array Nat} (up : xs.toList.Pairwise (· < ·)) : SetTable.below xs 0 = 0 := by
  obtain ⟨h1, h2, _⟩ := below_spec (j := 0) up
  by_cases h : SetTable.below xs 0 = 0
  · exact h
  · have hs : 0 < xs.size := by omega
    exact absurd (h2 0 xs[0] (by omega) (by simp [hs])) (Nat.not_lt_zero _)
theorem below_next {xs : Array Nat} {i j : Nat} (up : xs.toList.Pairwise (· < ·)) (e : xs[i]? = some j) : SetTable.below xs (j + 1) = i + 1 := by
  obtain ⟨h1, h2, h3⟩ := below_spec (j := j + 1) up
  have hi := (Array.getElem?_eq_some_iff.mp e).1
  have a1 : i + 1 ≤ SetTable.below xs (j + 1) := by
    apply Nat.lt_of_not_le
    intro hc
    have := h3 i j hc e
    omega
  have a2 : SetTable.below xs (j + 1) ≤ i + 1 := by
    apply Nat.le_of_not_lt
    intro hc
    have hs : i + 1 < xs.size := by omega
    have e2 : xs[i + 1]? = some xs[i + 1] := by simp [hs]
    have := h2 (i + 1) _ hc e2
    have lt : j < xs[i + 1] := by
      rw [← Array.getElem?_toList] at e e2
      obtain ⟨q1, q2⟩ := List.getElem?_eq_some_iff.mp e
      obtain ⟨q3, q4⟩ := List.getElem?_eq_some_iff.mp e2
      rw [← q2, ← q4]
      exact List.pairwise_iff_getElem.mp up i (i + 1) q1 q3 (Nat.lt_succ_self _)
    omega
  omega

theorem TOk.fresh (b : Bool) : TOk b (.fresh 0 0 b) := ⟨rfl, .nil, rfl⟩
theorem TOk.standIn {b : Bool} {t : SetTable} (T : TOk b t) (n : Nat) : TOk b (t.standIn n) := ⟨T.led, by simp [SetTable.standIn, List.pairwise_lt_range], rfl⟩
theorem TOk.orStandIn {b : Bool} {t : SetTable} (T : TOk b t) (n : Nat) : TOk b (t.orStandIn n) := by
  unfold SetTable.orStandIn; split
  · exact T
  · exact T.standIn n
theorem TOk.plain {b : Bool} {t : SetTable} (T : TOk b t) (p : Bool) : TOk b { t with plain := p } := ⟨T.led, T.up, T.dum⟩
theorem TOk.noDummy {b : Bool} {t : SetTable} (T : TOk b t) (j : Nat) : SetTable.has t.dummies j = false := by rw [T.dum]; rfl

theorem probe_go {b : Bool} {t : SetTable} (T : TOk b t) {f : Nat → Int} {h : Int} : ∀ fuel p j d, p.dummy = none → SetTable.probe.go t f h fuel p = some (.empty j d) → d = none ∧ t.slot j = .empty := by
  intro fuel
  induction fuel with
  | zero => intro p j d _ e; cases e
  | succ fuel ih =>
    intro p j d hp e
    unfold SetTable.probe.go at e
    cases hs : t.slot p.j with
    | empty => rw [hs] at e; dsimp only at e; cases e; exact ⟨hp, hs⟩
    | dummy =>
      exfalso
      unfold SetTable.slot at hs
      dsimp only at hs
      split at hs
      · cases hs
      · rw [T.noDummy] at hs; cases hs
    | live i =>
      rw [hs] at e
      dsimp only at e
      split at e
      · cases e
      · refine ih _ j d ?_ e
        unfold SetTable.advance
        split
        · exact hp
        · exact hp
theorem TOk.put {b : Bool} {t : SetTable} (T : TOk b t) {h : Int} {slot : Nat} {wd : Bool} (e : t.freeSlot h = some (slot, wd)) : TOk b (t.put slot).1 := by
  have hfree : t.place[SetTable.below t.place slot]? ≠ some slot := by
    unfold SetTable.freeSlot at e
    split at e
    · rename_i j d hp
      obtain ⟨rfl, hs⟩ := probe_go T _ _ _ _ rfl hp
      simp only [Option.some.injEq, Prod.mk.injEq, Option.getD_none] at e
      obtain ⟨rfl, _⟩ := e
      unfold SetTable.slot at hs
      dsimp only at hs
      split at hs
      · cases hs
      · rename_i hc
        simpa using hc
    · cases e
  unfold SetTable.put
  dsimp only
  refine ⟨T.led, ?_, ?_⟩
  · obtain ⟨h1, h2, h3⟩ := below_spec (j := slot) T.up
    rw [SetTable.toList_insertAt]
    have up := T.up
    have e0 : t.place.toList = t.place.toList.take (SetTable.below t.place slot) ++ t.place.toList.drop (SetTable.below t.place slot) := (List.take_append_drop _ _).symm
    rw [e0] at up
    obtain ⟨u1, u2, u3⟩ := List.pairwise_append.mp up
    have lo : ∀ x ∈ t.place.toList.take (SetTable.below t.place slot), x < slot := by
      intro x hx
      obtain ⟨i, hi⟩ := List.mem_iff_getElem?.mp hx
      rw [List.getElem?_take] at hi
      split at hi
      · exact h2 i x (by assumption) (by rw [← Array.getElem?_toList]; exact hi)
      · cases hi
    have hi : ∀ x ∈ t.place.toList.drop (SetTable.below t.place slot), slot < x := by
      intro x hx
      obtain ⟨i, hi⟩ := List.mem_iff_getElem?.mp hx
      rw [List.getElem?_drop] at hi
      have q := h3 _ x (Nat.le_add_right _ i) (by rw [← Array.getElem?_toList]; exact hi)
      rcases Nat.lt_or_eq_of_le q with q | q
      · exact q
      · exfalso
        subst q
        cases i with
        | zero => exact hfree (by rw [← Array.getElem?_toList]; simpa using hi)
        | succ i =>
          have hlen : SetTable.below t.place slot < t.place.size := by
            have := (List.getElem?_eq_some_iff.mp hi).1
            rw [Array.length_toList] at this; omega
          have e1 : t.place[SetTable.below t.place slot]? = some t.place[SetTable.below t.place slot] := by simp [hlen]
          have q1 := h3 _ _ (Nat.le_refl _) e1
          rw [← Array.getElem?_toList] at e1
          obtain ⟨l1, v1⟩ := List.getElem?_eq_some_iff.mp e1
          obtain ⟨l2, v2⟩ := List.getElem?_eq_some_iff.mp hi
          have := List.pairwise_iff_getElem.mp T.up _ _ l1 l2 (by omega)
          omega
    refine List.pairwise_append.mpr ⟨u1, List.pairwise_cons.mpr ⟨hi, u2⟩, fun x hx y hy => ?_⟩
    rcases List.mem_cons.mp hy with rfl | hy
    · exact lo x hx
    · exact Nat.lt_trans (lo x hx) (hi y hy)
  · rw [T.noDummy]; exact T.dum
theorem TOk.layNew {b : Bool} {t : SetTable} (T : TOk b t) (es : Array (Int × Value)) (h : Int) (x : Value) : TOk b (PySem.layNew t es h x).2.1 := by
  unfold PySem.layNew
  split
  · rename_i slot wd e
    exact (T.put e).orStandIn _
  · exact T.standIn _

theorem live_fst (g : Nat → Option Nat) : ∀ l : List Nat, (l.filterMap fun j => (g j).map (j, ·)).map (·.1) = l.filter fun j => (g j).isSome
  | [] => rfl
  | a :: r => by
    rw [List.filterMap_cons]
    cases q : g a with
    | none => simp [q, live_fst g r]
    | some v => simp [q, live_fst g r]
theorem TOk.relayAll {b : Bool} {t : SetTable} (T : TOk b t) (es : Array (Int × Value)) (wanted : Nat) : TOk b (PySem.relayAll t es wanted).2.1 := by
  unfold PySem.relayAll
  split
  · rename_i t' order e
    dsimp only
    have T' : TOk b t' := by
      unfold SetTable.relaid SetTable.laid at e
      cases q : SetTable.layClean (SetTable.sizeAbove wanted - 1) (es.map (·.1)) with
      | none => rw [q] at e; cases e
      | some owner =>
        rw [q] at e
        simp only [Option.bind_eq_bind, Option.bind_some, Option.pure_def, Option.some.injEq, Prod.mk.injEq] at e
        obtain ⟨rfl, _⟩ := e
        refine ⟨T.led, ?_, rfl⟩
        dsimp only
        rw [live_fst]
        exact List.pairwise_lt_range.filter _
    split
    · exact T'
    · exact T.standIn _
  · exact T.standIn _
end Mine
end

section
open PySem PySem.W PySem.Calls PySem.Spec PyProof.Rows
namespace Mine
def kOf (e : Int × Value) : Int := match e.2 with | .int k _ => k | _ => 0
/-- the object is a set of these distinct ints -/
def SetZ (b : Bool) (o : Obj) (ks : List Int) : Prop :=
  o.ExactSet ∧ ∃ es ep t, o.data = .set es ep t ∧ (es.toList.map kOf).Perm ks ∧ (∀ e ∈ es.toList, ∃ k u, e = (hashInt k, .int k u)) ∧ t.fits es.size = true ∧ TOk b t

section
variable {prog : Program} {w : World} {A : Around} {E : Value → Shared → Prop} {s : Shared} {b : Bool} {a : Addr}
theorem elems_of {es : List (Int × Value)} (h : ∀ e ∈ es, ∃ k u, e = (hashInt k, Value.int k u)) : ElemsOf (intKind prog w) es := fun e he => by
  obtain ⟨k, u, rfl⟩ := h e he
  exact ⟨⟨k, intKind_is _ _ _ _, rfl⟩, rfl⟩
theorem setz_fresh (b : Bool) : SetZ b { cls := .type "set", dict := none, data := .set #[] 0 (.fresh 0 0 b) } [] :=
  ⟨⟨rfl, rfl, rfl⟩, #[], 0, _, rfl, .refl _, fun e he => by simp at he, by rfl, TOk.fresh b⟩

theorem add_setz {o : Obj} {ks : List Int} {k : Int} {u : Tok} {Q : Bool → Shared → Prop} (ho : s.heap.get? a = some o) (hS : SetZ b o ks) (hk : k ∉ ks) (hb : ks.length + 1 < scanBound)
    (h : ∀ h' o', Heap.SameBut a s.heap h' → h'.get? a = some o' → SetZ b o' (ks ++ [k]) → Q true { s with heap := h' }) :
    wpAny (model prog w) A (setAddHashed a (.int k u) (hashInt k)) Q E s := by
  obtain ⟨hex, es, ep, t, hd, hp, hel, hf, T⟩ := hS
  have hel' := elems_of (prog := prog) (w := w) hel
  have hn : es.size = ks.length := by rw [← hp.length_eq, List.length_map, Array.length_toList]
  have hkey := intKind_is prog w k u
  unfold setAddHashed setAddHashedIn
  refine wpAny_holding (wpAny_bind (wpAny_setState_of ho hd hf ?_))
  dsimp only
  rw [byScan_of (knd := intKind prog w) rfl (by omega) hel']
  simp only [↓reduceIte]
  unfold setAddByScan
  refine wpAny_bind ?_
  refine wpAny_bind (wpAny_rule ?_)
  refine wpAny_bind (wpAny_setScan_of (knd := intKind prog w) (k := k) hkey ho hd hf hel' ?_)
  have hr : List.findIdx? (fun e => (intKind prog w).is k e.2) es.toList = none := by
    rw [List.findIdx?_eq_none_iff]
    intro e he
    obtain ⟨k', u', rfl⟩ := hel e he
    cases q : (intKind prog w).is k (Value.int k' u') with
    | false => rfl
    | true =>
      have e1 := (intKind prog w).inj _ _ _ q (intKind_is prog w k' u')
      exfalso
      exact hk (hp.mem_iff.mp (List.mem_map.mpr ⟨_, he, by rw [e1]; rfl⟩))
  rw [hr]
  dsimp only
  have hperm := layNew_perm t es (hashInt k) (.int k u)
  have hfits := layNew_fits t es (hashInt k) (.int k u)
  have T1 := T.layNew es (hashInt k) (.int k u)
  generalize hL : layNew t es (hashInt k) (.int k u) = L at hperm hfits T1 ⊢
  obtain ⟨es1, t1, wasDummy, gave⟩ := L
  dsimp only at hperm hfits T1 ⊢
  rw [Array.toList_push] at hperm
  have hel1 : ∀ e ∈ es1.toList, ∃ k u, e = (hashInt k, Value.int k u) := fun e he => by
    rcases List.mem_append.mp (hperm.mem_iff.mp he) with q | q
    · exact hel e q
    · rw [List.mem_singleton] at q; exact ⟨k, u, q⟩
  have hp1 : (es1.toList.map kOf).Perm (ks ++ [k]) := (hperm.map kOf).trans (by rw [List.map_append]; exact hp.append_right _)
  have hn1 : es1.size = ks.length + 1 := by rw [← Array.length_toList, ← List.length_map (f := kOf), hp1.length_eq]; simp
  have hz1 : es1.size ≤ sizeLine := fits_of_scanBound (by omega)
  have gw : ∀ (b : Bool) {s₁ : Shared} {Q' : Unit → Shared → Prop}, Q' () s₁ → wpAny (model prog w) A (match b with | true => rule "set.scan.the-table-gave-way" | false => pure ()) Q' E s₁ :=
    fun b s₁ Q' hq => by cases b <;> first | exact wpAny_pure hq | exact wpAny_rule hq
  refine wpAny_bind (gw _ ?_)
  have tail : ∀ t2 : SetTable, t2.fits es1.size = true → TOk b t2 → wpAny (model prog w) A (do
        storeSet a es1 t2
        if (!wasDummy && t2.tooFull) = true then do
            (match (relayAll t2 es1 (SetTable.grown es1.size)).2.2 with | true => rule "set.scan.the-table-gave-way" | false => pure ())
            storeSet a (relayAll t2 es1 (SetTable.grown es1.size)).1 (relayAll t2 es1 (SetTable.grown es1.size)).2.1
            pure (some true)
          else pure (some true)) (fun r s' => r = some true ∧ Q true s') E s := by
    intro t2 hf2 T2
    refine wpAny_bind (wpAny_storeSet_of ho hd ?_ hz1)
    have hg : (s.heap.update a (Obj.putSet es1 t2)).get? a = some { o with data := .set es1 (ep + 1) t2 } := by
      have := Heap.get?_update_self (Obj.putSet es1 t2) ho (by rw [putSet_of es1 t2 hd]; rfl)
      rw [putSet_of es1 t2 hd] at this; exact this
    have hsb1 := Heap.SameBut.update s.heap a (Obj.putSet es1 t2)
    split
    · have hpr := relayAll_perm t2 es1 (SetTable.grown es1.size)
      have hfr := relayAll_fits t2 es1 (SetTable.grown es1.size)
      have T3 := T2.relayAll es1 (SetTable.grown es1.size)
      generalize relayAll t2 es1 (SetTable.grown es1.size) = Rl at hpr hfr T3 ⊢
      obtain ⟨es2, t3, gave2⟩ := Rl
      dsimp only at hpr hfr T3 ⊢
      have hsz : es2.size = es1.size := by rw [← Array.length_toList, hpr.length_eq, Array.length_toList]
      refine wpAny_bind (gw _ ?_)
      refine wpAny_bind (wpAny_storeSet_of hg rfl ?_ (by rw [hsz]; exact hz1))
      have hg2 : ((s.heap.update a (Obj.putSet es1 t2)).update a (Obj.putSet es2 t3)).get? a = some { o with data := .set es2 (ep + 1 + 1) t3 } := by
        have := Heap.get?_update_self (Obj.putSet es2 t3) hg (by rw [putSet_of es2 t3 rfl]; rfl)
        rw [putSet_of es2 t3 rfl] at this; exact this
      exact wpAny_pure ⟨rfl, h _ _ (hsb1.trans (Heap.SameBut.update _ a _)) hg2 ⟨hex, es2, _, t3, rfl, (hpr.map kOf).trans hp1, fun e he => hel1 e (hpr.mem_iff.mp he), hfr, T3⟩⟩
    · exact wpAny_pure ⟨rfl, h _ _ hsb1 hg ⟨hex, es1, _, t2, rfl, hp1, hel1, hf2, T2⟩⟩
  split
  · refine wpAny_bind ?_
    rw [hashByValue_scannable 8 (rfl : (Value.int k u).scannable = true)]
    refine wpAny_pure ?_
    refine wpAny_mono (tail _ ?_ ?_) ?_ (fun _ _ e => e)
    · split
      · exact hfits
      · exact SetTable.fits_plain_off hfits
    · split
      · exact T1
      · exact T1.plain _
    · rintro r s' ⟨rfl, hq⟩; exact wpAny_pure hq
  · refine wpAny_bind (wpAny_pure ?_)
    simp only [↓reduceIte]
    refine wpAny_mono (tail _ hfits T1) ?_ (fun _ _ e => e)
    rintro r s' ⟨rfl, hq⟩; exact wpAny_pure hq
end

section
variable {prog : Program} {w : World} {A : Around} {R : Result → Shared → Prop} {I : Addr} {fp wr : List Addr} {G : Array GenState → Array GenState → Prop} {n : Nat} {P : Nat → Value → Prop} {St : Nat → Shared → Prop}
theorem setz_loop {b : Bool} (W : WalksS prog w A.in1 I fp wr G n P St) (S : Addr) (hSf : S ∉ fp) (ns : List Int) (hns : ns.Nodup) (hln : ns.length = n)
    (hval : ∀ i v, P i v → ∃ k u, ns[i]? = some k ∧ v = .int k u) (hb : n + 1 < scanBound) :
    ∀ (k i : Nat) (s : Shared) (o : Obj), n - i = k → i ≤ n → St i s → s.heap.get? S = some o → SetZ b o (ns.take i) →
      (∀ s' o', Moved (S :: wr) G s s' → s'.heap.get? S = some o' → SetZ b o' ns → R (.ok (.ret .none)) s') →
      codeAny (model prog w) A (.builtin "set.update.loop" ⟨[.ref S, .ref I], []⟩) R s := by
  have hSw : S ∉ wr := fun h => hSf (W.sub _ h)
  have hsub : ∀ b ∈ wr, b ∈ S :: wr := fun b hb => List.mem_cons_of_mem _ hb
  intro k
  induction k with
  | zero =>
    intro i s o hk hi hst ho hS hR
    have hin : i = n := by omega
    subst hin
    refine codeAny_builtin PyProof.Rows.F.entry_set_update_loop ?_
    rw [Around.under_plainId PyProof.Rows.F.plain_set_update_loop _]
    show wpAny _ A.in1 (pyNext (.ref I) >>= _) _ _ s
    refine wpAny_bind (W.done s _ _ hst fun s' hm => ?_)
    show wpAny _ A.in1 (ret Value.none) _ _ s'
    rw [← hln, List.take_length] at hS
    exact wpAny_pure (hR s' o (hm.mono hsub) (hm.heap S _ hSw ho) hS)
  | succ k ih =>
    intro i s o hk hi hst ho hS hR
    have hlt : i < n := by omega
    refine codeAny_builtin PyProof.Rows.F.entry_set_update_loop ?_
    rw [Around.under_plainId PyProof.Rows.F.plain_set_update_loop _]
    show wpAny _ A.in1 (pyNext (.ref I) >>= _) _ _ s
    refine wpAny_bind (W.item i s _ _ hlt hst fun v s' hP hst' hm => ?_)
    obtain ⟨x, u, hx, rfl⟩ := hval i v hP
    have ho' := hm.heap S _ hSw ho
    show wpAny _ A.in1 (holding [Value.int x u] (setAdd S (.int x u)) >>= _) _ _ s'
    refine wpAny_bind (wpAny_holding ?_)
    unfold setAdd
    refine wpAny_holding ?_
    refine wpAny_bind ((intKind prog w).pyHash (k := x) (intKind_is _ _ _ _) ?_)
    have hni : x ∉ ns.take i := by
      intro hm'
      obtain ⟨j, hj⟩ := List.mem_iff_getElem?.mp hm'
      rw [List.getElem?_take] at hj
      split at hj
      · rename_i hji
        obtain ⟨q1, q2⟩ := List.getElem?_eq_some_iff.mp hj
        obtain ⟨q3, q4⟩ := List.getElem?_eq_some_iff.mp hx
        have := List.pairwise_iff_getElem.mp hns j i q1 q3 hji
        exact this (q2.trans q4.symm)
      · cases hj
    refine add_setz (prog := prog) (w := w) (s := { s' with toks := s'.toks + 1 }) ho' hS hni (by rw [List.length_take]; omega) fun h' o' hsb hg hS2 => ?_
    have e1 : ns.take i ++ [x] = ns.take (i + 1) := by rw [List.take_add_one, hx]; rfl
    rw [e1] at hS2
    refine wpAny_pure ⟨plainId_quiet PyProof.Rows.F.plain_set_update_loop _, ih (i + 1) _ o' (by omega) hlt (W.frame _ s' _ _ hst' (Nat.le_succ _) fun b hb o e => ?_) hg hS2 fun s'' o'' hm'' hg'' hS'' => ?_⟩
    · rw [hsb.2 b (fun h : b = S => hSf (by rw [← h]; exact hb))]; exact e
    · refine hR s'' o'' (Moved.trans W.gtrans ((hm.mono hsub).then_heap (Nat.le_succ _) fun b o hb e => ?_) hm'') hg'' hS''
      rw [hsb.2 b (fun h : b = S => hb (by rw [h]; exact List.mem_cons_self))]; exact e
end
abbrev ledOf (w : World) : Bool := !(w.params.followText "set-order")
section
variable {prog : Program} {w : World} {A : Around} {E : Value → Shared → Prop} {s : Shared}
abbrev newSetO (w : World) : Obj := { cls := .type "set", dict := none, data := .set #[] 0 (.fresh 0 0 (ledOf w)) }
theorem code_setz_new (a : Value) {Q₁ : Value → Shared → Prop} (h : Q₁ (.ref s.heap.objs.size) { s with heap := s.heap.push (newSetO w) }) :
    codeAny (model prog w) A (.call (.builtin "set.__new__") ⟨[.type "set", a], []⟩) (wants Q₁ E) s := by
  refine codeAny_of_tree ?_
  show wpAny _ A.in1 (do checkBuiltinCall "set.__new__" ⟨[.type "set", a], []⟩; again (.builtin "set.__new__" ⟨[.type "set", a], []⟩)) _ _ s
  refine wpAny_bind (wpAny_of_eq (PySem.F.newCall_set_1 a) (wpAny_pure ⟨plainId_quiet PySem.F.plain_set_new _, codeAny_builtin PySem.F.entry_set_new ?_⟩))
  rw [Around.under_plainId PySem.F.plain_set_new _]
  unfold Builtin.«set.__new__» Builtin.Frozenset.newClass
  have hsub := sub_set_self
  obtain ⟨hp, g, d, tk, os⟩ := s
  dsimp only
  wp_walk
  refine wpAny_askSetting (wpAny_pure ?_)
  dsimp only
  simp only [newObj]
  refine wpAny_bind (wpAny_alloc (wpAny_pure ?_))
  exact wpAny_pure h
end

set_option maxHeartbeats 3200000 in
theorem set_of_list {prog : Program} {w : World} {A : Around} {E : Value → Shared → Prop} {s : Shared} {l : Addr} {vs : List Value} {ns : List Int} {Q : Value → Shared → Prop}
    (hh : A.handled = none) (hl : s.heap.IsList l vs.toArray) (hi : IntsAre vs ns) (hnd : ns.Nodup) (hb : ns.length + 1 < scanBound)
    (h : ∀ (h' : Heap) (tk : Nat) (o : Obj), h'.get? s.heap.objs.size = some o → SetZ (ledOf w) o ns →
      (∀ b o, b < s.heap.objs.size → s.heap.get? b = some o → h'.get? b = some o) → Q (.ref s.heap.objs.size) { s with heap := h', toks := tk }) :
    wpAny (model prog w) A (call (.type "set") [.ref l]) Q E s := by
  obtain ⟨c, tl, hmro⟩ := PySem.F.called_set.mro
  have hmade := PySem.F.called_set.made
  have hsub := PySem.F.called_set.sub
  refine wpAny_call (codeAny_of_tree ?_)
  show wpAny _ _ (callAny (.type "set") _) _ _ _
  refine wpAny_pure ⟨Code.quiet_builtin _ (by decide +kernel), codeAny_builtin PySem.F.entry_type_call ?_⟩
  rw [Around.under_plain (weight_type_call_type "set" [.ref l] []) rfl]
  have h1 := PySem.F.called_set.notType
  have h2 := PySem.F.called_set.canCreate
  have hct := PySem.F.typeCall_set_1 (.ref l)
  repeat (any_goals (first | assumption | wp_step))
  refine codeAny_mono (code_setz_new (.ref l) (E := E) (Q₁ := fun obj s₁ => obj = .ref s.heap.objs.size ∧ s₁ = { s with heap := s.heap.push (newSetO w) }) ⟨rfl, rfl⟩) fun r s₁ hr => ?_
  cases r with
  | error e => exact hr
  | ok fl =>
    cases fl with
    | ret obj =>
      obtain ⟨rfl, rfl⟩ := hr
      have hS : (s.heap.push (newSetO w)).get? s.heap.objs.size = some (newSetO w) := Heap.get?_push_size _ rfl
      have hT : Shared.TypeIs { s with heap := s.heap.push (newSetO w) } (.ref s.heap.objs.size) "set" := ⟨_, hS, rfl⟩
      have hli := PySem.F.called_set.init.lookup
      have hbi := PySem.F.called_set.init.bind (.ref s.heap.objs.size)
      repeat (any_goals (first | assumption | wp_step))
      refine codeAny_mono (codeAny_call_builtin (R := wants (fun r s₂ => r = .none ∧ ∃ h' tk o, s₂ = { s with heap := h', toks := tk } ∧
          h'.get? s.heap.objs.size = some o ∧ SetZ (ledOf w) o ns ∧
          (∀ b o, b < s.heap.objs.size → s.heap.get? b = some o → h'.get? b = some o)) E) PySem.F.called_set.init.plain PySem.F.entry_set_init (check_set_init_1 hT ?_)) fun r₂ s₂ hr₂ => ?_
      · obtain ⟨ol, hol, hcl, nl, hdl⟩ := hl
        obtain ⟨ocls, odict, odata, oslots⟩ := ol
        simp only at hcl hdl
        subst hcl; subst hdl
        have hol' : (s.heap.push (newSetO w)).get? l = some { cls := .type "list", dict := odict, data := .seq vs.toArray nl, slots := oslots } := Heap.get?_push_of_some _ hol
        have hsls := PySem.F.sub_list_set
        have hslf := PySem.F.sub_list_frozenset
        have hne : (Value.type "list" == Value.type "dict") = false := by decide
        have hl1 : (s.heap.push (newSetO w)).IsList l vs.toArray := ⟨_, hol', rfl, nl, rfl⟩
        unfold Builtin.«set.__init__» noKeywords Builtin.Frozenset.updateFrom
        generalize hPI : pyIter = PI
        wp_walk
        subst hPI
        refine wpAny_pyIter_list hl1 ?_
        refine wpAny_bind (wpAny_runValue ?_)
        have hlS : @LT.lt Nat _ l s.heap.objs.size := Heap.lt_size hol
        have hh3 : A.in1.in1.in1.handled = none := by simp [hh]
        have hneI : l ≠ (s.heap.push (newSetO w)).objs.size := by
          rw [Heap.size_push]; exact Nat.ne_of_lt (Nat.lt_succ_of_lt hlS)
        have hSf : s.heap.objs.size ∉ [(s.heap.push (newSetO w)).objs.size, l] := by
          rw [Heap.size_push]; simp only [List.mem_cons, List.not_mem_nil, or_false, not_or]
          exact ⟨Nat.ne_of_lt (Nat.lt_succ_self _), Nat.ne_of_gt hlS⟩
        have hln : ns.length = vs.toArray.size := by rw [List.size_toArray]; exact hi.length.symm
        have hval : ∀ (i : Nat) (v : Value), vs.toArray[i]? = some v → ∃ k u, ns[i]? = some k ∧ v = .int k u := fun i v hv => by
          obtain ⟨u, e⟩ := IntsAre.int_at hi i v (by simpa using hv)
          have hlt : i < ns.length := by
            have := (Array.getElem?_eq_some_iff.mp hv).1; omega
          exact ⟨_, u, by rw [List.getD_eq_getElem?_getD]; simp [hlt], e⟩
        refine setz_loop ((Walks.list hh3 _ l hneI vs.toArray).toS) s.heap.objs.size
          hSf ns hnd hln hval (by omega) (vs.toArray.size - 0) 0 _ (newSetO w) (by omega) (Nat.zero_le _)
          ⟨⟨_, Heap.get?_push_size _ rfl, rfl, rfl⟩, (hl1.push _)⟩ (Heap.get?_push_of_some _ hS) (by rw [List.take_zero]; exact setz_fresh _) ?hR
        case hR =>
          intro s' o' hm hg hS'
          obtain ⟨h', g', d', tk', os'⟩ := s'
          have eg : g' = s.gens := hm.gens
          have ed : d' = s.drawn := hm.drawn
          have eo : os' = s.os := hm.os
          subst eg; subst ed; subst eo
          show wpAny _ _ _ _ _ _
          refine wpAny_pure ?_
          show wpAny _ _ (ret Value.none) _ _ _
          refine wpAny_pure ⟨rfl, h', tk', o', rfl, hg, hS', fun b o hb e => ?_⟩
          have hb1 : b ≠ s.heap.objs.size := Nat.ne_of_lt hb
          have hb2 : b ≠ (s.heap.push (newSetO w)).objs.size := by
            rw [Heap.size_push]; exact Nat.ne_of_lt (Nat.lt_succ_of_lt hb)
          exact hm.heap b o (by simp only [List.mem_cons, List.not_mem_nil, or_false, not_or]; exact ⟨hb1, hb2⟩) (Heap.get?_push_of_some _ (Heap.get?_push_of_some _ e))
      · cases r₂ with
        | error e => exact hr₂
        | ok fl₂ =>
          cases fl₂ with
          | ret r =>
            obtain ⟨rfl, h', tk, o', rfl, hg, hS', hk'⟩ := hr₂
            repeat (any_goals (first | assumption | wp_step))
            exact h _ _ _ hg hS' hk'
          | _ => exact hr₂.elim
    | _ => exact hr.elim
end Mine
end

section
open PySem PySem.W PySem.Calls PySem.Spec PyProof.Rows
namespace Mine
theorem slot_seti_next : Slot "set_iterator" "__next__" "set_iterator.__next__" :=
  .of (owner := "set_iterator") (n := "__next__") (by rw [typeLookup_type, builtinLookup_eq_fast]; kernel_rfl) (by decide +kernel) (by decide +kernel) (by decide +kernel)
    (by first | exact .inl (by decide +kernel) | exact .inr (by decide +kernel)) (by rw [isSubtype_type]; kernel_rfl)
theorem entry_seti_next : entryFor table "set_iterator.__next__" = some Builtin.«set_iterator.__next__» := entryFor_of_tree (by kernel_rfl)
theorem args_seti_next (a : Value) : argsOk "set_iterator.__next__" ⟨[a], []⟩ := by unfold argsOk; kernel_rfl
theorem slot_seti_iter : Slot "set_iterator" "__iter__" "set_iterator.__iter__" :=
  .of (owner := "set_iterator") (n := "__iter__") (by rw [typeLookup_type, builtinLookup_eq_fast]; kernel_rfl) (by decide +kernel) (by decide +kernel) (by decide +kernel)
    (by first | exact .inl (by decide +kernel) | exact .inr (by decide +kernel)) (by rw [isSubtype_type]; kernel_rfl)
theorem entry_seti_iter : entryFor table "set_iterator.__iter__" = some Builtin.«dict_keyiterator.__iter__» :=
  entryFor_alias (id' := "dict_keyiterator.__iter__") (by kernel_rfl) rfl (by decide +kernel) (by kernel_rfl)
theorem args_seti_iter (a : Value) : argsOk "set_iterator.__iter__" ⟨[a], []⟩ := by unfold argsOk; kernel_rfl
theorem entry_set_iter : entryFor table "set.__iter__" = some Builtin.«frozenset.__iter__» :=
  entryFor_alias (id' := "frozenset.__iter__") (by kernel_rfl) rfl (by decide +kernel) (by kernel_rfl)

abbrev itO (first : Value) (i : Nat) (a : Addr) (n ep : Nat) : Obj := { cls := .type "set_iterator", data := .fields #[first, .int (i : Nat) 0, .ref a, .int (n : Nat) 0, .int (ep : Nat) 0] }
section
variable {prog : Program} {w : World} {A : Around} {E : Value → Shared → Prop} {s : Shared}
theorem choose_any {M : Model} {src : Source} {n : Nat} {Q : Nat → Shared → Prop} (hn : n ≠ 0) (h : ∀ i d, i < n → Q i { s with drawn := d }) : wpAny M A (choose src n) Q E s :=
  fun _ _ _ => ⟨hn, h _ _ (Nat.mod_lt _ (Nat.pos_of_ne_zero hn))⟩
theorem erase_perm {α : Type} : ∀ {l : List α} {i : Nat} (h : i < l.length), (l[i] :: l.eraseIdx i).Perm l
  | [], i, h => absurd h (Nat.not_lt_zero _)
  | x :: r, 0, _ => .refl _
  | x :: r, i + 1, h => by
    have ih := erase_perm (l := r) (i := i) (by simpa using h)
    simp only [List.getElem_cons_succ, List.eraseIdx_cons_succ]
    exact (List.Perm.swap _ _ _).trans (ih.cons x)
theorem draw_any {M : Model} {α : Type} : ∀ (n : Nat) (xs : List α) {s : Shared} {Q : List α → Shared → Prop}, xs.length = n → (∀ ys d, ys.Perm xs → Q ys { s with drawn := d }) → wpAny M A (drawOrder n xs) Q E s
  | 0, xs, s, Q, hl, h => by
    have e : xs = [] := List.length_eq_zero_iff.mp hl
    subst e
    exact wpAny_pure (h [] s.drawn (.refl _))
  | n + 1, xs, s, Q, hl, h => by
    cases xs with
    | nil => simp at hl
    | cons x r =>
      unfold drawOrder
      refine wpAny_bind (choose_any (by simp) fun i d hi => ?_)
      have e : (x :: r)[i]? = some (x :: r)[i] := by simp [hi]
      rw [e]
      dsimp only
      refine wpAny_bind (draw_any n ((x :: r).eraseIdx i) (by rw [List.length_eraseIdx]; simp at hl hi ⊢; rw [if_pos (by omega)]; omega) fun ys d' hp => ?_)
      exact wpAny_pure (h _ d' ((hp.cons _).trans (erase_perm hi)))
theorem pick_go {α : Type} (next : Nat → Nat) : ∀ (fuel k : Nat) (left : List α) (out : Array α), left.length = fuel → (pickOrder.go next fuel k left out).toList.Perm (out.toList ++ left)
  | 0, _, left, out, hl => by
    have e : left = [] := List.length_eq_zero_iff.mp hl
    subst e
    unfold pickOrder.go
    simp
  | fuel + 1, k, left, out, hl => by
    unfold pickOrder.go
    have hm : next k % left.length < left.length := Nat.mod_lt _ (by omega)
    have e : left[next k % left.length]? = some left[next k % left.length] := by simp [hm]
    rw [e]
    dsimp only
    refine (pick_go next fuel (k + 1) _ _ (by rw [List.length_eraseIdx, if_pos hm]; omega)).trans ?_
    rw [Array.toList_push, List.append_assoc]
    exact (erase_perm hm).append_left _
theorem pick_perm {α : Type} (next : Nat → Nat) (xs : Array α) : (pickOrder next xs).toList.Perm xs.toList := by
  have := pick_go next xs.size 0 xs.toList #[] (by simp)
  simpa [pickOrder] using this

theorem hint_set {r : Addr} {Q : Bool → Shared → Prop} (hT : s.TypeIs (.ref r) "set") (h : Q false s) : wpAny (model prog w) A (Builtin.List.listLengthHint (.ref r)) Q E s := by
  unfold Builtin.List.listLengthHint
  refine wpAny_bind (wpAny_specialOf hT PySem.F.slot_set_len.lookup ?_)
  generalize hid : ("set.__len__" : String) = id0
  wp_delta
  rw [show splitId id0 = some ("set", "__len__") from by subst hid; decide +kernel]
  subst hid
  refine wpAny_bind (wpAny_isInstance (T := "set") (b := true) hT (by rw [isSubtype_type]; kernel_rfl) ?_)
  refine wpAny_ite_split (fun hab => absurd hab (by decide)) (fun _ => ?_)
  refine wpAny_ite_split (fun _ => ?_) (fun hab => absurd (by decide +kernel) hab)
  refine wpAny_bind (wpAny_typeOf hT ?_)
  exact wpAny_pure h
end

section
variable {prog : Program} {w : World} {A : Around}
theorem self_seti {it a : Addr} {i n ep : Nat} {first : Value} {E : Value → Shared → Prop} {s : Shared} {Q : Value → Shared → Prop} (hit : s.heap.get? it = some (itO first i a n ep)) (h : Q (.ref it) s) : wpAny (model prog w) A (pyIter (.ref it)) Q E s := by
  have hT : s.TypeIs (.ref it) "set_iterator" := ⟨_, hit, rfl⟩
  refine wpAny_pyIter_slot hT slot_seti_iter (wpAny_call_entry slot_seti_iter hT entry_seti_iter ?_ (args_seti_iter _))
  show wpAny _ _ (ret (.ref it)) _ _ s
  exact wpAny_pure ⟨_, rfl, "set_iterator", _, hT, slot_seti_next.lookup, h⟩

theorem stop_iter {E : Value → Shared → Prop} {s : Shared} (hh : A.handled = none) {P : Fin → Shared → Prop} {Q : Option Value → Shared → Prop} (h : ∀ h' : Heap, (∀ b o, s.heap.get? b = some o → h'.get? b = some o) → Q none { s with heap := h' }) :
    wpAny (model prog w) A.in1 (do let e ← newExc (.type "StopIteration") []; raiseNew e) P (fun e s' => wpAny (model prog w) A (do let b ← isInstance e (.type "StopIteration"); if b = true then pure none else throw e) Q E s') s := by
  refine wpAny_bind ?_
  simp only [newExc, newTuple]
  refine wpAny_bind (wpAny_newObj_type ?_ (by size_fits))
  refine wpAny_bind (m := firstArgMember _ _) (wpAny_of_eq (a := Value.none) (by first | rfl | (simp only [firstArgMember]; rfl)) ?_)
  refine wpAny_newObj_type ?_ (by size_fits)
  simp only [raiseNew]
  refine wpAny_bind (wpAny_handled ?_)
  rw [show A.in1.handled = none from hh]
  refine wpAny_bind (wpAny_pure (wpAny_throw ?_))
  refine wpAny_bind (wpAny_isInstance (T := "StopIteration") (b := true) ⟨_, Heap.get?_push_size _ rfl, rfl⟩ isSubtype_stop ?_)
  exact wpAny_pure (h _ fun b o e => Heap.get?_push_of_some _ (Heap.get?_push_of_some _ e))

/-- a set's walk by slots -/
theorem walks_slot (hh : A.handled = none) (I a : Addr) (hne : a ≠ I) {o : Obj} {es : Array (Int × Value)} {ep : Nat} {t : SetTable} (hd : o.data = .set es ep t) (hf : t.fits es.size = true) (vals : List Value) (sl : Nat → Nat)
    (hnext : ∀ (i : Nat) (A : Around) (E : Value → Shared → Prop) (s : Shared) (Q : Option (Value × Nat) → Shared → Prop), i ≤ vals.length → s.heap.get? a = some o → Q ((vals[i]?).map fun v => (v, sl (i + 1))) s → wpAny (model prog w) A (setNext a (sl i) i ep) Q E s) :
    Walks prog w A I [I, a] [I] vals.length (fun i v => vals[i]? = some v) (fun i h => h.get? I = some (itO (.int (sl i : Nat) 0) i a es.size ep) ∧ h.get? a = some o) where
  sub := fun b hb => by simp at hb; simp [hb]
  frame := fun _ _ _ st hk => ⟨hk I (by simp) _ st.1, hk a (by simp) _ st.2⟩
  item := fun i s Q E hi st hQ => by
    obtain ⟨hI, ha⟩ := st
    have hT : s.TypeIs (.ref I) "set_iterator" := ⟨_, hI, rfl⟩
    unfold pyNext
    refine wpAny_bind (wpAny_attempt (wpAny_callSpecial?_slot (name := Str.ofString "__next__") hT slot_seti_next (wpAny_call_entry slot_seti_next hT entry_seti_next ?_ (args_seti_next _))))
    unfold Builtin.«set_iterator.__next__»
    refine wpAny_bind (m := slotArgs "__next__" 0 _) (wpAny_pure ?_)
    try dsimp only
    refine wpAny_bind (wpAny_fieldsOf hI rfl ?_)
    try dsimp only
    refine wpAny_bind (wpAny_setEntries_of ha hd hf ?_)
    rw [if_neg (by simp)]
    simp only [Int.toNat_natCast]
    refine wpAny_bind (hnext i _ _ s _ (Nat.le_of_lt hi) ha ?_)
    have e : vals[i]? = some vals[i] := by simp [hi]
    rw [e]
    dsimp only [Option.map_some]
    refine wpAny_bind (wpAny_setField_rec hI (by simp) fun h1 g1 s1 => ?_)
    refine wpAny_bind (wpAny_setField_rec g1 (by simp) fun h2 g2 s2 => ?_)
    refine wpAny_pure ⟨_, rfl, wpAny_pure ?_⟩
    refine hQ _ h2 s.toks e ⟨g2, ?_⟩ fun b o hb e => ?_
    · exact (s2.2 a hne).trans ((s1.2 a hne).trans ha)
    · have hb' : b ≠ I := fun q => hb (by simp [q])
      exact (s2.2 b hb').trans ((s1.2 b hb').trans e)
  done := fun s Q E st hQ => by
    obtain ⟨hI, ha⟩ := st
    have hT : s.TypeIs (.ref I) "set_iterator" := ⟨_, hI, rfl⟩
    unfold pyNext
    refine wpAny_bind (wpAny_attempt (wpAny_callSpecial?_slot (name := Str.ofString "__next__") hT slot_seti_next (wpAny_call_entry slot_seti_next hT entry_seti_next ?_ (args_seti_next _))))
    unfold Builtin.«set_iterator.__next__»
    refine wpAny_bind (m := slotArgs "__next__" 0 _) (wpAny_pure ?_)
    try dsimp only
    refine wpAny_bind (wpAny_fieldsOf hI rfl ?_)
    try dsimp only
    refine wpAny_bind (wpAny_setEntries_of ha hd hf ?_)
    rw [if_neg (by simp)]
    simp only [Int.toNat_natCast]
    refine wpAny_bind (hnext vals.length _ _ s _ (Nat.le_refl _) ha ?_)
    have e : vals[vals.length]? = none := by simp
    rw [e]
    dsimp only [Option.map_none]
    refine wpAny_bind (wpAny_setField_rec hI (by simp) fun h1 g1 s1 => ?_)
    refine stop_iter (s := { s with heap := h1 }) hh fun h2 k2 => hQ h2 s.toks fun b o hb e => k2 b o ((s1.2 b fun q => hb (by simp [q])).trans e)
  self := fun _ _ _ _ st hQ => self_seti st.1 hQ

/-- a set's walk by drawn places -/
theorem walks_drawn (hh : A.handled = none) (I a T : Addr) (hne : a ≠ I) (hTI : T ≠ I) {o : Obj} {es : Array (Int × Value)} {ep : Nat} {t : SetTable} (hd : o.data = .set es ep t) (hf : t.fits es.size = true) (ps : List Nat) (vals : List Value)
    (hl : ps.length = vals.length) (hv : ∀ (i p : Nat), ps[i]? = some p → ∃ x : Int × Value, es[p]? = some x ∧ vals[i]? = some x.2) :
    Walks prog w A I [I, a, T] [I] vals.length (fun i v => vals[i]? = some v) (fun i h => h.get? I = some (itO (.ref T) i a es.size ep) ∧ h.get? a = some o ∧ h.get? T = some { cls := .type "tuple", data := .seq (ps.map fun (p : Nat) => rawInt p).toArray }) where
  sub := fun b hb => by simp at hb; simp [hb]
  frame := fun _ _ _ st hk => ⟨hk I (by simp) _ st.1, hk a (by simp) _ st.2.1, hk T (by simp) _ st.2.2⟩
  item := fun i s Q E hi st hQ => by
    obtain ⟨hI, ha, hTT⟩ := st
    have hT : s.TypeIs (.ref I) "set_iterator" := ⟨_, hI, rfl⟩
    unfold pyNext
    refine wpAny_bind (wpAny_attempt (wpAny_callSpecial?_slot (name := Str.ofString "__next__") hT slot_seti_next (wpAny_call_entry slot_seti_next hT entry_seti_next ?_ (args_seti_next _))))
    unfold Builtin.«set_iterator.__next__»
    refine wpAny_bind (m := slotArgs "__next__" 0 _) (wpAny_pure ?_)
    try dsimp only
    refine wpAny_bind (wpAny_fieldsOf hI rfl ?_)
    try dsimp only
    refine wpAny_bind (wpAny_setEntries_of ha hd hf ?_)
    rw [if_neg (by simp)]
    simp only [Int.toNat_natCast]
    refine wpAny_bind (wpAny_seqItems hTT rfl ?_)
    have hp : ps[i]? = some ps[i] := by simp [hl, hi]
    obtain ⟨x, hx1, hx2⟩ := hv i _ hp
    have e2 : ((ps.map fun (p : Nat) => rawInt p).toArray)[i]? = some (.int (ps[i] : Nat) 0) := by simp [hl, hi, rawInt]
    simp only [e2]
    unfold setNextDrawn
    refine wpAny_bind (wpAny_bind (wpAny_setState_of ha hd hf ?_))
    simp only [bne_self_eq_false, Bool.false_eq_true, if_false, Int.toNat_natCast, hx1]
    refine wpAny_pure ?_
    refine wpAny_bind (wpAny_setField_rec hI (by simp) fun h1 g1 s1 => ?_)
    refine wpAny_pure ⟨_, rfl, wpAny_pure ?_⟩
    refine hQ _ h1 s.toks hx2 ⟨g1, (s1.2 a hne).trans ha, (s1.2 T hTI).trans hTT⟩ fun b o hb e => ?_
    have hb' : b ≠ I := fun q => hb (by simp [q])
    exact (s1.2 b hb').trans e
  done := fun s Q E st hQ => by
    obtain ⟨hI, ha, hTT⟩ := st
    have hT : s.TypeIs (.ref I) "set_iterator" := ⟨_, hI, rfl⟩
    unfold pyNext
    refine wpAny_bind (wpAny_attempt (wpAny_callSpecial?_slot (name := Str.ofString "__next__") hT slot_seti_next (wpAny_call_entry slot_seti_next hT entry_seti_next ?_ (args_seti_next _))))
    unfold Builtin.«set_iterator.__next__»
    refine wpAny_bind (m := slotArgs "__next__" 0 _) (wpAny_pure ?_)
    try dsimp only
    refine wpAny_bind (wpAny_fieldsOf hI rfl ?_)
    try dsimp only
    refine wpAny_bind (wpAny_setEntries_of ha hd hf ?_)
    rw [if_neg (by simp)]
    simp only [Int.toNat_natCast]
    refine wpAny_bind (wpAny_seqItems hTT rfl ?_)
    have e2 : ((ps.map fun (p : Nat) => rawInt p).toArray)[vals.length]? = none := by simp [hl]
    simp only [e2]
    refine wpAny_bind (wpAny_setField_rec hI (by simp) fun h1 g1 s1 => ?_)
    refine wpAny_bind (wpAny_setField_rec g1 (by simp) fun h2 g2 s2 => ?_)
    refine stop_iter (s := { s with heap := h2 }) hh fun h3 k3 => hQ h3 s.toks fun b o hb e => ?_
    have hb' : b ≠ I := fun q => hb (by simp [q])
    exact k3 b o ((s2.2 b hb').trans ((s1.2 b hb').trans e))
  self := fun _ _ _ _ st hQ => self_seti st.1 hQ
end
end Mine
end

section
open PySem PySem.W PySem.Calls PySem.Spec PyProof.Rows
namespace Mine
theorem ints_of : ∀ {l : List (Int × Value)}, (∀ e ∈ l, ∃ k u, e = (hashInt k, Value.int k u)) → IntsAre (l.map (·.2)) (l.map kOf)
  | [], _ => .nil
  | e :: r, h => by
    obtain ⟨k, u, rfl⟩ := h e (.head _)
    exact .cons k u (ints_of fun x hx => h x (.tail _ hx))
section
variable {prog : Program} {w : World} {A : Around} {E : Value → Shared → Prop} {s : Shared}
theorem next_text {a : Addr} {o : Obj} {es : Array (Int × Value)} {ep : Nat} {t : SetTable} (hd : o.data = .set es ep t) (hf : t.fits es.size = true) (ht : w.params.followText "set-order" = true)
    (i : Nat) {Q : Option (Value × Nat) → Shared → Prop} (ha : s.heap.get? a = some o) (h : Q ((((pickOrder (w.params.setOrder a ep) es).toList.map (·.2))[i]?).map fun v => (v, 0)) s) :
    wpAny (model prog w) A (setNext a 0 i ep) Q E s := by
  unfold setNext setsByText
  refine wpAny_bind (wpAny_setState_of ha hd hf ?_)
  dsimp only
  refine wpAny_bind (wpAny_bind (wpAny_askSetting (wpAny_pure ?_)))
  dsimp only
  rw [if_pos (show (model prog w).w.params.followText "set-order" = true from ht)]
  simp only [bne_self_eq_false, Bool.false_eq_true, if_false]
  unfold setWalk setsByText
  refine wpAny_bind (wpAny_bind (wpAny_setState_of ha hd hf ?_))
  dsimp only
  refine wpAny_bind (wpAny_bind (wpAny_askSetting (wpAny_pure ?_)))
  dsimp only
  rw [if_pos (show (model prog w).w.params.followText "set-order" = true from ht)]
  refine wpAny_bind (wpAny_askSetting (wpAny_pure (wpAny_pure ?_)))
  have e : ((((pickOrder (w.params.setOrder a ep) es).toList.map (·.2))[i]?).map fun v => (v, 0)) = ((pickOrder (w.params.setOrder a ep) es)[i]?).map fun e => (e.2, 0) := by
    rw [List.getElem?_map, Array.getElem?_toList, Option.map_map]; rfl
  rw [e] at h
  exact h
abbrev slOf (t : SetTable) : Nat → Nat
  | 0 => 0
  | i + 1 => t.place.getD i 0 + 1
theorem next_slot {a : Addr} {o : Obj} {es : Array (Int × Value)} {ep : Nat} {t : SetTable} (hd : o.data = .set es ep t) (hf : t.fits es.size = true) (ht : w.params.followText "set-order" = false) (T : TOk true t) (hdr : (!t.plain && decide (es.size > 1)) = false)
    (i : Nat) {Q : Option (Value × Nat) → Shared → Prop} (hi : i ≤ (es.toList.map (·.2)).length) (ha : s.heap.get? a = some o) (h : Q (((es.toList.map (·.2))[i]?).map fun v => (v, slOf t (i + 1))) s) :
    wpAny (model prog w) A (setNext a (slOf t i) i ep) Q E s := by
  have hps : t.place.size = es.size := by simp only [SetTable.fits, Bool.and_eq_true, beq_iff_eq] at hf; exact hf.1
  rw [List.length_map, Array.length_toList] at hi
  unfold setNext setsByText
  refine wpAny_bind (wpAny_setState_of ha hd hf ?_)
  dsimp only
  refine wpAny_bind (wpAny_bind (wpAny_askSetting (wpAny_pure ?_)))
  dsimp only
  rw [if_neg (by rw [show (model prog w).w.params.followText "set-order" = false from ht]; decide)]
  split
  · rename_i hc
    have hc' : (!t.plain && decide (es.size > 1)) = true := hc
    rw [hdr] at hc'; cases hc'
  refine wpAny_bind (wpAny_of_eq (a := ()) ?_ ?_)
  · show (if (!t.led && !es.isEmpty) = true then _ else _) = _
    rw [T.led]; rfl
  have hb : SetTable.below t.place (slOf t i) = i := by
    cases i with
    | zero => exact below_zero T.up
    | succ i =>
      have e1 : t.place[i]? = some (t.place.getD i 0) := by simp [Array.getD, show i < t.place.size by omega]
      exact below_next T.up e1
  rw [hb]
  by_cases hlt : i < es.size
  · have e1 : es[i]? = some es[i] := by simp [hlt]
    have e2 : t.place[i]? = some (t.place.getD i 0) := by simp [Array.getD, show i < t.place.size by omega]
    have e3 : ((es.toList.map (·.2))[i]?).map (fun v => (v, slOf t (i + 1))) = some (es[i].2, t.place.getD i 0 + 1) := by
      rw [List.getElem?_map, Array.getElem?_toList, e1]; rfl
    rw [e3] at h
    rw [e1, e2]
    exact wpAny_pure h
  · have e1 : es[i]? = none := by simp; omega
    have e3 : ((es.toList.map (·.2))[i]?).map (fun v => (v, slOf t (i + 1))) = none := by
      rw [List.getElem?_map, Array.getElem?_toList, e1]; rfl
    rw [e3] at h
    rw [e1]
    exact wpAny_pure h

theorem iter_set {a : Addr} {o : Obj} {ks : List Int} {Q : Value → Shared → Prop} (ha : s.heap.get? a = some o) (hS : SetZ (ledOf w) o ks) (hz : ks.length ≤ 1000)
    (h : ∀ (I : Addr) (h' : Heap) (d : Drawn) (vals : List Value) (ks' : List Int) (fp : List Addr) (St : Nat → Heap → Prop), (∀ b o, s.heap.get? b = some o → h'.get? b = some o) → (∀ b ∈ fp, b = a ∨ s.heap.objs.size ≤ b) → @LE.le Nat _ s.heap.objs.size I →
      (∀ A' : Around, A'.handled = none → Walks prog w A' I fp [I] vals.length (fun i v => vals[i]? = some v) St) → St 0 h' → IntsAre vals ks' → ks'.Perm ks → Q (.ref I) { s with heap := h', drawn := d }) :
    wpAny (model prog w) A (pyIter (.ref a)) Q E s := by
  obtain ⟨hex, es, ep, t, hd, hp, hel, hf, T⟩ := hS
  have hn : es.size = ks.length := by rw [← hp.length_eq, List.length_map, Array.length_toList]
  have hT : s.TypeIs (.ref a) "set" := ⟨o, ha, hex.1⟩
  have has : @LT.lt Nat _ a s.heap.objs.size := Heap.lt_size ha
  refine wpAny_pyIter_slot hT PySem.F.slot_set_iter (wpAny_call_entry PySem.F.slot_set_iter hT entry_set_iter ?_ (PySem.F.args_set_iter_1 _))
  unfold Builtin.«frozenset.__iter__» Builtin.Frozenset.slot0
  refine wpAny_bind (wpAny_bind (m := slotArgs "__iter__" 0 _) (wpAny_pure ?_))
  try dsimp only
  refine wpAny_pure ?_
  try dsimp only
  unfold Builtin.Frozenset.sizeOf
  refine wpAny_bind (wpAny_bind (wpAny_setEntries_of ha hd hf (wpAny_pure ?_)))
  unfold setDrawn setsByText
  refine wpAny_bind (wpAny_bind (wpAny_setState_of ha hd hf ?_))
  dsimp only
  refine wpAny_bind (wpAny_bind (wpAny_askSetting (wpAny_pure ?_)))
  dsimp only
  refine wpAny_pure ?_
  have hIa : a ≠ s.heap.objs.size := Nat.ne_of_lt has
  have sf : s = { s with heap := s.heap, drawn := s.drawn } := by cases s; rfl
  -- a walk by slots
  have slots : ∀ (vals : List Value) (ks' : List Int) (sl : Nat → Nat), sl 0 = 0 → vals.length = es.size → IntsAre vals ks' → ks'.Perm ks →
      (∀ (i : Nat) (A : Around) (E : Value → Shared → Prop) (s : Shared) (Q : Option (Value × Nat) → Shared → Prop), i ≤ vals.length → s.heap.get? a = some o → Q ((vals[i]?).map fun v => (v, sl (i + 1))) s → wpAny (model prog w) A (setNext a (sl i) i ep) Q E s) →
      wpAny (model prog w) A.in1 (do
          let first ← pure (rawInt 0)
          let __do_lift ← setEpoch a
          let __do_lift ← newFields "set_iterator" [first, rawInt 0, Value.ref a, rawInt es.size, rawInt __do_lift]
          ret __do_lift) (fun fin s' => ∃ v, fin = Fin.done (Flow.ret v) ∧ ∃ T' r, s'.TypeIs v T' ∧ typeLookup (Value.type T') (Str.ofString "__next__") = pure (some r) ∧ Q v s') E s := by
    intro vals ks' sl h0 hvl hvi hpk hnext
    refine wpAny_bind (wpAny_pure ?_)
    refine wpAny_bind (wpAny_setEpoch_of ha hd hf ?_)
    refine wpAny_bind (wpAny_newObj_type (wpAny_pure ⟨_, rfl, "set_iterator", _, ⟨_, Heap.get?_push_size _ rfl, rfl⟩, slot_seti_next.lookup, ?_⟩))
    refine h s.heap.objs.size _ s.drawn vals ks' [s.heap.objs.size, a] _ (fun b o e => Heap.get?_push_of_some _ e) (fun b hb => ?_) (Nat.le_refl _) (fun A' hA' => walks_slot hA' _ a hIa hd hf vals sl hnext) ⟨?_, Heap.get?_push_of_some _ ha⟩ hvi hpk
    · simp only [List.mem_cons, List.not_mem_nil, or_false] at hb
      rcases hb with rfl | rfl
      · exact .inr (Nat.le_refl _)
      · exact .inl rfl
    · rw [h0]; exact Heap.get?_push_size _ rfl
  cases ht : w.params.followText "set-order" with
  | true =>
    rw [if_neg (by rw [show (model prog w).w.params.followText "set-order" = true from ht]; simp)]
    have hpk := pick_perm (w.params.setOrder a ep) es
    exact slots _ _ (fun _ => 0) rfl (by rw [List.length_map, hpk.length_eq, Array.length_toList]) (ints_of fun e he => hel e (hpk.mem_iff.mp he)) ((hpk.map kOf).trans hp) (fun i A E s Q _ ha' hq => next_text hd hf ht i ha' hq)
  | false =>
    have T' : TOk true t := by have := T; unfold ledOf at this; rw [ht] at this; exact this
    split
    · rename_i hc
      refine wpAny_bind (draw_any es.size (List.range es.size) (by simp) fun ys d hy => ?_)
      have hyl : ys.length = es.size := by rw [hy.length_eq, List.length_range]
      refine wpAny_bind (wpAny_newTuple (s := { s with drawn := d }) ?_ (by rw [List.length_map, hyl, hn, sizeLine_eq]; omega))
      refine wpAny_bind (wpAny_setEpoch_of (s := { s with drawn := d, heap := _ }) (Heap.get?_push_of_some _ ha) hd hf ?_)
      refine wpAny_bind (wpAny_newObj_type (wpAny_pure ⟨_, rfl, "set_iterator", _, ⟨_, Heap.get?_push_size _ rfl, rfl⟩, slot_seti_next.lookup, ?_⟩))
      have hlp : (ys.map fun p => es.getD p (0, Value.none)).Perm es.toList := by
        refine (hy.map _).trans ?_
        have e : (List.range es.size).map (fun p => es.getD p (0, Value.none)) = es.toList := by
          apply List.ext_getElem
          · simp
          · intro i h1 h2
            have h3 : i < es.size := by simpa using h1
            simp [Array.getD, h3]
        rw [e]
      refine h _ _ d ((ys.map fun p => es.getD p (0, Value.none)).map (·.2)) ((ys.map fun p => es.getD p (0, Value.none)).map kOf) [_, a, s.heap.objs.size] _ (fun b o e => Heap.get?_push_of_some _ (Heap.get?_push_of_some _ e)) (fun b hb => ?_) (by rw [Heap.size_push]; exact Nat.le_succ _)
        (fun A' hA' => walks_drawn hA' _ a s.heap.objs.size ?_ ?_ hd hf ys _ (by simp) (fun i p hp' => ?_)) ⟨Heap.get?_push_size _ rfl, Heap.get?_push_of_some _ (Heap.get?_push_of_some _ ha), Heap.get?_push_of_some _ (Heap.get?_push_size _ rfl)⟩ (ints_of fun e he => hel e (hlp.mem_iff.mp he)) ((hlp.map kOf).trans hp)
      · simp only [List.mem_cons, List.not_mem_nil, or_false] at hb
        rcases hb with rfl | rfl | rfl
        · rw [Heap.size_push]; exact .inr (Nat.le_succ _)
        · exact .inl rfl
        · exact .inr (Nat.le_refl _)
      · rw [Heap.size_push]; exact Nat.ne_of_lt (Nat.lt_succ_of_lt has)
      · rw [Heap.size_push]; exact Nat.ne_of_lt (Nat.lt_succ_self _)
      · have hps : p < es.size := List.mem_range.mp (hy.mem_iff.mp (List.mem_of_getElem? hp'))
        exact ⟨es[p], by simp [hps], by simp [hp', Array.getD, hps]⟩
    · rename_i hc
      have hc' : ¬ ((!w.params.followText "set-order" && (!t.plain && decide (es.size > 1))) = true) := hc
      rw [ht] at hc'
      have hdr : (!t.plain && decide (es.size > 1)) = false := by simpa using hc'
      exact slots _ _ (slOf t) rfl (by simp) (ints_of hel) hp (fun i A E s Q hi ha' hq => next_slot hd hf ht T' hdr i hi ha' hq)

theorem collect_set {a : Addr} {o : Obj} {ks : List Int} {R : List Value → Shared → Prop} (hh : A.handled = none) (ha : s.heap.get? a = some o) (hS : SetZ (ledOf w) o ks) (hz : ks.length ≤ 1000)
    (h : ∀ (h' : Heap) (tk : Nat) (d : Drawn) (acc : List Value) (ks' : List Int), (∀ b o, s.heap.get? b = some o → h'.get? b = some o) → IntsAre acc ks' → ks'.Perm ks → R acc { s with heap := h', toks := tk, drawn := d }) :
    wpAny (model prog w) A (collect (.ref a)) R E s := by
  have hex := hS.1
  have has : @LT.lt Nat _ a s.heap.objs.size := Heap.lt_size ha
  unfold collect
  refine wpAny_bind (wpAny_runValue (codeAny_builtin PySem.F.entry_proto_collect ?_))
  rw [Around.under_plainId PySem.F.plain_proto_collect _]
  show wpAny _ A.in1 (newList [] >>= fun l => again (.builtin "list.__iadd__" ⟨[l, .ref a], []⟩)) _ _ s
  refine wpAny_bind (wpAny_newObj_type ?_)
  refine wpAny_pure ⟨plainId_quiet PySem.F.plain_list_iadd _, codeAny_builtin PySem.F.entry_list_iadd ?_⟩
  rw [Around.under_plainId PySem.F.plain_list_iadd _]
  show wpAny _ A.in1 (Builtin.List.listExtendWith (.ref s.heap.objs.size) (.ref a) (.ref s.heap.objs.size)) _ _ _
  unfold Builtin.List.listExtendWith
  have ha1 : (s.heap.push { cls := .type "list", data := .seq ([] : List Value).toArray }).get? a = some o := Heap.get?_push_of_some _ ha
  refine wpAny_bind (wpAny_typeOf (T := "set") (v := .ref a) ⟨o, ha1, hex.1⟩ ?_)
  have h1 : Builtin.List.listSameRef (.ref s.heap.objs.size) (.ref a) = false := by
    simp only [Builtin.List.listSameRef, beq_eq_false_iff_ne]; exact Nat.ne_of_gt has
  rw [if_neg (by rw [h1]; decide)]
  refine wpAny_bind (iter_set (s := { s with heap := _ }) ha1 hS hz fun I h' d vals ks' fp St keep hfp1 hI W st0 hi hp => ?_)
  refine wpAny_bind (wpAny_holding (hint_set (s := ⟨_, _, _, _, _⟩) ⟨o, keep _ _ ha1, hex.1⟩ ?_))
  have hSf : s.heap.objs.size ∉ fp := fun hm => by
    rcases hfp1 _ hm with q | q
    · exact absurd has (by rw [← q]; exact Nat.lt_irrefl _)
    · dsimp only at q; rw [Heap.size_push] at q; exact absurd q (Nat.not_le.mpr (Nat.lt_succ_self _))
  have hS1 : h'.get? s.heap.objs.size = some { cls := .type "list", data := .seq #[] } := keep _ _ (Heap.get?_push_size _ rfl)
  have hvz : vals.length ≤ sizeLine := by rw [hi.length, hp.length_eq, sizeLine_eq]; omega
  rw [if_pos (by decide)]
  refine wpAny_bind (wpAny_rule ?_)
  refine wpAny_bind ?_
  show wpAny _ _ (updateSeq s.heap.objs.size (·.push .none) >>= fun _ => updateSeq s.heap.objs.size (·.pop)) _ _ _
  refine wpAny_bind (wpAny_updateSeq hS1 rfl ?_)
  have hS2 := Heap.get?_update_self (Obj.mapSeq (·.push Value.none)) hS1 rfl
  refine wpAny_updateSeq (hz := by seq_fits) hS2 rfl ?_
  have hS3 := Heap.get?_update_self (Obj.mapSeq (·.pop)) hS2 rfl
  have st1 : St 0 ((h'.update s.heap.objs.size (Obj.mapSeq (·.push Value.none))).update s.heap.objs.size (Obj.mapSeq (·.pop))) := by
    refine (W A.in1 hh).frame 0 _ _ st0 fun b hb o e => ?_
    have hbS : b ≠ s.heap.objs.size := fun h => hSf (h ▸ hb)
    exact (Heap.get?_update_other _ _ (Ne.symm hbS)).trans ((Heap.get?_update_other _ _ (Ne.symm hbS)).trans e)
  refine wpAny_pure ⟨plainId_quiet PySem.F.plain_extend_loop _, codeAny_extend_loopS (W A.in1 hh).toS hvz _ hSf _ vals.length 0 _ _ _ rfl (Nat.zero_le _) st1 hS3 (ItemsOf.nil _) fun s' acc' c' hm hS' hacc => ?_⟩
  show wpAny _ A (load s.heap.objs.size >>= _) _ _ s'
  refine wpAny_bind (wpAny_load hS' ?_)
  refine wpAny_pure ?_
  have hv : acc'.toList = vals := by
    apply List.ext_getElem?
    intro i
    by_cases hlt : i < acc'.toList.length
    · have q := hacc.2 i acc'.toList[i] (by rw [← Array.getElem?_toList]; exact List.getElem?_eq_getElem hlt)
      rw [q]; exact List.getElem?_eq_getElem hlt
    · have hl : acc'.toList.length = vals.length := by rw [Array.length_toList]; exact hacc.1
      rw [List.getElem?_eq_none (by omega), List.getElem?_eq_none (by omega)]
  have kk : ∀ b o, s.heap.get? b = some o → s'.heap.get? b = some o := fun b ob e => by
    have hlt : @LT.lt Nat _ b s.heap.objs.size := Heap.lt_size e
    have hbS : b ≠ s.heap.objs.size := Nat.ne_of_lt hlt
    refine hm.heap b ob (fun hb => ?_) ((Heap.get?_update_other _ _ (Ne.symm hbS)).trans ((Heap.get?_update_other _ _ (Ne.symm hbS)).trans (keep _ _ (Heap.get?_push_of_some _ e))))
    rcases List.mem_cons.mp hb with q | q
    · exact hbS q
    · have q2 := List.mem_singleton.mp q
      dsimp only at hI
      rw [← q2, Heap.size_push] at hI
      exact absurd (Nat.lt_trans hlt hI) (Nat.lt_irrefl _)
  have r := h s'.heap s'.toks d acc'.toList ks' kk (by rw [hv]; exact hi) hp
  rw [Moved.eq_with hm]
  exact r

theorem sorted_set {a : Addr} {o : Obj} {ks : List Int} {Q : Value → Shared → Prop} {h₀ : Heap} {L : Addr} {m : Str → Option Value} {news : List (Addr × Obj)} (hh : A.handled = none) (F : Fr h₀ L s.heap m) (N : News h₀ L s.heap news)
    (ha : s.heap.get? a = some o) (hS : SetZ (ledOf w) o ks) (h64 : ks.length < 64)
    (h : ∀ (D : Addr) (h' : Heap) (tk : Nat) (d : Drawn) (vs' : List Value) (ns' : List Int) (e : Nat), Fr h₀ L h' m → News h₀ L h' ((D, ({ cls := .type "list", data := .seq vs'.toArray e } : Obj)) :: news) → (∀ q ∈ news, q.1 < D) → IntsAre vs' ns' → ns'.Perm ks → ns'.Pairwise (· ≤ ·) →
      Q (.ref D) { s with heap := h', toks := tk, drawn := d }) :
    wpAny (model prog w) A (call (.builtin "sorted") [.ref a]) Q E s := by
  refine Calls.call_function_entry kind_sorted plain_sorted entry_sorted (args_sorted1 _) ?_
  unfold Builtin.«sorted»
  refine wpAny_bind (m := checkCount "sorted" 1 1 _) (wpAny_pure ?_)
  refine wpAny_bind (collect_set (A := A.in1) hh ha hS (by omega) fun h' tk d acc ks' keep hi hp => ?_)
  have hal : acc.length < 64 := by rw [hi.length, hp.length_eq]; exact h64
  refine wpAny_bind (wpAny_newList ?_ (by rw [sizeLine_eq]; omega))
  have hoL : (h'.push (seqObj "list" acc.toArray 0)).get? h'.objs.size = some (seqObj "list" acc.toArray 0) := Heap.get?_push_size _ rfl
  refine wpAny_bind (wpAny_holding (wpAny_call_entry slot_list_sort ⟨_, hoL, rfl⟩ entry_list_sort (list_sort_tree hoL hi hal fun out ns' a1 a2 a3 => ⟨_, rfl, ?_⟩) (args_list_sort _)))
  obtain ⟨e, he⟩ := sortedHeap_at (out := out) hoL
  have kk : ∀ b o, h'.get? b = some o → (sortedHeap (h'.push (seqObj "list" acc.toArray 0)) h'.objs.size acc out).get? b = some o := fun b ob q => by
    have hlt : @LT.lt Nat _ b h'.objs.size := Heap.lt_size q
    rw [sortedHeap_old (Nat.ne_of_lt hlt) (by rw [size_push']; exact Nat.lt_succ_of_lt hlt)]
    exact Heap.get?_push_of_some _ q
  have F' : Fr h₀ L h' m := F.keeps keep
  have N' : News h₀ L h' news := fun q hq => ⟨keep _ _ (N q hq).1, (N q hq).2⟩
  refine wpAny_pure ⟨_, rfl, h h'.objs.size _ _ d out.toList ns' e (F'.kept kk) (N'.kept_cons F' kk (Nat.le_refl _) (by rw [Array.toArray_toList]; exact he)) (fun q hq => Heap.lt_size (N' q hq).1) a1 (a2.trans hp) a3⟩
end
end Mine
end

section
open PySem PySem.W PySem.Calls PySem.Spec PyProof.Rows Mine
set_option maxHeartbeats 4000000
local macro_rules | `(tactic| walk_at "void0") => `(tactic| fail)
local macro_rules | `(tactic| walk_at "void1") => `(tactic| fail)
local macro_rules | `(tactic| walk_at "eval Name") => `(tactic| (k_here; k_dflt (refine' nameX_L ?k1 ?k2 ?_ ?a ?b; (case a => rfl); (case b => rfl); (case k1 => k_asm); (case k2 => with_reducible assumption); k_whole)))
local macro_rules | `(tactic| k_all) => `(tactic| with_reducible assumption)
theorem Mine.lawT : PySem.Challenge.rw_pb0189_01.Holds := Mine.head rfl (by
  k_go0
  rename Fr _ _ _ _ => F0
  rename News _ _ _ _ => N0
  rename CodeHd _ _ _ => hCd
  rename Frag.In _ _ => X0
  rename Top _ _ _ _ _ _ => T0
  rename IntsAre _ _ => hI
  rename ¬ (63 : Int) < _ => h63
  rename Heap.IsList (ghostOf _ _) _ _ => hL0
  have am : Mine.Amb _ _ _ _ _ _ _ := ⟨X0, T0⟩
  rename List Int => ns
  rename List Value => vs
  rename World => w
  rename Shared => s1
  obtain ⟨oG, oP, vG, vP, N0', hcG, hcP⟩ : ∃ oG oP vG vP, News (ghostOf s1.heap [(334, 332)]) s1.heap.objs.size _ [(s1.heap.objs.size + 1 + 1, oG), (s1.heap.objs.size + 1, oP), (332, tabObj #[])] ∧ oG.data = .cell vG ∧ oP.data = .cell vP := ⟨_, _, _, _, N0, by assumption, by assumption⟩
  clear N0
  have h332L : @LT.lt Nat _ 332 s1.heap.objs.size := by assumption
  have h64 : ns.length ≤ 63 := by omega
  have hvl := hI.length
  refine wpAny_mono (Q := fun f s' => ∃ h tk d m tps, f = Flow.ret (.bool true) ∧ s' = ⟨h, s1.gens, d, tk, s1.os⟩ ∧ Fr (ghostOf s1.heap [(334, 332)]) s1.heap.objs.size h m ∧ h.get? 332 = some (tabObj tps)) ?walk ?fin (fun _ _ e => e)
  case fin =>
    rintro f s' ⟨h, tk, d, m, tps, rfl, rfl, F9, ht9⟩
    refine ⟨goodW_bool (s₁ := { s1 with heap := _ }) F9 (by assumption) (raisesW_false (by wrow_none_raised)) (by wrow_post), ⟨⟨tps, ht9⟩, trivial⟩⟩
  case walk =>
    try dsimp only
    repeat' ((fail_if_success (with_reducible show wpAny _ _ (eval (PySem.Expr.ListComp _ _ _ _) _) _ _ _)); walk_at "one")
    all_goals (try dsimp only)
    refine LCg.ListComp_U (F₀ := by k_asm) (by with_unfolding_all rfl) (by decide) (by rfl) (by decide) (by rfl) ?_
    repeat' ((fail_if_success (with_reducible show wpAny _ _ (subscriptTail _ _ _ _) _ _ _)); walk_at "one")
    all_goals (try dsimp only)
    refine slTo (s := ⟨_, _, _, _, _⟩) (k := 24) (vs := vs) (by assumption) (by assumption) (F0.lst hL0) (by rfl) (by rw [sizeLine_eq]; omega) ?_
    intro D1 h1 F1 N1 l1
    k_lt l1
    try dsimp only
    refine LCg.CompSrc.ledger rfl F1 N1 (List.Mem.head _) (by rw [sizeLine_eq, List.size_toArray, List.length_take]; omega) ?_
    intro g'
    try dsimp only
    refine genRest (fun i ys news => news = [(D1, lo (vs.take 24) 0), (s1.heap.objs.size + 1 + 1, oG), (s1.heap.objs.size + 1, oP), (332, tabObj #[])] ∧ ∃ ks, IntsAre ys ks ∧ ks.length = i) ?_ ⟨rfl, [], .nil, rfl⟩ ?_ ?_
    · rintro i ys news ⟨rfl, _⟩; exact .inr ⟨_, List.Mem.head _, rfl, _, rfl⟩
    · rintro i v I oI C oC D m₂ ys news h tk Qe E' hi' hv hC hx F N off ⟨rfl, ks, hks, hkl⟩ hret
      obtain ⟨t, e⟩ := IntsAre.int_at (hI.take 24) i v (by simpa using hv)
      subst e
      try dsimp only
      (repeat' walk_at "one")
      try dsimp only
      exact hret _ _ _ _ F N off ⟨rfl, ks ++ [_], hks.append (.cons _ _ .nil), by simp [hkl]⟩
    · rintro ys news ⟨rfl, ks, hks, hkl⟩
      unfold LCg.FinE
      intro D h tk F N off
      simp only [LCg.Off1, and_true] at off
      obtain ⟨-, f2, f1, f3⟩ := off
      have hkl' : ks.length ≤ 24 := by rw [hkl, List.size_toArray, List.length_take]; omega
      have N1 := News.sub (news' := [(s1.heap.objs.size + 1 + 1, oG), (s1.heap.objs.size + 1, oP), (332, tabObj #[]), (D, LCg.lst ys)]) N (by walk_at "mem")
      clear N F0 N0'
      try dsimp only
      repeat' ((fail_if_success (with_reducible show wpAny _ _ (eval (PySem.Expr.ListComp _ _ _ _) _) _ _ _)); walk_at "one")
      all_goals (try dsimp only)
      rename _ = Data.cell (some _) => hpc
      refine LCg.ListComp_U (F₀ := by k_asm) (by with_unfolding_all rfl) (by decide) (by rfl) (by decide) (by rfl) ?_
      repeat' ((fail_if_success (with_reducible show wpAny _ _ (call _ _ _) _ _ _)); walk_at "one")
      all_goals (try dsimp only)
      rename Fr _ _ _ _ => F2
      rename News _ _ _ _ => N2
      refine ⟨X0.keeps F2.keep, ?_⟩
      refine take_raw (s := ⟨_, _, _, _, _⟩) am (fun b o q => F2.keep b o q) (by k_room) rfl (atN (fun _ _ e => e) N2 (a := D) (o := LCg.lst ys) (by walk_at "mem")) hks (by omega) (by decide) (by decide) ?_
      intro h3 tk3 d3 td3 pv3 pn3 ps3 k3 hP3 hi3 hl3 d30 d31
      have F3 := frKp F2 k3 (fun b hb => by rw [List.mem_singleton.mp hb]; exact (N2 (D, LCg.lst ys) (by walk_at "mem")).2)
      have N3 := nwTurn (pre := [_, _, _]) (post := []) N2 k3 hP3.1 (by first | ((repeat' (first | exact List.forall_mem_nil _ | refine' List.forall_mem_cons.mpr ⟨?_, ?_⟩ | k_mem | exact f1 | exact fun h => f1 (List.mem_singleton.mp h) | exact f2 | exact fun h => f2 (List.mem_singleton.mp h) | exact f3 | exact fun h => f3 (List.mem_singleton.mp h) | refine' And.intro ?_ ?_ | (refine' Or.inr ?_; k_mem) | (refine' Or.inl ?_; k_mem) | refine' List.Mem.tail _ ?_)); done) | simp [f1, f2, f3]) (fun _ h => nomatch h)
      clear F2 N2
      try dsimp only
      (repeat' walk_at "one")
      rename IsRange _ _ _ _ _ _ _ _ => R0
      rename Fr _ _ _ _ => F4
      rename News _ _ _ _ => N4
      refine LCg.CompSrc.range rfl F4 N4 R0 (small_one (by omega) (by omega) (by omega) (by omega)) (rangeSize_nat _ _) (by rw [sizeLine_eq]; omega) ?_
      intro g'
      try dsimp only
      refine genRest (fun i ys news => ∃ pv pn ps gs, news = [(s1.heap.objs.size + 1 + 1, oG), (s1.heap.objs.size + 1, _), (332, tabObj #[]), (D, lo pv pn)] ∧ IntsAre pv ps ∧ ps.length ≤ 24 ∧ IntsAre ys gs ∧ gs.length = i ∧ ∀ x ∈ gs, 1 ≤ x ∧ x ≤ 3) (fun _ _ _ _ => trivial)
        ⟨_, _, _, [], rfl, hi3, by omega, .nil, rfl, (fun _ h => nomatch h)⟩ ?_ ?_
      · rintro i v I oI C oC D5 m₂ ys5 news h5 tk5 Qe E' hi' hv hC hx F5 N5 off ⟨pv, pn, ps, gs, rfl, hpi, hpl, hgi, hgl, hgb⟩ hret
        try dsimp only
        repeat' ((fail_if_success (with_reducible show wpAny _ _ (call _ _ _) _ _ _)); walk_at "one")
        all_goals (try dsimp only)
        have off' := off
        simp only [LCg.Off3, and_true] at off'
        refine ⟨X0.keeps F5.keep, ?_⟩
        refine take_raw (s := ⟨_, _, _, _, _⟩) am (fun b o q => F5.keep b o q) (by k_room) rfl (atN (fun _ _ e => e) N5 (a := D) (o := lo pv pn) (by walk_at "mem")) hpi (by omega) (by decide) (by decide) ?_
        intro h6 tk6 d6 td6 pv6 pn6 ps6 k6 hP6 hi6 hl6 d60 d61
        have F6 := frKp F5 k6 (fun b hb => by rw [List.mem_singleton.mp hb]; exact (N5 (D, lo pv pn) (by walk_at "mem")).2)
        have N6 := nwTurn (pre := [_, _, _, _, _, _]) (post := []) N5 k6 hP6.1 (by first | ((repeat' (first | exact List.forall_mem_nil _ | refine' List.forall_mem_cons.mpr ⟨?_, ?_⟩ | k_mem | exact f1 | exact fun h => f1 (List.mem_singleton.mp h) | exact f2 | exact fun h => f2 (List.mem_singleton.mp h) | exact f3 | exact fun h => f3 (List.mem_singleton.mp h) | exact Ne.symm off'.2.2.2.1 | exact fun h => Ne.symm off'.2.2.2.1 (List.mem_singleton.mp h) | exact Ne.symm off'.2.2.2.2.1 | exact fun h => Ne.symm off'.2.2.2.2.1 (List.mem_singleton.mp h) | exact Ne.symm off'.2.2.2.2.2 | exact fun h => Ne.symm off'.2.2.2.2.2 (List.mem_singleton.mp h) | refine' And.intro ?_ ?_ | (refine' Or.inr ?_; k_mem) | (refine' Or.inl ?_; k_mem) | refine' List.Mem.tail _ ?_)); done) | simp [f1, f2, f3, Ne.symm off'.2.2.2.1, Ne.symm off'.2.2.2.2.1, Ne.symm off'.2.2.2.2.2]) (fun _ h => nomatch h)
        clear F5 N5
        try dsimp only
        (repeat' walk_at "one")
        try dsimp only
        refine hret _ _ _ [(s1.heap.objs.size + 1 + 1, oG), (s1.heap.objs.size + 1, _), (332, tabObj #[]), (D, lo pv6 pn6)] F6 N6 (by simp only [LCg.Off3, and_true]; exact off') ⟨_, _, _, gs ++ [1 + d6], rfl, hi6, by omega, hgi.append (.cons _ _ .nil), by simp [hgl], ?_⟩
        intro x hx
        rcases List.mem_append.mp hx with hx | hx
        · exact hgb x hx
        · rw [List.mem_singleton.mp hx]; omega
      · rintro ys5 news ⟨pv, pn, ps, gs, rfl, hpi, hpl, hgi, hgl, hgb⟩
        unfold LCg.FinE
        intro DG h5 tk5 F5 N5 off
        simp only [LCg.Off1, and_true] at off
        obtain ⟨g2, g1, g3, gD⟩ := off
        have hgl' : 4 ≤ gs.length ∧ gs.length ≤ 9 := by omega
        clear hgl
        clear F4 N4
        try dsimp only
        walk_at "one"
        try dsimp only
        repeat' ((fail_if_success (with_reducible show wpAny _ _ (exec (PySem.Stmt.For _ _ _ _ _) _) _ _ _)); walk_at "one")
        all_goals (try dsimp only)
        rename Fr _ _ _ _ => F7
        rename News _ _ _ _ => N7
        obtain ⟨sp, oG', oP', m7, N7', hcG', hcP', ⟨lsG, ls2, ls1, ls3, lsD⟩, ⟨e1, e2⟩, F7m⟩ : ∃ (sp : Addr) (oG' oP' : Obj) (m7 : Str → Option Value), News (ghostOf s1.heap [(334, 332)]) s1.heap.objs.size _ [(sp, lo [Value.int 0 _] 0), (DG, LCg.lst ys5), (s1.heap.objs.size + 1 + 1, oG'), (s1.heap.objs.size + 1, oP'), (332, tabObj #[]), (D, lo pv pn)] ∧ oG'.data = .cell (some (.ref DG)) ∧ oP'.data = .cell (some (.ref D)) ∧
            (@LT.lt Nat _ DG sp ∧ @LT.lt Nat _ (s1.heap.objs.size + 1 + 1) sp ∧ @LT.lt Nat _ (s1.heap.objs.size + 1) sp ∧ @LT.lt Nat _ 332 sp ∧ @LT.lt Nat _ D sp) ∧ (m7 "spots" = some (.ref sp) ∧ m7 "glyphs" = none) ∧ Fr (ghostOf s1.heap [(334, 332)]) s1.heap.objs.size _ m7 := ⟨_, _, _, _, N7, by assumption, by assumption, by assumption, ⟨rfl, rfl⟩, F7⟩
        clear F7 N7
        refine wpAny_For ?_
        repeat' ((fail_if_success (with_reducible show wpAny _ _ (call _ _ _) _ _ _)); walk_at "one")
        all_goals (try dsimp only)
        refine ⟨X0.keeps F7m.keep, ?_⟩
        refine take_raw (s := ⟨_, _, _, _, _⟩) am (fun b o q => F7m.keep b o q) (by k_room) rfl (atN (fun _ _ e => e) N7' (a := D) (o := lo pv pn) (by walk_at "mem")) hpi (by omega) (by decide) (by decide) ?_
        intro h8 tk8 d8 td8 pv8 pn8 ps8 k8 hP8 hi8 hl8 d80 d81
        have F8 := frKp F7m k8 (fun b hb => by rw [List.mem_singleton.mp hb]; exact (N7' (D, lo pv pn) (by walk_at "mem")).2)
        have N8 := nwTurn (pre := [_, _, _, _, _]) (post := []) N7' k8 hP8.1 (by first | ((repeat' (first | exact List.forall_mem_nil _ | refine' List.forall_mem_cons.mpr ⟨?_, ?_⟩ | k_mem | exact f1 | exact fun h => f1 (List.mem_singleton.mp h) | exact f2 | exact fun h => f2 (List.mem_singleton.mp h) | exact f3 | exact fun h => f3 (List.mem_singleton.mp h) | exact Ne.symm gD | exact fun h => Ne.symm gD (List.mem_singleton.mp h) | exact Nat.ne_of_gt lsD | exact fun h => Nat.ne_of_gt lsD (List.mem_singleton.mp h) | refine' And.intro ?_ ?_ | (refine' Or.inr ?_; k_mem) | (refine' Or.inl ?_; k_mem) | refine' List.Mem.tail _ ?_)); done) | simp [f1, f2, f3, Ne.symm gD, Nat.ne_of_gt lsD]) (fun _ h => nomatch h)
        clear F7m N7'
        try dsimp only
        repeat' ((fail_if_success (with_reducible show wpAny _ _ (pyIter _) _ _ _)); walk_at "one")
        all_goals (try dsimp only)
        rename IsRange _ _ _ _ _ _ _ _ => R9
        rename Fr _ _ _ _ => F9
        rename News _ _ _ _ => N9
        simp only [List.cons_append, List.nil_append] at N9
        rename Heap => h9
        refine wpAny_pyIter_range R9 (small_one (by omega) (by omega) (by omega) (by omega)) ?_
        have oI : h9.get? h9.objs.size = none := by
          cases q : h9.get? h9.objs.size with
          | none => rfl
          | some o => exact absurd (Heap.lt_size q) (Nat.lt_irrefl _)
        have nI := newOf F9 oI
        have n9 : ∀ q ∈ [(sp, lo [Value.int 0 tk5] 0), (DG, LCg.lst ys5), (s1.heap.objs.size + 1 + 1, oG'), (s1.heap.objs.size + 1, oP'), (332, tabObj #[]), (D, lo pv8 pn8)], q.1 ≠ h9.objs.size := fun q hq => Nat.ne_of_lt (Heap.lt_size (N9 q hq).1)
        simp only [List.forall_mem_cons] at n9
        obtain ⟨nIs, nIG, nI2, nI1, nI3, nID, -⟩ := n9
        have kpush : Kp [] h9 (h9.push { cls := .type "range_iterator", data := .fields #[rawInt 0, rawInt (Builtin.Range.rangeSize 0 (1 + d8) 1), rawInt 1] }) := fun b o e _ => Heap.get?_push_of_some _ e
        refine loopRaw2 (g := ghostOf s1.heap [(334, 332)]) (LCg.range_walks (I := h9.objs.size) rfl 0 (1 + d8 - 0).toNat) (by rfl) (by rfl) ?hLf ?hwr
          (fun i m h => (m "spots" = some (.ref sp) ∧ m "glyphs" = none) ∧ ∃ sv sn ss pv pn ps, News (ghostOf s1.heap [(334, 332)]) s1.heap.objs.size h [(sp, lo sv sn), (D, lo pv pn), (DG, LCg.lst ys5), (s1.heap.objs.size + 1 + 1, oG'), (s1.heap.objs.size + 1, oP'), (332, tabObj #[])] ∧ IntsAre sv ss ∧ ss.length = i + 1 ∧ SpotsUp (2 * (i : Int)) ss ∧ IntsAre pv ps ∧ ps.length ≤ 24)
          ?stab ?hst (frKp F9 kpush (fun _ h => nomatch h)) ?h0 ?step ?done
        case hLf => exact fun hm => nI.1 (List.mem_singleton.mp hm).symm
        case hwr => intro b hb; rw [List.mem_singleton.mp hb]; exact nI.2
        case stab =>
          rintro j h h' m F' hst' ⟨hm, sv, sn, ss, pv, pn, ps, N, r⟩ kk
          refine ⟨hm, sv, sn, ss, pv, pn, ps, nwKp N kk fun q hq hm' => ?_, r⟩
          rcases List.mem_cons.mp hm' with z | z
          · exact (N q hq).2.1 z
          · have z' := List.mem_singleton.mp z
            simp only [List.mem_cons, List.not_mem_nil, or_false] at hq
            rcases hq with rfl | rfl | rfl | rfl | rfl | rfl
            · exact nIs z'
            · exact nID z'
            · exact nIG z'
            · exact nI2 z'
            · exact nI1 z'
            · exact nI3 z'
        case hst =>
          show IsRangeIter _ _ _ _ _
          rw [rangeSize_nat]
          simpa using Heap.get?_push_size _ rfl
        case h0 =>
          refine ⟨⟨e1, e2⟩, [Value.int 0 tk5], 0, [0], pv8, pn8, ps8, News.sub (nwKp N9 kpush (fun _ _ h => nomatch h)) (by walk_at "mem"), .cons _ _ .nil, rfl, SpotsUp.one, hi8, by omega⟩
        case step =>
          rintro j v h m tk hj hP hst' F' ⟨⟨m1, m2⟩, sv, sn, ss, pv, pn, ps, N, hsi, hsl, hsu, hpi', hpl'⟩
          change Fr _ s1.heap.objs.size h _ at F'
          have q1 : (fun y : Str => if y = ("turn" : Str) then some v else m y) "spots" = some (.ref sp) := (if_neg (by decide)).trans m1
          have q2 : (fun y : Str => if y = ("turn" : Str) then some v else m y) "glyphs" = none := (if_neg (by decide)).trans m2
          generalize (fun y : Str => if y = ("turn" : Str) then some v else m y) = m6 at F' q1 q2
          obtain ⟨oIt, hIt⟩ : ∃ o, h.get? h9.objs.size = some o := ⟨_, hst'⟩
          have N' := nwCons N hIt nI.1 nI.2
          obtain ⟨x, hx⟩ : ∃ x, ss.getLast? = some x := by
            cases q : ss.getLast? with
            | none => rw [List.getLast?_eq_none_iff.mp q] at hsl; cases hsl
            | some x => exact ⟨x, rfl⟩
          have hsl4 : ss.length ≤ 4 := by omega
          obtain ⟨tx, hvx⟩ : ∃ t, sv.getLast? = some (.int x t) := by
            have hx' := hx
            rw [List.getLast?_eq_getElem?] at hx' ⊢
            obtain ⟨t, ht⟩ := hsi.get _ _ hx'
            rw [hsi.length]; exact ⟨t, ht⟩
          have hsvl := hsi.length
          clear N F9 N9
          try dsimp only
          repeat' ((fail_if_success (with_reducible show wpAny _ _ (call _ _ _) _ _ _)); (fail_if_success (with_reducible show wpAny _ _ (subscriptTail _ _ _ _) _ _ _)); walk_at "one")
          all_goals (try dsimp only)
          rename News _ _ _ _ => Na
          refine itemLast (s := ⟨_, _, _, _, _⟩) (by rfl) (News.isList Na (by k_mem)) hvx ?_
          try dsimp only
          repeat' ((fail_if_success (with_reducible show wpAny _ _ (call _ _ _) _ _ _)); (fail_if_success (with_reducible show wpAny _ _ (subscriptTail _ _ _ _) _ _ _)); walk_at "one")
          all_goals (try dsimp only)
          rename Fr _ _ _ _ => Fa
          refine ⟨X0.keeps Fa.keep, ?_⟩
          refine take_raw (s := ⟨_, _, _, _, _⟩) am (fun b o q => Fa.keep b o q) (by k_room) rfl (atN (fun _ _ e => e) Na (a := D) (o := lo pv pn) (by walk_at "mem")) hpi' (by omega) (by decide) (by decide) ?_
          intro hb tkb db tdb pvb pnb psb kb hPb hib hlb db0 db1
          have Fb := frKp Fa kb (fun b hb => by rw [List.mem_singleton.mp hb]; exact (Na (D, lo pv pn) (by walk_at "mem")).2)
          have Nb := nwTurn (pre := [_, _]) (post := [_, _, _, _]) Na kb hPb.1 (by first | ((repeat' (first | exact List.forall_mem_nil _ | refine' List.forall_mem_cons.mpr ⟨?_, ?_⟩ | k_mem | exact Ne.symm nID | exact fun h => Ne.symm nID (List.mem_singleton.mp h) | exact Nat.ne_of_gt lsD | exact fun h => Nat.ne_of_gt lsD (List.mem_singleton.mp h) | refine' And.intro ?_ ?_ | (refine' Or.inr ?_; k_mem) | (refine' Or.inl ?_; k_mem) | refine' List.Mem.tail _ ?_)); done) | simp [Ne.symm nID, Nat.ne_of_gt lsD]) (by first | ((repeat' (first | exact List.forall_mem_nil _ | refine' List.forall_mem_cons.mpr ⟨?_, ?_⟩ | k_mem | exact f1 | exact fun h => f1 (List.mem_singleton.mp h) | exact f2 | exact fun h => f2 (List.mem_singleton.mp h) | exact f3 | exact fun h => f3 (List.mem_singleton.mp h) | exact Ne.symm gD | exact fun h => Ne.symm gD (List.mem_singleton.mp h) | refine' And.intro ?_ ?_ | (refine' Or.inr ?_; k_mem) | (refine' Or.inl ?_; k_mem) | refine' List.Mem.tail _ ?_)); done) | simp [f1, f2, f3, Ne.symm gD])
          simp only [List.cons_append, List.nil_append] at Nb
          clear Fa Na
          try dsimp only
          repeat' ((fail_if_success (with_reducible show wpAny _ _ (call _ _ _) _ _ _)); walk_at "one")
          all_goals (try dsimp only)
          refine append_K (s := ⟨_, _, _, _, _⟩) (D := sp) (its := sv.toArray) (n := sn) Fb (News.sub (news' := [(sp, lo sv sn), (h9.objs.size, oIt), (D, lo pvb pnb), (DG, LCg.lst ys5), (s1.heap.objs.size + 1 + 1, oG'), (s1.heap.objs.size + 1, oP'), (332, tabObj #[])]) Nb (by walk_at "mem")) (Upd.head (by first | ((repeat' (first | exact List.forall_mem_nil _ | refine' List.forall_mem_cons.mpr ⟨?_, ?_⟩ | k_mem | exact Ne.symm nIs | exact fun h => Ne.symm nIs (List.mem_singleton.mp h) | exact Nat.ne_of_lt lsG | exact fun h => Nat.ne_of_lt lsG (List.mem_singleton.mp h) | exact Nat.ne_of_lt ls1 | exact fun h => Nat.ne_of_lt ls1 (List.mem_singleton.mp h) | exact Nat.ne_of_lt ls2 | exact fun h => Nat.ne_of_lt ls2 (List.mem_singleton.mp h) | exact Nat.ne_of_lt ls3 | exact fun h => Nat.ne_of_lt ls3 (List.mem_singleton.mp h) | exact Nat.ne_of_lt lsD | exact fun h => Nat.ne_of_lt lsD (List.mem_singleton.mp h) | refine' And.intro ?_ ?_ | (refine' Or.inr ?_; k_mem) | (refine' Or.inl ?_; k_mem) | refine' List.Mem.tail _ ?_)); done) | simp [Ne.symm nIs, Nat.ne_of_lt lsG, Nat.ne_of_lt ls1, Nat.ne_of_lt ls2, Nat.ne_of_lt ls3, Nat.ne_of_lt lsD])) ?_ (by rw [List.size_toArray, sizeLine_eq]; omega)
          intro hc Fc Nc
          rw [List.push_toArray] at Nc
          try dsimp only
          (repeat' walk_at "one")
          try dsimp only
          refine ⟨hc, _, m6, rfl, Fc, ⟨⟨q1, q2⟩, sv ++ [Value.int (x + 1 + db) tkb], sn + 1, ss ++ [x + 1 + db], pvb, pnb, psb, News.sub Nc (by walk_at "mem"), hsi.append (.cons _ _ .nil), by simp [hsl], ?_, hib, by omega⟩, ?_⟩
          · have := hsu.add hx db0 db1
            have e : (2 * (((j + 1 : Nat)) : Int)) = 2 * (j : Int) + 2 := by omega
            rw [e]; exact this
          · intro b hb o e
            rw [List.mem_singleton.mp hb] at e ⊢
            rw [hIt] at e
            cases e
            exact Nc.get (by walk_at "mem")
        case done =>
          rintro h m tk F' ⟨⟨m1, m2⟩, sv, sn, ss, pv, pn, ps, N, hsi, hsl, hsu, hpi', hpl'⟩
          change Fr _ s1.heap.objs.size h _ at F'
          have hsl4 : 2 ≤ ss.length ∧ ss.length ≤ 4 := by omega
          have hsu6 : SpotsUp 6 ss := ⟨hsu.1, hsu.2.1, fun x hx => ⟨(hsu.2.2 x hx).1, by have := (hsu.2.2 x hx).2; omega⟩⟩
          clear hsu hsl F9 N9
          try dsimp only
          repeat' ((fail_if_success (with_reducible show wpAny _ _ (exec (PySem.Stmt.Assign _ (PySem.Expr.ListComp _ _ _ _) _) _) _ _ _)); walk_at "one")
          all_goals (try dsimp only)
          refine LCt.Assign_ListComp_T (F₀ := by k_asm) (by rfl) (by with_unfolding_all rfl) (by with_unfolding_all rfl) (by decide) (by rfl) (by decide) (by rfl) (by rfl) (by rfl) ?_
          (repeat' walk_at "one")
          have hsvl := hsi.length
          have hyl := hgi.length
          refine LCt.CompSrcT.ledger rfl F' N (List.Mem.head _) (by rw [List.size_toArray, sizeLine_eq]; omega) ?_
          intro g2'
          try dsimp only
          refine filtRest (ks := ss) (fun x => decide (x < (gs.length : Int))) (by rw [List.size_toArray]; exact hsvl.symm) (.inr ⟨_, List.Mem.head _, rfl, _, rfl⟩) ?_ ?_ ?_
          · intro i v I oI C oC D5 m₂ ys h tk Qe E' hi' hv hC hx F N hret
            obtain ⟨tv, ev⟩ := IntsAre.int_at hsi i v (by simpa using hv)
            subst ev
            try dsimp only
            repeat' ((fail_if_success (with_reducible show wpAny _ _ (call _ _ _) _ _ _)); walk_at "one")
            all_goals (try dsimp only)
            refine lenL (s := ⟨_, _, _, _, _⟩) (vs := ys5) (News.isList N (by k_mem)) (by omega) ?_
            rw [hyl]
            try dsimp only
            (repeat' walk_at "one")
            exact hret _
          · intro i v I oI C oC D5 m₂ ys h tk Qe E' hi' hv hC hx F N hret
            obtain ⟨tv, ev⟩ := IntsAre.int_at hsi i v (by simpa using hv)
            subst ev
            try dsimp only
            (repeat' walk_at "one")
            exact hret _ _
          · intro ys hys
            unfold LCg.FinA
            intro DS h tk F N off
            simp only [LCg.Off1, and_true] at off
            obtain ⟨-, oSD, oSG, oS2, oS1, oS3⟩ := off
            have hfu := filt_up hsu6 (n := (gs.length : Int)) (by omega)
            have hfl : (ss.filter fun x => decide (x < (gs.length : Int))).length ≤ 4 := Nat.le_trans (List.length_filter_le _ _) hsl4.2
            generalize (ss.filter fun x => decide (x < (gs.length : Int))) = fs at hys hfu hfl
            obtain ⟨hfu, hflt⟩ := hfu
            obtain ⟨m8, e1, F8m⟩ : ∃ m : Str → Option Value, (m "spots" = some (.ref DS)) ∧ Fr (ghostOf s1.heap [(334, 332)]) s1.heap.objs.size h m := ⟨_, rfl, F⟩
            have N8 := News.sub (news' := [(D, lo pv pn), (DS, LCg.lst ys), (DG, LCg.lst ys5), (s1.heap.objs.size + 1 + 1, oG'), (s1.heap.objs.size + 1, oP'), (332, tabObj #[])]) N (by walk_at "mem")
            clear F N F'
            try dsimp only
            repeat' ((fail_if_success (with_reducible show wpAny _ _ (exec (PySem.Stmt.Assign _ (PySem.Expr.ListComp _ _ _ _) _) _) _ _ _)); walk_at "one")
            all_goals (try dsimp only)
            refine LCg.Assign_ListComp_U (F₀ := by k_asm) (by rfl) (by with_unfolding_all rfl) (by with_unfolding_all rfl) (by decide) (by rfl) (by decide) (by rfl) (by rfl) (by rfl) ?_
            repeat' ((fail_if_success (with_reducible show wpAny _ _ (call _ _ _) _ _ _)); walk_at "one")
            all_goals (try dsimp only)
            refine ⟨X0.keeps F8m.keep, ?_⟩
            refine take_raw (s := ⟨_, _, _, _, _⟩) am (fun b o q => F8m.keep b o q) (by k_room) rfl (atN (fun _ _ e => e) N8 (a := D) (o := lo pv pn) (by walk_at "mem")) hpi' (by omega) (by decide) (by decide) ?_
            intro h9' tk9 d9 td9 pv9 pn9 ps9 k9 hP9 hi9 hl9 d90 d91
            have F9' := frKp F8m k9 (fun b hb => by rw [List.mem_singleton.mp hb]; exact (N8 (D, lo pv pn) (by walk_at "mem")).2)
            have N9' := nwTurn (pre := []) (post := [_, _, _, _, _]) N8 k9 hP9.1 (fun _ h => nomatch h) (by first | ((repeat' (first | exact List.forall_mem_nil _ | refine' List.forall_mem_cons.mpr ⟨?_, ?_⟩ | k_mem | exact f1 | exact fun h => f1 (List.mem_singleton.mp h) | exact f2 | exact fun h => f2 (List.mem_singleton.mp h) | exact f3 | exact fun h => f3 (List.mem_singleton.mp h) | exact Ne.symm gD | exact fun h => Ne.symm gD (List.mem_singleton.mp h) | exact Ne.symm oSD | exact fun h => Ne.symm oSD (List.mem_singleton.mp h) | refine' And.intro ?_ ?_ | (refine' Or.inr ?_; k_mem) | (refine' Or.inl ?_; k_mem) | refine' List.Mem.tail _ ?_)); done) | simp [f1, f2, f3, Ne.symm gD, Ne.symm oSD])
            simp only [List.cons_append, List.nil_append] at N9'
            clear F8m N8
            try dsimp only
            (repeat' walk_at "one")
            rename IsRange _ _ _ _ _ _ _ _ => Ra
            rename Fr _ _ _ _ => Fa
            rename News _ _ _ _ => Na
            refine LCg.CompSrc.range rfl Fa Na Ra (small_one (by omega) (by omega) (by omega) (by omega)) (rangeSize_nat _ _) (by rw [sizeLine_eq]; omega) ?_
            intro g3'
            try dsimp only
            refine genRest (fun i zs news => ∃ pv pn ps as tups, news = (D, lo pv pn) :: (DS, LCg.lst ys) :: (DG, LCg.lst ys5) :: (s1.heap.objs.size + 1 + 1, oG') :: (s1.heap.objs.size + 1, oP') :: (332, tabObj #[]) :: tups ∧ IntsAre pv ps ∧ ps.length ≤ 24 ∧ Acts (fun a o => (a, o) ∈ tups) zs as ∧ as.length = i ∧ (∀ a ∈ as, 0 ≤ a.1 ∧ a.1 < 5 ∧ 0 ≤ a.2 ∧ a.2 < 5) ∧ ∀ q ∈ tups, q.1 ≠ D ∧ q.1 ≠ 332)
              (fun _ _ _ _ => trivial) ⟨_, _, _, [], [], rfl, hi9, by omega, .nil, rfl, (fun _ h => nomatch h), (fun _ h => nomatch h)⟩ ?_ ?_
            · rintro i v I oI C oC Da m₂ zs news hb tkb Qe E' hi' hv hC hx Fb Nb offb ⟨pv, pn, ps, as, tups, rfl, hpi, hpl, hac, hal, hab, htD⟩ hret
              have oD := offb.mem (D, lo pv pn) (.head _)
              have posts : ∀ q ∈ (DS, LCg.lst ys) :: (DG, LCg.lst ys5) :: (s1.heap.objs.size + 1 + 1, oG') :: (s1.heap.objs.size + 1, oP') :: (332, tabObj #[]) :: tups, q.1 ≠ D := by
                intro q hq
                simp only [List.mem_cons] at hq
                rcases hq with rfl | rfl | rfl | rfl | rfl | hq
                · exact Ne.symm oSD
                · exact Ne.symm gD
                · exact f2
                · exact f1
                · exact f3
                · exact (htD q hq).1
              have pres : ∀ q ∈ [(I, oI), (C, oC), (Da, LCg.lst zs)], q.1 ≠ D := by simp [Ne.symm oD.1, Ne.symm oD.2.1, Ne.symm oD.2.2]
              try dsimp only
              repeat' ((fail_if_success (with_reducible show wpAny _ _ (call _ _ _) _ _ _)); walk_at "one")
              all_goals (try dsimp only)
              refine ⟨X0.keeps Fb.keep, ?_⟩
              refine take_raw (s := ⟨_, _, _, _, _⟩) am (fun b o q => Fb.keep b o q) (by k_room) rfl (atN (fun _ _ e => e) Nb (a := D) (o := lo pv pn) (by walk_at "mem")) hpi (by omega) (by decide) (by decide) ?_
              intro hc tkc dc tdc pvc pnc psc kc hPc hic hlc dc0 dc1
              have Fc := frKp Fb kc (fun b hb => by rw [List.mem_singleton.mp hb]; exact (Nb (D, lo pv pn) (by walk_at "mem")).2)
              have Nc := nwTurn (pre := [(I, oI), (C, oC), (Da, LCg.lst zs)]) Nb kc hPc.1 pres posts
              simp only [List.cons_append, List.nil_append] at Nc
              clear Fb Nb
              try dsimp only
              repeat' ((fail_if_success (with_reducible show wpAny _ _ (call _ _ _) _ _ _)); walk_at "one")
              all_goals (try dsimp only)
              rename Fr _ _ _ _ => Fb
              rename News _ _ _ _ => Nb
              refine ⟨X0.keeps Fb.keep, ?_⟩
              refine take_raw (s := ⟨_, _, _, _, _⟩) am (fun b o q => Fb.keep b o q) (by k_room) rfl (atN (fun _ _ e => e) Nb (a := D) (o := lo pvc pnc) (by walk_at "mem")) hic (by omega) (by decide) (by decide) ?_
              intro hd tkd dd tdd pvd pnd psd kd hPd hid hld dd0 dd1
              have Fd := frKp Fb kd (fun b hb => by rw [List.mem_singleton.mp hb]; exact (Nb (D, lo pvc pnc) (by walk_at "mem")).2)
              have Nd := nwTurn (pre := [(I, oI), (C, oC), (Da, LCg.lst zs)]) Nb kd hPd.1 pres posts
              simp only [List.cons_append, List.nil_append] at Nd
              clear Fb Nb
              try dsimp only
              repeat' ((fail_if_success (with_reducible show wpAny _ _ (newTuple _) _ _ _)); walk_at "one")
              all_goals (try dsimp only)
              rename Fr _ _ _ _ => Fb
              rename News _ _ _ _ => Nb
              refine kup_newTuple (s := ⟨_, _, _, _, _⟩) (vs := [.int dc tdc, .int dd tdd]) Fb Nb ?_ (by show 2 ≤ sizeLine; rw [sizeLine_eq]; omega)
              intro T h' F' N' l1
              have TD : T ≠ D := Nat.ne_of_gt (l1 (D, lo pvd pnd) (by walk_at "mem"))
              refine hret _ _ _ ((D, lo pvd pnd) :: (DS, LCg.lst ys) :: (DG, LCg.lst ys5) :: (s1.heap.objs.size + 1 + 1, oG') :: (s1.heap.objs.size + 1, oP') :: (332, tabObj #[]) :: (T, tupO [.int dc tdc, .int dd tdd]) :: tups) F' (News.sub N' (fun q hq => ?_)) (LCg.Off3.of fun q hq => ?_)
                ⟨pvd, pnd, psd, as ++ [(dc, dd)], (T, tupO [.int dc tdc, .int dd tdd]) :: tups, rfl, hid, by omega, (hac.mono fun _ _ _ _ _ q => .tail _ q).append (.cons ⟨T, tdc, tdd, rfl, .head _⟩ .nil), by simp [hal], ?_, ?_⟩
              · simp only [List.mem_cons] at hq ⊢
                rcases hq with q | q | q | q | q | q | q | q | q | q | q <;> simp [q]
              · simp only [List.mem_cons] at hq
                have old : q ∈ (D, lo pv pn) :: (DS, LCg.lst ys) :: (DG, LCg.lst ys5) :: (s1.heap.objs.size + 1 + 1, oG') :: (s1.heap.objs.size + 1, oP') :: (332, tabObj #[]) :: tups → q.1 ≠ I ∧ q.1 ≠ C ∧ q.1 ≠ Da := offb.mem q
                rcases hq with rfl | rfl | rfl | rfl | rfl | rfl | rfl | hq
                · exact oD
                · exact old (by walk_at "mem")
                · exact old (by walk_at "mem")
                · exact old (by walk_at "mem")
                · exact old (by walk_at "mem")
                · exact old (by walk_at "mem")
                · exact ⟨Nat.ne_of_gt (l1 (I, oI) (by walk_at "mem")), Nat.ne_of_gt (l1 (C, oC) (by walk_at "mem")), Nat.ne_of_gt (l1 (Da, LCg.lst zs) (by walk_at "mem"))⟩
                · exact old (by first | ((repeat' (first | exact List.forall_mem_nil _ | refine' List.forall_mem_cons.mpr ⟨?_, ?_⟩ | k_mem | exact hq | exact fun h => hq (List.mem_singleton.mp h) | refine' And.intro ?_ ?_ | (refine' Or.inr ?_; k_mem) | (refine' Or.inl ?_; k_mem) | refine' List.Mem.tail _ ?_)); done) | simp [hq])
              · intro a ha
                rcases List.mem_append.mp ha with ha | ha
                · exact hab a ha
                · rw [List.mem_singleton.mp ha]; exact ⟨dc0, dc1, dd0, dd1⟩
              · intro q hq
                rcases List.mem_cons.mp hq with rfl | hq
                · exact ⟨TD, Nat.ne_of_gt (l1 (332, tabObj #[]) (by walk_at "mem"))⟩
                · exact htD q hq
            · rintro zs news ⟨pv, pn, ps, as, tups, rfl, hpi, hpl, hac, hal, hab, htD⟩
              unfold LCg.FinA
              intro DA h tk F N off
              have hal' : as.length ≤ 5 := by omega
              have ntt : ∀ q ∈ (DA, LCg.lst zs) :: (D, lo pv pn) :: (DS, LCg.lst ys) :: (DG, LCg.lst ys5) :: (s1.heap.objs.size + 1 + 1, oG') :: (s1.heap.objs.size + 1, oP') :: tups, q.1 ∉ [332] := by
                intro q hq hm
                have hm' := List.mem_singleton.mp hm
                simp only [List.mem_cons] at hq
                rcases hq with rfl | rfl | rfl | rfl | rfl | rfl | hq
                · simp only [LCg.Off1] at off; exact off.2.2.2.2.2.1 hm'.symm
                · exact f3 hm'.symm
                · exact oS3 hm'.symm
                · exact g3 hm'.symm
                · have q : @Eq Nat (s1.heap.objs.size + 1 + 1) 332 := hm'; omega
                · have q : @Eq Nat (s1.heap.objs.size + 1) 332 := hm'; omega
                · exact (htD q hq).2 hm'
              obtain ⟨e0, he0⟩ : ∃ e, fs.getLast? = some e := by
                cases q : fs.getLast? with
                | none => have h1 := hfu.1; rw [List.getLast?_eq_none_iff.mp q] at h1; cases h1
                | some x => exact ⟨x, rfl⟩
              have hmax := last_max hfu.2.1 he0
              have he0b := hfu.2.2 e0 (List.mem_of_getLast? he0)
              have he0l := hflt e0 (List.mem_of_getLast? he0)
              have hok : Ok ⟨gs, fs, e0 + 1⟩ := ⟨hfu.2.1, (by intro q; have h1 := hfu.1; dsimp only at q; rw [q] at h1; cases h1), fun x hx => ⟨(hfu.2.2 x hx).1, by have := hmax x hx; dsimp only; omega⟩⟩
              have hfin := fine_all hok hab (by dsimp only; omega) (by dsimp only; omega) (by dsimp only; omega) hal'
              have hab' : ∀ a ∈ as, 0 ≤ a.1 ∧ a.1 < 100 ∧ 0 ≤ a.2 ∧ a.2 < 5 := fun a ha => by have := hab a ha; omega
              obtain ⟨m9, ⟨e2, e3⟩, F9m⟩ : ∃ m : Str → Option Value, (m "spots" = some (.ref DS) ∧ m "actions" = some (.ref DA)) ∧ Fr (ghostOf s1.heap [(334, 332)]) s1.heap.objs.size h m := ⟨_, ⟨(if_neg (by decide)).trans e1, if_pos rfl⟩, F⟩
              clear hal Fa Na F
              try dsimp only
              repeat' ((fail_if_success (with_reducible show wpAny _ _ (call _ _ _) _ _ _)); walk_at "one")
              all_goals (try dsimp only)
              refine ⟨X0.keeps F9m.keep, ?_⟩
              have hacN : Acts (at_ (ghostOf s1.heap [(334, 332)]) h) zs as := hac.mono fun a i k ti tk q => atN (fun _ _ e => e) N (by first | ((repeat' (first | exact List.forall_mem_nil _ | refine' List.forall_mem_cons.mpr ⟨?_, ?_⟩ | k_mem | exact q | exact fun h => q (List.mem_singleton.mp h) | refine' And.intro ?_ ?_ | (refine' Or.inr ?_; k_mem) | (refine' Or.inl ?_; k_mem) | refine' List.Mem.tail _ ?_)); done) | simp [q])
              refine done_raw (s := ⟨_, _, _, _, _⟩) am hCd (fun b o q => F9m.keep b o q) (by k_room) rfl (tps := #[]) (e0 := e0)
                (atN (fun _ _ e => e) N (a := DG) (o := LCg.lst ys5) (by walk_at "mem")) hgi (atN (fun _ _ e => e) N (a := DS) (o := LCg.lst ys) (by walk_at "mem")) hys (atN (fun _ _ e => e) N (a := DA) (o := LCg.lst zs) (by walk_at "mem")) hacN
                (by omega) (by omega) he0 he0b.1 (by omega) (by omega) (atN (fun _ _ e => e) N (a := 332) (o := tabObj #[]) (by walk_at "mem")) (.inl rfl) hfin hab' ?_
              rintro v hA tkA tpA kA ⟨r1, gl1, pl1, gv1, pv1, gn1, pn1, te1, rfl, hr1, hgl1, hgi1, hpl1, hpi1⟩ htA htcA
              have n332 := (N (332, tabObj #[]) (by walk_at "mem")).2
              have FA := frKp F9m kA (fun b hb => by rw [List.mem_singleton.mp hb]; exact n332)
              have NA := nwCons (nwCons (nwCons (nwCons (nwKp (News.sub (news' := (DA, LCg.lst zs) :: (D, lo pv pn) :: (DS, LCg.lst ys) :: (DG, LCg.lst ys5) :: (s1.heap.objs.size + 1 + 1, oG') :: (s1.heap.objs.size + 1, oP') :: tups) N (fun q hq => by
                simp only [List.mem_cons] at hq ⊢
                rcases hq with q | q | q | q | q | q | q <;> simp [q])) kA ntt) htA.1 n332.1 n332.2) hpl1.1 (frNeL FA hpl1.1 (fun _ _ z => by cases z)) hpl1.2) hgl1.1 (frNeL FA hgl1.1 (fun _ _ z => by cases z)) hgl1.2) hr1.1 (frNeL FA hr1.1 (fun _ _ z => by cases z)) hr1.2
              have hacA := hacN.kpT kA (fun b hb => by rw [List.mem_singleton.mp hb]; exact notup_data (N.get (a := 332) (o := tabObj #[]) (by walk_at "mem")) (by walk_at "mem"))
              clear N
              try dsimp only
              repeat' ((fail_if_success (with_reducible show wpAny _ _ (call _ _ _) _ _ _)); walk_at "one")
              all_goals (try dsimp only)
              rename Fr _ _ _ _ => Fa
              rename News _ _ _ _ => Na
              refine ⟨X0.keeps Fa.keep, ?_⟩
              refine done_raw (s := ⟨_, _, _, _, _⟩) am hCd (fun b o q => Fa.keep b o q) (by k_room) rfl (tps := tpA) (e0 := e0)
                (atN (fun _ _ e => e) Na (a := DG) (o := LCg.lst ys5) (by walk_at "mem")) hgi (atN (fun _ _ e => e) Na (a := DS) (o := LCg.lst ys) (by walk_at "mem")) hys (atN (fun _ _ e => e) Na (a := DA) (o := LCg.lst zs) (by walk_at "mem")) hacA
                (by omega) (by omega) he0 he0b.1 (by omega) (by omega) (atN (fun _ _ e => e) Na (a := 332) (o := tabObj tpA) (by walk_at "mem")) (.inr htcA) hfin hab' ?_
              rintro v hB tkB tpB kB ⟨r2, gl2, pl2, gv2, pv2, gn2, pn2, te2, rfl, hr2, hgl2, hgi2, hpl2, hpi2⟩ htB htcB
              have FB := frKp Fa kB (fun b hb => by rw [List.mem_singleton.mp hb]; exact n332)
              have rt : r1 ∉ [332] ∧ gl1 ∉ [332] ∧ pl1 ∉ [332] := by
                refine ⟨?_, ?_, ?_⟩
                · rw [List.mem_singleton]; exact neCls hr1.1 htA.1 (by walk_at "mem")
                · rw [List.mem_singleton]; exact neCls hgl1.1 htA.1 (by walk_at "mem")
                · rw [List.mem_singleton]; exact neCls hpl1.1 htA.1 (by walk_at "mem")
              have NB := nwCons (nwCons (nwCons (nwCons (nwKp (News.sub (news' := (r1, tupO [.ref gl1, .ref pl1, .int (foldS ⟨gs, fs, e0 + 1⟩ as).e te1]) :: (gl1, lo gv1 gn1) :: (pl1, lo pv1 pn1) :: (DA, LCg.lst zs) :: (D, lo pv pn) :: (DS, LCg.lst ys) :: (DG, LCg.lst ys5) :: (s1.heap.objs.size + 1 + 1, oG') :: (s1.heap.objs.size + 1, oP') :: tups) Na (fun q hq => by
                simp only [List.mem_cons] at hq ⊢
                rcases hq with q | q | q | q | q | q | q | q | q | q <;> simp [q])) kB (fun q hq => by
                  rcases List.mem_cons.mp hq with rfl | hq
                  · exact rt.1
                  · rcases List.mem_cons.mp hq with rfl | hq
                    · exact rt.2.1
                    · rcases List.mem_cons.mp hq with rfl | hq
                      · exact rt.2.2
                      · exact ntt q hq)) htB.1 n332.1 n332.2) hpl2.1 (frNeL FB hpl2.1 (fun _ _ z => by cases z)) hpl2.2) hgl2.1 (frNeL FB hgl2.1 (fun _ _ z => by cases z)) hgl2.2) hr2.1 (frNeL FB hr2.1 (fun _ _ z => by cases z)) hr2.2
              clear Fa Na
              obtain ⟨cB, ocB, vsB, tzB, htzB, hccB, hdcB, hvcB⟩ := htcB
              have NB := nwCons NB hccB.1 (frNeL FB hccB.1 (fun _ _ z => by rw [hdcB] at z; cases z)) hccB.2
              try dsimp only
              repeat' ((fail_if_success (with_reducible show wpAny _ _ (exec (PySem.Stmt.If _ _ _ _) _) _ _ _)); walk_at "one")
              all_goals (try dsimp only)
              rename Fr _ _ _ _ => Fb
              rename News _ _ _ _ => Nb
              have hZ := fold_ok hok hab
              obtain ⟨Z, hZe⟩ : ∃ Z, foldS ⟨gs, fs, e0 + 1⟩ as = Z := ⟨_, rfl⟩
              rw [hZe] at hZ hgi1 hpi1 hgi2 hpi2 Nb
              obtain ⟨hZo, hZp, hZg, hZE⟩ := hZ
              dsimp only at hZp hZg hZE
              rename Heap => hM
              obtain ⟨m10, Fm, e4, e5, e6, e7⟩ : ∃ m : Str → Option Value, Fr (ghostOf s1.heap [(334, 332)]) s1.heap.objs.size hM m ∧ m "spots" = some (.ref DS) ∧ m "whole" = some (.ref r1) ∧ m "apart" = some (.ref r2) ∧ m "actions" = some (.ref DA) := ⟨_, Fb, e2, rfl, rfl, e3⟩
              have Nm := News.sub (news' := [(r2, tupO [.ref gl2, .ref pl2, .int Z.e te2]), (gl2, lo gv2 gn2), (pl2, lo pv2 pn2), (r1, tupO [.ref gl1, .ref pl1, .int Z.e te1]), (gl1, lo gv1 gn1), (pl1, lo pv1 pn1), (332, tabObj tpB), (D, lo pv pn), (DS, LCg.lst ys), (DG, LCg.lst ys5), (s1.heap.objs.size + 1 + 1, oG'), (s1.heap.objs.size + 1, oP'), (cB, ocB)]) Nb (by walk_at "mem")
              clear Fb Nb
              try dsimp only
              repeat' ((fail_if_success (with_reducible show wpAny _ _ (compareOp _ (Value.ref _) (Value.ref _)) _ _ _)); walk_at "one")
              all_goals (try dsimp only)
              have nd := nodup_up hZo.up
              have hZl : Z.ps.length ≤ 14 := by omega
              refine trip_ne (s := ⟨_, _, _, _, _⟩) (gs := Z.gs) (ps := Z.ps) (e := Z.e) ⟨gl1, pl1, te1, gv1, pv1, gn1, pn1, Nm.get (by walk_at "mem"), Nm.get (by walk_at "mem"), hgi1, Nm.get (by walk_at "mem"), hpi1⟩ ⟨gl2, pl2, te2, gv2, pv2, gn2, pn2, Nm.get (by walk_at "mem"), Nm.get (by walk_at "mem"), hgi2, Nm.get (by walk_at "mem"), hpi2⟩ (by ke_room) ?_
              have Nn := News.sub (news' := [(r1, tupO [.ref gl1, .ref pl1, .int Z.e te1]), (pl1, lo pv1 pn1), (332, tabObj tpB), (D, lo pv pn), (DS, LCg.lst ys), (DG, LCg.lst ys5), (s1.heap.objs.size + 1 + 1, oG'), (s1.heap.objs.size + 1, oP'), (cB, ocB)]) Nm (by walk_at "mem")
              clear Nm
              try dsimp only
              repeat' ((fail_if_success (with_reducible show wpAny _ _ (call _ _ _) _ _ _)); walk_at "one")
              all_goals (try dsimp only)
              refine set_of_list (s := ⟨_, _, _, _, _⟩) rfl (isList_of (Nn.get (a := pl1) (o := lo pv1 pn1) (by walk_at "mem"))) hpi1 nd (by unfold scanBound; omega) ?_
              intro hC tkC oC hoC hSC hkC
              have kC : Kp [] hM hC := fun b o e _ => hkC b o (Heap.lt_size e) e
              have FC := frKp Fm kC (fun _ h => nomatch h)
              have nS : hM.get? hM.objs.size = none := by
                cases q : hM.get? hM.objs.size with
                | none => rfl
                | some o => exact absurd (Heap.lt_size q) (Nat.lt_irrefl _)
              have oS := newOf Fm nS
              have NC := nwCons (nwKp Nn kC (fun _ _ h => nomatch h)) hoC oS.1 oS.2
              clear Fm Nn
              try dsimp only
              repeat' ((fail_if_success (with_reducible show wpAny _ _ (call _ _ _) _ _ _)); walk_at "one")
              all_goals (try dsimp only)
              refine sorted_set (s := ⟨_, _, _, _, _⟩) rfl FC NC hoC hSC (by omega) ?_
              intro DT hD tkD dD vsT nsT enT FD ND lD hiT hpT hsT
              have hnT := sorted_eq hpT hsT hZo.up
              subst hnT
              have Nn := News.sub (news' := [(DT, ({ cls := .type "list", data := .seq vsT.toArray enT } : Obj)), (r1, tupO [.ref gl1, .ref pl1, .int Z.e te1]), (pl1, lo pv1 pn1), (332, tabObj tpB), (D, lo pv pn), (DS, LCg.lst ys), (DG, LCg.lst ys5), (s1.heap.objs.size + 1 + 1, oG'), (s1.heap.objs.size + 1, oP'), (cB, ocB)]) ND (by walk_at "mem")
              clear FC NC ND
              try dsimp only
              repeat' ((fail_if_success (with_reducible show wpAny _ _ (compareOp _ (Value.ref _) (Value.ref _)) _ _ _)); walk_at "one")
              all_goals (try dsimp only)
              refine ints_ne (s := ⟨_, _, _, _, _⟩) (isList_of (Nn.get (a := pl1) (o := lo pv1 pn1) (by walk_at "mem"))) hpi1 (isList_of (Nn.get (a := DT) (o := lo vsT enT) (by walk_at "mem"))) hiT (by ke_room) ?_
              try dsimp only
              obtain ⟨eL, heL⟩ : ∃ e, Z.ps.getLast? = some e := by
                cases q : Z.ps.getLast? with
                | none => exact absurd (List.getLast?_eq_none_iff.mp q) hZo.ne
                | some x => exact ⟨x, rfl⟩
              have heLb := hZo.bd eL (List.mem_of_getLast? heL)
              obtain ⟨tL, htL⟩ : ∃ t, pv1.getLast? = some (.int eL t) := by
                have hx' := heL
                rw [List.getLast?_eq_getElem?] at hx' ⊢
                obtain ⟨t, ht⟩ := hpi1.get _ _ hx'
                rw [hpi1.length]; exact ⟨t, ht⟩
              repeat' ((fail_if_success (with_reducible show wpAny _ _ (subscriptTail _ _ (Value.ref _) (Value.int (-1) _)) _ _ _)); walk_at "one")
              all_goals (try dsimp only)
              refine itemLast (s := ⟨_, _, _, _, _⟩) (by rfl) (isList_of (Nn.get (a := pl1) (o := lo pv1 pn1) (by walk_at "mem"))) htL ?_
              try dsimp only
              repeat' ((fail_if_success (with_reducible show wpAny _ _ (exec (PySem.Stmt.If _ _ _ _) _) _ _ _)); walk_at "one")
              all_goals (try dsimp only)
              rename Fr _ _ _ _ => Fm
              rename News _ _ _ _ => Nm
              have Nn := News.sub (news' := [(332, tabObj tpB), (D, lo pv pn), (DS, LCg.lst ys), (DG, LCg.lst ys5), (s1.heap.objs.size + 1 + 1, oG'), (s1.heap.objs.size + 1, oP'), (cB, ocB)]) Nm (by walk_at "mem")
              clear Nm
              try dsimp only
              repeat' ((fail_if_success (with_reducible show wpAny _ _ (call _ _ _) _ _ _)); walk_at "one")
              all_goals (try dsimp only)
              rename Fr _ _ _ _ => Fa
              rename News _ _ _ _ => Na
              rename Addr => lE
              rename Heap => hN
              have ntb : ∀ q ∈ [(D, lo pv pn), (DS, LCg.lst ys), (DG, LCg.lst ys5), (s1.heap.objs.size + 1 + 1, oG'), (s1.heap.objs.size + 1, oP')], q.1 ∉ [332] := fun q hq => ntt q (by
                simp only [List.mem_cons, List.not_mem_nil, or_false] at hq
                rcases hq with rfl | rfl | rfl | rfl | rfl <;> simp)
              obtain ⟨tx, hsl⟩ : ∃ t, ys.getLast? = some (.int e0 t) := by
                have hx' := he0
                rw [List.getLast?_eq_getElem?] at hx' ⊢
                obtain ⟨t, ht⟩ := hys.get _ _ hx'
                rw [hys.length]; exact ⟨t, ht⟩
              have hysl := hys.length
              have hfl0 : 0 < fs.length := by
                cases q : fs with
                | nil => rw [q] at he0; cases he0
                | cons => simp
              refine ⟨X0.keeps Fa.keep, ?_⟩
              refine done_raw (s := ⟨_, _, _, _, _⟩) am hCd (fun b o q => Fa.keep b o q) (by k_room) rfl (tps := tpB) (e0 := e0) (acts := []) (avs := [])
                (atN (fun _ _ e => e) Na (a := DG) (o := LCg.lst ys5) (by walk_at "mem")) hgi (atN (fun _ _ e => e) Na (a := DS) (o := LCg.lst ys) (by walk_at "mem")) hys (atN (fun _ _ e => e) Na (a := lE) (o := lo [] 0) (List.Mem.head _)) .nil
                (by omega) (by omega) he0 he0b.1 (by omega) (by decide) (atN (fun _ _ e => e) Na (a := 332) (o := tabObj tpB) (by walk_at "mem")) (.inr ⟨cB, ocB, vsB, tzB, htzB, atN (fun _ _ e => e) Na (a := cB) (o := ocB) (by walk_at "mem"), hdcB, hvcB⟩)
                (fine_all hok (fun _ h => nomatch h) (by dsimp only; omega) (by dsimp only; omega) (by dsimp only; omega) (by decide)) (fun _ h => nomatch h) ?_
              rintro v hE tkE tpE kE ⟨r3, gl3, pl3, gv3, pv3, gn3, pn3, te3, rfl, hr3, hgl3, hgi3, hpl3, hpi3⟩ htE htcE
              change at_ (ghostOf s1.heap [(334, 332)]) hE r3 (tupO [.ref gl3, .ref pl3, .int (e0 + 1) te3]) at hr3
              change IntsAre gv3 gs at hgi3
              change IntsAre pv3 fs at hpi3
              have FE := frKp Fa kE (fun b hb => by rw [List.mem_singleton.mp hb]; exact n332)
              have NE := nwCons (nwCons (nwCons (nwCons (nwKp (News.sub (news' := [(D, lo pv pn), (DS, LCg.lst ys), (DG, LCg.lst ys5), (s1.heap.objs.size + 1 + 1, oG'), (s1.heap.objs.size + 1, oP')]) Na (by walk_at "mem")) kE ntb) htE.1 n332.1 n332.2) hpl3.1 (frNeL FE hpl3.1 (fun _ _ z => by cases z)) hpl3.2) hgl3.1 (frNeL FE hgl3.1 (fun _ _ z => by cases z)) hgl3.2) hr3.1 (frNeL FE hr3.1 (fun _ _ z => by cases z)) hr3.2
              clear Fa Na
              obtain ⟨cE, ocE, vsE, tzE, htzE, hccE, hdcE, hvcE⟩ := htcE
              have NE := nwCons NE hccE.1 (frNeL FE hccE.1 (fun _ _ z => by rw [hdcE] at z; cases z)) hccE.2
              try dsimp only
              repeat' ((fail_if_success (with_reducible show wpAny _ _ (subscriptTail _ _ (Value.ref _) (Value.int (-1) _)) _ _ _)); walk_at "one")
              all_goals (try dsimp only)
              rename News _ _ _ _ => Nb
              refine itemLast (s := ⟨_, _, _, _, _⟩) (by rfl) (isList_of (Nb.get (a := DS) (o := LCg.lst ys) (by walk_at "mem"))) hsl ?_
              try dsimp only
              repeat' ((fail_if_success (with_reducible show wpAny _ _ (compareOp _ (Value.ref _) (Value.ref _)) _ _ _)); walk_at "one")
              all_goals (try dsimp only)
              rename Fr _ _ _ _ => Fc
              rename News _ _ _ _ => Nc
              refine trip_ne (s := ⟨_, _, _, _, _⟩) (gs := gs) (ps := fs) (e := e0 + 1) ⟨gl3, pl3, te3, gv3, pv3, gn3, pn3, Nc.get (by walk_at "mem"), Nc.get (by walk_at "mem"), hgi3, Nc.get (by walk_at "mem"), hpi3⟩ ⟨DG, DS, _, ys5, ys, _, _, Nc.get (List.Mem.head _), Nc.get (o := LCg.lst ys5) (by walk_at "mem"), hgi, Nc.get (o := LCg.lst ys) (by walk_at "mem"), hys⟩ (by ke_room) ?_
              have Nm := News.sub (news' := [(332, tabObj tpE), (D, lo pv pn), (DS, LCg.lst ys), (DG, LCg.lst ys5), (s1.heap.objs.size + 1 + 1, oG'), (s1.heap.objs.size + 1, oP'), (cE, ocE)]) Nc (by walk_at "mem")
              clear Nc
              try dsimp only
              repeat' ((fail_if_success (with_reducible show wpAny _ _ (call _ _ _) _ _ _)); walk_at "one")
              all_goals (try dsimp only)
              rename Fr _ _ _ _ => Fa
              rename News _ _ _ _ => Na
              refine ⟨X0.keeps Fa.keep, ?_⟩
              refine take_raw (s := ⟨_, _, _, _, _⟩) am (fun b o q => Fa.keep b o q) (by k_room) rfl (atN (fun _ _ e => e) Na (a := D) (o := lo pv pn) (by walk_at "mem")) hpi (by omega) (by decide) (by decide) ?_
              intro hG tkG dG tdG pvG pnG psG kG hPG hiG hlG dG0 dG1
              have FG := frKp Fa kG (fun b hb => by rw [List.mem_singleton.mp hb]; exact (Na (D, lo pv pn) (by walk_at "mem")).2)
              have NG := nwKp (News.sub (news' := [(332, tabObj tpE), (DS, LCg.lst ys), (DG, LCg.lst ys5), (s1.heap.objs.size + 1 + 1, oG'), (s1.heap.objs.size + 1, oP'), (cE, ocE)]) Na (by walk_at "mem")) kG (fun q hq hm => by
                have hm' := List.mem_singleton.mp hm
                simp only [List.mem_cons, List.not_mem_nil, or_false] at hq
                rcases hq with rfl | rfl | rfl | rfl | rfl | rfl
                · exact f3 hm'
                · exact oSD hm'.symm
                · exact gD hm'.symm
                · exact f2 hm'
                · exact f1 hm'
                · have e1 := Na.get (a := cE) (o := ocE) (by walk_at "mem")
                  have e2 := Na.get (a := D) (o := lo pv pn) (by walk_at "mem")
                  exact neData e1 e2 (by rw [hdcE]; simp) hm')
              clear Fa Na
              try dsimp only
              repeat' ((fail_if_success (with_reducible show wpAny _ _ (call _ _ _) _ _ _)); walk_at "one")
              all_goals (try dsimp only)
              refine lenL (s := ⟨_, _, _, _, _⟩) (vs := ys) (isList_of (NG.get (a := DS) (o := LCg.lst ys) (by walk_at "mem"))) (by omega) ?_
              rw [hysl]
              try dsimp only
              repeat' ((fail_if_success (with_reducible show wpAny _ _ (exec (PySem.Stmt.Return _ _) _) _ _ _)); walk_at "one")
              all_goals (try dsimp only)
              rename Fr _ _ _ _ => Fb
              rename News _ _ _ _ => Nb
              rename Heap => hH
              have hat0 : 0 ≤ dG.fmod (fs.length : Int) := fmod_lo _ (by omega)
              have hat1 : dG.fmod (fs.length : Int) < fs.length := fmod_hi _ (by omega)
              obtain ⟨m11, tat, Fm, e8, e9⟩ : ∃ (m : Str → Option Value) (t : Tok), Fr (ghostOf s1.heap [(334, 332)]) s1.heap.objs.size hH m ∧ m "spots" = some (.ref DS) ∧ m "at" = some (.int (dG.fmod (fs.length : Int)) t) := ⟨_, _, Fb, e4, rfl⟩
              generalize dG.fmod (fs.length : Int) = at_i at hat0 hat1 e9
              obtain ⟨ai, rfl⟩ : ∃ n : Nat, at_i = n := ⟨at_i.toNat, by omega⟩
              clear Fb
              try dsimp only
              repeat' ((fail_if_success (with_reducible show wpAny _ _ (call _ _ _) _ _ _)); walk_at "one")
              all_goals (try dsimp only)
              rename Fr _ _ _ _ => Fa
              rename News _ _ _ _ => Na
              have hacT : ∀ a ∈ [((ai : Int), (1 : Int)), ((ai : Int), 3)], 0 ≤ a.1 ∧ a.1 < 5 ∧ 0 ≤ a.2 ∧ a.2 < 5 := by
                intro a ha
                simp only [List.mem_cons, List.not_mem_nil, or_false] at ha
                rcases ha with rfl | rfl <;> dsimp only <;> omega
              have ept := put_take (gs := gs) (ps := fs) (e0 := e0) (n := ai) hfu.2.1 (fun x hx => ⟨(hfu.2.2 x hx).1, hmax x hx, hflt x hx⟩) (by omega)
              refine ⟨X0.keeps Fa.keep, ?_⟩
              refine done_raw (s := ⟨_, _, _, _, _⟩) am hCd (fun b o q => Fa.keep b o q) (by k_room) rfl (tps := tpE) (e0 := e0) (acts := [((ai : Int), 1), ((ai : Int), 3)])
                (atN (fun _ _ e => e) Na (a := DG) (o := LCg.lst ys5) (by walk_at "mem")) hgi (atN (fun _ _ e => e) Na (a := DS) (o := LCg.lst ys) (by walk_at "mem")) hys (atN (fun _ _ e => e) Na (List.Mem.head _))
                (.cons ⟨_, _, _, rfl, atN (fun _ _ e => e) Na (List.Mem.tail _ (List.Mem.tail _ (List.Mem.head _)))⟩ (.cons ⟨_, _, _, rfl, atN (fun _ _ e => e) Na (List.Mem.tail _ (List.Mem.head _))⟩ .nil))
                (by omega) (by omega) he0 he0b.1 (by omega) (by show 2 ≤ 20; omega) (atN (fun _ _ e => e) Na (a := 332) (o := tabObj tpE) (by walk_at "mem")) (.inr ⟨cE, ocE, vsE, tzE, htzE, atN (fun _ _ e => e) Na (a := cE) (o := ocE) (by walk_at "mem"), hdcE, hvcE⟩)
                (fine_all hok hacT (by dsimp only; omega) (by dsimp only; omega) (by dsimp only; omega) (by show 2 ≤ 5; omega)) (fun a ha => by have := hacT a ha; omega) ?_
              rintro v hE4 tkE4 tpE4 kE4 ⟨r4, gl4, pl4, gv4, pv4, gn4, pn4, te4, rfl, hr4, hgl4, hgi4, hpl4, hpi4⟩ htE4 _
              rw [ept] at hr4 hgi4 hpi4
              change at_ (ghostOf s1.heap [(334, 332)]) hE4 r4 (tupO [.ref gl4, .ref pl4, .int (e0 + 1) te4]) at hr4
              change IntsAre gv4 gs at hgi4
              change IntsAre pv4 fs at hpi4
              have FE4 := frKp Fa kE4 (fun b hb => by rw [List.mem_singleton.mp hb]; exact n332)
              have NE4 := nwCons (nwCons (nwCons (nwCons (nwKp (News.sub (news' := [(DS, LCg.lst ys), (DG, LCg.lst ys5), (s1.heap.objs.size + 1 + 1, oG'), (s1.heap.objs.size + 1, oP')]) Na (by walk_at "mem")) kE4 (fun q hq => ntb q (.tail _ hq))) htE4.1 n332.1 n332.2) hpl4.1 (frNeL FE4 hpl4.1 (fun _ _ z => by cases z)) hpl4.2) hgl4.1 (frNeL FE4 hgl4.1 (fun _ _ z => by cases z)) hgl4.2) hr4.1 (frNeL FE4 hr4.1 (fun _ _ z => by cases z)) hr4.2
              clear Fa Na
              try dsimp only
              repeat' ((fail_if_success (with_reducible show wpAny _ _ (subscriptTail _ _ (Value.ref _) (Value.int (-1) _)) _ _ _)); walk_at "one")
              all_goals (try dsimp only)
              refine itemLast (s := ⟨_, _, _, _, _⟩) (by rfl) (isList_of (NE4.get (a := DS) (o := LCg.lst ys) (by walk_at "mem"))) hsl ?_
              try dsimp only
              repeat' ((fail_if_success (with_reducible show wpAny _ _ (compareOp _ (Value.ref _) (Value.ref _)) _ _ _)); walk_at "one")
              all_goals (try dsimp only)
              rename Fr _ _ _ _ => Fc
              rename News _ _ _ _ => Nc
              refine trip_eq (s := ⟨_, _, _, _, _⟩) (gs := gs) (ps := fs) (e := e0 + 1) ⟨gl4, pl4, te4, gv4, pv4, gn4, pn4, Nc.get (by walk_at "mem"), Nc.get (by walk_at "mem"), hgi4, Nc.get (by walk_at "mem"), hpi4⟩ ⟨DG, DS, _, ys5, ys, _, _, Nc.get (List.Mem.head _), Nc.get (o := LCg.lst ys5) (by walk_at "mem"), hgi, Nc.get (o := LCg.lst ys) (by walk_at "mem"), hys⟩ (by ke_room) ?_
              try dsimp only
              exact ⟨_, _, _, _, tpE4, rfl, rfl, Fc, Nc.get (by walk_at "mem")⟩)
end

theorem PySem.Challenge.cw_pb0189_01_holds : PySem.Challenge.rw_pb0189_01.Holds := by
  exact Mine.lawT
