import PyProof.Rows.All
import Wide.All
import OpenK.AllK
import Wide.FinOn
import PySem.Challenge.RW_qz0019_01
open PySem PySem.W PyProof.Rows PyProof.V
set_option Elab.async false
set_option compiler.extract_closed false
set_option genInjectivity false
set_option genSizeOf false
set_option maxRecDepth 100000
set_option maxHeartbeats 2000000
namespace Mine
section
/-- the top's run over the tree of objects -/
noncomputable def runG (thr ok : Thread → Bool) (st : SharedT → Thread → Option (SharedT × Thread)) : Nat → SharedT → Thread → Option SharedT
  | 0, _, _ => none
  | n + 1, s, t => match thr t with
    | true => some s
    | false => match ok t with
      | false => none
      | true => match st s t with
        | some (s', t') => runG thr ok st n s' t'
        | none => none
theorem runG_of {tb : String → Option Builtin} {p : Program} {w : World} {n₀ : Nat} {ann : Option Value} : ∀ {n : Nat} {s s' : SharedT} {t : Thread}, runG through (stepOk n₀ ann) (stepT (denote tb) p w) n s t = some s' → topRun tb p w n₀ ann n s.abs t = some s'.abs
  | 0, _, _, _, h => by cases h
  | n + 1, s, s', t, h => by
    unfold runG at h
    unfold topRun
    cases he : through t with
    | true => rw [he] at h; cases h; rfl
    | false =>
      rw [he] at h
      cases hk : stepOk n₀ ann t with
      | false => rw [hk] at h; cases h
      | true =>
        rw [hk] at h
        cases hs : stepT (denote tb) p w s t with
        | none => rw [hs] at h; cases h
        | some r => obtain ⟨s₂, t₂⟩ := r; rw [hs] at h; rw [stepT_spec hs]; exact runG_of h
noncomputable def insAll : List Obj → Nat → BT → BT
  | [], _, t => t
  | o :: r, n, t => insAll r (n + 1) (t.ins n o)
noncomputable def mkT (s : Shared) : SharedT := ⟨insAll s.heap.objs.toList 0 .nil, s.heap.objs.size, s.heap.life, s.gens, s.drawn, s.toks, s.os⟩
/-- the head's look from four looks at the run over the tree -/
theorem left_tree {p q : Program} {loose : List Str} {Xt : Shared → Bool} {α : Type} {Yf : Shared → α} {Ya : World → α} {N : Nat} {R : World → Shared → Option SharedT}
    (hR : ∀ w s₀, R w s₀ = runG through (stepOk s₀.heap.objs.size (s₀.heap.nsMap mainGlobals "__annotations__")) (stepT (denote treeTable) p w) N (mkT s₀) (topStub p))
    (hT : ∀ w : World, (fencedOpening treeTable p w N).map (fun s => (mkT s).abs) = fencedOpening treeTable p w N)
    (hD : ∀ w : World, (fencedOpening treeTable p w N).map (fun s => s.heap.isNs mainGlobals && s.gens.size == 0) = some true)
    (hC : ∀ w : World, ((fencedOpening treeTable p w N).bind fun s₀ => (R w s₀).map fun t₁ => staticsOk (importedModules p.main.body) s₀.heap t₁.abs.heap && namesBound p t₁.abs.heap && gensDone t₁.abs && laidKept s₀.heap t₁.abs.heap) = some true)
    (hB : ∀ w : World, ((fencedOpening treeTable p w N).bind fun s₀ => (R w s₀).map fun t₁ => openSeen q loose (importedModules p.main.body) Xt true t₁.abs) = some (openGood q loose))
    (hA : ∀ w : World, ((fencedOpening treeTable p w N).bind fun s₀ => (R w s₀).map fun t₁ => Yf t₁.abs) = some (Ya w)) : LeftO p q loose Xt Yf Ya N := fun w => by
  have a := hT w
  have b1 := hD w
  have b2 := hC w
  have b3 := hB w
  have b4 := hA w
  unfold openEnds
  cases e : fencedOpening treeTable p w N with
  | none => rw [e] at b1; cases b1
  | some s₀ =>
    rw [e] at a b1 b2 b3 b4
    have ha : (mkT s₀).abs = s₀ := Option.some.inj a
    have hc := Option.some.inj b1
    simp only [Option.bind_some] at b2 b3 b4 ⊢
    cases r : R w s₀ with
    | none => rw [r] at b2; cases b2
    | some t₁ =>
      rw [r] at b2 b3 b4
      have hr := runG_of ((hR w s₀).symm.trans r)
      rw [ha] at hr
      have c2 := Option.some.inj b2
      have c3 := Option.some.inj b3
      have c4 := Option.some.inj b4
      unfold topFrom
      dsimp only at hc c2 c3 c4
      rw [hc, hr]
      simp only [Option.bind_some]
      rw [c2]
      simp only [Option.map_some]
      rw [c3, c4]
noncomputable def nthS : List Stmt → Nat → Stmt
  | s :: _, 0 => s
  | _ :: r, n + 1 => nthS r n
  | [], _ => .Pass ⟨0, 0, 0, 0⟩
noncomputable def bodyC : Stmt → List Stmt
  | .ClassDef _ _ _ b _ _ _ _ _ _ _ => b
  | _ => []
/-- a def's parameters, body, scope -/
noncomputable def defC : Stmt → Option (Arguments × List Stmt × Scope)
  | .FunctionDef _ a b _ _ _ s _ _ _ => some (a, b, s)
  | _ => none
set_option maxRecDepth 1000000 in
set_option maxHeartbeats 0 in
/-- the objects that the walk looks at -/
noncomputable def hd.heap_39 : Params → Frag := fun P => (fun (p1 : Arguments) (b1 : List Stmt) (s1 : Scope)
    (p2 : Arguments) (b2 : List Stmt) (s2 : Scope)
    (p3 : Arguments) (b3 : List Stmt) (s3 : Scope)
    (p4 : Arguments) (b4 : List Stmt) (s4 : Scope)
    (p5 : Arguments) (b5 : List Stmt) (s5 : Scope)
    (p6 : Arguments) (b6 : List Stmt) (s6 : Scope)
    (p7 : Arguments) (b7 : List Stmt) (s7 : Scope)
    (p8 : Arguments) (b8 : List Stmt) (s8 : Scope)
    (p9 : Arguments) (b9 : List Stmt) (s9 : Scope)
    (p10 : Arguments) (b10 : List Stmt) (s10 : Scope)
    (p11 : Arguments) (b11 : List Stmt) (s11 : Scope)
    (p12 : Arguments) (b12 : List Stmt) (s12 : Scope)
    (p13 : Arguments) (b13 : List Stmt) (s13 : Scope)
    (p14 : Arguments) (b14 : List Stmt) (s14 : Scope)
    (p15 : Arguments) (b15 : List Stmt) (s15 : Scope)
    (p16 : Arguments) (b16 : List Stmt) (s16 : Scope)
    (p17 : Arguments) (b17 : List Stmt) (s17 : Scope)
    (p18 : Arguments) (b18 : List Stmt) (s18 : Scope)
    (p19 : Arguments) (b19 : List Stmt) (s19 : Scope)
    (p20 : Arguments) (b20 : List Stmt) (s20 : Scope)
    (p21 : Arguments) (b21 : List Stmt) (s21 : Scope)
    (p22 : Arguments) (b22 : List Stmt) (s22 : Scope)
    (p23 : Arguments) (b23 : List Stmt) (s23 : Scope)
    (p24 : Arguments) (b24 : List Stmt) (s24 : Scope)
    (_ : defC (nthS (bodyC (nthS PySem.Challenge.pw_qz0019_01.main.body 3)) 0) = some (p1, b1, s1))
    (_ : defC (nthS (bodyC (nthS PySem.Challenge.pw_qz0019_01.main.body 3)) 1) = some (p2, b2, s2))
    (_ : defC (nthS (bodyC (nthS PySem.Challenge.pw_qz0019_01.main.body 3)) 2) = some (p3, b3, s3))
    (_ : defC (nthS (bodyC (nthS PySem.Challenge.pw_qz0019_01.main.body 3)) 5) = some (p4, b4, s4))
    (_ : defC (nthS PySem.Challenge.pw_qz0019_01.main.body 9) = some (p5, b5, s5))
    (_ : defC (nthS (bodyC (nthS PySem.Challenge.pw_qz0019_01.main.body 16)) 0) = some (p6, b6, s6))
    (_ : defC (nthS (bodyC (nthS PySem.Challenge.pw_qz0019_01.main.body 16)) 4) = some (p7, b7, s7))
    (_ : defC (nthS (bodyC (nthS PySem.Challenge.pw_qz0019_01.main.body 16)) 6) = some (p8, b8, s8))
    (_ : defC (nthS (bodyC (nthS PySem.Challenge.pw_qz0019_01.main.body 16)) 8) = some (p9, b9, s9))
    (_ : defC (nthS (bodyC (nthS PySem.Challenge.pw_qz0019_01.main.body 16)) 13) = some (p10, b10, s10))
    (_ : defC (nthS (bodyC (nthS PySem.Challenge.pw_qz0019_01.main.body 16)) 19) = some (p11, b11, s11))
    (_ : defC (nthS (bodyC (nthS PySem.Challenge.pw_qz0019_01.main.body 16)) 24) = some (p12, b12, s12))
    (_ : defC (nthS (bodyC (nthS PySem.Challenge.pw_qz0019_01.main.body 16)) 25) = some (p13, b13, s13))
    (_ : defC (nthS PySem.Challenge.pw_qz0019_01.main.body 18) = some (p14, b14, s14))
    (_ : defC (nthS (bodyC (nthS PySem.Challenge.pw_qz0019_01.main.body 19)) 0) = some (p15, b15, s15))
    (_ : defC (nthS (bodyC (nthS PySem.Challenge.pw_qz0019_01.main.body 20)) 0) = some (p16, b16, s16))
    (_ : defC (nthS (bodyC (nthS PySem.Challenge.pw_qz0019_01.main.body 20)) 1) = some (p17, b17, s17))
    (_ : defC (nthS (bodyC (nthS PySem.Challenge.pw_qz0019_01.main.body 20)) 4) = some (p18, b18, s18))
    (_ : defC (nthS PySem.Challenge.pw_qz0019_01.main.body 22) = some (p19, b19, s19))
    (_ : defC (nthS PySem.Challenge.pw_qz0019_01.main.body 23) = some (p20, b20, s20))
    (_ : defC (nthS PySem.Challenge.pw_qz0019_01.main.body 24) = some (p21, b21, s21))
    (_ : defC (nthS PySem.Challenge.pw_qz0019_01.main.body 25) = some (p22, b22, s22))
    (_ : defC (nthS PySem.Challenge.pw_qz0019_01.main.body 26) = some (p23, b23, s23))
    (_ : defC (nthS PySem.Challenge.pw_qz0019_01.main.body 27) = some (p24, b24, s24)) =>
    (⟨nat_lit 2, ⟨.none, .none, (.dict (List.toArray [⟨(PyData.keyHash P (Str.ofString "type.__subclasses__.Exception.0")), (.str (Str.ofString "type.__subclasses__.Exception.0") 323), (.int 102 0)⟩, ⟨(PyData.keyHash P (Str.ofString "type.__subclasses__.Exception.n")), (.str (Str.ofString "type.__subclasses__.Exception.n") 324), (.int 1 0)⟩]) 2), (List.toArray [])⟩⟩ ::
    ⟨nat_lit 3, ⟨(.type "dict"), .none, (.dict (List.toArray [⟨(PyData.keyHash P (Str.ofString "__name__")), (.str (Str.ofString "__name__") 165), (.str (Str.ofString "law_qz0019_01") 1082)⟩, ⟨(PyData.keyHash P (Str.ofString "__doc__")), (.str (Str.ofString "__doc__") 166), .none⟩, ⟨(PyData.keyHash P (Str.ofString "__package__")), (.str (Str.ofString "__package__") 167), .none⟩, ⟨(PyData.keyHash P (Str.ofString "__loader__")), (.str (Str.ofString "__loader__") 168), (.builtin "__main__.__loader__#opaque")⟩, ⟨(PyData.keyHash P (Str.ofString "__spec__")), (.str (Str.ofString "__spec__") 169), .none⟩, ⟨(PyData.keyHash P (Str.ofString "__annotations__")), (.str (Str.ofString "__annotations__") 170), (.ref 6)⟩, ⟨(PyData.keyHash P (Str.ofString "__builtins__")), (.str (Str.ofString "__builtins__") 171), (.ref 4)⟩, ⟨(PyData.keyHash P (Str.ofString "__file__")), (.str (Str.ofString "__file__") 173), (.str (Str.ofString "/claim/cut.py") 172)⟩, ⟨(PyData.keyHash P (Str.ofString "__cached__")), (.str (Str.ofString "__cached__") 174), .none⟩, ⟨(PyData.keyHash P (Str.ofString "_wall")), (.str (Str.ofString "_wall") 193), (.ref 21)⟩, ⟨(PyData.keyHash P (Str.ofString "VALUES")), (.str (Str.ofString "VALUES") 198), (.ref 22)⟩, ⟨(PyData.keyHash P (Str.ofString "PlainClosing")), (.str (Str.ofString "PlainClosing") 286), (.ref 72)⟩, ⟨(PyData.keyHash P (Str.ofString "SmtError")), (.str (Str.ofString "SmtError") 326), (.ref 102)⟩, ⟨(PyData.keyHash P (Str.ofString "SortFault")), (.str (Str.ofString "SortFault") 349), (.ref 122)⟩, ⟨(PyData.keyHash P (Str.ofString "LimitFault")), (.str (Str.ofString "LimitFault") 372), (.ref 141)⟩, ⟨(PyData.keyHash P (Str.ofString "is_whole")), (.str (Str.ofString "is_whole") 381), (.ref 150)⟩, ⟨(PyData.keyHash P (Str.ofString "BOOL")), (.str (Str.ofString "BOOL") 385), (.int 0 384)⟩, ⟨(PyData.keyHash P (Str.ofString "INT")), (.str (Str.ofString "INT") 387), (.int 1 386)⟩, ⟨(PyData.keyHash P (Str.ofString "REAL")), (.str (Str.ofString "REAL") 389), (.int 2 388)⟩, ⟨(PyData.keyHash P (Str.ofString "WIDEST")), (.str (Str.ofString "WIDEST") 391), (.int 4096 390)⟩, ⟨(PyData.keyHash P (Str.ofString "MOST_BITS")), (.str (Str.ofString "MOST_BITS") 395), (.int 65536 394)⟩, ⟨(PyData.keyHash P (Str.ofString "Bank")), (.str (Str.ofString "Bank") 672), (.ref 363)⟩, ⟨(PyData.keyHash P (Str.ofString "BoolBank")), (.str (Str.ofString "BoolBank") 805), (.ref 468)⟩, ⟨(PyData.keyHash P (Str.ofString "want_small")), (.str (Str.ofString "want_small") 812), (.ref 477)⟩, ⟨(PyData.keyHash P (Str.ofString "NumberBank")), (.str (Str.ofString "NumberBank") 925), (.ref 564)⟩, ⟨(PyData.keyHash P (Str.ofString "TermBank")), (.str (Str.ofString "TermBank") 1081), (.ref 683)⟩, ⟨(PyData.keyHash P (Str.ofString "_law_pull")), (.str (Str.ofString "_law_pull") 1092), (.ref 692)⟩, ⟨(PyData.keyHash P (Str.ofString "_law_groups")), (.str (Str.ofString "_law_groups") 1103), (.ref 699)⟩, ⟨(PyData.keyHash P (Str.ofString "_law_led_to")), (.str (Str.ofString "_law_led_to") 1116), (.ref 706)⟩, ⟨(PyData.keyHash P (Str.ofString "_law_clashes")), (.str (Str.ofString "_law_clashes") 1128), (.ref 713)⟩, ⟨(PyData.keyHash P (Str.ofString "_law_is_right")), (.str (Str.ofString "_law_is_right") 1134), (.ref 718)⟩, ⟨(PyData.keyHash P (Str.ofString "law")), (.str (Str.ofString "law") 1140), (.ref 723)⟩]) 32), (List.toArray [])⟩⟩ ::
    ⟨nat_lit 22, ⟨(.type "tuple"), .none, (.seq (List.toArray [(.str (Str.ofString "num") 196), (.str (Str.ofString "bvnum") 197)]) 0), (List.toArray [])⟩⟩ ::
    ⟨nat_lit 35, ⟨(.type "code"), .none, (.fields (List.toArray [(.str (Str.ofString "__init__") 211), (.str (Str.ofString "PlainClosing.__init__") 212), (.str (Str.ofString "/claim/cut.py") 213), (.int 8 0), (.int 3 0), (.int 0 0), (.int 0 0), (.int 3 0), (.ref 30), (.bool .true), (.int 181 0), (.ref 31), .none, (.ref 32), (.ref 33), (.ref 34), (.int 218 0), (.int 8 0), (.str (Str.ofString "/claim/cut.py") 219)])), (List.toArray [])⟩⟩ ::
    ⟨nat_lit 36, ⟨(.type "function"), .none, (.func ⟨(Str.ofString "__init__"), (Str.ofString "PlainClosing.__init__"), p1, (.stmts b1), s1, 3, [], .none, .none, .none, (.str (Str.ofString "minismt.judges") 194), .none, (.ref 35), .none, 0⟩), (List.toArray [])⟩⟩ ::
    ⟨nat_lit 42, ⟨(.type "code"), .none, (.fields (List.toArray [(.str (Str.ofString "join") 221), (.str (Str.ofString "PlainClosing.join") 222), (.str (Str.ofString "/claim/cut.py") 223), (.int 15 0), (.int 3 0), (.int 0 0), (.int 0 0), (.int 3 0), (.ref 37), (.bool .true), (.int 181 0), (.ref 38), .none, (.ref 39), (.ref 40), (.ref 41), (.int 232 0), (.int 15 0), (.str (Str.ofString "/claim/cut.py") 233)])), (List.toArray [])⟩⟩ ::
    ⟨nat_lit 43, ⟨(.type "function"), .none, (.func ⟨(Str.ofString "join"), (Str.ofString "PlainClosing.join"), p2, (.stmts b2), s2, 3, [], .none, .none, .none, (.str (Str.ofString "minismt.judges") 194), .none, (.ref 42), .none, 0⟩), (List.toArray [])⟩⟩ ::
    ⟨nat_lit 49, ⟨(.type "code"), .none, (.fields (List.toArray [(.str (Str.ofString "are_one") 235), (.str (Str.ofString "PlainClosing.are_one") 236), (.str (Str.ofString "/claim/cut.py") 237), (.int 25 0), (.int 3 0), (.int 0 0), (.int 0 0), (.int 3 0), (.ref 44), (.bool .true), (.int 181 0), (.ref 45), .none, (.ref 46), (.ref 47), (.ref 48), (.int 241 0), (.int 25 0), (.str (Str.ofString "/claim/cut.py") 242)])), (List.toArray [])⟩⟩ ::
    ⟨nat_lit 50, ⟨(.type "function"), .none, (.func ⟨(Str.ofString "are_one"), (Str.ofString "PlainClosing.are_one"), p3, (.stmts b3), s3, 3, [], .none, .none, .none, (.str (Str.ofString "minismt.judges") 194), .none, (.ref 49), .none, 0⟩), (List.toArray [])⟩⟩ ::
    ⟨nat_lit 68, ⟨(.type "code"), .none, (.fields (List.toArray [(.str (Str.ofString "has_clash") 264), (.str (Str.ofString "PlainClosing.has_clash") 265), (.str (Str.ofString "/claim/cut.py") 266), (.int 61 0), (.int 2 0), (.int 0 0), (.int 0 0), (.int 3 0), (.ref 63), (.bool .true), (.int 181 0), (.ref 64), .none, (.ref 65), (.ref 66), (.ref 67), (.int 273 0), (.int 61 0), (.str (Str.ofString "/claim/cut.py") 274)])), (List.toArray [])⟩⟩ ::
    ⟨nat_lit 69, ⟨(.type "function"), .none, (.func ⟨(Str.ofString "has_clash"), (Str.ofString "PlainClosing.has_clash"), p4, (.stmts b4), s4, 3, [], .none, .none, .none, (.str (Str.ofString "minismt.judges") 194), .none, (.ref 68), .none, 0⟩), (List.toArray [])⟩⟩ ::
    ⟨nat_lit 71, ⟨(.type "dict"), .none, (.dict (List.toArray [⟨(PyData.keyHash P (Str.ofString "__module__")), (.str (Str.ofString "__module__") 206), (.str (Str.ofString "minismt.judges") 194)⟩, ⟨(PyData.keyHash P (Str.ofString "__firstlineno__")), (.str (Str.ofString "__firstlineno__") 210), (.int 6 209)⟩, ⟨(PyData.keyHash P (Str.ofString "__init__")), (.str (Str.ofString "__init__") 220), (.ref 36)⟩, ⟨(PyData.keyHash P (Str.ofString "join")), (.str (Str.ofString "join") 234), (.ref 43)⟩, ⟨(PyData.keyHash P (Str.ofString "are_one")), (.str (Str.ofString "are_one") 243), (.ref 50)⟩, ⟨(PyData.keyHash P (Str.ofString "close")), (.str (Str.ofString "close") 249), (.ref 55)⟩, ⟨(PyData.keyHash P (Str.ofString "join_truth")), (.str (Str.ofString "join_truth") 263), (.ref 62)⟩, ⟨(PyData.keyHash P (Str.ofString "has_clash")), (.str (Str.ofString "has_clash") 275), (.ref 69)⟩, ⟨(PyData.keyHash P (Str.ofString "__static_attributes__")), (.str (Str.ofString "__static_attributes__") 279), (.ref 70)⟩, ⟨(PyData.keyHash P (Str.ofString "__dict__")), (.str (Str.ofString "__dict__") 281), (.ref 73)⟩, ⟨(PyData.keyHash P (Str.ofString "__weakref__")), (.str (Str.ofString "__weakref__") 283), (.ref 74)⟩, ⟨(PyData.keyHash P (Str.ofString "__doc__")), (.str (Str.ofString "__doc__") 284), .none⟩]) 4), (List.toArray [])⟩⟩ ::
    ⟨nat_lit 72, ⟨(.type "type"), .none, (.cls ⟨(Str.ofString "PlainClosing"), [(.type "object")], [(.ref 72), (.type "object")], 71, (Str.ofString "PlainClosing"), .true, [], [], .false, .none, .false⟩), (List.toArray [.none, .none, (.some (.str (Str.ofString "PlainClosing") 199)), (.some (.str (Str.ofString "PlainClosing") 207)), (.some (.builtin "object.__new__")), (.some (.bool .true))])⟩⟩ ::
    ⟨nat_lit 80, ⟨(.type "cell"), .none, (.cell (.some (.ref 102))), (List.toArray [])⟩⟩ ::
    ⟨nat_lit 101, ⟨(.type "dict"), .none, (.dict (List.toArray [⟨(PyData.keyHash P (Str.ofString "__module__")), (.str (Str.ofString "__module__") 296), (.str (Str.ofString "minismt.errors") 287)⟩, ⟨(PyData.keyHash P (Str.ofString "__firstlineno__")), (.str (Str.ofString "__firstlineno__") 300), (.int 75 299)⟩, ⟨(PyData.keyHash P (Str.ofString "__init__")), (.str (Str.ofString "__init__") 309), (.ref 92)⟩, ⟨(PyData.keyHash P (Str.ofString "told")), (.str (Str.ofString "told") 316), (.ref 99)⟩, ⟨(PyData.keyHash P (Str.ofString "__static_attributes__")), (.str (Str.ofString "__static_attributes__") 318), (.ref 100)⟩, ⟨(PyData.keyHash P (Str.ofString "__weakref__")), (.str (Str.ofString "__weakref__") 321), (.ref 103)⟩, ⟨(PyData.keyHash P (Str.ofString "__doc__")), (.str (Str.ofString "__doc__") 322), .none⟩]) 4), (List.toArray [])⟩⟩ ::
    ⟨nat_lit 102, ⟨(.type "type"), .none, (.cls ⟨(Str.ofString "SmtError"), [(.type "Exception")], [(.ref 102), (.type "Exception"), (.type "BaseException"), (.type "object")], 101, (Str.ofString "SmtError"), .true, [], [(.ref 122), (.ref 141)], .false, .none, .false⟩), (List.toArray [(.some (.ref 77)), .none, (.some (.str (Str.ofString "SmtError") 289)), (.some (.str (Str.ofString "SmtError") 297)), (.some (.builtin "Exception.__new__")), (.some (.bool .true))])⟩⟩ ::
    ⟨nat_lit 121, ⟨(.type "dict"), .none, (.dict (List.toArray [⟨(PyData.keyHash P (Str.ofString "__module__")), (.str (Str.ofString "__module__") 334), (.str (Str.ofString "minismt.errors") 287)⟩, ⟨(PyData.keyHash P (Str.ofString "__firstlineno__")), (.str (Str.ofString "__firstlineno__") 338), (.int 83 337)⟩, ⟨(PyData.keyHash P (Str.ofString "told")), (.str (Str.ofString "told") 345), (.ref 119)⟩, ⟨(PyData.keyHash P (Str.ofString "__static_attributes__")), (.str (Str.ofString "__static_attributes__") 346), (.ref 120)⟩, ⟨(PyData.keyHash P (Str.ofString "__doc__")), (.str (Str.ofString "__doc__") 347), .none⟩]) 2), (List.toArray [])⟩⟩ ::
    ⟨nat_lit 122, ⟨(.type "type"), .none, (.cls ⟨(Str.ofString "SortFault"), [(.ref 102)], [(.ref 122), (.ref 102), (.type "Exception"), (.type "BaseException"), (.type "object")], 121, (Str.ofString "SortFault"), .true, [], [], .false, .none, .false⟩), (List.toArray [(.some (.ref 106)), .none, (.some (.str (Str.ofString "SortFault") 327)), (.some (.str (Str.ofString "SortFault") 335)), (.some (.builtin "Exception.__new__")), (.some (.bool .true))])⟩⟩ ::
    ⟨nat_lit 140, ⟨(.type "dict"), .none, (.dict (List.toArray [⟨(PyData.keyHash P (Str.ofString "__module__")), (.str (Str.ofString "__module__") 357), (.str (Str.ofString "minismt.errors") 287)⟩, ⟨(PyData.keyHash P (Str.ofString "__firstlineno__")), (.str (Str.ofString "__firstlineno__") 361), (.int 87 360)⟩, ⟨(PyData.keyHash P (Str.ofString "told")), (.str (Str.ofString "told") 368), (.ref 138)⟩, ⟨(PyData.keyHash P (Str.ofString "__static_attributes__")), (.str (Str.ofString "__static_attributes__") 369), (.ref 139)⟩, ⟨(PyData.keyHash P (Str.ofString "__doc__")), (.str (Str.ofString "__doc__") 370), .none⟩]) 2), (List.toArray [])⟩⟩ ::
    ⟨nat_lit 141, ⟨(.type "type"), .none, (.cls ⟨(Str.ofString "LimitFault"), [(.ref 102)], [(.ref 141), (.ref 102), (.type "Exception"), (.type "BaseException"), (.type "object")], 140, (Str.ofString "LimitFault"), .true, [], [], .false, .none, .false⟩), (List.toArray [(.some (.ref 125)), .none, (.some (.str (Str.ofString "LimitFault") 350)), (.some (.str (Str.ofString "LimitFault") 358)), (.some (.builtin "Exception.__new__")), (.some (.bool .true))])⟩⟩ ::
    ⟨nat_lit 149, ⟨(.type "code"), .none, (.fields (List.toArray [(.str (Str.ofString "is_whole") 375), (.str (Str.ofString "is_whole") 376), (.str (Str.ofString "/claim/cut.py") 377), (.int 92 0), (.int 1 0), (.int 0 0), (.int 0 0), (.int 3 0), (.ref 144), (.bool .true), (.int 181 0), (.ref 145), .none, (.ref 146), (.ref 147), (.ref 148), (.int 379 0), (.int 92 0), (.str (Str.ofString "/claim/cut.py") 380)])), (List.toArray [])⟩⟩ ::
    ⟨nat_lit 150, ⟨(.type "function"), .none, (.func ⟨(Str.ofString "is_whole"), (Str.ofString "is_whole"), p5, (.stmts b5), s5, 3, [], .none, .none, .none, (.str (Str.ofString "minismt.ratios") 373), .none, (.ref 149), .none, 0⟩), (List.toArray [])⟩⟩ ::
    ⟨nat_lit 163, ⟨(.type "code"), .none, (.fields (List.toArray [(.str (Str.ofString "__init__") 408), (.str (Str.ofString "Bank.__init__") 409), (.str (Str.ofString "/claim/cut.py") 410), (.int 102 0), (.int 1 0), (.int 0 0), (.int 0 0), (.int 3 0), (.ref 158), (.bool .true), (.int 181 0), (.ref 159), .none, (.ref 160), (.ref 161), (.ref 162), (.int 412 0), (.int 102 0), (.str (Str.ofString "/claim/cut.py") 413)])), (List.toArray [])⟩⟩ ::
    ⟨nat_lit 164, ⟨(.type "function"), .none, (.func ⟨(Str.ofString "__init__"), (Str.ofString "Bank.__init__"), p6, (.stmts b6), s6, 3, [], .none, .none, .none, (.str (Str.ofString "minismt.terms") 382), .none, (.ref 163), .none, 0⟩), (List.toArray [])⟩⟩ ::
    ⟨nat_lit 191, ⟨(.type "code"), .none, (.fields (List.toArray [(.str (Str.ofString "is_number_sort") 439), (.str (Str.ofString "Bank.is_number_sort") 440), (.str (Str.ofString "/claim/cut.py") 441), (.int 126 0), (.int 2 0), (.int 0 0), (.int 0 0), (.int 3 0), (.ref 186), (.bool .true), (.int 181 0), (.ref 187), .none, (.ref 188), (.ref 189), (.ref 190), (.int 444 0), (.int 126 0), (.str (Str.ofString "/claim/cut.py") 445)])), (List.toArray [])⟩⟩ ::
    ⟨nat_lit 192, ⟨(.type "function"), .none, (.func ⟨(Str.ofString "is_number_sort"), (Str.ofString "Bank.is_number_sort"), p7, (.stmts b7), s7, 3, [], .none, .none, .none, (.str (Str.ofString "minismt.terms") 382), .none, (.ref 191), .none, 0⟩), (List.toArray [])⟩⟩ ::
    ⟨nat_lit 205, ⟨(.type "code"), .none, (.fields (List.toArray [(.str (Str.ofString "declare_fun") 455), (.str (Str.ofString "Bank.declare_fun") 456), (.str (Str.ofString "/claim/cut.py") 457), (.int 132 0), (.int 4 0), (.int 0 0), (.int 0 0), (.int 3 0), (.ref 200), (.bool .true), (.int 181 0), (.ref 201), .none, (.ref 202), (.ref 203), (.ref 204), (.int 462 0), (.int 132 0), (.str (Str.ofString "/claim/cut.py") 463)])), (List.toArray [])⟩⟩ ::
    ⟨nat_lit 206, ⟨(.type "function"), .none, (.func ⟨(Str.ofString "declare_fun"), (Str.ofString "Bank.declare_fun"), p8, (.stmts b8), s8, 3, [], .none, .none, .none, (.str (Str.ofString "minismt.terms") 382), .none, (.ref 205), .none, 0⟩), (List.toArray [])⟩⟩ ::
    ⟨nat_lit 219, ⟨(.type "code"), .none, (.fields (List.toArray [(.str (Str.ofString "fresh_const") 475), (.str (Str.ofString "Bank.fresh_const") 476), (.str (Str.ofString "/claim/cut.py") 477), (.int 141 0), (.int 3 0), (.int 0 0), (.int 0 0), (.int 3 0), (.ref 214), (.bool .true), (.int 181 0), (.ref 215), .none, (.ref 216), (.ref 217), (.ref 218), (.int 481 0), (.int 141 0), (.str (Str.ofString "/claim/cut.py") 482)])), (List.toArray [])⟩⟩ ::
    ⟨nat_lit 220, ⟨(.type "function"), .none, (.func ⟨(Str.ofString "fresh_const"), (Str.ofString "Bank.fresh_const"), p9, (.stmts b9), s9, 3, [], .none, .none, .none, (.str (Str.ofString "minismt.terms") 382), .none, (.ref 219), .none, 0⟩), (List.toArray [])⟩⟩ ::
    ⟨nat_lit 254, ⟨(.type "code"), .none, (.fields (List.toArray [(.str (Str.ofString "op") 515), (.str (Str.ofString "Bank.op") 516), (.str (Str.ofString "/claim/cut.py") 517), (.int 156 0), (.int 2 0), (.int 0 0), (.int 0 0), (.int 3 0), (.ref 249), (.bool .true), (.int 181 0), (.ref 250), .none, (.ref 251), (.ref 252), (.ref 253), (.int 520 0), (.int 156 0), (.str (Str.ofString "/claim/cut.py") 521)])), (List.toArray [])⟩⟩ ::
    ⟨nat_lit 255, ⟨(.type "function"), .none, (.func ⟨(Str.ofString "op"), (Str.ofString "Bank.op"), p10, (.stmts b10), s10, 3, [], .none, .none, .none, (.str (Str.ofString "minismt.terms") 382), .none, (.ref 254), .none, 0⟩), (List.toArray [])⟩⟩ ::
    ⟨nat_lit 296, ⟨(.type "code"), .none, (.fields (List.toArray [(.str (Str.ofString "make") 562), (.str (Str.ofString "Bank.make") 563), (.str (Str.ofString "/claim/cut.py") 564), (.int 174 0), (.int 5 0), (.int 0 0), (.int 0 0), (.int 3 0), (.ref 291), (.bool .true), (.int 181 0), (.ref 292), .none, (.ref 293), (.ref 294), (.ref 295), (.int 572 0), (.int 174 0), (.str (Str.ofString "/claim/cut.py") 573)])), (List.toArray [])⟩⟩ ::
    ⟨nat_lit 297, ⟨(.type "function"), .none, (.func ⟨(Str.ofString "make"), (Str.ofString "Bank.make"), p11, (.stmts b11), s11, 3, [], .none, .none, .none, (.str (Str.ofString "minismt.terms") 382), .none, (.ref 296), .none, 0⟩), (List.toArray [])⟩⟩ ::
    ⟨nat_lit 331, ⟨(.type "code"), .none, (.fields (List.toArray [(.str (Str.ofString "true_term") 614), (.str (Str.ofString "Bank.true_term") 615), (.str (Str.ofString "/claim/cut.py") 616), (.int 199 0), (.int 1 0), (.int 0 0), (.int 0 0), (.int 3 0), (.ref 326), (.bool .true), (.int 181 0), (.ref 327), .none, (.ref 328), (.ref 329), (.ref 330), (.int 618 0), (.int 199 0), (.str (Str.ofString "/claim/cut.py") 619)])), (List.toArray [])⟩⟩ ::
    ⟨nat_lit 332, ⟨(.type "function"), .none, (.func ⟨(Str.ofString "true_term"), (Str.ofString "Bank.true_term"), p12, (.stmts b12), s12, 3, [], .none, .none, .none, (.str (Str.ofString "minismt.terms") 382), .none, (.ref 331), .none, 0⟩), (List.toArray [])⟩⟩ ::
    ⟨nat_lit 338, ⟨(.type "code"), .none, (.fields (List.toArray [(.str (Str.ofString "false_term") 621), (.str (Str.ofString "Bank.false_term") 622), (.str (Str.ofString "/claim/cut.py") 623), (.int 202 0), (.int 1 0), (.int 0 0), (.int 0 0), (.int 3 0), (.ref 333), (.bool .true), (.int 181 0), (.ref 334), .none, (.ref 335), (.ref 336), (.ref 337), (.int 625 0), (.int 202 0), (.str (Str.ofString "/claim/cut.py") 626)])), (List.toArray [])⟩⟩ ::
    ⟨nat_lit 339, ⟨(.type "function"), .none, (.func ⟨(Str.ofString "false_term"), (Str.ofString "Bank.false_term"), p13, (.stmts b13), s13, 3, [], .none, .none, .none, (.str (Str.ofString "minismt.terms") 382), .none, (.ref 338), .none, 0⟩), (List.toArray [])⟩⟩ ::
    ⟨nat_lit 362, ⟨(.type "dict"), .none, (.dict (List.toArray [⟨(PyData.keyHash P (Str.ofString "__module__")), (.str (Str.ofString "__module__") 403), (.str (Str.ofString "minismt.terms") 382)⟩, ⟨(PyData.keyHash P (Str.ofString "__firstlineno__")), (.str (Str.ofString "__firstlineno__") 407), (.int 100 406)⟩, ⟨(PyData.keyHash P (Str.ofString "__init__")), (.str (Str.ofString "__init__") 414), (.ref 164)⟩, ⟨(PyData.keyHash P (Str.ofString "sort_name")), (.str (Str.ofString "sort_name") 422), (.ref 171)⟩, ⟨(PyData.keyHash P (Str.ofString "declare_sort")), (.str (Str.ofString "declare_sort") 430), (.ref 178)⟩, ⟨(PyData.keyHash P (Str.ofString "width_of")), (.str (Str.ofString "width_of") 438), (.ref 185)⟩, ⟨(PyData.keyHash P (Str.ofString "is_number_sort")), (.str (Str.ofString "is_number_sort") 446), (.ref 192)⟩, ⟨(PyData.keyHash P (Str.ofString "is_free_sort")), (.str (Str.ofString "is_free_sort") 454), (.ref 199)⟩, ⟨(PyData.keyHash P (Str.ofString "declare_fun")), (.str (Str.ofString "declare_fun") 464), (.ref 206)⟩, ⟨(PyData.keyHash P (Str.ofString "fresh_fun")), (.str (Str.ofString "fresh_fun") 474), (.ref 213)⟩, ⟨(PyData.keyHash P (Str.ofString "fresh_const")), (.str (Str.ofString "fresh_const") 483), (.ref 220)⟩, ⟨(PyData.keyHash P (Str.ofString "fun_name")), (.str (Str.ofString "fun_name") 491), (.ref 227)⟩, ⟨(PyData.keyHash P (Str.ofString "fun_arg_sorts")), (.str (Str.ofString "fun_arg_sorts") 499), (.ref 234)⟩, ⟨(PyData.keyHash P (Str.ofString "fun_result")), (.str (Str.ofString "fun_result") 507), (.ref 241)⟩, ⟨(PyData.keyHash P (Str.ofString "fun_count")), (.str (Str.ofString "fun_count") 514), (.ref 248)⟩, ⟨(PyData.keyHash P (Str.ofString "op")), (.str (Str.ofString "op") 522), (.ref 255)⟩, ⟨(PyData.keyHash P (Str.ofString "args")), (.str (Str.ofString "args") 530), (.ref 262)⟩, ⟨(PyData.keyHash P (Str.ofString "sort")), (.str (Str.ofString "sort") 538), (.ref 269)⟩, ⟨(PyData.keyHash P (Str.ofString "data")), (.str (Str.ofString "data") 546), (.ref 276)⟩, ⟨(PyData.keyHash P (Str.ofString "width")), (.str (Str.ofString "width") 554), (.ref 283)⟩, ⟨(PyData.keyHash P (Str.ofString "size")), (.str (Str.ofString "size") 561), (.ref 290)⟩, ⟨(PyData.keyHash P (Str.ofString "make")), (.str (Str.ofString "make") 574), (.ref 297)⟩, ⟨(PyData.keyHash P (Str.ofString "find_made")), (.str (Str.ofString "find_made") 585), (.ref 304)⟩, ⟨(PyData.keyHash P (Str.ofString "is_value")), (.str (Str.ofString "is_value") 593), (.ref 311)⟩, ⟨(PyData.keyHash P (Str.ofString "want")), (.str (Str.ofString "want") 603), (.ref 318)⟩, ⟨(PyData.keyHash P (Str.ofString "want_all")), (.str (Str.ofString "want_all") 613), (.ref 325)⟩, ⟨(PyData.keyHash P (Str.ofString "true_term")), (.str (Str.ofString "true_term") 620), (.ref 332)⟩, ⟨(PyData.keyHash P (Str.ofString "false_term")), (.str (Str.ofString "false_term") 627), (.ref 339)⟩, ⟨(PyData.keyHash P (Str.ofString "bool_term")), (.str (Str.ofString "bool_term") 635), (.ref 346)⟩, ⟨(PyData.keyHash P (Str.ofString "parts")), (.str (Str.ofString "parts") 643), (.ref 353)⟩, ⟨(PyData.keyHash P (Str.ofString "parts_of_all")), (.str (Str.ofString "parts_of_all") 651), (.ref 360)⟩, ⟨(PyData.keyHash P (Str.ofString "__static_attributes__")), (.str (Str.ofString "__static_attributes__") 665), (.ref 361)⟩, ⟨(PyData.keyHash P (Str.ofString "__dict__")), (.str (Str.ofString "__dict__") 667), (.ref 364)⟩, ⟨(PyData.keyHash P (Str.ofString "__weakref__")), (.str (Str.ofString "__weakref__") 669), (.ref 365)⟩, ⟨(PyData.keyHash P (Str.ofString "__doc__")), (.str (Str.ofString "__doc__") 670), .none⟩]) 4), (List.toArray [])⟩⟩ ::
    ⟨nat_lit 363, ⟨(.type "type"), .none, (.cls ⟨(Str.ofString "Bank"), [(.type "object")], [(.ref 363), (.type "object")], 362, (Str.ofString "Bank"), .true, [], [(.ref 468)], .false, .none, .false⟩), (List.toArray [.none, .none, (.some (.str (Str.ofString "Bank") 396)), (.some (.str (Str.ofString "Bank") 404)), (.some (.builtin "object.__new__")), (.some (.bool .true))])⟩⟩ ::
    ⟨nat_lit 467, ⟨(.type "dict"), .none, (.dict (List.toArray [⟨(PyData.keyHash P (Str.ofString "__module__")), (.str (Str.ofString "__module__") 680), (.str (Str.ofString "minismt.terms") 382)⟩, ⟨(PyData.keyHash P (Str.ofString "__firstlineno__")), (.str (Str.ofString "__firstlineno__") 684), (.int 213 683)⟩, ⟨(PyData.keyHash P (Str.ofString "not_of")), (.str (Str.ofString "not_of") 692), (.ref 381)⟩, ⟨(PyData.keyHash P (Str.ofString "and_of")), (.str (Str.ofString "and_of") 700), (.ref 388)⟩, ⟨(PyData.keyHash P (Str.ofString "or_of")), (.str (Str.ofString "or_of") 708), (.ref 395)⟩, ⟨(PyData.keyHash P (Str.ofString "xor_of")), (.str (Str.ofString "xor_of") 717), (.ref 402)⟩, ⟨(PyData.keyHash P (Str.ofString "implies_of")), (.str (Str.ofString "implies_of") 726), (.ref 409)⟩, ⟨(PyData.keyHash P (Str.ofString "iff")), (.str (Str.ofString "iff") 735), (.ref 416)⟩, ⟨(PyData.keyHash P (Str.ofString "eq")), (.str (Str.ofString "eq") 744), (.ref 423)⟩, ⟨(PyData.keyHash P (Str.ofString "distinct")), (.str (Str.ofString "distinct") 752), (.ref 430)⟩, ⟨(PyData.keyHash P (Str.ofString "ite")), (.str (Str.ofString "ite") 762), (.ref 437)⟩, ⟨(PyData.keyHash P (Str.ofString "app")), (.str (Str.ofString "app") 774), (.ref 444)⟩, ⟨(PyData.keyHash P (Str.ofString "folded")), (.str (Str.ofString "folded") 783), (.ref 451)⟩, ⟨(PyData.keyHash P (Str.ofString "with_args")), (.str (Str.ofString "with_args") 792), (.ref 458)⟩, ⟨(PyData.keyHash P (Str.ofString "replaced")), (.str (Str.ofString "replaced") 801), (.ref 465)⟩, ⟨(PyData.keyHash P (Str.ofString "__static_attributes__")), (.str (Str.ofString "__static_attributes__") 802), (.ref 466)⟩, ⟨(PyData.keyHash P (Str.ofString "__doc__")), (.str (Str.ofString "__doc__") 803), .none⟩]) 2), (List.toArray [])⟩⟩ ::
    ⟨nat_lit 468, ⟨(.type "type"), .none, (.cls ⟨(Str.ofString "BoolBank"), [(.ref 363)], [(.ref 468), (.ref 363), (.type "object")], 467, (Str.ofString "BoolBank"), .true, [], [(.ref 564)], .false, .none, .false⟩), (List.toArray [(.some (.ref 368)), .none, (.some (.str (Str.ofString "BoolBank") 673)), (.some (.str (Str.ofString "BoolBank") 681)), (.some (.builtin "object.__new__")), (.some (.bool .true))])⟩⟩ ::
    ⟨nat_lit 476, ⟨(.type "code"), .none, (.fields (List.toArray [(.str (Str.ofString "want_small") 806), (.str (Str.ofString "want_small") 807), (.str (Str.ofString "/claim/cut.py") 808), (.int 258 0), (.int 1 0), (.int 0 0), (.int 0 0), (.int 3 0), (.ref 471), (.bool .true), (.int 181 0), (.ref 472), .none, (.ref 473), (.ref 474), (.ref 475), (.int 810 0), (.int 258 0), (.str (Str.ofString "/claim/cut.py") 811)])), (List.toArray [])⟩⟩ ::
    ⟨nat_lit 477, ⟨(.type "function"), .none, (.func ⟨(Str.ofString "want_small"), (Str.ofString "want_small"), p14, (.stmts b14), s14, 3, [], .none, .none, .none, (.str (Str.ofString "minismt.terms") 382), .none, (.ref 476), .none, 0⟩), (List.toArray [])⟩⟩ ::
    ⟨nat_lit 490, ⟨(.type "code"), .none, (.fields (List.toArray [(.str (Str.ofString "num") 825), (.str (Str.ofString "NumberBank.num") 826), (.str (Str.ofString "/claim/cut.py") 827), (.int 263 0), (.int 3 0), (.int 0 0), (.int 0 0), (.int 3 0), (.ref 485), (.bool .true), (.int 181 0), (.ref 486), .none, (.ref 487), (.ref 488), (.ref 489), (.int 831 0), (.int 263 0), (.str (Str.ofString "/claim/cut.py") 832)])), (List.toArray [])⟩⟩ ::
    ⟨nat_lit 491, ⟨(.type "function"), .none, (.func ⟨(Str.ofString "num"), (Str.ofString "NumberBank.num"), p15, (.stmts b15), s15, 3, [], .none, .none, .none, (.str (Str.ofString "minismt.terms") 382), .none, (.ref 490), .none, 0⟩), (List.toArray [])⟩⟩ ::
    ⟨nat_lit 563, ⟨(.type "dict"), .none, (.dict (List.toArray [⟨(PyData.keyHash P (Str.ofString "__module__")), (.str (Str.ofString "__module__") 820), (.str (Str.ofString "minismt.terms") 382)⟩, ⟨(PyData.keyHash P (Str.ofString "__firstlineno__")), (.str (Str.ofString "__firstlineno__") 824), (.int 261 823)⟩, ⟨(PyData.keyHash P (Str.ofString "num")), (.str (Str.ofString "num") 833), (.ref 491)⟩, ⟨(PyData.keyHash P (Str.ofString "want_number")), (.str (Str.ofString "want_number") 842), (.ref 498)⟩, ⟨(PyData.keyHash P (Str.ofString "plus")), (.str (Str.ofString "plus") 850), (.ref 505)⟩, ⟨(PyData.keyHash P (Str.ofString "times_num")), (.str (Str.ofString "times_num") 859), (.ref 512)⟩, ⟨(PyData.keyHash P (Str.ofString "times")), (.str (Str.ofString "times") 868), (.ref 519)⟩, ⟨(PyData.keyHash P (Str.ofString "over_num")), (.str (Str.ofString "over_num") 877), (.ref 526)⟩, ⟨(PyData.keyHash P (Str.ofString "negative")), (.str (Str.ofString "negative") 885), (.ref 533)⟩, ⟨(PyData.keyHash P (Str.ofString "minus")), (.str (Str.ofString "minus") 894), (.ref 540)⟩, ⟨(PyData.keyHash P (Str.ofString "le")), (.str (Str.ofString "le") 903), (.ref 547)⟩, ⟨(PyData.keyHash P (Str.ofString "lt")), (.str (Str.ofString "lt") 912), (.ref 554)⟩, ⟨(PyData.keyHash P (Str.ofString "with_args")), (.str (Str.ofString "with_args") 921), (.ref 561)⟩, ⟨(PyData.keyHash P (Str.ofString "__static_attributes__")), (.str (Str.ofString "__static_attributes__") 922), (.ref 562)⟩, ⟨(PyData.keyHash P (Str.ofString "__doc__")), (.str (Str.ofString "__doc__") 923), .none⟩]) 2), (List.toArray [])⟩⟩ ::
    ⟨nat_lit 564, ⟨(.type "type"), .none, (.cls ⟨(Str.ofString "NumberBank"), [(.ref 468)], [(.ref 564), (.ref 468), (.ref 363), (.type "object")], 563, (Str.ofString "NumberBank"), .true, [], [(.ref 683)], .false, .none, .false⟩), (List.toArray [(.some (.ref 478)), .none, (.some (.str (Str.ofString "NumberBank") 813)), (.some (.str (Str.ofString "NumberBank") 821)), (.some (.builtin "object.__new__")), (.some (.bool .true))])⟩⟩ ::
    ⟨nat_lit 570, ⟨(.type "cell"), .none, (.cell (.some (.ref 683))), (List.toArray [])⟩⟩ ::
    ⟨nat_lit 581, ⟨(.type "code"), .none, (.fields (List.toArray [(.str (Str.ofString "__init__") 938), (.str (Str.ofString "TermBank.__init__") 939), (.str (Str.ofString "/claim/cut.py") 940), (.int 302 0), (.int 1 0), (.int 0 0), (.int 0 0), (.int 3 0), (.ref 576), (.bool .true), (.int 181 0), (.ref 577), .none, (.ref 578), (.ref 579), (.ref 580), (.int 943 0), (.int 302 0), (.str (Str.ofString "/claim/cut.py") 944)])), (List.toArray [])⟩⟩ ::
    ⟨nat_lit 582, ⟨(.type "function"), .none, (.func ⟨(Str.ofString "__init__"), (Str.ofString "TermBank.__init__"), p16, (.stmts b16), s16, 3, [⟨(Str.ofString "__class__"), 570⟩], .none, .none, .none, (.str (Str.ofString "minismt.terms") 382), .none, (.ref 581), (.ref 575), 0⟩), (List.toArray [])⟩⟩ ::
    ⟨nat_lit 588, ⟨(.type "code"), .none, (.fields (List.toArray [(.str (Str.ofString "bv_sort") 946), (.str (Str.ofString "TermBank.bv_sort") 947), (.str (Str.ofString "/claim/cut.py") 948), (.int 306 0), (.int 2 0), (.int 0 0), (.int 0 0), (.int 3 0), (.ref 583), (.bool .true), (.int 181 0), (.ref 584), .none, (.ref 585), (.ref 586), (.ref 587), (.int 951 0), (.int 306 0), (.str (Str.ofString "/claim/cut.py") 952)])), (List.toArray [])⟩⟩ ::
    ⟨nat_lit 589, ⟨(.type "function"), .none, (.func ⟨(Str.ofString "bv_sort"), (Str.ofString "TermBank.bv_sort"), p17, (.stmts b17), s17, 3, [], .none, .none, .none, (.str (Str.ofString "minismt.terms") 382), .none, (.ref 588), .none, 0⟩), (List.toArray [])⟩⟩ ::
    ⟨nat_lit 609, ⟨(.type "code"), .none, (.fields (List.toArray [(.str (Str.ofString "bv_num") 971), (.str (Str.ofString "TermBank.bv_num") 972), (.str (Str.ofString "/claim/cut.py") 973), (.int 324 0), (.int 3 0), (.int 0 0), (.int 0 0), (.int 3 0), (.ref 604), (.bool .true), (.int 181 0), (.ref 605), .none, (.ref 606), (.ref 607), (.ref 608), (.int 978 0), (.int 324 0), (.str (Str.ofString "/claim/cut.py") 979)])), (List.toArray [])⟩⟩ ::
    ⟨nat_lit 610, ⟨(.type "function"), .none, (.func ⟨(Str.ofString "bv_num"), (Str.ofString "TermBank.bv_num"), p18, (.stmts b18), s18, 3, [], .none, .none, .none, (.str (Str.ofString "minismt.terms") 382), .none, (.ref 609), .none, 0⟩), (List.toArray [])⟩⟩ ::
    ⟨nat_lit 682, ⟨(.type "dict"), .none, (.dict (List.toArray [⟨(PyData.keyHash P (Str.ofString "__module__")), (.str (Str.ofString "__module__") 933), (.str (Str.ofString "minismt.terms") 382)⟩, ⟨(PyData.keyHash P (Str.ofString "__firstlineno__")), (.str (Str.ofString "__firstlineno__") 937), (.int 300 936)⟩, ⟨(PyData.keyHash P (Str.ofString "__init__")), (.str (Str.ofString "__init__") 945), (.ref 582)⟩, ⟨(PyData.keyHash P (Str.ofString "bv_sort")), (.str (Str.ofString "bv_sort") 953), (.ref 589)⟩, ⟨(PyData.keyHash P (Str.ofString "find_bv_sort")), (.str (Str.ofString "find_bv_sort") 961), (.ref 596)⟩, ⟨(PyData.keyHash P (Str.ofString "want_bits")), (.str (Str.ofString "want_bits") 970), (.ref 603)⟩, ⟨(PyData.keyHash P (Str.ofString "bv_num")), (.str (Str.ofString "bv_num") 980), (.ref 610)⟩, ⟨(PyData.keyHash P (Str.ofString "bv_one")), (.str (Str.ofString "bv_one") 989), (.ref 617)⟩, ⟨(PyData.keyHash P (Str.ofString "bv_two")), (.str (Str.ofString "bv_two") 999), (.ref 624)⟩, ⟨(PyData.keyHash P (Str.ofString "concat")), (.str (Str.ofString "concat") 1008), (.ref 631)⟩, ⟨(PyData.keyHash P (Str.ofString "extract")), (.str (Str.ofString "extract") 1018), (.ref 638)⟩, ⟨(PyData.keyHash P (Str.ofString "zero_extend")), (.str (Str.ofString "zero_extend") 1027), (.ref 645)⟩, ⟨(PyData.keyHash P (Str.ofString "sign_extend")), (.str (Str.ofString "sign_extend") 1036), (.ref 652)⟩, ⟨(PyData.keyHash P (Str.ofString "want_place")), (.str (Str.ofString "want_place") 1046), (.ref 659)⟩, ⟨(PyData.keyHash P (Str.ofString "bit")), (.str (Str.ofString "bit") 1055), (.ref 666)⟩, ⟨(PyData.keyHash P (Str.ofString "carry")), (.str (Str.ofString "carry") 1065), (.ref 673)⟩, ⟨(PyData.keyHash P (Str.ofString "below")), (.str (Str.ofString "below") 1075), (.ref 680)⟩, ⟨(PyData.keyHash P (Str.ofString "__static_attributes__")), (.str (Str.ofString "__static_attributes__") 1077), (.ref 681)⟩, ⟨(PyData.keyHash P (Str.ofString "__doc__")), (.str (Str.ofString "__doc__") 1079), .none⟩]) 3), (List.toArray [])⟩⟩ ::
    ⟨nat_lit 683, ⟨(.type "type"), .none, (.cls ⟨(Str.ofString "TermBank"), [(.ref 564)], [(.ref 683), (.ref 564), (.ref 468), (.ref 363), (.type "object")], 682, (Str.ofString "TermBank"), .true, [], [], .false, .none, .false⟩), (List.toArray [(.some (.ref 567)), .none, (.some (.str (Str.ofString "TermBank") 926)), (.some (.str (Str.ofString "TermBank") 934)), (.some (.builtin "object.__new__")), (.some (.bool .true))])⟩⟩ ::
    ⟨nat_lit 691, ⟨(.type "code"), .none, (.fields (List.toArray [(.str (Str.ofString "_law_pull") 1084), (.str (Str.ofString "_law_pull") 1085), (.str (Str.ofString "/claim/cut.py") 1086), (.int 361 0), (.int 2 0), (.int 0 0), (.int 0 0), (.int 3 0), (.ref 686), (.bool .true), (.int 181 0), (.ref 687), .none, (.ref 688), (.ref 689), (.ref 690), (.int 1090 0), (.int 361 0), (.str (Str.ofString "/claim/cut.py") 1091)])), (List.toArray [])⟩⟩ ::
    ⟨nat_lit 692, ⟨(.type "function"), .none, (.func ⟨(Str.ofString "_law_pull"), (Str.ofString "_law_pull"), p19, (.stmts b19), s19, 3, [], .none, .none, .none, (.str (Str.ofString "law_qz0019_01") 1082), .none, (.ref 691), .none, 0⟩), (List.toArray [])⟩⟩ ::
    ⟨nat_lit 698, ⟨(.type "code"), .none, (.fields (List.toArray [(.str (Str.ofString "_law_groups") 1093), (.str (Str.ofString "_law_groups") 1094), (.str (Str.ofString "/claim/cut.py") 1095), (.int 365 0), (.int 1 0), (.int 0 0), (.int 0 0), (.int 3 0), (.ref 693), (.bool .true), (.int 181 0), (.ref 694), .none, (.ref 695), (.ref 696), (.ref 697), (.int 1101 0), (.int 365 0), (.str (Str.ofString "/claim/cut.py") 1102)])), (List.toArray [])⟩⟩ ::
    ⟨nat_lit 699, ⟨(.type "function"), .none, (.func ⟨(Str.ofString "_law_groups"), (Str.ofString "_law_groups"), p20, (.stmts b20), s20, 3, [], .none, .none, .none, (.str (Str.ofString "law_qz0019_01") 1082), .none, (.ref 698), .none, 0⟩), (List.toArray [])⟩⟩ ::
    ⟨nat_lit 705, ⟨(.type "code"), .none, (.fields (List.toArray [(.str (Str.ofString "_law_led_to") 1104), (.str (Str.ofString "_law_led_to") 1105), (.str (Str.ofString "/claim/cut.py") 1106), (.int 371 0), (.int 2 0), (.int 0 0), (.int 0 0), (.int 3 0), (.ref 700), (.bool .true), (.int 181 0), (.ref 701), .none, (.ref 702), (.ref 703), (.ref 704), (.int 1114 0), (.int 371 0), (.str (Str.ofString "/claim/cut.py") 1115)])), (List.toArray [])⟩⟩ ::
    ⟨nat_lit 706, ⟨(.type "function"), .none, (.func ⟨(Str.ofString "_law_led_to"), (Str.ofString "_law_led_to"), p21, (.stmts b21), s21, 3, [], .none, .none, .none, (.str (Str.ofString "law_qz0019_01") 1082), .none, (.ref 705), .none, 0⟩), (List.toArray [])⟩⟩ ::
    ⟨nat_lit 712, ⟨(.type "code"), .none, (.fields (List.toArray [(.str (Str.ofString "_law_clashes") 1117), (.str (Str.ofString "_law_clashes") 1118), (.str (Str.ofString "/claim/cut.py") 1119), (.int 379 0), (.int 3 0), (.int 0 0), (.int 0 0), (.int 3 0), (.ref 707), (.bool .true), (.int 181 0), (.ref 708), .none, (.ref 709), (.ref 710), (.ref 711), (.int 1126 0), (.int 379 0), (.str (Str.ofString "/claim/cut.py") 1127)])), (List.toArray [])⟩⟩ ::
    ⟨nat_lit 713, ⟨(.type "function"), .none, (.func ⟨(Str.ofString "_law_clashes"), (Str.ofString "_law_clashes"), p22, (.stmts b22), s22, 3, [], .none, .none, .none, (.str (Str.ofString "law_qz0019_01") 1082), .none, (.ref 712), .none, 0⟩), (List.toArray [])⟩⟩ ::
    ⟨nat_lit 717, ⟨(.type "code"), .none, (.fields (List.toArray [(.str (Str.ofString "_law_is_right") 1129), (.str (Str.ofString "_law_is_right") 1130), (.str (Str.ofString "/claim/cut.py") 1131), (.int 387 0), (.int 4 0), (.int 0 0), (.int 0 0), (.int 3 0), (.ref 714), (.bool .true), (.int 181 0), (.ref 715), .none, .none, .none, (.ref 716), (.int 1132 0), (.int 387 0), (.str (Str.ofString "/claim/cut.py") 1133)])), (List.toArray [])⟩⟩ ::
    ⟨nat_lit 718, ⟨(.type "function"), .none, (.func ⟨(Str.ofString "_law_is_right"), (Str.ofString "_law_is_right"), p23, (.stmts b23), s23, 3, [], .none, .none, .none, (.str (Str.ofString "law_qz0019_01") 1082), .none, (.ref 717), .none, 0⟩), (List.toArray [])⟩⟩ ::
    ⟨nat_lit 722, ⟨(.type "code"), .none, (.fields (List.toArray [(.str (Str.ofString "law") 1135), (.str (Str.ofString "law") 1136), (.str (Str.ofString "/claim/cut.py") 1137), (.int 396 0), (.int 1 0), (.int 0 0), (.int 0 0), (.int 3 0), (.ref 719), (.bool .true), (.int 181 0), (.ref 720), .none, .none, .none, (.ref 721), (.int 1138 0), (.int 396 0), (.str (Str.ofString "/claim/cut.py") 1139)])), (List.toArray [])⟩⟩ ::
    ⟨nat_lit 723, ⟨(.type "function"), .none, (.func ⟨(Str.ofString "law"), (Str.ofString "law"), p24, (.stmts b24), s24, 3, [], .none, .none, .none, (.str (Str.ofString "law_qz0019_01") 1082), .none, (.ref 722), .none, 0⟩), (List.toArray [])⟩⟩ :: ([] : Frag)))
  _ _ _ _ _ _ _ _ _ _ _ _ _ _ _ _ _ _ _ _ _ _ _ _ _ _ _ _ _ _ _ _ _ _ _ _ _ _ _ _ _ _ _ _ _ _ _ _ _ _ _ _ _ _ _ _ _ _ _ _ _ _ _ _ _ _ _ _ _ _ _ _
  rfl rfl rfl rfl rfl rfl rfl rfl rfl rfl rfl rfl rfl rfl rfl rfl rfl rfl rfl rfl rfl rfl rfl rfl
noncomputable def hd.view_39 : Program := view PySem.Challenge.rw_qz0019_01.row.prog [0, 2, 3, 5, 6, 7, 9, 11, 12, 13, 14, 15, 16, 17, 18, 19, 20, 22, 23, 24, 25, 26, 27]
noncomputable def as9 : List Addr := [2, 3, 22, 35, 36, 42, 43, 49, 50, 68, 69, 71, 72, 80, 101, 102, 121, 122, 140, 141, 149, 150, 163, 164, 191, 192, 205, 206, 219, 220, 254, 255, 296, 297, 331, 332, 338, 339, 362, 363, 467, 468, 476, 477, 490, 491, 563, 564, 570, 581, 582, 588, 589, 609, 610, 682, 683, 691, 692, 698, 699, 705, 706, 712, 713, 717, 718, 722, 723]
set_option maxRecDepth 1000000
set_option maxHeartbeats 0
theorem as9_eq : ∀ P, as9 = (hd.heap_39 P).map (·.1) := fun P => by kernel_rfl
/-- the run in the library's quick words -/
noncomputable def runQ (w : World) (s₀ : Shared) : Option SharedT := runG through (PySem.W.Fast.tw6613529449190102663 s₀.heap.objs.size (s₀.heap.nsMap mainGlobals "__annotations__")) (PySem.W.Fast.tw10156331382660048174 (PySem.W.Fast.tw11892475500146522536 PySem.W.Fast.tw14364793385576792824) PySem.Challenge.rw_qz0019_01.row.prog w) 9454 (mkT s₀) (topStub PySem.Challenge.rw_qz0019_01.row.prog)
theorem runQ_eq (w : World) (s₀ : Shared) : runQ w s₀ = runG through (stepOk s₀.heap.objs.size (s₀.heap.nsMap mainGlobals "__annotations__")) (stepT (denote treeTable) PySem.Challenge.rw_qz0019_01.row.prog w) 9454 (mkT s₀) (topStub PySem.Challenge.rw_qz0019_01.row.prog) := by
  rw [PySem.W.Fast.te6613529449190102663, PySem.W.Fast.te10156331382660048174, PySem.W.Fast.te11892475500146522536, PySem.W.Fast.te14364793385576792824]
  rfl
theorem look_t : ∀ w : World, (fencedOpening treeTable PySem.Challenge.rw_qz0019_01.row.prog w 9454).map (fun s => (mkT s).abs) = fencedOpening treeTable PySem.Challenge.rw_qz0019_01.row.prog w 9454 := fun w => by kernel_rfl
theorem look_d : ∀ w : World, (fencedOpening treeTable PySem.Challenge.rw_qz0019_01.row.prog w 9454).map (fun s => s.heap.isNs mainGlobals && s.gens.size == 0) = some true := fun w => by kernel_rfl
/-- what lies at the addresses as, out of the tree -/
noncomputable def obsT (as : List Addr) (t : SharedT) : List (Option Obj) := as.map fun a => match Nat.blt a t.n with
  | true => alive ((t.tree.get a).getD default)
  | false => none
theorem obsT_eq (as : List Addr) (t : SharedT) : as.map t.abs.heap.get? = obsT as t := by
  refine List.map_congr_left fun a _ => ?_
  show (absHeap t.tree t.n t.life).get? a = match Nat.blt a t.n with
    | true => alive ((t.tree.get a).getD default)
    | false => none
  cases h : Nat.blt a t.n with
  | true =>
    have h' : a < t.n := Nat.le_of_ble_eq_true h
    cases hg : t.tree.get a with
    | some o => rw [abs_get h' hg]; rfl
    | none => unfold Heap.get?; rw [absHeap_at, if_pos h', hg]; rfl
  | false => exact abs_get_none fun h' => by rw [Nat.blt, Nat.ble_eq_true_of_le h'] at h; cases h
theorem tri {σ τ α β γ : Type} {o : Option σ} {R : σ → Option τ} {c : σ → τ → α} {b : τ → β} {a : τ → γ} {x : α} {y : β} {z : γ} (h : (o.bind fun s => (R s).map fun t => (c s t, b t, a t)) = some (x, y, z)) :
    (o.bind fun s => (R s).map fun t => c s t) = some x ∧ (o.bind fun s => (R s).map fun t => b t) = some y ∧ (o.bind fun s => (R s).map fun t => a t) = some z := by
  cases o with
  | none => cases h
  | some s =>
    simp only [Option.bind_some] at h ⊢
    cases e : R s with
    | none => rw [e] at h; cases h
    | some t =>
      rw [e] at h
      have h := Option.some.inj h
      injection h with h1 h2
      injection h2 with h2 h3
      exact ⟨congrArg some h1, congrArg some h2, congrArg some h3⟩
theorem look_all : ∀ w : World, ((fencedOpening treeTable PySem.Challenge.rw_qz0019_01.row.prog w 9454).bind fun s₀ => (runQ w s₀).map fun t₁ => (staticsOk (importedModules PySem.Challenge.rw_qz0019_01.row.prog.main.body) s₀.heap t₁.abs.heap && namesBound PySem.Challenge.rw_qz0019_01.row.prog t₁.abs.heap && gensDone t₁.abs && laidKept s₀.heap t₁.abs.heap, openSeen hd.view_39 [Str.ofString "MOST_BITS"] (importedModules PySem.Challenge.rw_qz0019_01.row.prog.main.body) (fun s => xlAt hd.view_39 [(Str.ofString "MOST_BITS", WData.int 65536)] s && recOk (RowW.records PySem.Challenge.rw_qz0019_01.row.toRowW) s) true t₁.abs, obsT as9 t₁)) = some (true, openGood hd.view_39 [Str.ofString "MOST_BITS"], (hd.heap_39 w.params).map fun p => some p.2) := by
  rw [PySem.W.Fast.te4187177175401517315]
  exact fun w => by kernel_rfl
theorem look_c : ∀ w : World, ((fencedOpening treeTable PySem.Challenge.rw_qz0019_01.row.prog w 9454).bind fun s₀ => (runQ w s₀).map fun t₁ => staticsOk (importedModules PySem.Challenge.rw_qz0019_01.row.prog.main.body) s₀.heap t₁.abs.heap && namesBound PySem.Challenge.rw_qz0019_01.row.prog t₁.abs.heap && gensDone t₁.abs && laidKept s₀.heap t₁.abs.heap) = some true := fun w => (tri (look_all w)).1
theorem look_b : ∀ w : World, ((fencedOpening treeTable PySem.Challenge.rw_qz0019_01.row.prog w 9454).bind fun s₀ => (runQ w s₀).map fun t₁ => openSeen hd.view_39 [Str.ofString "MOST_BITS"] (importedModules PySem.Challenge.rw_qz0019_01.row.prog.main.body) (fun s => xlAt hd.view_39 [(Str.ofString "MOST_BITS", WData.int 65536)] s && recOk (RowW.records PySem.Challenge.rw_qz0019_01.row.toRowW) s) true t₁.abs) = some (openGood hd.view_39 [Str.ofString "MOST_BITS"]) := fun w => (tri (look_all w)).2.1
theorem look_a : ∀ w : World, ((fencedOpening treeTable PySem.Challenge.rw_qz0019_01.row.prog w 9454).bind fun s₀ => (runQ w s₀).map fun t₁ => Hook.obs (kHook hd.heap_39 as9 as9_eq) t₁.abs) = some (Hook.val (kHook hd.heap_39 as9 as9_eq) w) := fun w => by
  have e : (fun t₁ : SharedT => Hook.obs (kHook hd.heap_39 as9 as9_eq) t₁.abs) = obsT as9 := funext fun t => obsT_eq as9 t
  rw [e]
  exact (tri (look_all w)).2.2
theorem left9 : LeftO PySem.Challenge.rw_qz0019_01.row.prog hd.view_39 [Str.ofString "MOST_BITS"] (fun s => xlAt hd.view_39 [(Str.ofString "MOST_BITS", WData.int 65536)] s && recOk (RowW.records PySem.Challenge.rw_qz0019_01.row.toRowW) s) (Hook.obs (kHook hd.heap_39 as9 as9_eq)) (Hook.val (kHook hd.heap_39 as9 as9_eq)) 9454 := left_tree runQ_eq look_t look_d look_c look_b look_a
/-- the heavy looks of the law's text, one by one -/
theorem said2 : PySem.W.Fast.tw8377067652309620493 (PySem.W.Fast.tw2368527892694137696 PySem.Challenge.rw_qz0019_01).prog = true := by kernel_rfl
theorem said3 : PySem.W.Fast.tw17119622794617984870 (PySem.W.Fast.tw2368527892694137696 PySem.Challenge.rw_qz0019_01).prog (PySem.W.Fast.tw2368527892694137696 PySem.Challenge.rw_qz0019_01).prog.main.body (fun _ n => PySem.W.Fast.tw17868728402115742887 n) = true := by kernel_rfl
theorem said4 : PySem.W.Fast.tw8326940854005059898 { strict := !R.allR (PySem.W.Fast.tw5923862056798008813 (PySem.W.Fast.tw2368527892694137696 PySem.Challenge.rw_qz0019_01).prog.main.body) (@PySem.W.Fast.tw3471404346716756564 Str (@instBEqOfDecidableEq Str PySem.W.Fast.sDec) PySem.W.Fast.tw17691160309236699985), foot := none, bare := R.filterR (PySem.W.Fast.tw13343964577679436407 (PySem.W.Fast.tw2368527892694137696 PySem.Challenge.rw_qz0019_01).prog (PySem.W.Fast.tw2368527892694137696 PySem.Challenge.rw_qz0019_01).prog.main.body) [{ cps := { toList := [nat_lit 118, nat_lit 97, nat_lit 114, nat_lit 115] } }, { cps := { toList := [nat_lit 100, nat_lit 105, nat_lit 114] } }, { cps := { toList := [nat_lit 108, nat_lit 111, nat_lit 99, nat_lit 97, nat_lit 108, nat_lit 115] } }] } (PySem.W.Fast.tw2368527892694137696 PySem.Challenge.rw_qz0019_01).prog.main.body = true := by kernel_rfl
theorem said9a : PySem.W.Fast.tw9446332074065402090 PySem.Challenge.rw_qz0019_01 = true := by
  delta PySem.W.Fast.tw9446332074065402090 PySem.W.Fast.tw17960256430627541270 PySem.W.Fast.tw2436336058641802641 PySem.W.Fast.tw12908688711261696721
  with_reducible repeat' refine look_both ?_ ?_
  all_goals first | with_reducible exact said2 | with_reducible exact said3 | with_reducible exact said4 | kernel_rfl
theorem said9 : PySem.Challenge.rw_qz0019_01.wellSaid = true := (congrFun PySem.W.Fast.te9446332074065402090 _).trans said9a
noncomputable def headS : {P : Prop // P → PySem.Challenge.rw_qz0019_01.Holds} := ⟨_, fun h => by
  refine holds_law said9 fun said => ?_
  refine holds_open (q := hd.view_39) (loose := [Str.ofString "MOST_BITS"]) (Xt := (fun s => xlAt hd.view_39 [(Str.ofString "MOST_BITS", WData.int 65536)] s && recOk (RowW.records PySem.Challenge.rw_qz0019_01.row.toRowW) s)) (XP := XL hd.view_39 [(Str.ofString "MOST_BITS", WData.int 65536)]) (Yf := Hook.obs (kHook hd.heap_39 as9 as9_eq)) (Ya := Hook.val (kHook hd.heap_39 as9 as9_eq)) (YP := Hook.says (kHook hd.heap_39 as9 as9_eq)) (N := 9454) left9 (Hook.of (kHook hd.heap_39 as9 as9_eq)) (Hook.keeps (kHook hd.heap_39 as9 as9_eq)) (fun s e => xl_of s (Bool.and_eq_true_iff.mp e).1) XL.keeps (by rfl) (by rfl) (by rfl) (fun s e => recFacts_of (Bool.and_eq_true_iff.mp e).2) (by rfl) said (by decide +kernel) ⟨rfl, rfl, rfl, rfl, rfl, by decide +kernel⟩ ?hw ?hc
  case hw => w_witness2
  case hc => exact h⟩
theorem hd : headS.val → PySem.Challenge.rw_qz0019_01.Holds := headS.property

end
section
abbrev LD := List (Addr × Obj)
abbrev PR : Program := PySem.Challenge.rw_qz0019_01.row.prog

/-- what a call of the def at f does: from the ledger news it hands back v over the ledger news' -/
def Does (w : World) (mean : ExcName → Option Value) (mg mb : Str → Option Value) (room units : Nat) (f : Addr) (vs : List Value) (news : LD) (Post : Value → LD → Prop) : Prop :=
  ∀ (dp un : Nat) (gd : Option (List Code)) (cn : Str) (nms : List (Str × NameKind)) (gen cor : Bool) (mor : List (Str × Const)) (a : Addr) (ccd : Value) (cl : List (Str × Addr)) (outer : List Env) (A₀ : Around) (base h₀ : Heap) (L : Addr) (m : Str → Option Value) (sH : Heap) (sG : Array GenState) (sD : Drawn) (sT : Nat) (sO : OsState) (Q E : Value → Shared → Prop),
    Below A₀ base outer h₀ → Fr h₀ L sH m → (hd.heap_39 w.params).In h₀ → News h₀ L sH news → Top hd.view_39 (looseW hd.view_39 [Str.ofString "MOST_BITS"]) mean mg mb h₀ → (⟨.function, nms, gen, cor, mor⟩ : Scope).kind = .function → dp + room < recursionLimit → un + units < cLine →
    (∀ v news' h' tk', Post v news' → Fr h₀ L h' m → News h₀ L h' news' → Q v ⟨h', sG, sD, tk', sO⟩) →
    wpAny (model PySem.Challenge.rw_qz0019_01.row.prog w) (ktrTop dp un gd cn ⟨.function, nms, gen, cor, mor⟩ L a ccd cl outer) (call (.ref f) vs) Q E ⟨sH, sG, sD, sT, sO⟩

/-- a dict of ints to ints, of the ledger -/
def IntD (w : World) (news : LD) (d : Addr) (c : List (Int × Int)) : Prop :=
  (d == sysModules) = false ∧ ∃ o kvs, (d, o) ∈ news ∧ o.IsDictOf (PySem.intKind PySem.Challenge.rw_qz0019_01.row.prog w) kvs ∧ FlatPairs PyData.int kvs (kdfD c)
theorem IntD.mono {w : World} {news news' : LD} {d : Addr} {c : List (Int × Int)} (h : IntD w news d c) (hs : ∀ p ∈ news, p ∈ news') : IntD w news' d c := by
  obtain ⟨a, o, kvs, b, r⟩ := h
  exact ⟨a, o, kvs, hs _ b, r⟩

/-- the dict of a PlainClosing -/
noncomputable def cloDict (h1 h2 h3 : Int) (t1 t2 t3 : Tok) (n : Nat) (bank tl ld : Addr) : Obj :=
  dictOf [⟨h1, .str (Str.ofString "bank") t1, .ref bank⟩, ⟨h2, .str (Str.ofString "terms") t2, .ref tl⟩, ⟨h3, .str (Str.ofString "least") t3, .ref ld⟩] n

/-- an object of class PlainClosing with its three fields -/
def CloIn (news : LD) (clo bank tl ld : Addr) : Prop :=
  ∃ dclo h1 h2 h3 t1 t2 t3 n, (clo, instObj 72 dclo) ∈ news ∧
    (dclo, dictOf [⟨h1, .str (Str.ofString "bank") t1, .ref bank⟩, ⟨h2, .str (Str.ofString "terms") t2, .ref tl⟩, ⟨h3, .str (Str.ofString "least") t3, .ref ld⟩] n) ∈ news
theorem CloIn.mono {news news' : LD} {clo bank tl ld : Addr} (h : CloIn news clo bank tl ld) (hs : ∀ p ∈ news, p ∈ news') : CloIn news' clo bank tl ld := by
  obtain ⟨a, h1, h2, h3, t1, t2, t3, n, x, y⟩ := h
  exact ⟨a, h1, h2, h3, t1, t2, t3, n, hs _ x, hs _ y⟩

/-- a list of ints, of the ledger -/
def IntL (news : LD) (l : Addr) (ns : List Int) : Prop := ∃ vs n, (l, W.listOf (List.toArray vs) n) ∈ news ∧ IntsAre vs ns
theorem IntL.mono {news news' : LD} {l : Addr} {ns : List Int} (h : IntL news l ns) (hs : ∀ p ∈ news, p ∈ news') : IntL news' l ns := by
  obtain ⟨vs, n, a, b⟩ := h
  exact ⟨vs, n, hs _ a, b⟩
section
variable {prog : Program} {w : World} {A : Around} {E : Value → Shared → Prop} {s : Shared} {h₀ : Heap} {L d : Addr} {m : Str → Option Value} {news : LD} {o : Obj} {kvs : List (Int × Value)} {c : List (Int × Int)} {k : Int} {tk : Tok}
theorem my_getItem {Q : Value → Shared → Prop} (N : News h₀ L s.heap news := by k_asm) (hp : (d, o) ∈ news := by k_mem) (lo : (d == sysModules) = false := by k_asm) (hd : o.IsDictOf (PySem.intKind prog w) kvs := by k_asm) (hf : FlatPairs PyData.int kvs (kdfD c) := by k_asm) (hk : kdfHas c k = true := by assumption)
    (h : ∀ t, Q (.int (kdfLook c k 0) t) { s with toks := s.toks + 1 }) : wpAny (model prog w) A (getItem (.ref d) (.int k tk)) Q E s :=
  getItem_tab PyProof.V.same_int (intKind_is _ _ _ _) (TabAt.ofNews N hp lo hd hf) (kdfD_item hk) (fun v hv => by
    obtain ⟨t, ht⟩ := PyProof.V.Flat.int_inv hv
    rw [ht]
    exact h t)
end

section
variable {prog : Program} {w : World} {A : Around} {E : Value → Shared → Prop} {s : Shared} {env : Env} {h₀ : Heap} {target : PySem.Expr} {body : List Stmt} {Q : Flow → Shared → Prop}

/-- a for over a list of the ledger that may grow meanwhile -/
def MyIter (prog : Program) (w : World) (A : Around) (h₀ : Heap) (env : Env) (target : PySem.Expr) (body : List Stmt) (Q : Flow → Shared → Prop) (E : Value → Shared → Prop) (xv : Value) (s₁ : Shared) : Prop :=
  ∃ (l : Addr) (m : Str → Option Value) (news : LD) (J : Nat → (Str → Option Value) → LD → List Value → Prop) (n : Nat) (vs₀ : List Value),
    xv = .ref l ∧ Fr h₀ env.locals s₁.heap m ∧ News h₀ env.locals s₁.heap news ∧ J 0 m news vs₀ ∧
    (∀ i m nx vs, J i m nx vs → (∃ nn, (l, W.listOf (List.toArray vs) nn) ∈ nx) ∧ i ≤ vs.length ∧ vs.length ≤ n) ∧
    (∀ i m₁ nx vs v h tk own, vs[i]? = some v → J i m₁ nx vs → OwnOff own (nx.map (·.1)) → Fr h₀ env.locals h m₁ → News h₀ env.locals h (nx ++ own) →
      wpAny (model prog w) A (assign target env v) (fun _ s₃ => wpAny (model prog w) A (execs body env)
        (InvPostG h₀ env.locals (fun m' nx' => ∃ vs', J (i + 1) m' nx' vs') own { s₁ with heap := h, toks := tk } Q) E s₃) E { s₁ with heap := h, toks := tk }) ∧
    (∀ m₁ nx vs h tk, J vs.length m₁ nx vs → Fr h₀ env.locals h m₁ → News h₀ env.locals h nx → Q .next { s₁ with heap := h, toks := tk })

theorem my_For {iter : PySem.Expr} {pos : Pos} {m : Str → Option Value} (_F : Fr h₀ env.locals s.heap m := by k_asm) (hh : A.handled = none := by exact rfl)
    (h : wpAny (model prog w) A (eval iter env) (fun xv s₁ => MyIter prog w A h₀ env target body Q E xv s₁) E s)
    (hs : ∀ x, foldedSetIterable iter env x = pure x := by intro _; rfl)
    (hE : PassesOwn (model prog w) A env E := by passes_own) :
    wpAny (model prog w) A (exec (.For target iter body [] pos) env) Q E s := by
  refine wpAny_For (wpAny_mono h (fun xv s₁ h₁ => ?_) fun _ _ e => e) hs
  obtain ⟨l, m, news, J, n, vs₀, rfl, F, N, hJ, hat, turn, done⟩ := h₁
  obtain ⟨⟨nn, hl⟩, _, _⟩ := hat _ _ _ _ hJ
  have hls : s₁.heap.IsList l vs₀.toArray := ⟨_, (N _ hl).1, rfl, nn, rfl⟩
  have hlI : l ≠ s₁.heap.objs.size := Nat.ne_of_lt (Heap.lt_size (N _ hl).1)
  have hLI : env.locals ≠ s₁.heap.objs.size := Nat.ne_of_lt F.ns.lt
  refine wpAny_pyIter_list hls ?_
  have hI0 : h₀.get? s₁.heap.objs.size = none := next_is_new F
  generalize hIe : s₁.heap.objs.size = I at hlI hLI hI0
  refine codeAny_forLoop_any (R := fun r s' => match r with | .ok f => Q f s' | .error e => cameBackBy (model prog w) A env E e s')
    (fun k s' => ∃ h' tk m' nx vs i, s' = { s₁ with heap := h', toks := tk } ∧ h'.IsListIter I l i ∧ Fr h₀ env.locals h' m' ∧ News h₀ env.locals h' nx ∧ (∀ p ∈ nx, p.1 ≠ I) ∧ J i m' nx vs ∧ k = n + 1 - i) ?_ (n + 1)
    ⟨_, s₁.toks, m, news, vs₀, 0, rfl, ?_, F.push _, (fun p hp => ⟨Heap.get?_push_of_some _ (N p hp).1, (N p hp).2⟩), (fun p hp e => ?_), hJ, rfl⟩
  · rintro k s' ⟨h', tk, m', nx, vs, i, rfl, hit, F', N', hoff, hJ', rfl⟩
    obtain ⟨⟨nn', hl'⟩, hi, hn⟩ := hat _ _ _ _ hJ'
    have hls' : h'.IsList l vs.toArray := ⟨_, (N' _ hl').1, rfl, nn', rfl⟩
    have next : ∀ h₁ : Heap, (∀ b o, b ≠ I → h'.get? b = some o → h₁.get? b = some o) → Fr h₀ env.locals h₁ m' ∧ News h₀ env.locals h₁ nx := fun h₁ hk₁ =>
      ⟨⟨F'.ns.at' fun o e => hk₁ _ o hLI e, fun b o e => hk₁ b o (fun q => by rw [q, hI0] at e; cases e) (F'.keep b o e), F'.above⟩, fun p hp => ⟨hk₁ _ _ (hoff p hp) (N' p hp).1, (N' p hp).2⟩⟩
    by_cases hlt : i < vs.length
    · have hv : vs[i]? = some vs[i] := List.getElem?_eq_getElem hlt
      refine wpAny_pyNext_list_item hit hls' (x := vs[i]) (by simp [hlt]) fun h₁ hit₁ hs₁ => ?_
      obtain ⟨F₁, N₁⟩ := next h₁ fun b o hb e => hs₁.extBut b o hb e
      obtain ⟨oI, hoI, hr⟩ := id hit₁
      refine letGo_listiter hit₁ ?_
      have hown : OwnOff [(I, oI)] (nx.map (·.1)) := by
        intro p hp b hb e
        obtain ⟨q, hq, rfl⟩ := List.mem_map.mp hb
        rw [List.mem_singleton.mp hp] at e
        exact hoff q hq e.symm
      have N₂ : News h₀ env.locals h₁ (nx ++ [(I, oI)]) := by
        intro p hp
        rcases List.mem_append.mp hp with q | q
        · exact N₁ p q
        · rw [List.mem_singleton.mp q]; exact ⟨hoI, hLI.symm, hI0⟩
      refine wpAny_passesOwn hE ?_
      refine wpAny_mono (turn i m' nx vs vs[i] h₁ tk [(I, oI)] hv hJ' hown F₁ N₂) (fun _ s₂ h₂ => wpAny_passesOwn hE (wpAny_mono h₂ (fun f s₃ h₃ => ?_) fun _ _ e => e)) fun _ _ e => e
      have fin : InvEndG h₀ env.locals (fun m' nx' => ∃ vs', J (i + 1) m' nx' vs') [(I, oI)] { s₁ with heap := h₁, toks := tk } s₃ → ∃ m, m < n + 1 - i ∧ ∃ h' tk m' nx vs i, s₃ = { s₁ with heap := h', toks := tk } ∧ h'.IsListIter I l i ∧ Fr h₀ env.locals h' m' ∧ News h₀ env.locals h' nx ∧ (∀ p ∈ nx, p.1 ≠ I) ∧ J i m' nx vs ∧ m = n + 1 - i := by
        rintro ⟨h₄, tk₄, m₄, news₄, nx₄, rfl, F₄, N₄, hn₄, ho₄, ha₄, vs₄, hJ₄⟩
        refine ⟨n + 1 - (i + 1), by omega, h₄, tk₄, m₄, nx₄, vs₄, i + 1, rfl, ⟨oI, (N₄ _ (ho₄ _ (.head _))).1, hr⟩, F₄, fun p hp => N₄ p (hn₄ p hp), fun p hp e => ?_, hJ₄, rfl⟩
        exact ha₄ _ (.head _) p.1 (List.mem_map.mpr ⟨p, hp, rfl⟩) e.symm
      cases f with
      | ret v => exact h₃
      | brk => exact h₃
      | next => exact fin h₃
      | cont => exact fin h₃
    · have hi' : i = vs.length := by omega
      refine wpAny_pyNext_list_end hh hit hls' (by simp [hi']) fun h₁ hk₁ => wpAny_execs_nil ?_
      obtain ⟨F₁, N₁⟩ := next h₁ fun b o hb e => hk₁ b o hb e
      exact done m' nx vs h₁ tk (hi' ▸ hJ') F₁ N₁
  · subst hIe; exact ⟨_, Heap.get?_push_size _ rfl, rfl, rfl⟩
  · exact absurd (Heap.lt_size (N p hp).1) (by rw [e, hIe]; exact Nat.lt_irrefl _)
end

def Apart (a b : LD) : Prop := ∀ p ∈ a, ∀ q ∈ b, q.1 ≠ p.1
/-- the frame's map: m₀ but for the stored names, and ps -/
noncomputable def frm (stored : List Str) (ps : List (Str × Value)) (m₀ u : Str → Option Value) : Str → Option Value := kstB (fun z => if stored.contains z then u z else m₀ z) ps
def FrmOk (stored : List Str) (ps : List (Str × Value)) (m₀ m : Str → Option Value) : Prop := (∀ p ∈ ps, m p.1 = some p.2) ∧ ∀ z, (∀ p ∈ ps, z ≠ p.1) → stored.contains z = false → m z = m₀ z
theorem FrmOk.eq {stored : List Str} {ps : List (Str × Value)} {m₀ m : Str → Option Value} (h : FrmOk stored ps m₀ m) : m = frm stored ps m₀ m := by
  funext y
  refine (kstB_eq h.1 fun hn => ?_).symm
  show (if stored.contains y = true then m y else m₀ y) = m y
  cases h3 : stored.contains y with
  | true => simp
  | false => simp only [Bool.false_eq_true, if_false]; exact (h.2 y hn h3).symm

section
variable {prog : Program} {w : World} {A : Around} {E : Value → Shared → Prop} {env : Env} {h₀ : Heap} {target : PySem.Expr} {body : List Stmt} {Q : Flow → Shared → Prop} {σ : Type}
def MyEnd (h₀ : Heap) (L : Addr) (Led : σ → LD) (ps : σ → List (Str × Value)) (stored : List Str) (m₀ : Str → Option Value) (P : σ → Prop) (rest' : LD) (s₁ s₂ : Shared) : Prop :=
  ∃ c' h' tk m' news', s₂ = { s₁ with heap := h', toks := tk } ∧ Fr h₀ L h' m' ∧ News h₀ L h' news' ∧ (∀ p ∈ Led c' ++ rest', p ∈ news') ∧ Apart (Led c') rest' ∧ FrmOk stored (ps c') m₀ m' ∧ P c'
def MyPost (h₀ : Heap) (L : Addr) (Led : σ → LD) (ps : σ → List (Str × Value)) (stored : List Str) (m₀ : Str → Option Value) (P : σ → Prop) (rest' : LD) (s₁ : Shared) (Q : Flow → Shared → Prop) (f : Flow) (s₂ : Shared) : Prop :=
  match f with
  | .ret v => Q (.ret v) s₂
  | .brk => Q .next s₂
  | _ => MyEnd h₀ L Led ps stored m₀ P rest' s₁ s₂

theorem my_list {s₁ : Shared} {l : Addr} {vs : List Value} {nn : Nat} {m₀ : Str → Option Value} {news : LD} (Led : σ → LD) (ps : σ → List (Str × Value)) (stored : List Str) (P : Nat → σ → Prop) (rest : LD) (c₀ : σ)
    (hl : (l, W.listOf (List.toArray vs) nn) ∈ rest) (F : Fr h₀ env.locals s₁.heap m₀) (N : News h₀ env.locals s₁.heap news) (hn : ∀ p ∈ Led c₀ ++ rest, p ∈ news) (hap : Apart (Led c₀) rest) (hk : ∀ p ∈ ps c₀, m₀ p.1 = some p.2) (hp : P 0 c₀)
    (turn : ∀ i v c rest' (u : Str → Option Value) h tk, vs[i]? = some v → (∀ p ∈ rest, p ∈ rest') → Apart (Led c) rest' → P i c → Fr h₀ env.locals h (frm stored (ps c) m₀ u) → News h₀ env.locals h (Led c ++ rest') →
      wpAny (model prog w) A (assign target env v) (fun _ s₃ => wpAny (model prog w) A (execs body env) (MyPost h₀ env.locals Led ps stored m₀ (P (i + 1)) rest' { s₁ with heap := h, toks := tk } Q) E s₃) E { s₁ with heap := h, toks := tk })
    (done : ∀ c (u : Str → Option Value) h tk, P vs.length c → Apart (Led c) rest → Fr h₀ env.locals h (frm stored (ps c) m₀ u) → News h₀ env.locals h (Led c ++ rest) → Q .next { s₁ with heap := h, toks := tk }) :
    MyIter prog w A h₀ env target body Q E (.ref l) s₁ := by
  refine ⟨l, m₀, Led c₀ ++ rest, (fun i m nx vs' => vs' = vs ∧ i ≤ vs.length ∧ ∃ c, nx = Led c ++ rest ∧ Apart (Led c) rest ∧ FrmOk stored (ps c) m₀ m ∧ P i c), vs.length, vs, rfl, F, fun p hp => N p (hn p hp),
    ⟨rfl, Nat.zero_le _, c₀, rfl, hap, ⟨hk, fun _ _ _ => rfl⟩, hp⟩, ?_, ?_, ?_⟩
  · rintro i m nx vs' ⟨rfl, hi, c, rfl, _⟩
    exact ⟨⟨nn, List.mem_append.mpr (.inr hl)⟩, hi, Nat.le_refl _⟩
  · rintro i m₁ nx vs' v h tk own hv ⟨rfl, hi, c, rfl, hap', hfm, hP⟩ hoff F₁ N₁
    have hi' : i < vs'.length := (List.getElem?_eq_some_iff.mp hv).1
    rw [List.append_assoc] at N₁
    rw [FrmOk.eq hfm] at F₁
    have hap₁ : Apart (Led c) (rest ++ own) := by
      intro p hp q hq
      rcases List.mem_append.mp hq with hq | hq
      · exact hap' p hp q hq
      · exact hoff q hq p.1 (List.mem_map.mpr ⟨p, List.mem_append.mpr (.inl hp), rfl⟩)
    refine wpAny_mono (turn i v c (rest ++ own) m₁ h tk hv (fun p hp => List.mem_append.mpr (.inl hp)) hap₁ hP F₁ N₁) (fun _ s₃ h₃ => wpAny_mono h₃ (fun f s₄ h₄ => ?_) fun _ _ e => e) fun _ _ e => e
    have fin : MyEnd h₀ env.locals Led ps stored m₀ (P (i + 1)) (rest ++ own) { s₁ with heap := h, toks := tk } s₄ →
        InvEndG h₀ env.locals (fun m' nx' => ∃ vs'', vs'' = vs' ∧ i + 1 ≤ vs'.length ∧ ∃ c, nx' = Led c ++ rest ∧ Apart (Led c) rest ∧ FrmOk stored (ps c) m₀ m' ∧ P (i + 1) c) own { s₁ with heap := h, toks := tk } s₄ := by
      rintro ⟨c', h', tk', m', news', rfl, F', N', hn', ha', hf', hP'⟩
      refine ⟨h', tk', m', news', Led c' ++ rest, rfl, F', N', fun p hp => hn' p ?_, fun p hp => hn' p ?_, ?_, vs', rfl, hi', c', rfl, fun p hp q hq => ha' p hp q (List.mem_append.mpr (.inl hq)), hf', hP'⟩
      · rcases List.mem_append.mp hp with h | h
        · exact List.mem_append.mpr (.inl h)
        · exact List.mem_append.mpr (.inr (List.mem_append.mpr (.inl h)))
      · exact List.mem_append.mpr (.inr (List.mem_append.mpr (.inr hp)))
      · intro p hp b hb
        obtain ⟨q, hq, rfl⟩ := List.mem_map.mp hb
        rcases List.mem_append.mp hq with hq | hq
        · exact ha' q hq p (List.mem_append.mpr (.inr hp))
        · exact hoff p hp q.1 (List.mem_map.mpr ⟨q, List.mem_append.mpr (.inr hq), rfl⟩)
    cases f with
    | ret v => exact h₄
    | brk => exact h₄
    | next => exact fin h₄
    | cont => exact fin h₄
  · rintro m₁ nx vs' h tk ⟨rfl, _, c, rfl, hap', hfm, hP⟩ F₁ N₁
    rw [FrmOk.eq hfm] at F₁
    exact done c m₁ h tk hP hap' F₁ N₁
end

section
variable {h₀ : Heap} {L : Addr} {Q : Flow → Shared → Prop} {σ : Type}
theorem my_end {Led : σ → LD} {ps : σ → List (Str × Value)} {stored : List Str} {m₀ m' : Str → Option Value} {P : σ → Prop} {rest' news' : LD} {s₁ : Shared} {h' : Heap} {tk : Nat} (c' : σ)
    (F : Fr h₀ L h' m') (N : News h₀ L h' news') (hn : ∀ p ∈ Led c' ++ rest', p ∈ news') (ha : Apart (Led c') rest') (hf : FrmOk stored (ps c') m₀ m') (hp : P c') :
    MyEnd h₀ L Led ps stored m₀ P rest' s₁ { s₁ with heap := h', toks := tk } := ⟨c', h', tk, m', news', rfl, F, N, hn, ha, hf, hp⟩
end
section
variable {stored : List Str} {m₀ m u : Str → Option Value}
theorem frmOk0 : FrmOk stored [] m₀ (frm stored [] m₀ u) := by
  refine ⟨(fun _ h => nomatch h), fun z _ hz => ?_⟩
  show (if stored.contains z then u z else m₀ z) = m₀ z
  rw [hz]; rfl
theorem frmOk1 {p : Str × Value} : FrmOk stored [p] m₀ (frm stored [p] m₀ u) := by
  refine ⟨fun q h => ?_, fun z hz hc => ?_⟩
  · rw [List.mem_singleton.mp h]
    show (if p.1 = p.1 then some p.2 else _) = some p.2
    rw [if_pos rfl]
  · show (if z = p.1 then some p.2 else if stored.contains z then u z else m₀ z) = m₀ z
    rw [if_neg (hz p (.head _)), hc]; rfl
theorem FrmOk.set {ps : List (Str × Value)} {x : Str} {v : Option Value} (hc : stored.contains x = true) (hp : (ps.all fun p => !(p.1 == x)) = true) (h : FrmOk stored ps m₀ m) : FrmOk stored ps m₀ (fun y => if y = x then v else m y) := by
  refine ⟨fun q hq => ?_, fun z hz hs => ?_⟩
  · have hne : ¬ q.1 = x := by
      have := List.all_eq_true.mp hp q hq
      simpa using this
    show (if q.1 = x then v else m q.1) = some q.2
    rw [if_neg hne]; exact h.1 q hq
  · have hne : ¬ z = x := fun e => by rw [e, hc] at hs; cases hs
    show (if z = x then v else m z) = m₀ z
    rw [if_neg hne]; exact h.2 z hz hs
theorem FrmOk.put {x : Str} {v v' : Value} (h : FrmOk stored [(x, v)] m₀ m) : FrmOk stored [(x, v')] m₀ (fun y => if y = x then some v' else m y) := by
  refine ⟨fun q hq => ?_, fun z hz hs => ?_⟩
  · rw [List.mem_singleton.mp hq]
    show (if x = x then some v' else m x) = some v'
    rw [if_pos rfl]
  · have hne : ¬ z = x := hz (x, v') (.head _)
    show (if z = x then some v' else m z) = m₀ z
    rw [if_neg hne]; exact h.2 z (fun p hp => by rw [List.mem_singleton.mp hp]; exact hne) hs
end

theorem Does.use {w : World} {mean : ExcName → Option Value} {mg mb : Str → Option Value} {room units : Nat} {f : Addr} {vs : List Value} {news : LD} {Post : Value → LD → Prop} {dp un : Nat} {gd : Option (List Code)} {cn : Str} {cs : Scope} {a : Addr} {ccd : Value} {cl : List (Str × Addr)} {outer : List Env} {A₀ : Around} {base h₀ : Heap} {L : Addr} {m : Str → Option Value} {s : Shared} {Q E : Value → Shared → Prop}
    (D : Does w mean mg mb room units f vs news Post) (B : Below A₀ base outer h₀ := by k_asm) (F : Fr h₀ L s.heap m := by k_asm) (X : (hd.heap_39 w.params).In h₀ := by k_asm) (N : News h₀ L s.heap news := by k_asm)
    (T : Top hd.view_39 (looseW hd.view_39 [Str.ofString "MOST_BITS"]) mean mg mb h₀ := by k_asm) (hk : cs.kind = .function := by first | exact rfl | assumption) (hdp : dp + room < recursionLimit := by ktr_room) (hun : un + units < cLine := by ktr_units)
    (ret : ∀ v news' h' tk', Post v news' → Fr h₀ L h' m → News h₀ L h' news' → Q v { s with heap := h', toks := tk' }) :
    wpAny (model PySem.Challenge.rw_qz0019_01.row.prog w) (ktrTop dp un gd cn cs L a ccd cl outer) (call (.ref f) vs) Q E s := by
  obtain ⟨k, nms, gen, cor⟩ := cs
  cases hk
  exact D _ _ _ _ _ _ _ _ _ _ _ _ _ _ _ _ _ _ _ _ _ _ _ _ B F X N T rfl hdp hun ret
theorem sub_tail {A B : LD} {x : Addr × Obj} (h : ∀ p ∈ A, p ∈ B) : ∀ p ∈ A, p ∈ x :: B := fun p hp => .tail _ (h p hp)

/-- tuples of two ints, of the ledger -/
inductive PairsAre (news : LD) : List Value → List (Int × Int) → Prop
  | nil : PairsAre news [] []
  | cons {a : Addr} {x y : Int} {t u : Tok} {n : Nat} {vs : List Value} {ps : List (Int × Int)} : (a, ({ cls := .type "tuple", data := .seq #[.int x t, .int y u] n } : Obj)) ∈ news → PairsAre news vs ps → PairsAre news (.ref a :: vs) ((x, y) :: ps)
theorem PairsAre.mono {news news' : LD} {vs : List Value} {ps : List (Int × Int)} (h : PairsAre news vs ps) (hs : ∀ p ∈ news, p ∈ news') : PairsAre news' vs ps := by
  induction h with
  | nil => exact .nil
  | cons hm _ ih => exact .cons (hs _ hm) ih
theorem PairsAre.length {news : LD} {vs : List Value} {ps : List (Int × Int)} (h : PairsAre news vs ps) : vs.length = ps.length := by
  induction h with
  | nil => rfl
  | cons _ _ ih => simp [ih]
theorem PairsAre.get {news : LD} {vs : List Value} {ps : List (Int × Int)} (h : PairsAre news vs ps) : ∀ {i : Nat} {v : Value}, vs[i]? = some v →
    ∃ a x y t u n, ps[i]? = some (x, y) ∧ v = .ref a ∧ (a, ({ cls := .type "tuple", data := .seq #[.int x t, .int y u] n } : Obj)) ∈ news := by
  induction h with
  | nil => intro i v hv; simp at hv
  | @cons a x y t u n vs ps hm _ ih =>
    intro i v hv
    cases i with
    | zero => exact ⟨a, x, y, t, u, n, rfl, (Option.some.inj hv).symm, hm⟩
    | succ i => exact ih hv
theorem PairsAre.append {news : LD} {vs ws : List Value} {ps qs : List (Int × Int)} (h : PairsAre news vs ps) (k : PairsAre news ws qs) : PairsAre news (vs ++ ws) (ps ++ qs) := by
  induction h with
  | nil => exact k
  | cons hm _ ih => exact .cons hm ih
def PairsL (news : LD) (l : Addr) (ps : List (Int × Int)) : Prop := ∃ vs n, (l, W.listOf (List.toArray vs) n) ∈ news ∧ PairsAre news vs ps
theorem PairsL.mono {news news' : LD} {l : Addr} {ps : List (Int × Int)} (h : PairsL news l ps) (hs : ∀ p ∈ news, p ∈ news') : PairsL news' l ps := by
  obtain ⟨vs, n, a, b⟩ := h
  exact ⟨vs, n, hs _ a, b.mono hs⟩

theorem PairsL.nil0 {news : LD} {l : Addr} {n : Nat} : PairsL ((l, W.listOf (List.toArray []) n) :: news) l [] := ⟨[], n, .head _, .nil⟩
theorem PairsL.nilm {news : LD} {l : Addr} {n : Nat} (h : (l, W.listOf (List.toArray []) n) ∈ news := by k_mem) : PairsL news l [] := ⟨[], n, h, .nil⟩
theorem PairsL.up {news news' : LD} {l : Addr} {ps : List (Int × Int)} (h : PairsL news l ps := by assumption) (hs : ∀ p ∈ news, p ∈ news' := by walk_at "SUB") : PairsL news' l ps := h.mono hs
theorem PairsL.top {news news' : LD} {l : Addr} {ps : List (Int × Int)} {vs : List Value} {n : Nat} (h : PairsAre news vs ps := by assumption) (hs : ∀ p ∈ news, p ∈ (l, W.listOf (List.toArray vs) n) :: news' := by walk_at "SUB") : PairsL ((l, W.listOf (List.toArray vs) n) :: news') l ps := ⟨vs, n, .head _, h.mono hs⟩
theorem CloIn.up {news news' : LD} {clo bank tl ld : Addr} (h : CloIn news clo bank tl ld := by assumption) (hs : ∀ p ∈ news, p ∈ news' := by walk_at "SUB") : CloIn news' clo bank tl ld := h.mono hs
theorem IntD.up {w : World} {news news' : LD} {d : Addr} {c : List (Int × Int)} (h : IntD w news d c := by assumption) (hs : ∀ p ∈ news, p ∈ news' := by walk_at "SUB") : IntD w news' d c := h.mono hs
theorem IntL.up {news news' : LD} {l : Addr} {ns : List Int} (h : IntL news l ns := by assumption) (hs : ∀ p ∈ news, p ∈ news' := by walk_at "SUB") : IntL news' l ns := h.mono hs
/-- where the bank's parts lie -/
structure BAddr where
  (d lo la ls ldt fn fa fr sn sw bd : Addr)
noncomputable def BAddr.all (P : BAddr) : List Addr := [P.d, P.lo, P.la, P.ls, P.ldt, P.fn, P.fa, P.fr, P.sn, P.sw, P.bd]
/-- the dict of a TermBank -/
noncomputable def bankDict (P : BAddr) (hs : Nat → Int) (ts : Nat → Tok) (v5 : Value) (u1 u2 : Tok) (nb : Nat) : Obj :=
  dictOf [⟨hs 0, .str (Str.ofString "sort_names") (ts 0), .ref P.sn⟩, ⟨hs 1, .str (Str.ofString "sort_widths") (ts 1), .ref P.sw⟩, ⟨hs 2, .str (Str.ofString "fun_names") (ts 2), .ref P.fn⟩, ⟨hs 3, .str (Str.ofString "fun_args") (ts 3), .ref P.fa⟩, ⟨hs 4, .str (Str.ofString "fun_results") (ts 4), .ref P.fr⟩, ⟨hs 5, .str (Str.ofString "fresh_count") (ts 5), v5⟩, ⟨hs 6, .str (Str.ofString "term_ops") (ts 6), .ref P.lo⟩, ⟨hs 7, .str (Str.ofString "term_args") (ts 7), .ref P.la⟩, ⟨hs 8, .str (Str.ofString "term_sorts") (ts 8), .ref P.ls⟩, ⟨hs 9, .str (Str.ofString "term_datas") (ts 9), .ref P.ldt⟩, ⟨hs 10, .str (Str.ofString "numbers") (ts 10), .ref P.d⟩, ⟨hs 11, .str (Str.ofString "true_number") (ts 11), .int 1 u1⟩, ⟨hs 12, .str (Str.ofString "false_number") (ts 12), .int 2 u2⟩, ⟨hs 13, .str (Str.ofString "bv_numbers") (ts 13), .ref P.bd⟩] nb
/-- the bank and its dict -/
def BankD (P : BAddr) (news : LD) (bank : Addr) : Prop :=
  ∃ (db : Addr) (hs : Nat → Int) (ts : Nat → Tok) (v5 : Value) (u1 u2 : Tok) (nb : Nat), (bank, instObj 683 db) ∈ news ∧ (db, bankDict P hs ts v5 u1 u2 nb) ∈ news
theorem BankD.mono {P : BAddr} {news news' : LD} {bank : Addr} (h : BankD P news bank) (hs : ∀ p ∈ news, p ∈ news') : BankD P news' bank := by
  obtain ⟨db, x1, x2, x3, x4, x5, x6, x, y⟩ := h
  exact ⟨db, x1, x2, x3, x4, x5, x6, hs _ x, hs _ y⟩
def BankIn (news : LD) (bank lo : Addr) : Prop := ∃ P : BAddr, P.lo = lo ∧ BankD P news bank
theorem BankIn.mono {news news' : LD} {bank lo : Addr} (h : BankIn news bank lo) (hs : ∀ p ∈ news, p ∈ news') : BankIn news' bank lo := by
  obtain ⟨P, e, h⟩ := h
  exact ⟨P, e, h.mono hs⟩
theorem BankIn.up {news news' : LD} {bank lo : Addr} (h : BankIn news bank lo := by assumption) (hs : ∀ p ∈ news, p ∈ news' := by walk_at "SUB") : BankIn news' bank lo := h.mono hs
theorem BankD.bankIn {P : BAddr} {news : LD} {bank : Addr} (h : BankD P news bank) : BankIn news bank P.lo := ⟨P, rfl, h⟩

/-- strictly rising -/
noncomputable def Chn : List Nat → Prop
  | a :: b :: r => a < b ∧ Chn (b :: r)
  | _ => True
theorem Chn.head : ∀ {l : List Nat} {a : Nat}, Chn (a :: l) → ∀ b ∈ l, a < b
  | [], _, _, _, h => nomatch h
  | c :: r, a, h, b, hb => by
    obtain ⟨h1, h2⟩ := h
    rcases List.mem_cons.mp hb with rfl | hb
    · exact h1
    · exact Nat.lt_trans h1 (Chn.head h2 b hb)
theorem Chn.pw : ∀ {l : List Nat}, Chn l → l.Pairwise (· < ·)
  | [], _ => .nil
  | [a], _ => .cons (fun _ h => nomatch h) .nil
  | a :: b :: r, h => .cons (Chn.head h) (Chn.pw h.2)
theorem getD_at {α : Type} (l : List α) (d : α) {i : Nat} (h : i < l.length) : l.getD i d = l[i] := by
  rw [List.getD, List.getElem?_eq_getElem h]; rfl
theorem mem_idx {α : Type} {l : List α} (i : Nat) (d : α) (h : i < l.length) : l.getD i d ∈ l := by
  rw [getD_at l d h]; exact List.getElem_mem h
theorem Chn.ne {l : List Nat} (h : Chn l) {i j : Nat} (hi : i < l.length) (hj : j < l.length) (hij : i ≠ j) : l.getD i 0 ≠ l.getD j 0 := by
  rw [getD_at l 0 hi, getD_at l 0 hj]
  rcases Nat.lt_or_gt_of_ne hij with c | c
  · exact Nat.ne_of_lt (List.pairwise_iff_getElem.mp h.pw i j hi hj c)
  · exact (Nat.ne_of_lt (List.pairwise_iff_getElem.mp h.pw j i hj hi c)).symm
theorem Chn.le0 {l : List Nat} (h : Chn l) {i : Nat} (hi : i < l.length) : l.getD 0 0 ≤ l.getD i 0 := by
  rw [getD_at l 0 hi, getD_at l 0 (Nat.lt_of_le_of_lt (Nat.zero_le _) hi)]
  rcases Nat.eq_zero_or_pos i with rfl | c
  · exact Nat.le_refl _
  · exact Nat.le_of_lt (List.pairwise_iff_getElem.mp h.pw 0 i _ hi c)
/-- the places is of a rising row are apart -/
theorem Chn.nodup {l : List Nat} (h : Chn l) {is : List Nat} (hb : (is.all fun i => decide (i < l.length)) = true) (hn : is.Nodup) : (is.map fun i => l.getD i 0).Nodup := by
  induction is with
  | nil => exact List.nodup_nil
  | cons i r ih =>
    rw [List.all_cons, Bool.and_eq_true] at hb
    obtain ⟨h1, h2⟩ := List.nodup_cons.mp hn
    rw [List.map_cons, List.nodup_cons]
    refine ⟨fun hm => ?_, ih hb.2 h2⟩
    obtain ⟨j, hj, e⟩ := List.mem_map.mp hm
    exact h.ne (of_decide_eq_true (List.all_eq_true.mp hb.2 j hj)) (of_decide_eq_true hb.1) (fun e => h1 (e ▸ hj)) e
/-- what lies at the places is, and what lies below the row, is not at a place j apart from them -/
theorem Chn.off {l : List Nat} (h : Chn l) {is : List Nat} {ps news : LD} (e : ps.map (·.1) = is.map fun i => l.getD i 0) (hn : ∀ p ∈ news, p.1 < l.getD 0 0) {j : Nat} (hj : j < l.length) (hb : (is.all fun i => decide (i < l.length) && decide (i ≠ j)) = true) :
    ∀ p ∈ ps ++ news, p.1 ≠ l.getD j 0 := by
  intro p hp
  rcases List.mem_append.mp hp with hp | hp
  · have hm : p.1 ∈ is.map fun i => l.getD i 0 := e ▸ List.mem_map.mpr ⟨p, hp, rfl⟩
    obtain ⟨i, hi, e⟩ := List.mem_map.mp hm
    have hb := List.all_eq_true.mp hb i hi
    rw [Bool.and_eq_true] at hb
    exact e ▸ h.ne (of_decide_eq_true hb.1) hj (of_decide_eq_true hb.2)
  · exact Nat.ne_of_lt (Nat.lt_of_lt_of_le (hn p hp) (h.le0 hj))
/-- the members of A are members of B, by their places there -/
theorem sub_idx {α : Type} {A B : List α} {is : List Nat} (d : α) (e : A = is.map fun i => B.getD i d) (hb : (is.all fun i => decide (i < B.length)) = true) : ∀ p ∈ A, p ∈ B := by
  intro p hp
  rw [e] at hp
  obtain ⟨i, hi, rfl⟩ := List.mem_map.mp hp
  have hi := of_decide_eq_true (List.all_eq_true.mp hb i hi)
  exact mem_idx i d hi
theorem sub_idx2 {α : Type} {A A' B N : List α} {is : List Nat} (d : α) (e : A ++ A' = is.map fun i => B.getD i d) (hb : (is.all fun i => decide (i < B.length)) = true) : ∀ p ∈ A ++ (A' ++ N), p ∈ B ++ N := by
  intro p hp
  rw [← List.append_assoc] at hp
  rcases List.mem_append.mp hp with hp | hp
  · exact List.mem_append.mpr (.inl (sub_idx d e hb p hp))
  · exact List.mem_append.mpr (.inr hp)
theorem Chn.above {l : List Nat} (h : Chn l) {is : List Nat} {ps : LD} (e : ps.map (·.1) = is.map fun i => l.getD i 0) (hb : (is.all fun i => decide (i < l.length)) = true) : ∀ p ∈ ps, l.getD 0 0 ≤ p.1 := by
  intro p hp
  have hm : p.1 ∈ is.map fun i => l.getD i 0 := e ▸ List.mem_map.mpr ⟨p, hp, rfl⟩
  obtain ⟨i, hi, e⟩ := List.mem_map.mp hm
  exact e ▸ h.le0 (of_decide_eq_true (List.all_eq_true.mp hb i hi))
theorem Chn.offs {l : List Nat} (h : Chn l) {is js : List Nat} {ps news : LD} (e : ps.map (·.1) = is.map fun i => l.getD i 0) (hn : ∀ p ∈ news, p.1 < l.getD 0 0) (hj : (js.all fun j => decide (j < l.length)) = true) (hb : (is.all fun i => decide (i < l.length)) = true) (hx : (js.all fun j => is.all fun i => decide (i ≠ j)) = true) :
    ∀ p ∈ ps ++ news, p.1 ∉ js.map fun j => l.getD j 0 := by
  intro p hp hm
  obtain ⟨j, hm, e'⟩ := List.mem_map.mp hm
  refine h.off e hn (of_decide_eq_true (List.all_eq_true.mp hj j hm)) ?_ p hp e'.symm
  refine List.all_eq_true.mpr fun i hi => ?_
  rw [Bool.and_eq_true]
  exact ⟨List.all_eq_true.mp hb i hi, List.all_eq_true.mp (List.all_eq_true.mp hx j hm) i hi⟩

noncomputable def isVal (t : Int) : Bool := t == 4 || t == 5 || t == 7 || t == 8 || t == 10 || t == 11
/-- the list of ops as the bank holds it -/
def OpsOk (ops : List Value) : Prop := ∀ t : Int, 1 ≤ t → t ≤ 12 → ∃ x tk, ops[t.toNat]? = some (.str x tk) ∧
  ((isVal t = true ∧ (x = Str.ofString "num" ∨ x = Str.ofString "bvnum")) ∨ (isVal t = false ∧ (x = Str.ofString "app" ∨ x = Str.ofString "true" ∨ x = Str.ofString "false")))
section
variable {prog : Program} {w : World} {A : Around} {E : Value → Shared → Prop} {s : Shared} {h₀ : Heap} {L l : Addr} {m : Str → Option Value} {news : LD} {vs : List Value} {n : Nat} {k : Int} {tk : Tok} {v : Value}
theorem my_getItemL {Q : Value → Shared → Prop} (N : News h₀ L s.heap news := by k_asm) (hp : (l, W.listOf (List.toArray vs) n) ∈ news := by k_mem) (hx : vs[k.toNat]? = some v := by assumption) (h0 : 0 ≤ k := by omega) (hk : k < 2 ^ 63 := by omega)
    (h : Q v s) : wpAny (model prog w) A (getItem (.ref l) (.int k tk)) Q E s :=
  getItem_listL ⟨_, (N _ hp).1, rfl, n, rfl⟩ h0 hk hx h
end
section
variable {prog : Program} {w : World} {A : Around} {E : Value → Shared → Prop} {s : Shared} {h₀ : Heap} {L l : Addr} {m : Str → Option Value} {news : LD} {vs : List Value} {n : Nat} {k : Int} {tk : Tok} {v : Value}
theorem my_itemL {value slice : PySem.Expr} {Q : Value → Shared → Prop} (N : News h₀ L s.heap news := by k_asm) (hp : (l, W.listOf (List.toArray vs) n) ∈ news := by k_mem) (hx : vs[k.toNat]? = some v := by first | assumption | exact rfl) (h0 : 0 ≤ k := by omega) (hk : k < 2 ^ 63 := by omega)
    (h : Q v s) (hs : subscripted slice false (.ref l) (.int k tk) = operate [.ref l, .int k tk] (getItem (.ref l) (.int k tk)) := by with_unfolding_all rfl) :
    wpAny (model prog w) A (subscriptTail value slice (.ref l) (.int k tk)) Q E s :=
  have hl : s.heap.IsList l (List.toArray vs) := ⟨_, (N _ hp).1, rfl, n, rfl⟩
  tail_any hl.typeIs slot_list_getitem.lookup (my_getItemL N hp hx h0 hk h) hs
end
section
variable {prog : Program} {w : World} {A : Around} {E : Value → Shared → Prop} {s : Shared} {h₀ : Heap} {L t : Addr} {m : Str → Option Value} {K : Frag} {dd : Option Addr} {sl : Array (Option Value)} {n : Nat} {x x1 x2 : Str} {u t1 t2 : Tok} {b : Bool}
theorem my_inV {Q : Value → Shared → Prop} (F : Fr h₀ L s.heap m := by k_asm) (X₀ : K.In h₀ := by k_asm) (hl : K.lookup t = some ⟨.type "tuple", dd, .seq [.str x1 t1, .str x2 t2].toArray n, sl⟩ := by k_is) (hb : ([x1, x2].any (· == x)) = b := by assumption)
    (h : Q (.bool b) s) : wpAny (model prog w) A (compareOp .In (.str x u) (.ref t)) Q E s := by
  refine in_tuple_strs (ys := [x1, x2]) (tupK (X₀.keeps F.keep) hl) (.cons _ _ (.cons _ _ .nil)) ?_
  rw [hb]; exact h
end
theorem any_isVal {t : Int} {x : Str} (h : (isVal t = true ∧ (x = Str.ofString "num" ∨ x = Str.ofString "bvnum")) ∨ (isVal t = false ∧ (x = Str.ofString "app" ∨ x = Str.ofString "true" ∨ x = Str.ofString "false"))) :
    ([Str.ofString "num", Str.ofString "bvnum"].any (· == x)) = isVal t := by
  rcases h with ⟨hv, rfl | rfl⟩ | ⟨hv, rfl | rfl | rfl⟩ <;> rw [hv] <;> decide +kernel
theorem snoc_len {vs : List Value} {x : Value} {n : Nat} (h : vs.length = n) : (vs ++ [x]).length = n + 1 := by rw [List.length_append, h]; rfl
section
variable {prog : Program} {w : World} {A : Around} {E : Value → Shared → Prop} {s : Shared} {h₀ : Heap} {L l : Addr} {m : Str → Option Value} {news : LD} {vs : List Value} {n k : Nat}
theorem my_len {Q : Value → Shared → Prop} (N : News h₀ L s.heap news := by k_asm) (hp : (l, W.listOf (List.toArray vs) n) ∈ news := by (try dsimp only); k_mem) (hk : vs.length = k := by first | assumption | exact snoc_len (by assumption)) (hs : k ≤ 100000 := by omega)
    (h : Q (.int (k : Nat) (s.toks + 1)) { s with toks := s.toks + 1 + 1 }) : wpAny (model prog w) A (call (.builtin "len") [.ref l]) Q E s := by
  subst hk
  exact len_list (items := vs.toArray) ⟨_, (N _ hp).1, rfl, n, rfl⟩ (by simp; omega) (by simpa using h)
end

section
variable {prog : Program} {w : World} {A : Around} {E : Value → Shared → Prop} {env : Env} {h₀ : Heap} {target : PySem.Expr} {body : List Stmt} {Q : Flow → Shared → Prop}
abbrev growLed (l : Addr) (q : List Value × List Int × Nat) : LD := [(l, W.listOf (List.toArray q.1) q.2.2)]
/-- a for over a list of ints that its own turns make longer -/
theorem my_grow {s₁ : Shared} {l : Addr} {vs₀ : List Value} {fs₀ : List Int} {nn₀ : Nat} {m₀ : Str → Option Value} {news : LD} (stored : List Str) (P : Nat → List Int → Prop) (rest : LD) (bound : Nat)
    (hi : IntsAre vs₀ fs₀) (F : Fr h₀ env.locals s₁.heap m₀) (N : News h₀ env.locals s₁.heap news) (hn : ∀ p ∈ (l, W.listOf (List.toArray vs₀) nn₀) :: rest, p ∈ news) (hap : ∀ p ∈ rest, p.1 ≠ l) (hp : P 0 fs₀)
    (hb : ∀ i fs, P i fs → i ≤ fs.length ∧ fs.length ≤ bound)
    (turn : ∀ i x tx vs fs nn rest' (u : Str → Option Value) h tk, IntsAre vs fs → fs[i]? = some x → (∀ p ∈ rest, p ∈ rest') → (∀ p ∈ rest', p.1 ≠ l) → P i fs → Fr h₀ env.locals h (frm stored [] m₀ u) → News h₀ env.locals h ((l, W.listOf (List.toArray vs) nn) :: rest') →
      wpAny (model prog w) A (assign target env (.int x tx)) (fun _ s₃ => wpAny (model prog w) A (execs body env) (MyPost h₀ env.locals (growLed l) (fun _ => []) stored m₀ (fun q => IntsAre q.1 q.2.1 ∧ P (i + 1) q.2.1) rest' { s₁ with heap := h, toks := tk } Q) E s₃) E { s₁ with heap := h, toks := tk })
    (done : ∀ vs fs nn (u : Str → Option Value) h tk, IntsAre vs fs → P fs.length fs → Fr h₀ env.locals h (frm stored [] m₀ u) → News h₀ env.locals h ((l, W.listOf (List.toArray vs) nn) :: rest) → Q .next { s₁ with heap := h, toks := tk }) :
    MyIter prog w A h₀ env target body Q E (.ref l) s₁ := by
  refine ⟨l, m₀, (l, W.listOf (List.toArray vs₀) nn₀) :: rest, (fun i m nx vs => ∃ fs nn, nx = (l, W.listOf (List.toArray vs) nn) :: rest ∧ IntsAre vs fs ∧ FrmOk stored [] m₀ m ∧ P i fs), bound, vs₀, rfl, F, fun p hp => N p (hn p hp),
    ⟨fs₀, nn₀, rfl, hi, ⟨(fun _ h => nomatch h), fun _ _ _ => rfl⟩, hp⟩, ?_, ?_, ?_⟩
  · rintro i m nx vs ⟨fs, nn, rfl, hi', _, hP⟩
    rw [hi'.length]
    exact ⟨⟨nn, .head _⟩, hb _ _ hP⟩
  · rintro i m₁ nx vs v h tk own hv ⟨fs, nn, rfl, hi', hfm, hP⟩ hoff F₁ N₁
    have hlt : i < fs.length := by rw [← hi'.length]; exact (List.getElem?_eq_some_iff.mp hv).1
    obtain ⟨tx, hx⟩ := hi'.get i fs[i] (List.getElem?_eq_getElem hlt)
    rw [hx] at hv; cases hv
    rw [FrmOk.eq hfm] at F₁
    have hap₁ : ∀ p ∈ rest ++ own, p.1 ≠ l := by
      intro q hq
      rcases List.mem_append.mp hq with hq | hq
      · exact hap q hq
      · exact hoff q hq l (.head _)
    refine wpAny_mono (turn i fs[i] tx vs fs nn (rest ++ own) m₁ h tk hi' (List.getElem?_eq_getElem hlt) (fun p hp => List.mem_append.mpr (.inl hp)) hap₁ hP F₁ N₁) (fun _ s₃ h₃ => wpAny_mono h₃ (fun f s₄ h₄ => ?_) fun _ _ e => e) fun _ _ e => e
    have fin : MyEnd h₀ env.locals (growLed l) (fun _ => []) stored m₀ (fun q => IntsAre q.1 q.2.1 ∧ P (i + 1) q.2.1) (rest ++ own) { s₁ with heap := h, toks := tk } s₄ →
        InvEndG h₀ env.locals (fun m' nx' => ∃ vs', ∃ fs nn, nx' = (l, W.listOf (List.toArray vs') nn) :: rest ∧ IntsAre vs' fs ∧ FrmOk stored [] m₀ m' ∧ P (i + 1) fs) own { s₁ with heap := h, toks := tk } s₄ := by
      rintro ⟨⟨vs', fs', nn'⟩, h', tk', m', news', rfl, F', N', hn', ha', hf', hi₂, hP'⟩
      refine ⟨h', tk', m', news', (l, W.listOf (List.toArray vs') nn') :: rest, rfl, F', N', fun p hp => hn' p ?_, fun p hp => hn' p ?_, ?_, vs', fs', nn', rfl, hi₂, hf', hP'⟩
      · rcases List.mem_cons.mp hp with h | h
        · exact List.mem_append.mpr (.inl (h ▸ .head _))
        · exact List.mem_append.mpr (.inr (List.mem_append.mpr (.inl h)))
      · exact List.mem_append.mpr (.inr (List.mem_append.mpr (.inr hp)))
      · intro p hp b hb
        rcases List.mem_cons.mp hb with rfl | hb
        · exact hoff p hp _ (.head _)
        · exact hoff p hp b (.tail _ hb)
    cases f with
    | ret v => exact h₄
    | brk => exact h₄
    | next => exact fin h₄
    | cont => exact fin h₄
  · rintro m₁ nx vs h tk ⟨fs, nn, rfl, hi', hfm, hP⟩ F₁ N₁
    rw [FrmOk.eq hfm] at F₁
    rw [hi'.length] at hP
    exact done vs fs nn m₁ h tk hi' hP F₁ N₁
end
theorem FrmOk.sub {stored stored' : List Str} {ps : List (Str × Value)} {m₀ m u : Str → Option Value} (hs : ∀ x, stored'.contains x = true → stored.contains x = true) (hp : ∀ p ∈ ps, stored'.contains p.1 = false) (h : FrmOk stored ps m₀ m) : FrmOk stored ps m₀ (frm stored' [] m u) := by
  refine ⟨fun q hq => ?_, fun z hz hc => ?_⟩
  · show (if stored'.contains q.1 = true then u q.1 else m q.1) = some q.2
    rw [hp q hq]; exact h.1 q hq
  · show (if stored'.contains z = true then u z else m z) = m₀ z
    have : stored'.contains z = false := by
      cases e : stored'.contains z with
      | false => rfl
      | true => rw [hs z e] at hc; cases hc
    rw [this]; exact h.2 z hz hc
section
open PyProof.Rows
variable {prog : Program} {w : World} {A : Around} {E : Value → Shared → Prop} {s : Shared} {h₀ : Heap} {L t sl : Addr} {m : Str → Option Value} {news : LD} {a b : Value} {n : Nat} {i : Int} {u : Tok}
theorem rev_applied {Q : Int × Int × Nat → Shared → Prop} (hs : s.heap.IsSliceOf sl .none .none (.int i u)) (hi : i = -1) (h : Q (1, -1, 2) s) :
    wpAny (model prog w) A (Builtin.Slice.sliceApplied (.ref sl) (pure (2 : Int))) Q E s := by
  subst hi
  obtain ⟨os, hos, hcs, hds⟩ := id hs
  unfold Builtin.Slice.sliceApplied Builtin.Slice.sliceFields
  refine wpAny_bind (wpAny_bind (wpAny_field hos hds (x := .none) rfl (wpAny_bind (wpAny_field hos hds (x := .none) rfl (wpAny_bind (wpAny_field hos hds (x := .int (-1) u) rfl (wpAny_pure ?_)))))))
  refine wpAny_bind (slicePart_int ?_)
  show wpAny _ _ (if ((-1 : Int) == 0) = true then _ else _) _ _ s
  rw [if_neg (by decide)]
  refine wpAny_bind (slicePart_none (wpAny_bind (slicePart_none (wpAny_bind (wpAny_pure ?_)))))
  exact wpAny_pure h
theorem rev_getItem {Q : Value → Shared → Prop} (ht : IsTup s.heap t #[a, b]) (hs : s.heap.IsSliceOf sl .none .none (.int i u)) (hi : i = -1)
    (h : Q (.ref s.heap.objs.size) { s with heap := s.heap.push { cls := .type "tuple", data := .seq #[b, a] } }) : wpAny (model prog w) A (getItem (.ref t) (.ref sl)) Q E s := by
  have hdrop : sizeOk (.seq (#[b, a] : Array Value)) := by
    show 2 ≤ sizeLine
    rw [sizeLine_eq]; decide
  obtain ⟨os, hos, hcs, hds⟩ := id hs
  have hTs : s.TypeIs (.ref sl) "slice" := ⟨os, hos, hcs⟩
  unfold getItem
  try with_reducible refine wpAny_holding ?_
  first | refine wpAny_bind (wpAny_pure ?_) | skip
  refine wpAny_bind (wpAny_sequenceKey ht.typeIs (by decide) ?_)
  refine wpAny_bind (wpAny_callSpecial?_slot (name := Str.ofString "__getitem__") ht.typeIs slot_tuple_getitem
    (wpAny_call_entry slot_tuple_getitem ht.typeIs entry_tuple_getitem ?_ (args_tuple_getitem _ _)))
  show wpAny _ _ (Builtin.Tuple.tupleItemsOf (.ref t) >>= _) _ _ s
  refine wpAny_bind (tupleItemsOf_ ht ?_)
  refine wpAny_bind (wpAny_typeOf hTs ?_)
  rw [if_pos (by decide)]
  refine wpAny_bind (rev_applied hs hi ?_)
  show wpAny _ _ (if ((1 : Int) == 0 && (-1 : Int) == 1 && 2 == 2) = true then _ else _) _ _ s
  rw [if_neg (by decide)]
  have e : ((List.range 2).filterMap fun (k : Nat) => (#[a, b] : Array Value)[((1 : Int) + (k : Int) * (-1)).toNat]?).toArray = #[b, a] := by rfl
  first
    | exact wpAny_bind (m := Builtin.Tuple.tupleExact _) (wpAny_newObj_type (wpAny_pure ⟨_, rfl, wpAny_pure h⟩) hdrop)
    | exact wpAny_bind (m := Builtin.Tuple.tupleExact _) (wpAny_newObj_type (wpAny_bind (wpAny_pure (wpAny_pure ⟨_, rfl, wpAny_pure h⟩))) hdrop)
    | exact wpAny_bind (wpAny_bind (m := Builtin.Tuple.tupleExact _) (wpAny_newObj_type (wpAny_pure (wpAny_pure ⟨_, rfl, wpAny_pure h⟩)) hdrop))
    | exact wpAny_bind (wpAny_bind (m := Builtin.Tuple.tupleExact _) (wpAny_newObj_type (wpAny_pure ⟨_, rfl, wpAny_pure h⟩) hdrop))
theorem rev_tail {value slice : PySem.Expr} {ops : List Value} {Q : Value → Shared → Prop}
    (F : Fr h₀ L s.heap m := by k_asm) (N : News h₀ L s.heap news := by k_asm) (hp : (t, ({ cls := .type "tuple", data := .seq #[a, b] n } : Obj)) ∈ news := by k_mem) (hi : i = -1 := by rfl)
    (h : ∀ D h', Fr h₀ L h' m → News h₀ L h' ((D, { cls := .type "tuple", data := .seq #[b, a] }) :: news) → (∀ p ∈ news, p.1 < D) → Q (.ref D) { s with heap := h' })
    (hs : subscripted slice false (.ref t) (.ref s.heap.objs.size) = operate ops (getItem (.ref t) (.ref s.heap.objs.size)) := by with_unfolding_all rfl)
    (hg : ∀ r, letTemporaryGo value (.ref t) r = pure () := by intro _; with_unfolding_all rfl) :
    wpAny (model prog w) A (subscriptTail value slice (.ref t) (.ref s.heap.objs.size)) Q E { s with heap := s.heap.push { cls := .type "slice", data := .fields #[.none, .none, .int i u] } } := by
  have ht : IsTup s.heap t #[a, b] := News.isTup N hp
  have ht' : IsTup (s.heap.push { cls := .type "slice", data := .fields #[.none, .none, .int i u] }) t #[a, b] := ht.keeps fun _ _ e => Heap.get?_push_of_some _ e
  refine subscriptTail_ops (s := { s with heap := s.heap.push { cls := .type "slice", data := .fields #[.none, .none, .int i u] } }) ht'.typeIs slot_tuple_getitem.lookup
    (rev_getItem ht' (Heap.IsSliceOf.new ..) hi ?_) hs hg
  have N1 := News.push (F.push { cls := .type "slice", data := .fields #[.none, .none, .int i u] }) (N.grown fun _ _ e => Heap.get?_push_of_some _ e) { cls := .type "tuple", data := .seq #[b, a] }
  rw [Heap.size_push] at N1
  show Q (.ref (s.heap.push _).objs.size) _
  rw [Heap.size_push]
  exact h _ _ ((F.push _).push _) N1 fun p hp => Nat.lt_succ_of_lt (Heap.lt_size (N p hp).1)
end

section
variable {prog : Program} {w : World} {A : Around} {E : Value → Shared → Prop} {s : Shared} {env : Env} {h₀ : Heap} {target : PySem.Expr} {body : List Stmt} {Q : Flow → Shared → Prop} {σ : Type}
def MyTurns (prog : Program) (w : World) (A : Around) (h₀ : Heap) (env : Env) (target : PySem.Expr) (body : List Stmt) (Q : Flow → Shared → Prop) (E : Value → Shared → Prop) (xv : Value) (s₁ : Shared) : Prop :=
  wpAny (model prog w) A (pyIter xv) (fun it s₂ => TurnsAt prog w A h₀ env target body Q E it s₂) E s₁
theorem my_ForT {iter : PySem.Expr} {pos : Pos} {m : Str → Option Value} (_F : Fr h₀ env.locals s.heap m := by k_asm)
    (h : wpAny (model prog w) A (eval iter env) (fun xv s₁ => MyTurns prog w A h₀ env target body Q E xv s₁) E s)
    (hs : ∀ x, foldedSetIterable iter env x = pure x := by intro _; rfl)
    (hE : PassesOwn (model prog w) A env E := by passes_own) :
    wpAny (model prog w) A (exec (.For target iter body [] pos) env) Q E s := For_turns _F h hs hE

theorem my_turns {s₁ : Shared} {I : Addr} {fp wr : List Addr} {n : Nat} {Pv : Nat → Value → Prop} {St : Nat → Heap → Prop} {m₀ : Str → Option Value} (Led : σ → LD) (ps : σ → List (Str × Value)) (stored : List Str) (P : Nat → σ → Prop) (rest : LD) (c₀ : σ)
    (W : Walks prog w A I fp wr n Pv St) (hgo : ∀ i v (s : Shared) (Q : Unit → Shared → Prop) (E : Value → Shared → Prop), St i s.heap → Q () s → wpAny (model prog w) A (letOwnedTupleGo target (.ref I) v) Q E s)
    (hwr : wr = [I]) (hIf : I ∈ fp) (hfp : ∀ b ∈ fp, b = I ∨ ∃ o, (b, o) ∈ rest) (hI0 : h₀.get? I = none) (hLI : env.locals ≠ I) (hob : ∀ i h, St i h → ∃ o, h.get? I = some o) (hoff : ∀ p ∈ Led c₀ ++ rest, p.1 ≠ I) (hst : St 0 s₁.heap)
    (F : Fr h₀ env.locals s₁.heap m₀) (N : News h₀ env.locals s₁.heap (Led c₀ ++ rest)) (hap : Apart (Led c₀) rest) (hk : ∀ p ∈ ps c₀, m₀ p.1 = some p.2) (hp : P 0 c₀)
    (turn : ∀ i v c rest' (u : Str → Option Value) h tk, i < n → Pv i v → (∀ p ∈ rest, p ∈ rest') → Apart (Led c) rest' → P i c → Fr h₀ env.locals h (frm stored (ps c) m₀ u) → News h₀ env.locals h (Led c ++ rest') →
      wpAny (model prog w) A (assign target env v) (fun _ s₃ => wpAny (model prog w) A (execs body env) (MyPost h₀ env.locals Led ps stored m₀ (P (i + 1)) rest' { s₁ with heap := h, toks := tk } Q) E s₃) E { s₁ with heap := h, toks := tk })
    (done : ∀ c (u : Str → Option Value) h tk, P n c → Apart (Led c) rest → Fr h₀ env.locals h (frm stored (ps c) m₀ u) → News h₀ env.locals h (Led c ++ rest) → Q .next { s₁ with heap := h, toks := tk }) :
    TurnsAt prog w A h₀ env target body Q E (.ref I) s₁ := by
  subst hwr
  refine ⟨I, fp, [I], n, _, _, St, m₀, Led c₀ ++ rest, (fun i m nx => ∃ c, nx = Led c ++ rest ∧ Apart (Led c) rest ∧ FrmOk stored (ps c) m₀ m ∧ P i c), rfl, KTurns.ofWalks W hgo, ?_, ?_, ?_, hst, F, N,
    ⟨c₀, rfl, hap, ⟨hk, fun _ _ _ => rfl⟩, hp⟩, ?_, ?_⟩
  · intro hm
    rcases hfp _ hm with e | ⟨o, ho⟩
    · exact hLI e
    · exact (N _ (List.mem_append.mpr (.inr ho))).2.1 rfl
  · intro b hb; rw [List.mem_singleton.mp hb]; exact hI0
  · intro p hp hb; exact hoff p hp (List.mem_singleton.mp hb)
  · rintro i v m₁ nx h₁ tk₁ own hi hP ⟨c, rfl, hap', hfm, hPc⟩ hnw hown hget hall hst' F₁ N₁
    rw [FrmOk.eq hfm] at F₁
    obtain ⟨oI, hoI⟩ := hob _ _ hst'
    have hIown : (I, oI) ∈ own := hall I hIf hI0 oI hoI
    have hap₁ : Apart (Led c) (rest ++ own) := by
      intro p hp q hq
      rcases List.mem_append.mp hq with hq | hq
      · exact hap' p hp q hq
      · rcases hfp _ (hown q hq) with e | ⟨o, ho⟩
        · intro e2
          exact hnw p (List.mem_append.mpr (.inl hp)) (List.mem_singleton.mpr (e2.symm.trans e))
        · exact hap' p hp (q.1, o) ho
    have N₂ : News h₀ env.locals h₁ (Led c ++ (rest ++ own)) := fun p hp => N₁ p (by
      rcases List.mem_append.mp hp with h | h
      · exact List.mem_append.mpr (.inr (List.mem_append.mpr (.inl h)))
      · rcases List.mem_append.mp h with h | h
        · exact List.mem_append.mpr (.inr (List.mem_append.mpr (.inr h)))
        · exact List.mem_append.mpr (.inl h))
    refine wpAny_mono (turn i v c (rest ++ own) m₁ h₁ tk₁ hi hP (fun p hp => List.mem_append.mpr (.inl hp)) hap₁ hPc F₁ N₂) (fun _ s₃ h₃ => wpAny_mono h₃ (fun f s₄ h₄ => ?_) fun _ _ e => e) fun _ _ e => e
    have fin : MyEnd h₀ env.locals Led ps stored m₀ (P (i + 1)) (rest ++ own) { s₁ with heap := h₁, toks := tk₁ } s₄ →
        LoopStepU h₀ env.locals [I] own (fun m nx => ∃ c, nx = Led c ++ rest ∧ Apart (Led c) rest ∧ FrmOk stored (ps c) m₀ m ∧ P (i + 1) c) { s₁ with heap := h₁, toks := tk₁ } .next s₄ := by
      rintro ⟨c', h', tk', m', news', rfl, F', N', hn', ha', hf', hP'⟩
      refine ⟨rfl, h', tk', m', Led c' ++ rest, rfl, F', fun p hp => N' p (hn' p ?_), fun p hp hb => ?_, c', rfl, fun p hp q hq => ha' p hp q (List.mem_append.mpr (.inl hq)), hf', hP'⟩
      · rcases List.mem_append.mp hp with h | h
        · exact List.mem_append.mpr (.inr (List.mem_append.mpr (.inr h)))
        · rcases List.mem_append.mp h with h | h
          · exact List.mem_append.mpr (.inl h)
          · exact List.mem_append.mpr (.inr (List.mem_append.mpr (.inl h)))
      · rcases List.mem_append.mp hp with h | h
        · exact ha' p h (I, oI) (List.mem_append.mpr (.inr hIown)) (List.mem_singleton.mp hb).symm
        · exact hnw p (List.mem_append.mpr (.inr h)) hb
    cases f with
    | ret v => exact .ret h₄
    | brk => exact .brk h₄
    | next => exact .next (fin h₄)
    | cont => exact .cont (fin h₄)
  · rintro h' tk m' nx F' N' _ ⟨c, rfl, hap', hfm, hPc⟩
    rw [FrmOk.eq hfm] at F'
    exact done c m' h' tk hPc hap' F' N'

theorem my_tup {s₁ : Shared} {t : Addr} {its : List Value} {nn : Nat} {m₀ : Str → Option Value} {news : LD} (Led : σ → LD) (ps : σ → List (Str × Value)) (stored : List Str) (P : Nat → σ → Prop) (rest : LD) (c₀ : σ)
    (hh : A.handled = none) (hl : (t, ({ cls := .type "tuple", data := .seq (List.toArray its) nn } : Obj)) ∈ rest) (F : Fr h₀ env.locals s₁.heap m₀) (N : News h₀ env.locals s₁.heap news) (hn : ∀ p ∈ Led c₀ ++ rest, p ∈ news) (hap : Apart (Led c₀) rest) (hk : ∀ p ∈ ps c₀, m₀ p.1 = some p.2) (hp : P 0 c₀)
    (turn : ∀ i v c rest' (u : Str → Option Value) h tk, its[i]? = some v → (∀ p ∈ rest, p ∈ rest') → Apart (Led c) rest' → P i c → Fr h₀ env.locals h (frm stored (ps c) m₀ u) → News h₀ env.locals h (Led c ++ rest') →
      wpAny (model prog w) A (assign target env v) (fun _ s₃ => wpAny (model prog w) A (execs body env) (MyPost h₀ env.locals Led ps stored m₀ (P (i + 1)) rest' { s₁ with heap := h, toks := tk } Q) E s₃) E { s₁ with heap := h, toks := tk })
    (done : ∀ c (u : Str → Option Value) h tk, P its.length c → Apart (Led c) rest → Fr h₀ env.locals h (frm stored (ps c) m₀ u) → News h₀ env.locals h (Led c ++ rest) → Q .next { s₁ with heap := h, toks := tk }) :
    MyTurns prog w A h₀ env target body Q E (.ref t) s₁ := by
  have hin : (t, ({ cls := .type "tuple", data := .seq (List.toArray its) nn } : Obj)) ∈ news := hn _ (List.mem_append.mpr (.inr hl))
  have hlt : s₁.heap.IsTuple t (List.toArray its) := ⟨_, (N _ hin).1, rfl, nn, rfl⟩
  have hne : t ≠ s₁.heap.objs.size := Nat.ne_of_lt (Heap.lt_size (N _ hin).1)
  refine wpAny_pyIter_tuple hlt ?_
  have W := Walks.tuple (prog := prog) (w := w) hh s₁.heap.objs.size t hne (List.toArray its)
  refine my_turns Led ps stored P rest c₀ W (fun i v s Q E st q => letGo_tupleiter st.1 q) rfl (.head _) ?_ (next_is_new F) (Nat.ne_of_lt F.ns.lt) (fun i h st => let ⟨o, ho, _⟩ := st.1; ⟨o, ho⟩)
    (fun p hp => Nat.ne_of_lt (Heap.lt_size (N p (hn p hp)).1)) ⟨⟨_, Heap.get?_push_size _ rfl, rfl, rfl⟩, hlt.at fun o e => Heap.get?_push_of_some _ e⟩ (F.push _) (fun p hp => ⟨Heap.get?_push_of_some _ (N p (hn p hp)).1, (N p (hn p hp)).2⟩) hap hk hp ?_ ?_
  · intro b hb
    rcases List.mem_cons.mp hb with e | hb
    · exact .inl e
    · exact .inr ⟨_, (List.mem_singleton.mp hb) ▸ hl⟩
  · intro i v c rest' u h tk hi hP
    exact turn i v c rest' u h tk (by simpa using hP)
  · intro c u h tk hP
    exact done c u h tk (by simpa using hP)

theorem my_range {s₁ : Shared} {r : Addr} {b₀ : Int} {t₀ u₀ v₀ : Tok} {n : Nat} {m₀ : Str → Option Value} {news : LD} {x : Str} {px : Pos} (Led : σ → LD) (ps : σ → List (Str × Value)) (stored : List Str) (P : Nat → σ → Prop) (rest : LD) (c₀ : σ)
    (hh : A.handled = none) (hr : IsRange s₁.heap r 0 b₀ 1 t₀ u₀ v₀) (hsmall : Builtin.Range.small 0 b₀ 1 = true) (hsz : Builtin.Range.rangeSize 0 b₀ 1 = (n : Int)) (F : Fr h₀ env.locals s₁.heap m₀) (N : News h₀ env.locals s₁.heap news) (hn : ∀ p ∈ Led c₀ ++ rest, p ∈ news) (hap : Apart (Led c₀) rest) (hk : ∀ p ∈ ps c₀, m₀ p.1 = some p.2) (hp : P 0 c₀)
    (turn : ∀ i t c rest' (u : Str → Option Value) h tk, i < n → (∀ p ∈ rest, p ∈ rest') → Apart (Led c) rest' → P i c → Fr h₀ env.locals h (frm stored (ps c) m₀ u) → News h₀ env.locals h (Led c ++ rest') →
      wpAny (model prog w) A (assign (.Name x px) env (.int (i : Nat) t)) (fun _ s₃ => wpAny (model prog w) A (execs body env) (MyPost h₀ env.locals Led ps stored m₀ (P (i + 1)) rest' { s₁ with heap := h, toks := tk } Q) E s₃) E { s₁ with heap := h, toks := tk })
    (done : ∀ c (u : Str → Option Value) h tk, P n c → Apart (Led c) rest → Fr h₀ env.locals h (frm stored (ps c) m₀ u) → News h₀ env.locals h (Led c ++ rest) → Q .next { s₁ with heap := h, toks := tk }) :
    MyTurns prog w A h₀ env (.Name x px) body Q E (.ref r) s₁ := by
  refine wpAny_pyIter_range hr hsmall ?_
  have W : Walks prog w A s₁.heap.objs.size [s₁.heap.objs.size] [s₁.heap.objs.size] n (fun i v => ∃ t, v = .int (0 + i * 1) t)
      (fun i h => IsRangeIter h s₁.heap.objs.size (0 + (i : Nat) * 1) ((n : Int) - (i : Nat)) 1) := Walks.range hh _ 0 1 n
  refine my_turns Led ps stored P rest c₀ W (fun i v s Q E st q => wpAny_pure q) rfl (.head _) (fun b hb => .inl (List.mem_singleton.mp hb)) (next_is_new F) (Nat.ne_of_lt F.ns.lt) (fun i h st => ⟨_, st⟩)
    (fun p hp => Nat.ne_of_lt (Heap.lt_size (N p (hn p hp)).1)) (by show IsRangeIter _ _ _ _ _; rw [hsz]; simpa using Heap.get?_push_size _ rfl) (F.push _) (fun p hp => ⟨Heap.get?_push_of_some _ (N p (hn p hp)).1, (N p (hn p hp)).2⟩) hap hk hp ?_ done
  rintro i v c rest' u h tk hi ⟨t, rfl⟩
  rw [show (0 : Int) + (i : Int) * 1 = (i : Int) by omega]
  exact turn i t c rest' u h tk hi
end
section
variable {prog : Program} {w : World} {A : Around} {E : Value → Shared → Prop} {s : Shared} {h₀ : Heap} {L l : Addr} {m : Str → Option Value} {news news' : LD} {vs : List Value} {ns : List Int} {n : Nat} {k : Int} {t : Tok} {x : Value}
theorem my_notIn {Q : Value → Shared → Prop} (N : News h₀ L s.heap news := by k_asm) (hp : (l, W.listOf (List.toArray vs) n) ∈ news := by k_mem) (hi : IntsAre vs ns := by assumption)
    (h : Q (.bool (!decide (k ∈ ns))) s) : wpAny (model prog w) A (compareOp .NotIn (.int k t) (.ref l)) Q E s := by
  refine notin_list_ints (ns := ns) ⟨_, (N _ hp).1, rfl, n, rfl⟩ hi ?_
  have e : (ns.any (· == k)) = decide (k ∈ ns) := by
    rw [Bool.eq_iff_iff, List.any_eq_true, decide_eq_true_eq]
    constructor
    · rintro ⟨y, hy, e⟩; rw [← eq_of_beq e]; exact hy
    · intro hk; exact ⟨k, hk, beq_self_eq_true _⟩
  rw [e]; exact h
theorem my_in {Q : Value → Shared → Prop} (N : News h₀ L s.heap news := by k_asm) (hp : (l, W.listOf (List.toArray vs) n) ∈ news := by k_mem) (hi : IntsAre vs ns := by assumption)
    (h : Q (.bool (decide (k ∈ ns))) s) : wpAny (model prog w) A (compareOp .In (.int k t) (.ref l)) Q E s := by
  refine in_list_ints (ns := ns) ⟨_, (N _ hp).1, rfl, n, rfl⟩ hi ?_
  have e : (ns.any (· == k)) = decide (k ∈ ns) := by
    rw [Bool.eq_iff_iff, List.any_eq_true, decide_eq_true_eq]
    constructor
    · rintro ⟨y, hy, e⟩; rw [← eq_of_beq e]; exact hy
    · intro hk; exact ⟨k, hk, beq_self_eq_true _⟩
  rw [e]; exact h
theorem my_append {Q : Value → Shared → Prop} (F : Fr h₀ L s.heap m := by k_asm) (N : News h₀ L s.heap news := by k_asm) (U : Upd l (W.listOf (List.toArray vs) n) (W.listOf (List.toArray (vs ++ [x])) (n + 1)) news news' := by k_upd) (hz : vs.length ≤ 100000 := by omega)
    (h : ∀ h', Fr h₀ L h' m → News h₀ L h' news' → Q .none { s with heap := h' }) : wpAny (model prog w) A (call (.builtin "list.append") [.ref l, x]) Q E s := by
  refine append_K (its := List.toArray vs) (n := n) F N (by rw [List.push_toArray]; exact U) h ?_
  rw [sizeLine_eq, List.size_toArray]; omega
end
section
variable {prog : Program} {w : World} {A : Around} {E : Value → Shared → Prop} {s : Shared} {env : Env} {h₀ : Heap} {target : PySem.Expr} {body : List Stmt} {Q : Flow → Shared → Prop} {σ : Type}
/-- the same over a written tuple of two, with one more made object beside it -/
theorem my_tup2 {s₁ : Shared} {t : Addr} {v1 v2 : Value} {nn : Nat} {m₀ : Str → Option Value} {p2 q : Addr × Obj} {rest0 : LD} (F : Fr h₀ env.locals s₁.heap m₀) (N : News h₀ env.locals s₁.heap ((t, ({ cls := .type "tuple", data := .seq (List.toArray [v1, v2]) nn } : Obj)) :: p2 :: q :: rest0))
    (Led : σ → LD) (ps : σ → List (Str × Value)) (stored : List Str) (P : Nat → σ → Prop) (c₀ : σ) (hh : A.handled = none) (hc : Led c₀ = [q]) (h1 : t ≠ q.1) (h2 : p2.1 ≠ q.1) (h3 : ∀ p ∈ rest0, p.1 ≠ q.1) (hk : ∀ p ∈ ps c₀, m₀ p.1 = some p.2) (hp : P 0 c₀)
    (turn : ∀ i v c rest' (u : Str → Option Value) h tk, [v1, v2][i]? = some v → (∀ p ∈ (t, ({ cls := .type "tuple", data := .seq (List.toArray [v1, v2]) nn } : Obj)) :: p2 :: rest0, p ∈ rest') → Apart (Led c) rest' → P i c → Fr h₀ env.locals h (frm stored (ps c) m₀ u) → News h₀ env.locals h (Led c ++ rest') →
      wpAny (model prog w) A (assign target env v) (fun _ s₃ => wpAny (model prog w) A (execs body env) (MyPost h₀ env.locals Led ps stored m₀ (P (i + 1)) rest' { s₁ with heap := h, toks := tk } Q) E s₃) E { s₁ with heap := h, toks := tk })
    (done : ∀ c (u : Str → Option Value) h tk, P 2 c → Apart (Led c) rest0 → Fr h₀ env.locals h (frm stored (ps c) m₀ u) → News h₀ env.locals h (Led c ++ rest0) → Q .next { s₁ with heap := h, toks := tk }) :
    MyTurns prog w A h₀ env target body Q E (.ref t) s₁ := by
  refine my_tup (its := [v1, v2]) Led ps stored P ((t, ({ cls := .type "tuple", data := .seq (List.toArray [v1, v2]) nn } : Obj)) :: p2 :: rest0) c₀ hh (.head _) F N ?_ ?_ hk hp turn ?_
  · intro p hp
    rw [hc] at hp
    rcases List.mem_append.mp hp with h | h
    · rw [List.mem_singleton.mp h]; exact .tail _ (.tail _ (.head _))
    · rcases List.mem_cons.mp h with rfl | h
      · exact .head _
      · rcases List.mem_cons.mp h with rfl | h
        · exact .tail _ (.head _)
        · exact .tail _ (.tail _ (.tail _ h))
  · intro p hp z hz
    rw [hc] at hp
    rw [List.mem_singleton.mp hp]
    rcases List.mem_cons.mp hz with rfl | hz
    · exact h1
    · rcases List.mem_cons.mp hz with rfl | hz
      · exact h2
      · exact h3 z hz
  · intro c u h tk hP ha F' N'
    refine done c u h tk hP (fun p hp z hz => ha p hp z (.tail _ (.tail _ hz))) F' fun p hp => N' p ?_
    rcases List.mem_append.mp hp with h | h
    · exact List.mem_append.mpr (.inl h)
    · exact List.mem_append.mpr (.inr (.tail _ (.tail _ h)))
end
theorem ints_snoc : ∀ {vs : List Value} {ns : List Int} {y : Int} {t : Tok}, IntsAre vs ns → IntsAre (vs ++ [Value.int y t]) (ns ++ [y])
  | _, _, _, _, .nil => .cons _ _ .nil
  | _, _, _, _, .cons _ _ h => .cons _ _ (ints_snoc h)
/-- lists of three ints, of the ledger -/
inductive ThreesAre (news : LD) : List Value → List (Int × Int × Int) → Prop
  | nil : ThreesAre news [] []
  | cons {a : Addr} {x y z : Int} {t u v : Tok} {n : Nat} {vs : List Value} {gs : List (Int × Int × Int)} : (a, W.listOf (List.toArray [.int x t, .int y u, .int z v]) n) ∈ news → ThreesAre news vs gs → ThreesAre news (.ref a :: vs) ((x, y, z) :: gs)
theorem ThreesAre.mono {news news' : LD} {vs : List Value} {gs : List (Int × Int × Int)} (h : ThreesAre news vs gs) (hs : ∀ p ∈ news, p ∈ news') : ThreesAre news' vs gs := by
  induction h with
  | nil => exact .nil
  | cons hm _ ih => exact .cons (hs _ hm) ih
theorem ThreesAre.length {news : LD} {vs : List Value} {gs : List (Int × Int × Int)} (h : ThreesAre news vs gs) : vs.length = gs.length := by
  induction h with
  | nil => rfl
  | cons _ _ ih => simp [ih]
theorem ThreesAre.get {news : LD} {vs : List Value} {gs : List (Int × Int × Int)} (h : ThreesAre news vs gs) : ∀ {i : Nat} {v : Value}, vs[i]? = some v →
    ∃ a x y z t u w n, gs[i]? = some (x, y, z) ∧ v = .ref a ∧ (a, W.listOf (List.toArray [.int x t, .int y u, .int z w]) n) ∈ news := by
  induction h with
  | nil => intro i v hv; simp at hv
  | @cons a x y z t u w n vs gs hm _ ih =>
    intro i v hv
    cases i with
    | zero => exact ⟨a, x, y, z, t, u, w, n, rfl, (Option.some.inj hv).symm, hm⟩
    | succ i => exact ih hv
def ThreesL (news : LD) (l : Addr) (gs : List (Int × Int × Int)) : Prop := ∃ vs n, (l, W.listOf (List.toArray vs) n) ∈ news ∧ ThreesAre news vs gs
theorem ThreesL.mono {news news' : LD} {l : Addr} {gs : List (Int × Int × Int)} (h : ThreesL news l gs) (hs : ∀ p ∈ news, p ∈ news') : ThreesL news' l gs := by
  obtain ⟨vs, n, a, b⟩ := h
  exact ⟨vs, n, hs _ a, b.mono hs⟩

section
open PyProof.Rows.LCg PyProof.Rows.LCp
variable {prog : Program} {w : World} {A : Around} {E : Value → Shared → Prop} {s : Shared} {h₀ : Heap} {L : Addr} {m : Str → Option Value} {env : Env}
theorem ThreesL.up {news news' : LD} {l : Addr} {gs : List (Int × Int × Int)} (h : ThreesL news l gs := by assumption) (hs : ∀ p ∈ news, p ∈ news' := by walk_at "SUB") : ThreesL news' l gs := h.mono hs
noncomputable def swap2 (p : Int × Int) : Int × Int := (p.2, p.1)
theorem swap_rest {scope : Scope} {news : LD} {al : Addr} {va : List Value} {na : Nat} {ps : List (Int × Int)} {Q : Value → Shared → Prop} {p1 p2 pt : Pos} {kt : Nat}
    (hm : (al, W.listOf (List.toArray va) na) ∈ news) (hi : PairsAre news va ps)
    (hka : (compEnvC scope [] L env).kindOf (Str.ofString "a") = some .local) (hkb : (compEnvC scope [] L env).kindOf (Str.ofString "b") = some .local) (hkf : (compEnvC scope [] L env).scope.kind = .function)
    (h : ∀ D (ws : List Value) h' tk news', Fr h₀ L h' m → News h₀ L h' ((D, W.listOf (List.toArray ws) ws.length) :: news') → (∀ p ∈ news, p ∈ news') → PairsAre news' ws (ps.map swap2) → (∀ p ∈ news', p.1 ≠ D) → Q (.ref D) { s with heap := h', toks := tk }) :
    ∀ k i ys news', i + k = va.length → (∀ p ∈ news, p ∈ news') → PairsAre news' ys ((ps.take i).map swap2) →
      CompRestP prog w A h₀ L m env (.Tuple [.Name (Str.ofString "b") p1, .Name (Str.ofString "a") p2] kt pt) (Str.ofString "a") (Str.ofString "b") scope [] s (SrcAt h₀ al (List.toArray va)) (fun i v => (List.toArray va)[i]? = some v) (FinE h₀ L m s Q) k i ys news'
  | 0, i, ys, news', hk, hs, hp => by
    have hi' : i = va.length := by omega
    refine CompRestP.zero ?_
    intro D h' tk F' N' off
    have e : ps.take i = ps := List.take_of_length_le (by rw [hi', hi.length]; exact Nat.le_refl _)
    rw [e] at hp
    refine h D ys h' tk news' F' N' hs hp ?_
    have : ∀ {l : LD}, Off1 D l → ∀ p ∈ l, p.1 ≠ D := by
      intro l
      induction l with
      | nil => intro _ p hp; cases hp
      | cons q r ih =>
        intro ho p hp
        rcases List.mem_cons.mp hp with rfl | hp
        · exact ho.1
        · exact ih ho.2 p hp
    exact this off
  | k + 1, i, ys, news', hk, hs, hp => by
    refine CompRestP.succ fun v hv => ?_
    have hv' : va[i]? = some v := by simpa using hv
    obtain ⟨q, x, y, t, u, n, hpi, rfl, hqm⟩ := hi.get hv'
    refine ⟨q, _, .int x t, .int y u, n, rfl, hs _ hqm, rfl, rfl, ?_⟩
    intro I oI C oC D m₂ hh tk E' hns h1 h2 F' N' off ne
    have hC : hh.Ns C m₂ := hns.ns (N' _ (.tail _ (.head _))).1
    have hka' : (compEnvC scope [] C env).kindOf (Str.ofString "a") = some .local := hka
    have hkb' : (compEnvC scope [] C env).kindOf (Str.ofString "b") = some .local := hkb
    have hkf' : (compEnvC scope [] C env).scope.kind = .function := hkf
    refine Tuple_ (args_cons (wpAny_Name (wpAny_loadName_local hkf' hkb' hC h2 (args_cons (wpAny_Name (wpAny_loadName_local hkf' hka' hC h1 (args_nil ?_)) (by decide)))) (by decide)))
    have hlen : ([Value.int y u, Value.int x t] : List Value).length ≤ sizeLine := by
      show 2 ≤ sizeLine
      rw [sizeLine_eq]; decide
    refine newTuple_N F' N' (fun h' F₂ N₂ => ?_) hlen
    have hlt : ∀ p ∈ (I, oI) :: (C, oC) :: (D, lst ys) :: news', p.1 < hh.objs.size := fun p hp => Heap.lt_size (N' p hp).1
    have hoff := off.mem
    refine CompEnd.intro F₂ N₂ ((hh.objs.size, { cls := .type "tuple", data := .seq [Value.int y u, Value.int x t].toArray }) :: news') ?_ ?_ (.inr ⟨_, .tail _ (hs _ hm), rfl, _, rfl⟩) ?_
    · intro p hp
      rcases List.mem_cons.mp hp with rfl | hp
      · exact .tail _ (.head _)
      · rcases List.mem_cons.mp hp with rfl | hp
        · exact .tail _ (.tail _ (.head _))
        · rcases List.mem_cons.mp hp with rfl | hp
          · exact .tail _ (.tail _ (.tail _ (.head _)))
          · rcases List.mem_cons.mp hp with rfl | hp
            · exact .head _
            · exact .tail _ (.tail _ (.tail _ (.tail _ hp)))
    · refine Off3.of fun p hp => ?_
      rcases List.mem_cons.mp hp with rfl | hp
      · exact ⟨Nat.ne_of_gt (hlt _ (.head _)), Nat.ne_of_gt (hlt _ (.tail _ (.head _))), Nat.ne_of_gt (hlt _ (.tail _ (.tail _ (.head _))))⟩
      · exact hoff p hp
    · refine swap_rest hm hi hka hkb hkf h k (i + 1) _ _ (by omega) (fun p hp => .tail _ (hs p hp)) ?_
      rw [List.take_add_one, hpi, List.map_append]
      exact (hp.mono fun p hp => .tail _ hp).append (.cons (.head _) .nil)
theorem swap_comp {scope : Scope} {news : LD} {al : Addr} {va : List Value} {na : Nat} {ps : List (Int × Int)} {Q : Value → Shared → Prop} {p1 p2 p3 p4 p5 pt pt2 pos : Pos} {kt kt2 : Nat}
    (F : Fr h₀ L s.heap m := by k_asm) (N : News h₀ L s.heap news := by k_asm) (hLe : env.locals = L := by exact rfl) (hh : A.handled = none := by exact rfl) (hek : env.scope.kind = .function := by exact rfl) (hel : env.kindOf (Str.ofString "apart") = some .local := by exact rfl) (hv : m (Str.ofString "apart") = some (.ref al) := by with_unfolding_all rfl)
    (hm : (al, W.listOf (List.toArray va) na) ∈ news := by k_mem) (hi : PairsAre news va ps := by first | assumption | exact PairsAre.mono (by assumption) (by walk_at "SUB")) (hlen : va.length ≤ 100000 := by omega)
    (hclos : closureFor scope env = pure [] := by with_unfolding_all rfl) (hcell : ∀ y ∈ scope.names, y.2 ≠ .cell := by decide) (hkind : scope.kind = .function := by exact rfl)
    (hnames : ∀ y ∈ scope.names, y.2 = .local → scope.names.lookup y.1 = some .local := by decide) (hx : scope.names.lookup (Str.ofString "a") = some .local := by exact rfl) (hx₂ : scope.names.lookup (Str.ofString "b") = some .local := by exact rfl)
    (hka : (compEnvC scope [] L env).kindOf (Str.ofString "a") = some .local := by exact rfl) (hkb : (compEnvC scope [] L env).kindOf (Str.ofString "b") = some .local := by exact rfl) (hkf : (compEnvC scope [] L env).scope.kind = .function := by exact rfl)
    (h : ∀ D (ws : List Value) h' tk news', Fr h₀ L h' m → News h₀ L h' ((D, W.listOf (List.toArray ws) ws.length) :: news') → (∀ p ∈ news, p ∈ news') → PairsAre news' ws (ps.map swap2) → (∀ p ∈ news', p.1 ≠ D) → Q (.ref D) { s with heap := h', toks := tk }) :
    wpAny (model prog w) A (eval (.ListComp (.Tuple [.Name (Str.ofString "b") p1, .Name (Str.ofString "a") p2] kt pt) [⟨.Tuple [.Name (Str.ofString "a") p3, .Name (Str.ofString "b") p4] kt2 pt2, .Name (Str.ofString "apart") p5, [], 0⟩] scope pos) env) Q E s := by
  subst hLe
  refine ListComp_P F hclos hcell hkind hnames hx hx₂ (by decide) (wpAny_Name (wpAny_loadName_local hek hel F.ns hv ?_) (by decide)) (by intro _; rfl)
  refine SrcLP.ledger hh F N hm (by rw [sizeLine_eq, List.size_toArray]; omega) fun g => ?_
  refine swap_rest (s := { s with heap := g }) hm hi hka hkb hkf (fun D ws h' tk news' => h D ws h' tk news') (List.toArray va).size 0 [] news (by simp) (fun p hp => hp) .nil
theorem mem_lift {x : Addr × Obj} {A B : LD} (h : x ∈ A) (hs : ∀ p ∈ A, p ∈ B) : x ∈ B := hs x h
end
theorem sub_trans {A B C : LD} (h : ∀ p ∈ A, p ∈ B) (k : ∀ p ∈ B, p ∈ C) : ∀ p ∈ A, p ∈ C := fun p hp => k p (h p hp)
theorem find_nodup : ∀ {c : List (Int × Int)} {k v : Int}, (c.map (·.1)).Nodup → (k, v) ∈ c → (c.find? fun p => decide (p.1 = k)) = some (k, v)
  | [], _, _, _, h => nomatch h
  | q :: c, k, v, hn, h => by
    rw [List.map_cons, List.nodup_cons] at hn
    rw [List.find?_cons]
    rcases List.mem_cons.mp h with rfl | h
    · simp
    · have hne : ¬ q.1 = k := fun e => hn.1 (e ▸ List.mem_map.mpr ⟨_, h, rfl⟩)
      rw [decide_eq_false hne]
      exact find_nodup hn.2 h
theorem rows_self {c : List (Int × Int)} (hn : (c.map (·.1)).Nodup) : ∀ d : List (Int × Int), (∀ p ∈ d, p ∈ c) → KeqRows (kdfD c) (kdfD d) true
  | [], _ => .nil
  | (k, v) :: d, h => by
    have hl : PySem.Spec.lookup (PyData.int k) (kdfD c) = some (PyData.int v) := by
      rw [kdfD_lookup, find_nodup hn (h _ (.head _))]; rfl
    have e : (PyData.eqv (PyData.int v) (PyData.int v) && true) = true := by simp [PyData.eqv]
    have := KeqRows.hit (v := PyData.int v) hl (rows_self hn d fun p hp => h p (.tail _ hp))
    rw [e] at this
    exact this
section
variable {prog : Program} {w : World} {A : Around} {E : Value → Shared → Prop} {s : Shared} {h₀ : Heap} {L a b : Addr} {news : LD} {oa ob : Obj} {ka kb : List (Int × Value)} {c : List (Int × Int)}
theorem my_dictEq {Q : Value → Shared → Prop} (N : News h₀ L s.heap news := by k_asm) (pa : (a, oa) ∈ news := by k_mem) (pb : (b, ob) ∈ news := by first | k_mem | (refine List.mem_cons_of_mem _ (mem_sub (by assumption) ?_); k_mem)) (la : (a == sysModules) = false := by assumption) (lb : (b == sysModules) = false := by assumption) (da : oa.IsDictOf (PySem.intKind prog w) ka := by assumption) (db : ob.IsDictOf (PySem.intKind prog w) kb := by assumption)
    (fa : FlatPairs PyData.int ka (kdfD c) := by assumption) (fb : FlatPairs PyData.int kb (kdfD c) := by assumption) (hn : (c.map (·.1)).Nodup := by assumption) (hu : A.units < cLine := by ktr_units) (h : Q (.bool true) s) : wpAny (model prog w) A (compareOp .Eq (.ref a) (.ref b)) Q E s :=
  keq_tabs (knd := PySem.intKind prog w) (enc := PyData.int) PyProof.V.same_int (TabAt.ofNews N pa la da fa) (TabAt.ofNews N pb lb db fb) rfl hu (rows_self hn c fun _ h => h) h
end
theorem mem_sub {x : Addr × Obj} {A B : LD} (hs : ∀ p ∈ A, p ∈ B) (h : x ∈ A) : x ∈ B := hs x h

end
local macro_rules | `(tactic| walk_at "getItem ref int") => `(tactic| (k_here; kdf_here; k_dflt (refine' my_getItem (h := ?_); k_whole); intro _))
local macro_rules | `(tactic| walk_at "MYFOR") => `(tactic| (k_here; k_dflt (refine' my_For (h := ?_); k_whole)))
local macro_rules | `(tactic| walk_at "MYFORT") => `(tactic| (k_here; k_dflt (refine' my_ForT (h := ?_); k_whole)))
local macro_rules | `(tactic| walk_at "exec For Name Attribute cons nil") => `(tactic| walk_at "MYFOR")
local macro_rules | `(tactic| walk_at "exec For Name Name cons nil") => `(tactic| walk_at "MYFOR")
local macro_rules | `(tactic| walk_at "exec For Tuple Name cons nil") => `(tactic| walk_at "MYFOR")
local macro_rules | `(tactic| walk_at "exec For Tuple Subscript cons nil") => `(tactic| walk_at "MYFOR")
local macro_rules | `(tactic| walk_at "exec For Name ListComp cons nil") => `(tactic| walk_at "MYFOR")
local macro_rules | `(tactic| walk_at "exec For Tuple Tuple cons nil") => `(tactic| walk_at "MYFORT")
local macro_rules | `(tactic| walk_at "exec For Name Call cons nil") => `(tactic| walk_at "MYFORT")
local macro_rules | `(tactic| k_mem) => `(tactic| assumption)
local macro_rules | `(tactic| k_memK) => `(tactic| assumption)
local macro_rules | `(tactic| k_all) => `(tactic| assumption)
local macro_rules | `(tactic| k_room) => `(tactic| ktr_room)
local macro_rules | `(tactic| walk_at "getItem ref int") => `(tactic| (k_here; k_dflt (refine' my_getItemL (h := ?_); k_whole)))
local macro_rules | `(tactic| walk_at "SUB") => `(tactic| first | exact fun _ h => h | assumption | (refine sub_tail ?_; walk_at "SUB") | (refine sub_trans ?_ (by assumption); walk_at "SUB"))
local macro_rules | `(tactic| walk_at "CLO") => `(tactic| first | assumption | exact CloIn.up)
local macro_rules | `(tactic| walk_at "INTD") => `(tactic| first | assumption | exact IntD.up)
local macro_rules | `(tactic| walk_at "INTL") => `(tactic| first | assumption | exact IntL.up)
local macro_rules | `(tactic| walk_at "BANK") => `(tactic| first | assumption | exact BankIn.up)
local macro_rules | `(tactic| walk_at "THREES") => `(tactic| first | assumption | exact ThreesL.up)
local macro_rules | `(tactic| walk_at "PAIRS") => `(tactic| first | exact PairsL.nil0 | assumption | exact PairsL.up | exact PairsL.top | exact PairsL.nilm)
local macro_rules | `(tactic| walk_at "MyPost") => `(tactic| (dsimp only [MyPost]))
local macro_rules | `(tactic| walk_at "subscriptTail") => `(tactic| (k_here; (with_reducible show wpAny _ _ (subscriptTail _ _ (Value.ref _) (Value.int _ _)) _ _ _); k_dflt (refine' my_itemL (h := ?_); k_whole)))
local macro_rules | `(tactic| walk_at "compareOp In str ref") => `(tactic| (k_here; k_dflt (refine' my_inV (h := ?_); k_whole)))
local macro_rules | `(tactic| walk_at "call builtin:len") => `(tactic| (k_here; k_dflt (refine' my_len (h := ?_); k_whole)))
local macro_rules | `(tactic| walk_at "subscriptTail Name Slice ref ref") => `(tactic| (k_here; k_dflt (refine' rev_tail (h := ?_); k_whole); intro D' h' F' N' l1; (try k_lt l1)))
local macro_rules | `(tactic| walk_at "compareOp NotIn int ref") => `(tactic| (k_here; k_dflt (refine' my_notIn (h := ?_); k_whole)))
local macro_rules | `(tactic| walk_at "compareOp In int ref") => `(tactic| (k_here; k_dflt (refine' my_in (h := ?_); k_whole)))
local macro_rules | `(tactic| walk_at "call builtin:list.append") => `(tactic| (k_here; k_dflt (refine' my_append (h := ?_); k_whole); intro h' F' N'))
local macro_rules | `(tactic| walk_at "eval ListComp") => `(tactic| (k_here; k_dflt (refine' swap_comp (h := ?_); k_whole); intro D' ws' h' tk' news' F' N' hs' hp' hd'))
local macro_rules | `(tactic| walk_at "compareOp Eq ref ref") => `(tactic| (k_here; k_dflt (refine' my_dictEq (h := ?_); k_whole)))

section
set_option genInjectivity true in
/-- what a key of the bank's table of terms holds -/
inductive KI
  | int (i : Int)
  | str (x : Str)
  | tup (l : List Int)
  deriving DecidableEq
inductive KY
  | num (s a b : Int)
  | oth (op : Str) (s d : Int)
  deriving DecidableEq
noncomputable def KY.items : KY → List KI
  | .num s a b => [.str (Str.ofString "num"), .tup [], .int s, .tup [a, b]]
  | .oth op s d => [.str op, .tup [], .int s, .int d]
def KY.ok : KY → Prop
  | .num _ _ _ => True
  | .oth op _ _ => op ≠ Str.ofString "num"
theorem KY.inj : ∀ {x y : KY}, x.items = y.items → x = y
  | .num s a b, .num s' a' b', h => by simp only [KY.items, List.cons.injEq, KI.int.injEq, KI.tup.injEq] at h; obtain ⟨_, _, rfl, ⟨rfl, rfl, _⟩, _⟩ := h; rfl
  | .oth op s d, .oth op' s' d', h => by simp only [KY.items, List.cons.injEq, KI.int.injEq, KI.str.injEq] at h; obtain ⟨rfl, _, rfl, rfl, _⟩ := h; rfl
  | .num _ _ _, .oth _ _ _, h => by simp [KY.items] at h
  | .oth _ _ _, .num _ _ _, h => by simp [KY.items] at h
section
variable (prog : Program) (w : World)
def ItIs (h : Heap) : KI → Value → Prop
  | .int i, v => (PySem.intKind prog w).is i v = true
  | .str x, v => (PySem.strKind prog w).is x v = true
  | .tup l, v => ∃ a, v = .ref a ∧ IsTupleKey (PySem.intKind prog w) h l a
inductive MixAre (h : Heap) : List KI → List Value → Prop
  | nil : MixAre h [] []
  | cons {k : KI} {v : Value} {ks : List KI} {vs : List Value} : ItIs prog w h k v → MixAre h ks vs → MixAre h (k :: ks) (v :: vs)
def IsMix (h : Heap) (ks : List KI) (a : Addr) : Prop := ∃ o items n, h.get? a = some o ∧ o.cls = .type "tuple" ∧ o.data = .seq items n ∧ MixAre prog w h ks items.toList
noncomputable def KI.hash : KI → Int
  | .int i => (PySem.intKind prog w).hash i
  | .str x => (PySem.strKind prog w).hash x
  | .tup l => tupleKeyHash (PySem.intKind prog w) l
noncomputable def KI.draws : KI → Nat
  | .int _ => 1
  | .str _ => 1
  | .tup l => l.length + 1
noncomputable def mixHash (ks : List KI) : Int := reduceHash (Builtin.Tuple.tupleHashOf (ks.map (KI.hash prog w)))
end
section
variable {prog : Program} {w : World} {A : Around} {E : Value → Shared → Prop} {s : Shared}
theorem IsMix.typeIs {ks : List KI} {a : Addr} (x : IsMix prog w s.heap ks a) : s.TypeIs (.ref a) "tuple" := let ⟨o, _, _, ho, hc, _⟩ := x; ⟨o, ho, hc⟩
theorem ItIs.keeps {h h' : Heap} {k : KI} {v : Value} {d : Addr} {o : Obj} {es ep} (x : ItIs prog w h k v) (ho : h.get? d = some o) (hd : o.data = .dict es ep) (hs : Heap.SameBut d h h') : ItIs prog w h' k v := by
  cases k with
  | int i => exact x
  | str y => exact x
  | tup l => obtain ⟨a, e, y⟩ := x; exact ⟨a, e, y.keeps ho hd hs⟩
theorem MixAre.keeps {h h' : Heap} {ks : List KI} {vs : List Value} {d : Addr} {o : Obj} {es ep} (x : MixAre prog w h ks vs) (ho : h.get? d = some o) (hd : o.data = .dict es ep) (hs : Heap.SameBut d h h') : MixAre prog w h' ks vs := by
  induction x with
  | nil => exact .nil
  | cons h1 _ ih => exact .cons (h1.keeps ho hd hs) ih
theorem IsMix.keeps {h h' : Heap} {ks : List KI} {a d : Addr} {o : Obj} {es ep} (x : IsMix prog w h ks a) (ho : h.get? d = some o) (hd : o.data = .dict es ep) (hs : Heap.SameBut d h h') : IsMix prog w h' ks a := by
  obtain ⟨o', items, n, ho', hc, hd', hi⟩ := x
  have hne : a ≠ d := by
    rintro rfl
    obtain rfl : o' = o := Option.some.inj (ho'.symm.trans ho)
    rw [hd] at hd'; exact nomatch hd'
  exact ⟨o', items, n, (hs.2 a hne).trans ho', hc, hd', hi.keeps ho hd hs⟩
theorem wpAny_pyHash_item {k : KI} {v : Value} {Q : Int → Shared → Prop} (hu : A.units < cLine) (hk : ItIs prog w s.heap k v) (h : Q (k.hash prog w) { s with toks := s.toks + k.draws }) : wpAny (model prog w) A (pyHash v) Q E s := by
  cases k with
  | int i => exact (PySem.intKind prog w).pyHash hk h
  | str x => exact (PySem.strKind prog w).pyHash hk h
  | tup l => obtain ⟨a, rfl, hk⟩ := hk; exact wpAny_pyHash_tuple hu hk h
theorem wpAny_pyHash_mix {ks : List KI} {a : Addr} {Q : Int → Shared → Prop} (hu : A.units + 8 < cLine) (hk : IsMix prog w s.heap ks a) (h : Q (mixHash prog w ks) { s with toks := s.toks + ((ks.map KI.draws).sum + 1) }) :
    wpAny (model prog w) A (pyHash (.ref a)) Q E s := by
  have hT := hk.typeIs
  obtain ⟨o, items, n, ho, _, hd, hi⟩ := hk
  unfold pyHash
  first | unfold pyHashByItsType | skip
  first | refine wpAny_bind (wpAny_cRoomFor_or (.inr (by omega)) ?_) | skip
  refine wpAny_bind (wpAny_specialOf hT F.slot_tuple_hash.lookup ?_)
  show wpAny _ _ (if (some (Value.builtin "tuple.__hash__") == some Value.none) = true then _ else _) Q E s
  rw [if_neg (by rw [beq_builtin_none]; exact Bool.false_ne_true)]
  refine wpAny_bind (wpAny_specialOf hT F.slot_tuple_hash.lookup ?_)
  show wpAny _ _ (callSpecialIfBoundUnlessNone? (.ref a) "__hash__" _ >>= _) Q E s
  refine wpAny_bind (wpAny_callSpecialIfBoundUnlessNone?_slot hT F.slot_tuple_hash (wpAny_call_entry F.slot_tuple_hash hT F.entry_tuple_hash ?_ (F.args_tuple_hash_1 _)))
  show wpAny _ _ (Builtin.Tuple.tupleItemsOf (.ref a) >>= _) _ _ s
  refine wpAny_bind (PySem.wpAny_tupleItemsOf ho hd ?_)
  refine wpAny_bind ?_
  rw [← Array.forIn_toList]
  refine wpAny_forIn_list _
    (fun rest (b : Array Int) s' => ∃ done left, ks = done ++ left ∧ MixAre prog w s.heap left rest ∧ b.toList = done.map (KI.hash prog w) ∧ s' = { s with toks := s.toks + (done.map KI.draws).sum })
    _ ?_ ?_ _ _ ⟨[], ks, rfl, hi, rfl, rfl⟩
  · rintro x rest b s' ⟨done, left, rfl, hl, hb, rfl⟩
    cases hl with
    | @cons k _ ks' _ h1 hl' =>
      refine wpAny_bind (wpAny_pyHash_item (s := { s with toks := _ }) (by first | exact Nat.lt_of_le_of_lt (by simp) hu | (simp only [Around.in1_units]; omega)) h1 ?_)
      first
        | exact wpAny_pure ⟨done ++ [k], ks', by simp, hl', by simp [hb], by simp [Nat.add_assoc]⟩
        | exact wpAny_bind (wpAny_pure (wpAny_pure ⟨done ++ [k], ks', by simp, hl', by simp [hb], by simp [Nat.add_assoc]⟩))
  · rintro b s' ⟨done, left, rfl, hl, hb, rfl⟩
    cases hl
    rw [List.append_nil] at h
    show wpAny _ _ (retInt (Builtin.Tuple.tupleHashOf b.toList)) _ _ _
    rw [hb]
    refine wpAny_ret_mkInt ?_
    show wpAny _ _ (if (decide (-(2 : Int) ^ 63 ≤ Builtin.Tuple.tupleHashOf (done.map (KI.hash prog w))) && decide (Builtin.Tuple.tupleHashOf (done.map (KI.hash prog w)) < 2 ^ 63)) = true then _ else _) Q E _
    unfold mixHash reduceHash at h
    by_cases hr : (decide (-(2 : Int) ^ 63 ≤ Builtin.Tuple.tupleHashOf (done.map (KI.hash prog w))) && decide (Builtin.Tuple.tupleHashOf (done.map (KI.hash prog w)) < 2 ^ 63)) = true
    · rw [if_pos hr]
      rw [if_pos hr] at h
      exact wpAny_pure (by simpa [Nat.add_assoc] using h)
    · rw [if_neg hr]
      rw [if_neg hr] at h
      exact wpAny_bind (wpAny_rule (wpAny_pure (by simpa [Nat.add_assoc] using h)))
end
/-- two rows of key items whose items at each place are of one form, up to the first that differs -/
inductive Alike : List KI → List KI → Prop
  | nil : Alike [] []
  | int {i j : Int} {x y : List KI} : (i = j → Alike x y) → Alike (.int i :: x) (.int j :: y)
  | str {i j : Str} {x y : List KI} : (i = j → Alike x y) → Alike (.str i :: x) (.str j :: y)
  | tup {i j : List Int} {x y : List KI} : (i = j → Alike x y) → Alike (.tup i :: x) (.tup j :: y)
theorem KY.alike : ∀ {x y : KY}, x.ok → y.ok → Alike x.items y.items
  | .num _ _ _, .num _ _ _, _, _ => .str fun _ => .tup fun _ => .int fun _ => .tup fun _ => .nil
  | .oth _ _ _, .oth _ _ _, _, _ => .str fun _ => .tup fun _ => .int fun _ => .int fun _ => .nil
  | .num _ _ _, .oth _ _ _, _, h => .str fun e => absurd e.symm h
  | .oth _ _ _, .num _ _ _, h, _ => .str fun e => absurd e h
section
variable {prog : Program} {w : World} {A : Around} {E : Value → Shared → Prop} {s : Shared}
theorem ItIs.inj {h : Heap} {x y : KI} {v : Value} (hl : Alike [x] [y]) (h1 : ItIs prog w h x v) (h2 : ItIs prog w h y v) : x = y := by
  cases hl with
  | int _ => exact congrArg KI.int ((PySem.intKind prog w).inj _ _ _ h1 h2)
  | str _ => exact congrArg KI.str ((PySem.strKind prog w).inj _ _ _ h1 h2)
  | tup _ =>
    obtain ⟨a, rfl, h1⟩ := h1
    obtain ⟨b, e', h2⟩ := h2
    cases e'
    exact congrArg KI.tup (h1.inj h2)
theorem MixAre.inj {h : Heap} {x y : List KI} (hl : Alike x y) : ∀ {vs : List Value}, MixAre prog w h x vs → MixAre prog w h y vs → x = y := by
  induction hl with
  | nil => intros; rfl
  | int _ ih => intro vs h1 h2; cases h1 with | cons a1 a2 => cases h2 with | cons b1 b2 => obtain ⟨rfl⟩ := ItIs.inj (.int fun _ => .nil) a1 b1; rw [ih rfl a2 b2]
  | str _ ih => intro vs h1 h2; cases h1 with | cons a1 a2 => cases h2 with | cons b1 b2 => obtain ⟨rfl⟩ := ItIs.inj (.str fun _ => .nil) a1 b1; rw [ih rfl a2 b2]
  | tup _ ih => intro vs h1 h2; cases h1 with | cons a1 a2 => cases h2 with | cons b1 b2 => obtain ⟨rfl⟩ := ItIs.inj (.tup fun _ => .nil) a1 b1; rw [ih rfl a2 b2]
theorem IsMix.inj {h : Heap} {a : Addr} {x y : List KI} (hl : Alike x y) (hx : IsMix prog w h x a) (hy : IsMix prog w h y a) : x = y := by
  obtain ⟨oa, xs, na, hoa, _, hda, hia⟩ := hx
  obtain ⟨ob, ys, nb, hob, _, hdb, hib⟩ := hy
  obtain rfl : oa = ob := Option.some.inj (hoa.symm.trans hob)
  obtain ⟨rfl, _⟩ : xs = ys ∧ na = nb := by rw [hda] at hdb; injection hdb with h1 h2; exact ⟨h1, h2⟩
  exact MixAre.inj hl hia hib
theorem wpAny_eqBool_item {x y : KI} {u v : Value} {Q : Bool → Shared → Prop} (hu : A.units < cLine) (hl : Alike [x] [y]) (hx : ItIs prog w s.heap x u) (hy : ItIs prog w s.heap y v) (h : Q (decide (x = y)) s) : wpAny (model prog w) A (eqBool u v) Q E s := by
  cases hl with
  | int _ => exact (PySem.intKind prog w).eqBool hx hy (by simpa using h)
  | str _ => exact (PySem.strKind prog w).eqBool hx hy (by simpa using h)
  | tup _ => obtain ⟨a, rfl, hx⟩ := hx; obtain ⟨b, rfl, hy⟩ := hy; exact wpAny_eqBool_tuple hu hx hy (by simpa using h)
theorem mix_eq_tree {x y : List KI} {a b : Addr} {P : Fin → Shared → Prop} (hu : A.units < cLine) (hal : Alike x y) (hx : IsMix prog w s.heap x a) (hy : IsMix prog w s.heap y b) (h : P (.done (.ret (.bool (decide (x = y))))) s) :
    wpAny (model prog w) A (Builtin.«tuple.__eq__» ⟨[.ref a, .ref b], []⟩) P E s := by
  have hTb := hy.typeIs
  obtain ⟨oa, xs, na, hoa, _, hda, hia⟩ := hx
  obtain ⟨ob, ys, nb, hob, _, hdb, hib⟩ := hy
  show wpAny _ _ (isInstance (.ref b) (.type "tuple") >>= _) _ _ s
  refine wpAny_bind (wpAny_isInstance hTb isSubtype_tuple_tuple ?_)
  simp only [Bool.not_true, Bool.false_eq_true, if_false]
  refine wpAny_bind (PySem.wpAny_tupleItemsOf hoa hda ?_)
  refine wpAny_bind (PySem.wpAny_tupleItemsOf hob hdb ?_)
  refine wpAny_bind ?_
  refine wpAny_forIn_list _
    (fun rest r s' => r.1 = none ∧ s' = s ∧ ∃ x' y' xs' ys', rest = List.zip xs' ys' ∧ Alike x' y' ∧ MixAre prog w s.heap x' xs' ∧ MixAre prog w s.heap y' ys' ∧ decide (x' = y') = decide (x = y) ∧ (xs'.length == ys'.length) = (xs.size == ys.size))
    _ ?_ ?_ _ _ ⟨rfl, rfl, x, y, xs.toList, ys.toList, rfl, hal, hia, hib, rfl, by simp⟩
  · rintro ⟨u, v⟩ rest r s' ⟨hr, rfl, x', y', xs', ys', hz, hal, hx', hy', hdec, hlen⟩
    cases hx' with
    | nil => simp at hz
    | @cons k1 u' x'' xs'' h1 hx'' =>
      cases hy' with
      | nil => simp at hz
      | @cons k2 v' y'' ys'' h2 hy'' =>
        simp only [List.zip_cons_cons, List.cons.injEq, Prod.mk.injEq] at hz
        obtain ⟨⟨rfl, rfl⟩, rfl⟩ := hz
        have hA1 : Alike [k1] [k2] := by cases hal with | int _ => exact .int fun _ => .nil | str _ => exact .str fun _ => .nil | tup _ => exact .tup fun _ => .nil
        have hA2 : k1 = k2 → Alike x'' y'' := by intro e; cases hal with | int f => cases e; exact f rfl | str f => cases e; exact f rfl | tup f => cases e; exact f rfl
        refine wpAny_bind (wpAny_eqBool_item hu hA1 h1 h2 ?_)
        by_cases hk : k1 = k2
        · have hA3 := hA2 hk
          subst hk
          rw [decide_eq_true rfl]
          simp only [Bool.not_true, Bool.false_eq_true, if_false]
          refine wpAny_pure ⟨rfl, rfl, x'', y'', xs'', ys'', rfl, hA3, hx'', hy'', ?_, by simpa using hlen⟩
          rw [← hdec]
          by_cases hxy : x'' = y''
          · simp [hxy]
          · simp [hxy]
        · rw [decide_eq_false hk]
          simp only [Bool.not_false, if_true]
          have hf : decide (x = y) = false := by rw [← hdec]; simp [hk]
          rw [hf] at h
          exact wpAny_bind (wpAny_pure (wpAny_pure (wpAny_pure h)))
  · rintro ⟨r1, r2⟩ s' ⟨hr, rfl, x', y', xs', ys', hz, _, hx', hy', hdec, hlen⟩
    simp only at hr
    subst hr
    refine wpAny_pure ?_
    have hfin : (xs.size == ys.size) = decide (x = y) := by
      rw [← hdec, ← hlen]
      cases hx' with
      | nil =>
        cases hy' with
        | nil => simp
        | cons _ _ => simp
      | cons _ _ =>
        cases hy' with
        | nil => simp
        | cons _ _ => simp at hz
    show P (.done (.ret (.bool (xs.size == ys.size)))) s'
    rw [hfin]; exact h
theorem wpAny_eqBool_mix {x y : List KI} {a b : Addr} {Q : Bool → Shared → Prop} (hu : A.units + 8 < cLine) (hal : Alike x y) (hx : IsMix prog w s.heap x a) (hy : IsMix prog w s.heap y b) (h : Q (decide (x = y)) s) :
    wpAny (model prog w) A (eqBool (.ref a) (.ref b)) Q E s := by
  unfold eqBool
  try with_reducible refine wpAny_holding ?_
  show wpAny _ _ (if (Value.ref a == Value.ref b) = true then _ else _) Q E s
  by_cases hab : (Value.ref a == Value.ref b) = true
  · rw [if_pos hab]
    have e : a = b := by have := eq_of_beq hab; injection this
    subst e
    obtain rfl := IsMix.inj hal hx hy
    exact wpAny_bind (wpAny_rule (wpAny_pure (by simpa using h)))
  · rw [if_neg hab]
    exact wpAny_bind (wpAny_richCompare_same_room (op := .Eq) hx.typeIs hy.typeIs F.slot_tuple_eq
      (wpAny_call_entry F.slot_tuple_eq hx.typeIs F.entry_tuple_eq (mix_eq_tree (by first | exact Nat.lt_of_le_of_lt (by simp) hu | (simp only [Around.in1_units]; omega)) hal hx hy ⟨_, rfl, (fun e => nomatch e), wpAny_truthy_bool h⟩) (F.args_tuple_eq_2 _ _)) (by omega))
theorem wpAny_quiet_small {n : Nat} {ks : List Int} {a : Addr} {Q : Bool → Shared → Prop} (hk : IsTupleKey (PySem.intKind prog w) s.heap ks a) (h : Q true s) : wpAny (model prog w) A (eqIsQuiet (n + 1) (.ref a)) Q E s := by
  have hT := hk.typeIs
  obtain ⟨o, items, m, ho, _, hd, hi⟩ := hk
  unfold eqIsQuiet
  refine wpAny_bind (wpAny_specialOf hT F.slot_tuple_eq.lookup ?_)
  show wpAny _ _ (isInstance (.ref a) (.type "tuple") >>= _) _ _ s
  refine wpAny_bind (wpAny_isInstance hT isSubtype_tuple_tuple ?_)
  simp only [Bool.not_true, Bool.false_eq_true, if_false]
  refine wpAny_bind (wpAny_seqItems ho hd ?_)
  refine wpAny_bind ?_
  show wpAny _ _ (forIn items _ _) _ _ s
  rw [← Array.forIn_toList]
  refine wpAny_forIn_list _ (fun rest r s' => r.1 = none ∧ s' = s ∧ ∀ v ∈ rest, carriedByValue v = true) _ ?_ ?_ _ _ ⟨rfl, rfl, hi.byValue⟩
  · rintro v rest r s' ⟨hr, rfl, hall⟩
    rw [eqIsQuiet_byValue _ (hall v List.mem_cons_self)]
    refine wpAny_bind (wpAny_pure ?_)
    simp only [Bool.not_true, Bool.false_eq_true, if_false]
    exact wpAny_pure ⟨rfl, rfl, fun u hu' => hall u (List.mem_cons_of_mem _ hu')⟩
  · rintro ⟨r1, r2⟩ s' ⟨hr, rfl, _⟩
    simp only at hr
    subst hr
    exact wpAny_pure h
theorem wpAny_quiet_mix {ks : List KI} {a : Addr} {Q : Bool → Shared → Prop} (hk : IsMix prog w s.heap ks a) (h : Q true s) : wpAny (model prog w) A (eqIsQuiet 8 (.ref a)) Q E s := by
  have hT := hk.typeIs
  obtain ⟨o, items, n, ho, _, hd, hi⟩ := hk
  unfold eqIsQuiet
  refine wpAny_bind (wpAny_specialOf hT F.slot_tuple_eq.lookup ?_)
  show wpAny _ _ (isInstance (.ref a) (.type "tuple") >>= _) _ _ s
  refine wpAny_bind (wpAny_isInstance hT isSubtype_tuple_tuple ?_)
  simp only [Bool.not_true, Bool.false_eq_true, if_false]
  refine wpAny_bind (wpAny_seqItems ho hd ?_)
  refine wpAny_bind ?_
  show wpAny _ _ (forIn items _ _) _ _ s
  rw [← Array.forIn_toList]
  refine wpAny_forIn_list _ (fun rest r s' => r.1 = none ∧ s' = s ∧ ∃ left, MixAre prog w s.heap left rest) _ ?_ ?_ _ _ ⟨rfl, rfl, ks, hi⟩
  · rintro v rest r s' ⟨hr, rfl, left, hl⟩
    cases hl with
    | @cons k _ ks' _ h1 hl' =>
      have hgo : ∀ {Q' : Bool → Shared → Prop}, Q' true s' → wpAny (model prog w) A (eqIsQuiet 7 v) Q' E s' := by
        intro Q' hq
        cases k with
        | int i => rw [eqIsQuiet_byValue _ ((PySem.intKind prog w).byValue _ _ h1)]; exact wpAny_pure hq
        | str i => rw [eqIsQuiet_byValue _ ((PySem.strKind prog w).byValue _ _ h1)]; exact wpAny_pure hq
        | tup l => obtain ⟨b, rfl, h1⟩ := h1; exact wpAny_quiet_small h1 hq
      refine wpAny_bind (hgo ?_)
      simp only [Bool.not_true, Bool.false_eq_true, if_false]
      exact wpAny_pure ⟨rfl, rfl, ks', hl'⟩
  · rintro ⟨r1, r2⟩ s' ⟨hr, rfl, _⟩
    simp only at hr
    subst hr
    exact wpAny_pure h
end
/-- the kind of the keys of the bank's table of terms -/
noncomputable def mixKind (prog : Program) (w : World) : HeapKind prog w KY where
  is := fun h k a => k.ok ∧ IsMix prog w h k.items a
  hash := fun k => mixHash prog w k.items
  draws := fun k => (k.items.map KI.draws).sum + 1
  room := fun A => A.units + 8 < cLine
  inj := fun hx hy => KY.inj (IsMix.inj (KY.alike hx.1 hy.1) hx.2 hy.2)
  keeps := fun x ho hd hs => ⟨x.1, x.2.keeps ho hd hs⟩
  pyHash := fun hu hk h => wpAny_pyHash_mix hu hk.2 h
  eqBool := fun {A E s x y a b Q} hu hx hy h => wpAny_eqBool_mix hu (KY.alike hx.1 hy.1) hx.2 hy.2 (by
    have e : decide (x.items = y.items) = decide (x = y) := by by_cases hxy : x = y <;> simp [hxy]; intro e; exact hxy (KY.inj e)
    rw [e]; exact h)
  quiet := fun hk h => wpAny_quiet_mix hk.2 h

end
section
section
variable (prog : Program) (w : World)
def ItIn (news : LD) : KI → Value → Prop
  | .int i, v => (PySem.intKind prog w).is i v = true
  | .str x, v => (PySem.strKind prog w).is x v = true
  | .tup l, v => ∃ a o items n, v = .ref a ∧ (a, o) ∈ news ∧ o.cls = .type "tuple" ∧ o.data = .seq items n ∧ ItemsAre (PySem.intKind prog w) l items.toList
inductive MixIn (news : LD) : List KI → List Value → Prop
  | nil : MixIn news [] []
  | cons {k : KI} {v : Value} {ks : List KI} {vs : List Value} : ItIn prog w news k v → MixIn news ks vs → MixIn news (k :: ks) (v :: vs)
/-- a key of the table of terms, of the ledger -/
def KeyIn (news : LD) (k : KY) (a : Addr) : Prop := k.ok ∧ ∃ o items n, (a, o) ∈ news ∧ o.cls = .type "tuple" ∧ o.data = .seq items n ∧ MixIn prog w news k.items items.toList
/-- a dict whose keys are such tuples -/
def TabK (news : LD) (o : Obj) (ks : List KY) : Prop := ∃ xs : List (KY × Addr × Value), xs.map (·.1) = ks ∧ o.ExactDict ∧ ks.Nodup ∧ (∃ es ep, o.data = .dict es ep ∧ es.toList = xs.map (entryOfKey (mixKind prog w))) ∧ ∀ x ∈ xs, KeyIn prog w news x.1 x.2.1
end
section
variable {prog : Program} {w : World} {A : Around} {E : Value → Shared → Prop} {s : Shared} {h₀ : Heap} {L d a : Addr} {m : Str → Option Value} {news news' : LD} {o : Obj} {ks : List KY} {k : KY} {g : Obj → LD}
theorem ItIn.mono {k : KI} {v : Value} (h : ItIn prog w news k v) (hs : ∀ p ∈ news, p ∈ news') : ItIn prog w news' k v := by
  cases k with
  | int i => exact h
  | str y => exact h
  | tup l => obtain ⟨a, o, its, n, e, hm, r⟩ := h; exact ⟨a, o, its, n, e, hs _ hm, r⟩
theorem MixIn.mono {ks : List KI} {vs : List Value} (h : MixIn prog w news ks vs) (hs : ∀ p ∈ news, p ∈ news') : MixIn prog w news' ks vs := by
  induction h with
  | nil => exact .nil
  | cons h1 _ ih => exact .cons (h1.mono hs) ih
theorem KeyIn.mono (h : KeyIn prog w news k a) (hs : ∀ p ∈ news, p ∈ news') : KeyIn prog w news' k a := by
  obtain ⟨a1, o, its, n, hm, c, dd, mi⟩ := h
  exact ⟨a1, o, its, n, hs _ hm, c, dd, mi.mono hs⟩
theorem TabK.mono (h : TabK prog w news o ks) (hs : ∀ p ∈ news, p ∈ news') : TabK prog w news' o ks := by
  obtain ⟨xs, e, c, hn, he, hk⟩ := h
  exact ⟨xs, e, c, hn, he, fun x hx => (hk x hx).mono hs⟩
theorem ItIn.at {k : KI} {v : Value} {h : Heap} (N : News h₀ L h news) (x : ItIn prog w news k v) : ItIs prog w h k v := by
  cases k with
  | int i => exact x
  | str y => exact x
  | tup l => obtain ⟨a, o, its, n, e, hm, c, dd, r⟩ := x; exact ⟨a, e, o, its, n, N.get hm, c, dd, r⟩
theorem MixIn.at {ks : List KI} {vs : List Value} {h : Heap} (N : News h₀ L h news) (x : MixIn prog w news ks vs) : MixAre prog w h ks vs := by
  induction x with
  | nil => exact .nil
  | cons h1 _ ih => exact .cons (h1.at N) ih
theorem KeyIn.at {h : Heap} (N : News h₀ L h news) (x : KeyIn prog w news k a) : (mixKind prog w).is h k a := by
  obtain ⟨a1, o, its, n, hm, c, dd, mi⟩ := x
  exact ⟨a1, o, its, n, N.get hm, c, dd, mi.at N⟩
theorem TabK.at {h : Heap} (N : News h₀ L h news) (hp : (d, o) ∈ news) (T : TabK prog w news o ks) : ∃ xs, xs.map (·.1) = ks ∧ h.DictOfH (mixKind prog w) d xs ∧ (∀ x ∈ xs, KeyIn prog w news x.1 x.2.1) := by
  obtain ⟨xs, e, c, hn, ⟨es, ep, he1, he2⟩, hk⟩ := T
  exact ⟨xs, e, ⟨o, es, ep, N.get hp, c, he1, he2, fun x hx => (hk x hx).at N, e ▸ hn⟩, hk⟩
theorem TabK.empty {K' : Type} [DecidableEq K'] {knd' : KeyKind prog w K'} (hd : o.IsDictOf knd' []) : TabK prog w news o [] := by
  obtain ⟨es, ep, hc, hdat, _, hp, _⟩ := hd
  have he : es.toList = [] := List.length_eq_zero_iff.mp hp.length
  exact ⟨[], rfl, hc, List.nodup_nil, ⟨es, ep, hdat, he⟩, fun _ hx => nomatch hx⟩
theorem atKey_none {xs : List (KY × Addr × Value)} (h : k ∉ xs.map (·.1)) : atKey xs k = none := by
  have : (xs.find? fun x => decide (x.1 = k)) = none := by
    rw [List.find?_eq_none]
    intro x hx hk
    exact h (List.mem_map.mpr ⟨x, hx, of_decide_eq_true hk⟩)
  simp [atKey, this]
theorem key_use {rest : LD} {ob : Obj} {k : KY} {a : Addr} (h : ∀ (a : Addr) (news : LD), (∀ p ∈ rest, p ∈ news) → (a, ob) ∈ news → KeyIn prog w news k a := by assumption) (hs : ∀ p ∈ rest, p ∈ news := by walk_at "SUB") (hm : (a, ob) ∈ news := by k_mem) : KeyIn prog w news k a := h a news hs hm
theorem key_put {rest : LD} {ob : Obj} {k : KY} {a : Addr} (h : ∀ (a : Addr) (news : LD), (∀ p ∈ rest, p ∈ news) → (a, ob) ∈ news → KeyIn prog w news k a := by assumption) : KeyIn prog w ((a, ob) :: rest) k a := h a _ (fun _ h => .tail _ h) (.head _)
theorem tab_get {dflt : Value} {Q : Value → Shared → Prop} (N : News h₀ L s.heap news := by k_asm) (hp : (d, o) ∈ news := by k_mem) (lo : (d == sysModules) = false := by assumption) (T : TabK prog w news o ks := by walk_at "TABK") (hk : KeyIn prog w news k a := by first | assumption | exact key_use) (hn : k ∉ ks := by assumption) (hu : A.units + 9 < cLine := by ktr_units)
    (h : ∀ tk, Q dflt { s with toks := tk }) : wpAny (model prog w) A (call (.builtin "dict.get") [.ref d, .ref a, dflt]) Q E s := by
  obtain ⟨xs, rfl, hd, _⟩ := T.at N hp
  refine call_meetsIn PySem.F.slot_dict_get hd.typeIs PySem.F.entry_dict_get (PySem.F.args_dict_get_3 _ _ _) (meetsH_dict_get_default (mixKind prog w) d a lo dflt) ⟨?_, k, xs, hk.at N, hd, ?_⟩
  · show A.in1.units + 8 < cLine
    simp only [units_in1]; omega
  · rw [atKey_none hn]; exact h _
theorem tab_set {rest : LD} {ob : Obj} {v : Value} {Q : Unit → Shared → Prop} (F : Fr h₀ L s.heap m := by k_asm) (N : News h₀ L s.heap news := by k_asm) (U : UpdF d o news g := by k_updF) (T : TabK prog w rest o ks := by assumption) (hs : ∀ p ∈ rest, p ∈ news := by walk_at "SUB") (hm : (a, ob) ∈ news := by k_mem) (hk : KeyIn prog w ((a, ob) :: rest) k a := by exact key_put) (hn : k ∉ ks := by assumption) (hl : ks.length ≤ 1000 := by omega) (hu : A.units + 9 < cLine := by ktr_units)
    (h : ∀ h' o' tk, Fr h₀ L h' m → News h₀ L h' (g o') → TabK prog w ((a, ob) :: rest) o' (ks ++ [k]) → Q () { s with heap := h', toks := tk }) : wpAny (model prog w) A (setItem (.ref d) (.ref a) v) Q E s := by
  obtain ⟨pre, post, hnews, hg, c1, c2⟩ := U.split
  have hp : (d, o) ∈ news := by rw [hnews]; exact List.mem_append_right _ (.head _)
  have hm' := N _ hp
  have hsub : ∀ p ∈ (a, ob) :: rest, p ∈ news := fun p hq => by rcases List.mem_cons.mp hq with rfl | hq; exact hm; exact hs p hq
  have T' := T.mono (news' := (a, ob) :: rest) fun p hq => .tail _ hq
  obtain ⟨xs, e, hc0, hn0, hes, hki⟩ := T'
  have hd : s.heap.DictOfH (mixKind prog w) d xs := by
    obtain ⟨es, ep, he1, he2⟩ := hes
    exact ⟨o, es, ep, N.get hp, hc0, he1, he2, fun x hx => ((hki x hx).mono hsub).at N, e ▸ hn0⟩
  have hn' : k ∉ xs.map (·.1) := by rw [e]; exact hn
  refine wpAny_setItem_heap (knd := mixKind prog w) (k := k) ?_ ((hk.mono hsub).at N) hd (fun h' hd' hs' => ?_) ?_
  · show A.in1.units + 8 < cLine
    simp only [units_in1]; omega
  · rw [storedH_new (atKey_none hn')] at hd'
    obtain ⟨o', es, ep, ho', hc', hdat', he', _, hnd'⟩ := hd'
    refine h h' o' _ (F.change hs' hm'.2.1 hm'.2.2) ?_ ⟨xs ++ [(k, a, v)], by simp [e], hc', ?_, ⟨es, ep, hdat', he'⟩, ?_⟩
    · rw [hg o']; subst hnews; exact N.setIn c1 c2 hs' ho'
    · rw [← e]; simpa using hnd'
    · intro x hx
      rcases List.mem_append.mp hx with hx | hx
      · exact hki x hx
      · rw [List.mem_singleton.mp hx]; exact hk
  · have : xs.length = ks.length := by rw [← e]; simp
    rw [sizeLine_eq]; omega
theorem tab_meth {pl : Sem Bool} {Q : Value × List Value → Shared → Prop} (N : News h₀ L s.heap news := by k_asm) (hp : (d, o) ∈ news := by k_mem) (T : TabK prog w news o ks := by walk_at "TABK") (h : Q (.builtin "dict.get", [.ref d]) s) :
    wpAny (model prog w) A (getMethod (.ref d) (Str.ofString "get") pl) Q E s := by
  obtain ⟨xs, _, hd, _⟩ := T.at N hp
  exact getMethod_builtin hd.typeIs PySem.F.plainAttrs_dict PySem.F.slot_dict_get (by first | rfl | kernel_rfl) (dictOfH_noDict hd) h
end

end
section
section
variable {prog : Program} {w : World} {A : Around} {E : Value → Shared → Prop} {R : Result → Shared → Prop} {s : Shared}
theorem nest_turn1 (elt : PySem.Expr) (g0 : Comprehension) (target iter : PySem.Expr) (scope : Scope) (pos : Pos) (it acc : Value) (env : Env) :
    compTurn (.ListComp elt [g0, ⟨target, iter, [], 0⟩] scope pos) 1 it acc env = (standAt iter.pos >>= fun _ => pyNext it >>= fun r => match r with
      | none => pure (.done .next)
      | some v => letOwnedTupleGo target it v >>= fun _ => assign target env v >>= fun _ =>
        (eval elt env >>= fun x => call (.builtin "list.append") [acc, x] >>= fun _ => pure ()) >>= fun _ =>
          again (.compLoop (.ListComp elt [g0, ⟨target, iter, [], 0⟩] scope pos) 1 it acc env)) := by rfl
theorem nest_turn0 (elt : PySem.Expr) (t0 i0 t1 i1 : PySem.Expr) (scope : Scope) (pos : Pos) (it acc : Value) (env : Env) :
    compTurn (.ListComp elt [⟨t0, i0, [], 0⟩, ⟨t1, i1, [], 0⟩] scope pos) 0 it acc env = (standAt i0.pos >>= fun _ => pyNext it >>= fun r => match r with
      | none => pure (.done .next)
      | some v => letOwnedTupleGo t0 it v >>= fun _ => assign t0 env v >>= fun _ =>
        (eval i1 env >>= fun x => standAt i1.pos >>= fun _ => foldedSetIterable i1 env x >>= fun x => holding [x] (pyIter x) >>= fun j =>
          runOwn (.compStart (.ListComp elt [⟨t0, i0, [], 0⟩, ⟨t1, i1, [], 0⟩] scope pos) 1 j acc env) env >>= fun _ =>
          again (.compLoop (.ListComp elt [⟨t0, i0, [], 0⟩, ⟨t1, i1, [], 0⟩] scope pos) 0 it acc env))) := by rfl
theorem nest_start1 {elt : PySem.Expr} {g0 : Comprehension} {target iter : PySem.Expr} {scope : Scope} {pos : Pos} {it acc : Value} {env : Env}
    (h0 : codeAny (model prog w) A (.compLoop (.ListComp elt [g0, ⟨target, iter, [], 0⟩] scope pos) 1 it acc env) R s)
    (h : wpAny (model prog w) A (pyIter it) (fun it' s' => codeAny (model prog w) A (.compLoop (.ListComp elt [g0, ⟨target, iter, [], 0⟩] scope pos) 1 it' acc env) R s')
      (notedBy (model prog w) A env fun x s' => R (.error x) s') s) :
    codeAny (model prog w) A (.compStart (.ListComp elt [g0, ⟨target, iter, [], 0⟩] scope pos) 1 it acc env) R s := by
  refine codeAny_of_tree ?_
  show wpAny _ _ ((compStart (.ListComp elt [g0, ⟨target, iter, [], 0⟩] scope pos) 1 it acc env).onRaise (fun x => do noteFrame x env; standAt theWindowsPlace)) _ _ s
  refine wpAny_notedAt ?_
  unfold compStart
  show wpAny _ _ (ask >>= _) _ _ s
  refine wpAny_bind (wpAny_askSetting (wpAny_ite ?_))
  split
  · first
      | exact wpAny_bind (wpAny_pure (wpAny_pure (And.intro rfl h0)))
      | exact wpAny_pure (And.intro rfl h0)
  · first
      | exact wpAny_bind (wpAny_rule (wpAny_bind (wpAny_standAt (wpAny_bind (wpAny_mono h (fun it' s' h' => wpAny_pure (And.intro rfl h')) fun _ _ x => x)))))
      | (refine wpAny_bind (wpAny_rule ?_); show wpAny _ _ (standAt iter.pos >>= _) _ _ s; exact wpAny_bind (wpAny_standAt (wpAny_bind (wpAny_mono h (fun it' s' h' => wpAny_pure (And.intro rfl h')) fun _ _ x => x))))
end
section
open PyProof.Rows.LCg
variable {prog : Program} {w : World} {A : Around} {E : Value → Shared → Prop} {R : Result → Shared → Prop} {s : Shared}
theorem nest_inner {g0 : Comprehension} {iter : PySem.Expr} {y : Str} {py py2 pos : Pos} {scope : Scope} {J bx D : Addr} {cenv : Env} {items ys : List Value} {m : Str → Option Value}
    (hh : A.handled = none) (hy : cenv.kindOf y = some .local) (hkf : cenv.scope.kind = .function) (hdb : (y == ("__debug__" : Str)) = false)
    (hDJ : D ≠ J) (hDC : D ≠ cenv.locals) (hJC : J ≠ cenv.locals) (hbJ : bx ≠ J) (hbC : bx ≠ cenv.locals) (hbD : bx ≠ D)
    (hit : s.heap.IsListIter J bx 0) (hl : s.heap.IsList bx items.toArray) (hacc : s.heap.get? D = some (lst ys)) (hn : s.heap.Ns cenv.locals m) (hsz : ys.length + items.length ≤ 1000)
    (hR : ∀ h' tk m', h'.Ns cenv.locals m' → h'.get? D = some (lst (ys ++ items)) → (∀ b o, b ≠ cenv.locals → b ≠ J → b ≠ D → s.heap.get? b = some o → h'.get? b = some o) → R (.ok .next) { s with heap := h', toks := tk }) :
    codeAny (model prog w) A (.compLoop (.ListComp (.Name y py) [g0, ⟨.Name y py2, iter, [], 0⟩] scope pos) 1 (.ref J) (.ref D) cenv) R s := by
  refine codeAny_loop rfl
    (fun k s' => ∃ h' tk m' i, s' = { s with heap := h', toks := tk } ∧ h'.IsListIter J bx i ∧ h'.IsList bx items.toArray ∧ h'.get? D = some (lst (ys ++ items.take i)) ∧ h'.Ns cenv.locals m' ∧ i ≤ items.length ∧ k = items.length + 1 - i ∧
      ∀ b o, b ≠ cenv.locals → b ≠ J → b ≠ D → s.heap.get? b = some o → h'.get? b = some o) (fun n s' hI => ?_) (items.length + 1)
    ⟨s.heap, s.toks, m, 0, rfl, hit, hl, by simpa using hacc, hn, Nat.zero_le _, rfl, fun _ _ _ _ _ e => e⟩
  show wpAny _ A ((compTurn (.ListComp (.Name y py) [g0, ⟨.Name y py2, iter, [], 0⟩] scope pos) 1 (.ref J) (.ref D) cenv).onRaise (fun x => do noteFrame x cenv; theTreesLotGoes x)) _ _ s'
  refine wpAny_noted ?_
  rw [nest_turn1]
  obtain ⟨H, tk, m', i, rfl, hit', hl', hacc', hn', hi, rfl, hk⟩ := hI
  refine wpAny_bind (wpAny_standAt (wpAny_bind ?_))
  cases hv : items[i]? with
  | none =>
    have hsz : items.length ≤ i := by simpa using hv
    refine wpAny_pyNext_list_end hh hit' hl' (by simpa using hsz) fun h₁ he₁ => wpAny_pure ?_
    refine hR h₁ tk m' (hn'.extBut he₁ (Ne.symm hJC)) ?_ fun b o hbC hbJ hbD e => he₁ b o hbJ (hk b o hbC hbJ hbD e)
    have := he₁ _ _ hDJ hacc'
    rwa [List.take_of_length_le hsz] at this
  | some v =>
    have hlt : i < items.length := (List.getElem?_eq_some_iff.mp hv).1
    refine wpAny_pyNext_list_item hit' hl' (x := v) (by simpa using hv) fun h₁ hit₁ hs₁ => ?_
    refine wpAny_bind (wpAny_of_eq rfl ?_)
    refine wpAny_bind (wpAny_assign_Name (wpAny_storeName_local hy (hn'.sameBut hs₁ (Ne.symm hJC)) (fun h₂ hn₂ hs₂ => ?_) (by simp [hkf])))
    refine wpAny_bind (wpAny_bind (wpAny_Name (wpAny_loadName_local hkf hy hn₂ (v := v) (by simp) ?_) hdb))
    have hD₂ : h₂.get? D = some (lst (ys ++ items.take i)) := hs₂.extBut _ _ hDC (hs₁.extBut _ _ hDJ hacc')
    refine wpAny_bind (append_at (hsz := by
      show (ys ++ items.take i).toArray.size ≤ sizeLine
      rw [sizeLine_eq, List.size_toArray, List.length_append, List.length_take]; omega) hD₂ fun h₃ hs₃ hD₃ => ?_)
    refine wpAny_pure (wpAny_pure ⟨rfl, items.length + 1 - (i + 1), by omega, h₃, _, _, i + 1, rfl, ?_, ?_, ?_, hn₂.sameBut hs₃ (Ne.symm hDC), hlt, rfl, fun b o hbC hbJ hbD e => hs₃.extBut b o hbD (hs₂.extBut b o hbC (hs₁.extBut b o hbJ (hk b o hbC hbJ hbD e)))⟩)
    · exact (hit₁.extBut hs₂.extBut hJC).extBut hs₃.extBut (Ne.symm hDJ)
    · exact ((hl'.extBut hs₁.extBut hbJ).extBut hs₂.extBut hbC).extBut hs₃.extBut hbD
    · rw [hD₃, lst_snoc, List.take_add_one, hv, List.append_assoc]; rfl
end
section
open PyProof.Rows.LCg
variable {prog : Program} {w : World} {A : Around} {E : Value → Shared → Prop} {R : Result → Shared → Prop} {s : Shared} {env : Env}
abbrev flat2 (gs : List (Addr × List Value)) : List Value := gs.flatMap (·.2)
theorem flat2_step {gs : List (Addr × List Value)} {i : Nat} {g : Addr × List Value} (h : gs[i]? = some g) : flat2 (gs.take (i + 1)) = flat2 (gs.take i) ++ g.2 := by
  unfold flat2
  rw [List.take_add_one, h, List.flatMap_append]
  simp
theorem nest_outer {iter : PySem.Expr} {x y : Str} {px px2 py py2 pos : Pos} {scope : Scope} {I ax D : Addr} {cenv : Env} {gs : List (Addr × List Value)} {m : Str → Option Value}
    (hh : A.handled = none) (hx : cenv.kindOf x = some .local) (hy : cenv.kindOf y = some .local) (hkf : cenv.scope.kind = .function) (hdx : (x == ("__debug__" : Str)) = false) (hdb : (y == ("__debug__" : Str)) = false)
    (hDI : D ≠ I) (hDC : D ≠ cenv.locals) (hIC : I ≠ cenv.locals) (haI : ax ≠ I) (haC : ax ≠ cenv.locals) (haD : ax ≠ D) (hg : ∀ g ∈ gs, g.1 ≠ I ∧ g.1 ≠ cenv.locals ∧ g.1 ≠ D)
    (hit : s.heap.IsListIter I ax 0) (hl : s.heap.IsList ax (gs.map fun g => Value.ref g.1).toArray) (hgl : ∀ g ∈ gs, s.heap.IsList g.1 g.2.toArray) (hacc : s.heap.get? D = some (lst [])) (hn : s.heap.Ns cenv.locals m) (hsz : ∀ i, (flat2 (gs.take i)).length ≤ 1000)
    (hR : ∀ h' tk m', h'.Ns cenv.locals m' → h'.get? D = some (lst (flat2 gs)) → (∀ b o, b ≠ cenv.locals → b ≠ I → b ≠ D → s.heap.get? b = some o → h'.get? b = some o) → R (.ok .next) { s with heap := h', toks := tk }) :
    codeAny (model prog w) A (.compLoop (.ListComp (.Name y py) [⟨.Name x px, iter, [], 0⟩, ⟨.Name y py2, .Name x px2, [], 0⟩] scope pos) 0 (.ref I) (.ref D) cenv) R s := by
  refine codeAny_loop rfl
    (fun k s' => ∃ h' tk m' i, s' = { s with heap := h', toks := tk } ∧ h'.IsListIter I ax i ∧ h'.get? D = some (lst (flat2 (gs.take i))) ∧ h'.Ns cenv.locals m' ∧ i ≤ gs.length ∧ k = gs.length + 1 - i ∧
      ∀ b o, b ≠ cenv.locals → b ≠ I → b ≠ D → s.heap.get? b = some o → h'.get? b = some o) (fun n s' hI => ?_) (gs.length + 1)
    ⟨s.heap, s.toks, m, 0, rfl, hit, by simpa [flat2] using hacc, hn, Nat.zero_le _, rfl, fun _ _ _ _ _ e => e⟩
  show wpAny _ A ((compTurn (.ListComp (.Name y py) [⟨.Name x px, iter, [], 0⟩, ⟨.Name y py2, .Name x px2, [], 0⟩] scope pos) 0 (.ref I) (.ref D) cenv).onRaise (fun x => do noteFrame x cenv; theTreesLotGoes x)) _ _ s'
  refine wpAny_noted ?_
  rw [nest_turn0]
  obtain ⟨H, tk, m', i, rfl, hit', hacc', hn', hi, rfl, hk⟩ := hI
  refine wpAny_bind (wpAny_standAt (wpAny_bind ?_))
  have hl' : H.IsList ax (gs.map fun g => Value.ref g.1).toArray := hl.at fun o e => hk _ o haC haI haD e
  cases hv : gs[i]? with
  | none =>
    have hsz : gs.length ≤ i := by simpa using hv
    refine wpAny_pyNext_list_end hh hit' hl' (by simpa using hsz) fun h₁ he₁ => wpAny_pure ?_
    refine hR h₁ tk m' (hn'.extBut he₁ (Ne.symm hIC)) ?_ fun b o hbC hbI hbD e => he₁ b o hbI (hk b o hbC hbI hbD e)
    have := he₁ _ _ hDI hacc'
    rwa [List.take_of_length_le hsz] at this
  | some g =>
    have hlt : i < gs.length := (List.getElem?_eq_some_iff.mp hv).1
    have hgm : g ∈ gs := List.mem_of_getElem? hv
    obtain ⟨hgI, hgC, hgD⟩ := hg g hgm
    refine wpAny_pyNext_list_item hit' hl' (x := .ref g.1) (by simp [hv]) fun h₁ hit₁ hs₁ => ?_
    refine wpAny_bind (wpAny_of_eq rfl ?_)
    refine wpAny_bind (wpAny_assign_Name (wpAny_storeName_local hx (hn'.sameBut hs₁ (Ne.symm hIC)) (fun h₂ hn₂ hs₂ => ?_) (by simp [hkf])))
    refine wpAny_bind (wpAny_Name (wpAny_loadName_local hkf hx hn₂ (v := .ref g.1) (by simp) ?_) hdx)
    refine wpAny_bind (wpAny_standAt (wpAny_bind (wpAny_of_eq rfl ?_)))
    have old₂ : ∀ b o, b ≠ cenv.locals → b ≠ I → b ≠ D → s.heap.get? b = some o → h₂.get? b = some o := fun b o hbC hbI hbD e => hs₂.extBut b o hbC (hs₁.extBut b o hbI (hk b o hbC hbI hbD e))
    have hgl₂ : h₂.IsList g.1 g.2.toArray := (hgl g hgm).at fun o e => old₂ _ o hgC hgI hgD e
    refine wpAny_bind (wpAny_holding (wpAny_pyIter_list hgl₂ ?_))
    have up : ∀ b o, h₂.get? b = some o → (h₂.push { cls := .type "list_iterator", data := .fields #[.ref g.1, .int 0 0] }).get? b = some o := fun b o e => Heap.get?_push_of_some _ e
    have hD₂ : h₂.get? D = some (lst (flat2 (gs.take i))) := hs₂.extBut _ _ hDC (hs₁.extBut _ _ hDI hacc')
    have hit₂ : h₂.IsListIter I ax (i + 1) := hit₁.extBut hs₂.extBut hIC
    have hJ : h₂.get? h₂.objs.size = none := by
      cases e : h₂.get? h₂.objs.size with
      | none => rfl
      | some o' => exact absurd (Heap.lt_size e) (Nat.lt_irrefl _)
    have hDJ : D ≠ h₂.objs.size := Nat.ne_of_lt (Heap.lt_size hD₂)
    have hIJ : I ≠ h₂.objs.size := by obtain ⟨o, e, _⟩ := hit₂; exact Nat.ne_of_lt (Heap.lt_size e)
    have hgJ : g.1 ≠ h₂.objs.size := by obtain ⟨o, e, _⟩ := hgl₂; exact Nat.ne_of_lt (Heap.lt_size e)
    have hCJ : cenv.locals ≠ h₂.objs.size := Nat.ne_of_lt hn₂.lt
    have hitJ : (h₂.push { cls := .type "list_iterator", data := .fields #[.ref g.1, .int 0 0] }).IsListIter h₂.objs.size g.1 0 := ⟨_, Heap.get?_push_size _ rfl, rfl, rfl⟩
    refine wpAny_bind (wpAny_runOwn ?_)
    rw [Around.mark_none]
    have loop := nest_inner (prog := prog) (w := w) (A := A) (g0 := ⟨.Name x px, iter, [], 0⟩) (iter := .Name x px2) (y := y) (py := py) (py2 := py2) (pos := pos) (scope := scope) (J := h₂.objs.size) (bx := g.1) (D := D) (cenv := cenv) (items := g.2) (ys := flat2 (gs.take i))
      (R := fun r s' => match r with
        | .ok f => wpAny (model prog w) A (again (.compLoop (.ListComp (.Name y py) [⟨.Name x px, iter, [], 0⟩, ⟨.Name y py2, .Name x px2, [], 0⟩] scope pos) 0 (.ref I) (.ref D) cenv)) (fun fin s' => match fin with
            | .done f => R (.ok f) s'
            | .again c' => c' = _ ∧ ∃ m, m < gs.length + 1 - i ∧ ∃ h' tk m' i, s' = { s with heap := h', toks := tk } ∧ h'.IsListIter I ax i ∧ h'.get? D = some (lst (flat2 (gs.take i))) ∧ h'.Ns cenv.locals m' ∧ i ≤ gs.length ∧ m = gs.length + 1 - i ∧
                ∀ b o, b ≠ cenv.locals → b ≠ I → b ≠ D → s.heap.get? b = some o → h'.get? b = some o) (notedBy (model prog w) A cenv fun e s' => R (.error e) s') s'
        | .error e => cameBackBy (model prog w) A cenv (notedBy (model prog w) A cenv fun e s' => R (.error e) s') e s')
      (s := { s with heap := h₂.push { cls := .type "list_iterator", data := .fields #[.ref g.1, .int 0 0] }, toks := tk + 1 }) (m := _)
      hh hy hkf hdb hDJ hDC (Ne.symm hCJ) hgJ hgC hgD hitJ (hgl₂.at fun o e => up _ o e) (up _ _ hD₂) (hn₂.at' fun o e => up _ o e)
      (by have := hsz (i + 1); rw [flat2_step hv, List.length_append] at this; exact this)
      (fun h₃ tk₃ m₃ hn₃ hD₃ hk₃ => wpAny_pure ⟨rfl, gs.length + 1 - (i + 1), by omega, h₃, tk₃, m₃, i + 1, rfl, hit₂.at fun o e => hk₃ _ o hIC hIJ (Ne.symm hDI) (up _ o e), by rw [flat2_step hv]; exact hD₃, hn₃, hlt, rfl,
        fun b o hbC hbI hbD e => hk₃ b o hbC (Nat.ne_of_lt (Heap.lt_size (old₂ b o hbC hbI hbD e))) hbD (up _ o (old₂ b o hbC hbI hbD e))⟩)
    exact nest_start1 loop (wpAny_pyIter_listiter hitJ loop)
end
section
open PyProof.Rows.LCg
variable {prog : Program} {w : World} {A : Around} {E : Value → Shared → Prop} {s : Shared} {env : Env}
theorem nest_comp {iter : PySem.Expr} {x y : Str} {px px2 py py2 pos : Pos} {scope : Scope} {Q : Value → Shared → Prop}
    (hh : A.handled = none) (hfree : ∀ y ∈ scope.names, y.2 ≠ .free) (hcell : ∀ y ∈ scope.names, y.2 ≠ .cell) (hkind : scope.kind = .function)
    (hnames : ∀ y ∈ scope.names, y.2 = .local → scope.names.lookup y.1 = some .local) (hx : scope.names.lookup x = some .local) (hy : scope.names.lookup y = some .local) (hdx : (x == ("__debug__" : Str)) = false) (hdb : (y == ("__debug__" : Str)) = false)
    (h : wpAny (model prog w) A (eval iter env) (fun xv s₁ => ∃ ax gs, xv = .ref ax ∧ s₁.heap.IsList ax (gs.map fun g => Value.ref g.1).toArray ∧ (∀ g ∈ gs, s₁.heap.IsList g.1 g.2.toArray) ∧ (∀ i, (flat2 (gs.take i)).length ≤ 1000) ∧
      (∀ D h' tk, s₁.heap.get? D = none → h'.get? D = some (lst (flat2 gs)) → (∀ b o, s₁.heap.get? b = some o → h'.get? b = some o) → (∀ b o, s₁.heap.get? b = some o → b < D) → Q (.ref D) { s₁ with heap := h', toks := tk })) E s)
    (hs : ∀ x, foldedSetIterable iter env x = pure x := by intro _; rfl) :
    wpAny (model prog w) A (eval (.ListComp (.Name y py) [⟨.Name x px, iter, [], 0⟩, ⟨.Name y py2, .Name x px2, [], 0⟩] scope pos) env) Q E s := by
  refine wpAny_ListComp hfree hkind hnames (wpAny_mono h (fun xv s₁ h₁ => ?_) fun _ _ e => e) hs
  obtain ⟨ax, gs, rfl, hl, hgl, hsz, hQ⟩ := h₁
  refine wpAny_pyIter_list hl (wpAny_newObj_type (hd := by size_fits) (wpAny_newFunctionEnv hcell (by intro y hy; simp at hy) (fun h₁ hns₁ hsb₁ => ?_) hkind))
  dsimp only at hns₁ hsb₁ ⊢
  obtain ⟨ol, hol, hol'⟩ := id hl
  have hax : ax < s₁.heap.objs.size := Heap.lt_size hol
  generalize hH1 : s₁.heap.push { cls := .type "list_iterator", data := .fields #[.ref ax, .int 0 0] } = H1 at hns₁ hsb₁ ⊢
  have hD : H1.objs.size = s₁.heap.objs.size + 1 := by rw [← hH1, Heap.size_push]
  generalize hH2 : H1.push { cls := .type "list", dict := none, data := .seq ([] : List Value).toArray } = H2 at hns₁ hsb₁ ⊢
  have hC : H2.objs.size = s₁.heap.objs.size + 2 := by rw [← hH2, Heap.size_push, hD]
  have hDI : H1.objs.size ≠ s₁.heap.objs.size := by rw [hD]; exact Nat.succ_ne_self _
  have hDC : H1.objs.size ≠ H2.objs.size := by rw [hD, hC]; exact Nat.ne_of_lt (Nat.lt_succ_self _)
  have hIC : s₁.heap.objs.size ≠ H2.objs.size := by rw [hC]; exact Nat.ne_of_lt (Nat.lt_succ_of_lt (Nat.lt_succ_self _))
  have below : ∀ b, b < s₁.heap.objs.size → b ≠ H2.objs.size ∧ b ≠ s₁.heap.objs.size ∧ b ≠ H1.objs.size := fun b hb =>
    ⟨by rw [hC]; exact Nat.ne_of_lt (Nat.lt_succ_of_lt (Nat.lt_succ_of_lt hb)), Nat.ne_of_lt hb, by rw [hD]; exact Nat.ne_of_lt (Nat.lt_succ_of_lt hb)⟩
  have old : ∀ b o, s₁.heap.get? b = some o → h₁.get? b = some o := fun b o e =>
    hsb₁.extBut b o (below b (Heap.lt_size e)).1 (Heap.get?_push_of_some _ (hH2 ▸ Heap.get?_push_of_some _ (hH1 ▸ Heap.get?_push_of_some _ e)))
  have hit : h₁.IsListIter s₁.heap.objs.size ax 0 :=
    ⟨_, hsb₁.extBut _ _ hIC (Heap.get?_push_of_some _ (hH2 ▸ Heap.get?_push_of_some _ (hH1 ▸ Heap.get?_push_size _ rfl))), rfl, rfl⟩
  have hacc : h₁.get? H1.objs.size = some (lst []) := hsb₁.extBut _ _ hDC (Heap.get?_push_of_some _ (hH2 ▸ Heap.get?_push_size _ rfl))
  have hl₁ : h₁.IsList ax (gs.map fun g => Value.ref g.1).toArray := ⟨ol, old _ _ hol, hol'⟩
  have hnew : s₁.heap.get? H1.objs.size = none := by
    cases e : s₁.heap.get? H1.objs.size with
    | none => rfl
    | some o' => have := Heap.lt_size e; rw [hD] at this; exact absurd this (Nat.not_lt.mpr (Nat.le_succ _))
  have loop : ∀ s₂ : Shared, s₂ = { s₁ with heap := h₁, toks := s₁.toks + ([] : List (Str × Value)).length } →
      codeAny (model prog w) A (.compLoop (.ListComp (.Name y py) [⟨.Name x px, iter, [], 0⟩, ⟨.Name y py2, .Name x px2, [], 0⟩] scope pos) 0 (.ref s₁.heap.objs.size) (.ref H1.objs.size) (compEnv scope H2.objs.size env))
        (fun r s' => ∃ m, s'.heap.Ns H2.objs.size m ∧ ∀ h', Heap.SameBut H2.objs.size s'.heap h' →
          match r with | .ok _ => Q (.ref H1.objs.size) { s' with heap := h' } | .error x => wpAny (model prog w) A (passOn "comprehension.variables-let-go" x (compEnv scope H2.objs.size env)) Q E { s' with heap := h' }) s₂ := by
    rintro s₂ rfl
    refine nest_outer (cenv := compEnv scope H2.objs.size env) hh hx hy hkind hdx hdb hDI hDC hIC (below ax hax).2.1 (below ax hax).1 (below ax hax).2.2 (fun g hg => ?_) hit hl₁ (fun g hg => (hgl g hg).at fun o e => old _ o e) hacc hns₁ hsz fun h' tk m' hn ha hk => ?_
    · obtain ⟨o, e, _⟩ := hgl g hg
      have := below _ (Heap.lt_size e)
      exact ⟨this.2.1, this.1, this.2.2⟩
    · exact ⟨m', hn, fun h'' hs'' => hQ _ h'' tk hnew (hs''.extBut _ _ hDC ha) (fun b o e =>
        hs''.extBut b o (below b (Heap.lt_size e)).1 (hk b o (below b (Heap.lt_size e)).1 (below b (Heap.lt_size e)).2.1 (below b (Heap.lt_size e)).2.2 (old b o e))) fun b o e => by rw [hD]; exact Nat.lt_succ_of_lt (Heap.lt_size e)⟩
  exact codeAny_compStart_list (loop _ rfl) (wpAny_pyIter_listiter hit (loop _ rfl))
/-- the groups' terms, one behind the other -/
theorem groups_comp {x y : Str} {h₀ : Heap} {L gl a1 a2 a3 a4 : Addr} {m : Str → Option Value} {news : LD} {n n1 n2 n3 n4 : Nat} {v1 v2 v3 v4 : List Value} {pi px px2 py py2 pos : Pos} {scope : Scope} {Q : Value → Shared → Prop} {z : Str}
    (hh : A.handled = none) (F : Fr h₀ L s.heap m) (N : News h₀ L s.heap news) (hLe : env.locals = L) (hek : env.scope.kind = .function) (hel : env.kindOf z = some .local) (hv : m z = some (.ref gl)) (hdz : (z == ("__debug__" : Str)) = false)
    (hm : (gl, W.listOf (List.toArray [.ref a1, .ref a2, .ref a3, .ref a4]) n) ∈ news) (h1 : (a1, W.listOf (List.toArray v1) n1) ∈ news) (h2 : (a2, W.listOf (List.toArray v2) n2) ∈ news) (h3 : (a3, W.listOf (List.toArray v3) n3) ∈ news) (h4 : (a4, W.listOf (List.toArray v4) n4) ∈ news)
    (hlen : v1.length + v2.length + v3.length + v4.length ≤ 1000)
    (hfree : ∀ y ∈ scope.names, y.2 ≠ .free) (hcell : ∀ y ∈ scope.names, y.2 ≠ .cell) (hkind : scope.kind = .function)
    (hnames : ∀ y ∈ scope.names, y.2 = .local → scope.names.lookup y.1 = some .local) (hx : scope.names.lookup x = some .local) (hy : scope.names.lookup y = some .local) (hdx : (x == ("__debug__" : Str)) = false) (hdb : (y == ("__debug__" : Str)) = false)
    (h : ∀ D h' tk, Fr h₀ L h' m → News h₀ L h' ((D, W.listOf (List.toArray (v1 ++ v2 ++ v3 ++ v4)) (v1 ++ v2 ++ v3 ++ v4).length) :: news) → (∀ p ∈ news, p.1 < D) → Q (.ref D) { s with heap := h', toks := tk }) :
    wpAny (model prog w) A (eval (.ListComp (.Name y py) [⟨.Name x px, .Name z pi, [], 0⟩, ⟨.Name y py2, .Name x px2, [], 0⟩] scope pos) env) Q E s := by
  subst hLe
  refine nest_comp hh hfree hcell hkind hnames hx hy hdx hdb (wpAny_Name (wpAny_loadName_local hek hel F.ns hv ?_) hdz)
  have il : ∀ {a : Addr} {vs : List Value} {k : Nat}, (a, W.listOf (List.toArray vs) k) ∈ news → s.heap.IsList a vs.toArray := fun hm => ⟨_, (N _ hm).1, rfl, _, rfl⟩
  refine ⟨gl, [(a1, v1), (a2, v2), (a3, v3), (a4, v4)], rfl, il hm, ?_, ?_, ?_⟩
  · simp only [List.mem_cons, List.not_mem_nil, or_false, forall_eq_or_imp, forall_eq]
    exact ⟨il h1, il h2, il h3, il h4⟩
  · intro i
    have : (flat2 (List.take i [(a1, v1), (a2, v2), (a3, v3), (a4, v4)])).length ≤ (flat2 [(a1, v1), (a2, v2), (a3, v3), (a4, v4)]).length := by
      match i with
      | 0 => simp [flat2]
      | 1 => simp [flat2]
      | 2 => simp [flat2]
      | 3 => simp [flat2]
      | i + 4 => simp [flat2]
    refine Nat.le_trans this ?_
    simp only [flat2, List.flatMap_cons, List.flatMap_nil, List.length_append, List.length_nil]
    omega
  · intro D h' tk hnew hD hk hlt
    have e : flat2 [(a1, v1), (a2, v2), (a3, v3), (a4, v4)] = v1 ++ v2 ++ v3 ++ v4 := by simp [flat2]
    rw [e] at hD
    refine h D h' tk (F.keeps hk) ?_ fun p hp => hlt _ _ (N p hp).1
    intro p hp
    rcases List.mem_cons.mp hp with rfl | hp
    · have hne : D ≠ env.locals := by
        obtain ⟨o, e, _⟩ := ns_obj F.ns
        exact (Nat.ne_of_lt (hlt _ _ e)).symm
      refine ⟨hD, hne, ?_⟩
      cases e2 : h₀.get? D with
      | none => rfl
      | some o => exact absurd (F.keep _ _ e2) (by rw [hnew]; exact fun q => nomatch q)
    · exact ⟨hk _ _ (N p hp).1, (N p hp).2⟩
end

end
section
local macro_rules | `(tactic| k_get) => `(tactic| assumption)
local macro_rules | `(tactic| walk_at "call builtin:dict.get") => `(tactic| (k_here; k_dflt (refine' tab_get (h := ?_); k_whole); intro _))
local macro_rules | `(tactic| walk_at "TABK") => `(tactic| first | assumption | exact TabK.mono (by assumption) (by walk_at "SUB"))
local macro_rules | `(tactic| walk_at "getMethod ref") => `(tactic| (k_here; k_dflt (refine' tab_meth (h := ?_); k_whole)))
local macro_rules | `(tactic| walk_at "setItem ref ref") => `(tactic| (k_here; k_dflt (refine' tab_set (h := ?_); k_whole); intro h' o' tk' F' N' hTab'))
theorem make_c {w : World} {mean : ExcName → Option Value} {mg mb : Str → Option Value} {rest : LD} {bank db d lo la ls ldt D : Addr} {es : List DictEntry} {nb n1 n2 n3 n4 : Nat} {o : Obj} {ks : List KY} {k : KY} {ops va vs vd : List Value} {op : Str} {so : Int} {top ts : Tok} {dv : Value} {nn : Nat}
    (hB : (bank, instObj 683 db) ∈ rest) (hD : (db, dictOf es nb) ∈ rest) (g1 : getL (Str.ofString "numbers") es = some (some (.ref d))) (g2 : getL (Str.ofString "term_ops") es = some (some (.ref lo)))
    (g3 : getL (Str.ofString "term_args") es = some (some (.ref la))) (g4 : getL (Str.ofString "term_sorts") es = some (some (.ref ls))) (g5 : getL (Str.ofString "term_datas") es = some (some (.ref ldt)))
    (e1 : d ≠ lo) (e2 : d ≠ la) (e3 : d ≠ ls) (e4 : d ≠ ldt) (e5 : lo ≠ la) (e6 : lo ≠ ls) (e7 : lo ≠ ldt) (e8 : la ≠ ls) (e9 : la ≠ ldt) (e10 : ls ≠ ldt)
    (p1 : ∀ p ∈ rest, p.1 ≠ d) (p2 : ∀ p ∈ rest, p.1 ≠ lo) (p3 : ∀ p ∈ rest, p.1 ≠ la) (p4 : ∀ p ∈ rest, p.1 ≠ ls) (p5 : ∀ p ∈ rest, p.1 ≠ ldt) (hlo : (d == sysModules) = false)
    (hT : TabK PySem.Challenge.rw_qz0019_01.row.prog w rest o ks) (hkn : k ∉ ks) (hkl : ks.length ≤ 100) (hl : ops.length = nn) (hl1 : ops.length ≤ 1000) (hnn : nn ≤ 1000) (hl2 : va.length ≤ 1000) (hl3 : vs.length ≤ 1000) (hl4 : vd.length ≤ 1000)
    (hK : ∀ (a : Addr) (news : LD), (∀ p ∈ rest, p ∈ news) → (a, ({ cls := .type "tuple", data := .seq (List.toArray [.str op top, .ref D, .int so ts, dv]) } : Obj)) ∈ news → KeyIn PySem.Challenge.rw_qz0019_01.row.prog w news k a) :
    Does w mean mg mb 2 40 297 [.ref bank, .str op top, .ref D, .int so ts, dv] ((d, o) :: (lo, W.listOf (List.toArray ops) n1) :: (la, W.listOf (List.toArray va) n2) :: (ls, W.listOf (List.toArray vs) n3) :: (ldt, W.listOf (List.toArray vd) n4) :: rest)
      (fun v news' => ∃ a tk o', v = .int (nn : Nat) tk ∧
        news' = (d, o') :: (lo, W.listOf (List.toArray (ops ++ [.str op top])) (n1 + 1)) :: (la, W.listOf (List.toArray (va ++ [.ref D])) (n2 + 1)) :: (ls, W.listOf (List.toArray (vs ++ [.int so ts])) (n3 + 1)) :: (ldt, W.listOf (List.toArray (vd ++ [dv])) (n4 + 1)) ::
          (a, ({ cls := .type "tuple", data := .seq (List.toArray [.str op top, .ref D, .int so ts, dv]) } : Obj)) :: rest ∧
        TabK PySem.Challenge.rw_qz0019_01.row.prog w ((a, ({ cls := .type "tuple", data := .seq (List.toArray [.str op top, .ref D, .int so ts, dv]) } : Obj)) :: rest) o' (ks ++ [k]) ∧ (∀ p ∈ rest, p.1 < a) ∧ d < a ∧ lo < a ∧ la < a ∧ ls < a ∧ ldt < a) := by
  unfold Does; k_fill
  w_on
  replace e1 : @Ne Nat d lo := e1; replace e2 : @Ne Nat d la := e2; replace e3 : @Ne Nat d ls := e3; replace e4 : @Ne Nat d ldt := e4; replace e5 : @Ne Nat lo la := e5; replace e6 : @Ne Nat lo ls := e6; replace e7 : @Ne Nat lo ldt := e7; replace e8 : @Ne Nat la ls := e8; replace e9 : @Ne Nat la ldt := e9; replace e10 : @Ne Nat ls ldt := e10
  intro dp un gd cn nms gen cor mor a0 ccd cl outer A₀ base h₀ L m sH sG sD sT sO Q E B F X N T hk hdp hun hret
  w_strict (refine wpAny_call ?_; k_dflt cell_enter)
  w_strict k_steps
  rename _ ∧ _ ∧ _ ∧ _ ∧ _ ∧ AllLt _ _ => hlt
  rename TabK _ _ _ _ (_ ++ _) => hT9
  rename Fr _ _ _ _ => F9
  rename News _ _ _ _ => N9
  obtain ⟨l1, l2, l3, l4, l5, l6⟩ := hlt
  have l6 := ktn_ltOf l6
  refine hret _ _ _ _ ⟨_, _, _, rfl, rfl, hT9, l6, l1, l2, l3, l4, l5⟩ F9 (kst_newsOf N9 ?_)
  intro p hp
  rcases List.mem_cons.mp hp with rfl | hp
  · exact .tail _ (.head _)
  rcases List.mem_cons.mp hp with rfl | hp
  · exact .tail _ (.tail _ (.head _))
  rcases List.mem_cons.mp hp with rfl | hp
  · exact .tail _ (.tail _ (.tail _ (.head _)))
  rcases List.mem_cons.mp hp with rfl | hp
  · exact .tail _ (.tail _ (.tail _ (.tail _ (.head _))))
  rcases List.mem_cons.mp hp with rfl | hp
  · exact .tail _ (.tail _ (.tail _ (.tail _ (.tail _ (.head _)))))
  rcases List.mem_cons.mp hp with rfl | hp
  · exact .head _
  · exact .tail _ (.tail _ (.tail _ (.tail _ (.tail _ (.tail _ hp)))))

end
section
theorem Does.perm {w : World} {mean : ExcName → Option Value} {mg mb : Str → Option Value} {room units : Nat} {f : Addr} {vs : List Value} {news news' : LD} {Post : Value → LD → Prop} (h : Does w mean mg mb room units f vs news' Post) (hs : ∀ p ∈ news', p ∈ news) :
    Does w mean mg mb room units f vs news Post := by
  intro dp un gd cn nms gen cor mor a0 ccd cl outer A₀ base h₀ L m sH sG sD sT sO Q E B F X N T hk hdp hun hret
  exact h dp un gd cn nms gen cor mor a0 ccd cl outer A₀ base h₀ L m sH sG sD sT sO Q E B F X (kst_newsOf N hs) T hk hdp hun hret
/-- the same with made objects ahead, in the order in which the bank makes its parts -/
theorem make_f {w : World} {mean : ExcName → Option Value} {mg mb : Str → Option Value} {A rest : LD} {x0 : Addr × Obj} {bank db d lo la ls ldt D : Addr} {es : List DictEntry} {nb n1 n2 n3 n4 : Nat} {o : Obj} {ks : List KY} {k : KY} {ops va vs vd : List Value} {op : Str} {so : Int} {top ts : Tok} {dv : Value} {nn : Nat}
    (hB : (bank, instObj 683 db) ∈ rest) (hD : (db, dictOf es nb) ∈ rest) (g1 : getL (Str.ofString "numbers") es = some (some (.ref d))) (g2 : getL (Str.ofString "term_ops") es = some (some (.ref lo)))
    (g3 : getL (Str.ofString "term_args") es = some (some (.ref la))) (g4 : getL (Str.ofString "term_sorts") es = some (some (.ref ls))) (g5 : getL (Str.ofString "term_datas") es = some (some (.ref ldt)))
    (o1 : lo < x0.1) (o2 : x0.1 < la) (o3 : la < ls) (o4 : ls < ldt) (o5 : ldt < d)
    (pr : ∀ p ∈ rest, p.1 < lo) (pa : ∀ p ∈ A, d < p.1) (hlo : (d == sysModules) = false)
    (hT : TabK PySem.Challenge.rw_qz0019_01.row.prog w (A ++ x0 :: rest) o ks) (hkn : k ∉ ks) (hkl : ks.length ≤ 100) (hl : ops.length = nn) (hN : nn ≤ 1000) (hl2 : va.length ≤ 1000) (hl3 : vs.length ≤ 1000) (hl4 : vd.length ≤ 1000)
    (hK : ∀ (a : Addr) (news : LD), (∀ p ∈ A ++ x0 :: rest, p ∈ news) → (a, ({ cls := .type "tuple", data := .seq (List.toArray [.str op top, .ref D, .int so ts, dv]) } : Obj)) ∈ news → KeyIn PySem.Challenge.rw_qz0019_01.row.prog w news k a) :
    Does w mean mg mb 2 40 297 [.ref bank, .str op top, .ref D, .int so ts, dv] (A ++ (d, o) :: (ldt, W.listOf (List.toArray vd) n4) :: (ls, W.listOf (List.toArray vs) n3) :: (la, W.listOf (List.toArray va) n2) :: x0 :: (lo, W.listOf (List.toArray ops) n1) :: rest)
      (fun v news' => ∃ a tk o', v = .int (nn : Nat) tk ∧
        news' = (d, o') :: (lo, W.listOf (List.toArray (ops ++ [.str op top])) (n1 + 1)) :: (la, W.listOf (List.toArray (va ++ [.ref D])) (n2 + 1)) :: (ls, W.listOf (List.toArray (vs ++ [.int so ts])) (n3 + 1)) :: (ldt, W.listOf (List.toArray (vd ++ [dv])) (n4 + 1)) ::
          (a, ({ cls := .type "tuple", data := .seq (List.toArray [.str op top, .ref D, .int so ts, dv]) } : Obj)) :: (A ++ x0 :: rest) ∧
        TabK PySem.Challenge.rw_qz0019_01.row.prog w ((a, ({ cls := .type "tuple", data := .seq (List.toArray [.str op top, .ref D, .int so ts, dv]) } : Obj)) :: (A ++ x0 :: rest)) o' (ks ++ [k]) ∧ (∀ p ∈ A ++ x0 :: rest, p.1 < a) ∧ d < a ∧ lo < a ∧ la < a ∧ ls < a ∧ ldt < a) := by
  have ng : ∀ {x y : Addr}, x < y → y ≠ x := fun h => (Nat.ne_of_lt h).symm
  have tr : ∀ {x y z : Addr}, x < y → y < z → x < z := fun h k => Nat.lt_trans h k
  have hm : ∀ q ∈ x0 :: rest, q ∈ A ++ x0 :: rest := fun q hq => List.mem_append_right _ hq
  have key : ∀ y : Addr, (lo ≤ y) → y ≤ d → y ≠ x0.1 → ∀ p ∈ A ++ x0 :: rest, p.1 ≠ y := by
    intro y h1 h2 h3 p hp
    rcases List.mem_append.mp hp with hp | hp
    · exact ng (Nat.lt_of_le_of_lt h2 (pa p hp))
    · rcases List.mem_cons.mp hp with rfl | hp
      · exact fun e => h3 e.symm
      · exact (ng (Nat.lt_of_lt_of_le (pr p hp) h1)).symm
  refine Does.perm (make_c (rest := A ++ x0 :: rest) (hm _ (.tail _ hB)) (hm _ (.tail _ hD)) g1 g2 g3 g4 g5
    (ng (tr o1 (tr o2 (tr o3 (tr o4 o5))))) (ng (tr o3 (tr o4 o5))) (ng (tr o4 o5)) (ng o5)
    (ng (tr o1 o2)).symm (ng (tr o1 (tr o2 o3))).symm (ng (tr o1 (tr o2 (tr o3 o4)))).symm (ng o3).symm (ng (tr o3 o4)).symm (ng o4).symm
    (key _ (Nat.le_of_lt (tr o1 (tr o2 (tr o3 (tr o4 o5))))) (Nat.le_refl _) (ng (tr o2 (tr o3 (tr o4 o5)))))
    (key _ (Nat.le_refl _) (Nat.le_of_lt (tr o1 (tr o2 (tr o3 (tr o4 o5))))) (ng o1).symm)
    (key _ (Nat.le_of_lt (tr o1 o2)) (Nat.le_of_lt (tr o3 (tr o4 o5))) (ng o2))
    (key _ (Nat.le_of_lt (tr o1 (tr o2 o3))) (Nat.le_of_lt (tr o4 o5)) (ng (tr o2 o3)))
    (key _ (Nat.le_of_lt (tr o1 (tr o2 (tr o3 o4)))) (Nat.le_of_lt o5) (ng (tr o2 (tr o3 o4))))
    hlo hT hkn hkl hl (by omega) hN hl2 hl3 hl4 hK) ?_
  intro p hp
  have hz : ∀ q ∈ (d, o) :: (ldt, W.listOf (List.toArray vd) n4) :: (ls, W.listOf (List.toArray vs) n3) :: (la, W.listOf (List.toArray va) n2) :: x0 :: (lo, W.listOf (List.toArray ops) n1) :: rest, q ∈ A ++ (d, o) :: (ldt, W.listOf (List.toArray vd) n4) :: (ls, W.listOf (List.toArray vs) n3) :: (la, W.listOf (List.toArray va) n2) :: x0 :: (lo, W.listOf (List.toArray ops) n1) :: rest := fun q hq => List.mem_append_right _ hq
  simp only [List.mem_cons, List.mem_append] at hp hz ⊢
  rcases hp with h | h | h | h | h | h | h | h <;> simp [h]

end
section
theorem keyIn_oth {w : World} {news : LD} {op : Str} {t1 t2 t3 : Tok} {D a : Addr} {so dd : Int} (hop : op ≠ Str.ofString "num") (hD : (D, ({ cls := .type "tuple", data := .seq (List.toArray []) } : Obj)) ∈ news)
    (ha : (a, ({ cls := .type "tuple", data := .seq (List.toArray [.str op t1, .ref D, .int so t2, .int dd t3]) } : Obj)) ∈ news) : KeyIn PySem.Challenge.rw_qz0019_01.row.prog w news (.oth op so dd) a :=
  ⟨hop, _, _, _, ha, rfl, rfl, .cons (strKind_is _ _ _ _) (.cons ⟨D, _, _, _, rfl, hD, rfl, rfl, .nil⟩ (.cons (intKind_is _ _ _ _) (.cons (intKind_is _ _ _ _) .nil)))⟩
theorem keyIn_num {w : World} {news : LD} {t1 t2 t3 t4 : Tok} {D V a : Addr} {so x y : Int} (hD : (D, ({ cls := .type "tuple", data := .seq (List.toArray []) } : Obj)) ∈ news) (hV : (V, ({ cls := .type "tuple", data := .seq (List.toArray [.int x t3, .int y t4]) } : Obj)) ∈ news)
    (ha : (a, ({ cls := .type "tuple", data := .seq (List.toArray [.str (Str.ofString "num") t1, .ref D, .int so t2, .ref V]) } : Obj)) ∈ news) : KeyIn PySem.Challenge.rw_qz0019_01.row.prog w news (.num so x y) a :=
  ⟨trivial, _, _, _, ha, rfl, rfl, .cons (strKind_is _ _ _ _) (.cons ⟨D, _, _, _, rfl, hD, rfl, rfl, .nil⟩ (.cons (intKind_is _ _ _ _) (.cons ⟨V, _, _, _, rfl, hV, rfl, rfl, .cons (intKind_is _ _ _ _) (.cons (intKind_is _ _ _ _) .nil)⟩ .nil)))⟩
def MyCall (w : World) (A : Around) (f : Addr) (vs : List Value) (Q E : Value → Shared → Prop) (s : Shared) : Prop := wpAny (model PySem.Challenge.rw_qz0019_01.row.prog w) A (call (.ref f) vs) Q E s
theorem my_stop {w : World} {A : Around} {f : Addr} {vs : List Value} {Q E : Value → Shared → Prop} {s : Shared} (h : MyCall w A f vs Q E s) : wpAny (model PySem.Challenge.rw_qz0019_01.row.prog w) A (call (.ref f) vs) Q E s := h
theorem my_stopG {w : World} {A : Around} {f : Addr} {vs : List Value} {Q E : Value → Shared → Prop} {s : Shared} (_hf : (f == 297 || f == 206 || f == 589 || f == 477 || f == 220 || f == 491 || f == 610) = true := by exact rfl) (h : MyCall w A f vs Q E s) : wpAny (model PySem.Challenge.rw_qz0019_01.row.prog w) A (call (.ref f) vs) Q E s := h
theorem pr_of {d : Addr} : ∀ {l : LD}, AllLt d l → ∀ p ∈ l, p.1 < d
  | [], _, _, h => nomatch h
  | q :: r, h, p, hp => by
    rcases List.mem_cons.mp hp with rfl | hp
    · exact h.1
    · exact pr_of h.2 p hp
theorem ItIn.monoT {w : World} {news news' : LD} {k : KI} {v : Value} (h : ItIn PySem.Challenge.rw_qz0019_01.row.prog w news k v) (hs : ∀ p ∈ news, p.2.cls = .type "tuple" → p ∈ news') : ItIn PySem.Challenge.rw_qz0019_01.row.prog w news' k v := by
  cases k with
  | int i => exact h
  | str y => exact h
  | tup l => obtain ⟨a, o, its, n, e, hm, c, r⟩ := h; exact ⟨a, o, its, n, e, hs _ hm c, c, r⟩
theorem MixIn.monoT {w : World} {news news' : LD} {ks : List KI} {vs : List Value} (h : MixIn PySem.Challenge.rw_qz0019_01.row.prog w news ks vs) (hs : ∀ p ∈ news, p.2.cls = .type "tuple" → p ∈ news') : MixIn PySem.Challenge.rw_qz0019_01.row.prog w news' ks vs := by
  induction h with
  | nil => exact .nil
  | cons h1 _ ih => exact .cons (h1.monoT hs) ih
/-- a table of terms leans on the ledger's tuples alone -/
theorem TabK.monoT {w : World} {news news' : LD} {o : Obj} {ks : List KY} (h : TabK PySem.Challenge.rw_qz0019_01.row.prog w news o ks) (hs : ∀ p ∈ news, p.2.cls = .type "tuple" → p ∈ news') : TabK PySem.Challenge.rw_qz0019_01.row.prog w news' o ks := by
  obtain ⟨xs, e, c, hn, he, hk⟩ := h
  refine ⟨xs, e, c, hn, he, fun x hx => ?_⟩
  obtain ⟨ok, o, its, n, hm, cc, dd, mi⟩ := hk x hx
  exact ⟨ok, o, its, n, hs _ hm cc, cc, dd, mi.monoT hs⟩
theorem cls_list {vs : Array Value} {n : Nat} : (W.listOf vs n).cls = .type "tuple" → False := by
  intro h
  have h2 : Value.type "list" = Value.type "tuple" := h
  injection h2 with h2
  exact absurd h2 (by decide)
theorem cls_dict {es : List DictEntry} {n : Nat} : (dictOf es n).cls = .type "tuple" → False := by
  intro h
  have h2 : Value.type "dict" = Value.type "tuple" := h
  injection h2 with h2
  exact absurd h2 (by decide)
theorem make_g {w : World} {mean : ExcName → Option Value} {mg mb : Str → Option Value} {rest : LD} {x0 : Addr × Obj} {bank db d lo la ls ldt D : Addr} {es : List DictEntry} {nb n1 n2 n3 n4 : Nat} {o : Obj} {ks : List KY} {k : KY} {ops va vs vd : List Value} {op : Str} {so : Int} {top ts : Tok} {dv : Value} {nn : Nat}
    (hB : (bank, instObj 683 db) ∈ x0 :: rest) (hD : (db, dictOf es nb) ∈ x0 :: rest) (g1 : getL (Str.ofString "numbers") es = some (some (.ref d))) (g2 : getL (Str.ofString "term_ops") es = some (some (.ref lo)))
    (g3 : getL (Str.ofString "term_args") es = some (some (.ref la))) (g4 : getL (Str.ofString "term_sorts") es = some (some (.ref ls))) (g5 : getL (Str.ofString "term_datas") es = some (some (.ref ldt)))
    (e1 : d ≠ lo) (e2 : d ≠ la) (e3 : d ≠ ls) (e4 : d ≠ ldt) (e5 : lo ≠ la) (e6 : lo ≠ ls) (e7 : lo ≠ ldt) (e8 : la ≠ ls) (e9 : la ≠ ldt) (e10 : ls ≠ ldt)
    (p1 : ∀ p ∈ x0 :: rest, p.1 ≠ d) (p2 : ∀ p ∈ x0 :: rest, p.1 ≠ lo) (p3 : ∀ p ∈ x0 :: rest, p.1 ≠ la) (p4 : ∀ p ∈ x0 :: rest, p.1 ≠ ls) (p5 : ∀ p ∈ x0 :: rest, p.1 ≠ ldt) (hlo : (d == sysModules) = false)
    (hT : TabK PySem.Challenge.rw_qz0019_01.row.prog w (x0 :: rest) o ks) (hkn : k ∉ ks) (hkl : ks.length ≤ 100) (hl : ops.length = nn) (hnn : nn ≤ 1000) (hl2 : va.length ≤ 1000) (hl3 : vs.length ≤ 1000) (hl4 : vd.length ≤ 1000)
    (hK : ∀ (a : Addr) (news : LD), (∀ p ∈ x0 :: rest, p ∈ news) → (a, ({ cls := .type "tuple", data := .seq (List.toArray [.str op top, .ref D, .int so ts, dv]) } : Obj)) ∈ news → KeyIn PySem.Challenge.rw_qz0019_01.row.prog w news k a) :
    Does w mean mg mb 2 40 297 [.ref bank, .str op top, .ref D, .int so ts, dv] (x0 :: (d, o) :: (lo, W.listOf (List.toArray ops) n1) :: (la, W.listOf (List.toArray va) n2) :: (ls, W.listOf (List.toArray vs) n3) :: (ldt, W.listOf (List.toArray vd) n4) :: rest)
      (fun v news' => ∃ a tk o', v = .int (nn : Nat) tk ∧
        news' = (d, o') :: (lo, W.listOf (List.toArray (ops ++ [.str op top])) (n1 + 1)) :: (la, W.listOf (List.toArray (va ++ [.ref D])) (n2 + 1)) :: (ls, W.listOf (List.toArray (vs ++ [.int so ts])) (n3 + 1)) :: (ldt, W.listOf (List.toArray (vd ++ [dv])) (n4 + 1)) ::
          (a, ({ cls := .type "tuple", data := .seq (List.toArray [.str op top, .ref D, .int so ts, dv]) } : Obj)) :: x0 :: rest ∧
        TabK PySem.Challenge.rw_qz0019_01.row.prog w ((a, ({ cls := .type "tuple", data := .seq (List.toArray [.str op top, .ref D, .int so ts, dv]) } : Obj)) :: x0 :: rest) o' (ks ++ [k]) ∧ (∀ p ∈ x0 :: rest, p.1 < a) ∧ d < a ∧ lo < a ∧ la < a ∧ ls < a ∧ ldt < a) := by
  refine Does.perm (make_c (rest := x0 :: rest) hB hD g1 g2 g3 g4 g5 e1 e2 e3 e4 e5 e6 e7 e8 e9 e10 p1 p2 p3 p4 p5 hlo hT hkn hkl hl (by omega) hnn hl2 hl3 hl4 hK) ?_
  intro p hp
  simp only [List.mem_cons] at hp ⊢
  rcases hp with h | h | h | h | h | h | h <;> simp [h]
theorem ne_base {b d : Addr} {l : LD} (h : ∀ p ∈ l, p.1 < b) (k : @LT.lt Nat _ b d) : ∀ p ∈ l, p.1 ≠ d := fun p hp => Nat.ne_of_lt (Nat.lt_trans (h p hp) k)
/-- a ledger that has grown by newer objects -/
def Ext (a b : LD) : Prop := ∃ add, b = add ++ a ∧ ∀ q ∈ add, ∀ p ∈ a, p.1 < q.1
theorem Ext.refl (a : LD) : Ext a a := ⟨[], rfl, fun _ h => nomatch h⟩
theorem Ext.trans {a b c : LD} (h : Ext a b) (k : Ext b c) : Ext a c := by
  obtain ⟨x, rfl, h⟩ := h
  obtain ⟨y, rfl, k⟩ := k
  refine ⟨y ++ x, by simp, fun q hq p hp => ?_⟩
  rcases List.mem_append.mp hq with hq | hq
  · exact k q hq p (List.mem_append.mpr (.inr hp))
  · exact h q hq p hp
theorem Ext.cons {a : LD} {D : Addr} {o : Obj} (h : ∀ p ∈ a, p.1 < D) : Ext a ((D, o) :: a) := ⟨[(D, o)], rfl, fun q hq p hp => by rw [List.mem_singleton.mp hq]; exact h p hp⟩
theorem Ext.sub {a b : LD} (h : Ext a b) : ∀ p ∈ a, p ∈ b := by
  obtain ⟨x, rfl, _⟩ := h
  exact fun p hp => List.mem_append.mpr (.inr hp)
/-- the parts of the bank that its calls change -/
structure BData where
  (o bo : Obj) (ops va vs vd vn vfa vfr vsn vsw : List Value) (n1 n2 n3 n4 n5 n6 n7 n8 n9 : Nat)
noncomputable def BData.led (P : BAddr) (b : BData) : LD :=
  [(P.d, b.o), (P.lo, W.listOf (List.toArray b.ops) b.n1), (P.la, W.listOf (List.toArray b.va) b.n2), (P.ls, W.listOf (List.toArray b.vs) b.n3), (P.ldt, W.listOf (List.toArray b.vd) b.n4),
   (P.fn, W.listOf (List.toArray b.vn) b.n5), (P.fa, W.listOf (List.toArray b.vfa) b.n6), (P.fr, W.listOf (List.toArray b.vfr) b.n7), (P.sn, W.listOf (List.toArray b.vsn) b.n8), (P.sw, W.listOf (List.toArray b.vsw) b.n9), (P.bd, b.bo)]
/-- the bank's state: nn is the next term's number, ks are the keys of the terms made, bv says whether the sort of two bits is made -/
structure BSt (w : World) (P : BAddr) (news rest : LD) (nn m : Nat) (ks : List KY) (ops : List Value) (bv : Bool) : Prop where
  dist : (P.all).Nodup
  off : ∀ p ∈ rest, p.1 ∉ P.all
  low : (P.d == sysModules) = false ∧ (P.bd == sysModules) = false
  ex : ∃ b : BData, (∀ p ∈ b.led P ++ rest, p ∈ news) ∧ TabK PySem.Challenge.rw_qz0019_01.row.prog w rest b.o ks ∧ b.ops = ops ∧
    (∃ kvs, b.bo.IsDictOf (PySem.intKind PySem.Challenge.rw_qz0019_01.row.prog w) kvs ∧ FlatPairs PyData.int kvs (kdfD (if bv then [(2, 3)] else []))) ∧
    ks.length ≤ nn ∧ ops.length = nn ∧ b.va.length ≤ nn ∧ b.vs.length ≤ nn ∧ b.vd.length ≤ nn ∧ b.vn.length = m ∧ b.vfa.length = m ∧ b.vfr.length = m ∧ b.vsn.length = (if bv then 4 else 3) ∧ b.vsw.length ≤ (if bv then 4 else 3)
theorem BSt.sub {w : World} {P : BAddr} {news rest : LD} {nn m : Nat} {ks : List KY} {ops : List Value} {bv : Bool} (h : BSt w P news rest nn m ks ops bv) : ∀ p ∈ rest, p ∈ news := by
  obtain ⟨b, h, _⟩ := h.ex
  exact fun p hp => h p (List.mem_append.mpr (.inr hp))
theorem BSt.push {w : World} {P : BAddr} {news rest : LD} {nn m : Nat} {ks : List KY} {ops : List Value} {bv : Bool} {D : Addr} {o : Obj} (h : BSt w P news rest nn m ks ops bv) (hD : ∀ p ∈ news, p.1 < D) : BSt w P ((D, o) :: news) ((D, o) :: rest) nn m ks ops bv := by
  obtain ⟨b, hs, hT, r⟩ := h.ex
  refine ⟨h.dist, fun p hp => ?_, h.low, b, fun p hp => ?_, hT.mono fun p hp => .tail _ hp, r⟩
  · rcases List.mem_cons.mp hp with rfl | hp
    · intro hm
      obtain ⟨q, hq, e⟩ := List.mem_map.mp (show D ∈ (b.led P).map (·.1) from hm)
      have h1 := hD _ (hs _ (List.mem_append.mpr (.inl hq)))
      rw [e] at h1
      exact Nat.lt_irrefl _ h1
    · exact h.off p hp
  · rcases List.mem_append.mp hp with hp | hp
    · exact .tail _ (hs p (List.mem_append.mpr (.inl hp)))
    · rcases List.mem_cons.mp hp with rfl | hp
      · exact .head _
      · exact .tail _ (hs p (List.mem_append.mpr (.inr hp)))
theorem neA {a b : Addr} (h : @Ne Nat a b) : ¬ a = b := h
theorem Does.weaken {w : World} {mean : ExcName → Option Value} {mg mb : Str → Option Value} {room units : Nat} {f : Addr} {vs : List Value} {news : LD} {Post Post' : Value → LD → Prop} (h : Does w mean mg mb room units f vs news Post) (k : ∀ v n, Post v n → Post' v n) :
    Does w mean mg mb room units f vs news Post' := by
  intro dp un gd cn nms gen cor mor a0 ccd cl outer A₀ base h₀ L m sH sG sD sT sO Q E B F X N T hk hdp hun hret
  exact h dp un gd cn nms gen cor mor a0 ccd cl outer A₀ base h₀ L m sH sG sD sT sO Q E B F X N T hk hdp hun fun v n h' tk p => hret v n h' tk (k v n p)
/-- make, of the bank under construction -/
theorem make_2 {w : World} {mean : ExcName → Option Value} {mg mb : Str → Option Value} {news : LD} {db x so q sn sw fn fa fr lo D2 la ls ldt d D1 a9 D3 D : Addr} {oD3 o oa oD1 oD2 ofr ofa ofn osw osn oq oso : Obj} {es : List DictEntry} {nb n1 n2 n3 n4 : Nat} {ks : List KY} {k : KY} {ops va vs vd : List Value} {op : Str} {sr : Int} {top ts : Tok} {dv : Value} {nn : Nat}
    (hb : ∀ p ∈ news, p.1 < db) (hc : Chn [db, x, so, q, sn, sw, fn, fa, fr, lo, D2, la, ls, ldt, d, D1, a9, D3]) (g1 : getL (Str.ofString "numbers") es = some (some (.ref d))) (g2 : getL (Str.ofString "term_ops") es = some (some (.ref lo)))
    (g3 : getL (Str.ofString "term_args") es = some (some (.ref la))) (g4 : getL (Str.ofString "term_sorts") es = some (some (.ref ls))) (g5 : getL (Str.ofString "term_datas") es = some (some (.ref ldt))) (hlo : (d == sysModules) = false)
    (hT : TabK PySem.Challenge.rw_qz0019_01.row.prog w ((D3, oD3) :: (a9, oa) :: (D1, oD1) :: (D2, oD2) :: (fr, ofr) :: (fa, ofa) :: (fn, ofn) :: (sw, osw) :: (sn, osn) :: (q, oq) :: (so, oso) :: (x, instObj 683 db) :: (db, dictOf es nb) :: news) o ks) (hkn : k ∉ ks) (hkl : ks.length ≤ 100) (hl : ops.length = nn) (hnn : nn ≤ 1000) (hl2 : va.length ≤ 1000) (hl3 : vs.length ≤ 1000) (hl4 : vd.length ≤ 1000)
    (hK : ∀ (a : Addr) (news' : LD), (∀ p ∈ (D3, oD3) :: (a9, oa) :: (D1, oD1) :: (D2, oD2) :: (fr, ofr) :: (fa, ofa) :: (fn, ofn) :: (sw, osw) :: (sn, osn) :: (q, oq) :: (so, oso) :: (x, instObj 683 db) :: (db, dictOf es nb) :: news, p ∈ news') → (a, ({ cls := .type "tuple", data := .seq (List.toArray [.str op top, .ref D, .int sr ts, dv]) } : Obj)) ∈ news' → KeyIn PySem.Challenge.rw_qz0019_01.row.prog w news' k a) :
    Does w mean mg mb 2 40 297 [.ref x, .str op top, .ref D, .int sr ts, dv] ((D3, oD3) :: (d, o) :: (lo, W.listOf (List.toArray ops) n1) :: (la, W.listOf (List.toArray va) n2) :: (ls, W.listOf (List.toArray vs) n3) :: (ldt, W.listOf (List.toArray vd) n4) :: (a9, oa) :: (D1, oD1) :: (D2, oD2) :: (fr, ofr) :: (fa, ofa) :: (fn, ofn) :: (sw, osw) :: (sn, osn) :: (q, oq) :: (so, oso) :: (x, instObj 683 db) :: (db, dictOf es nb) :: news)
      (fun v news' => ∃ a tk o', v = .int (nn : Nat) tk ∧
        news' = (d, o') :: (lo, W.listOf (List.toArray (ops ++ [.str op top])) (n1 + 1)) :: (la, W.listOf (List.toArray (va ++ [.ref D])) (n2 + 1)) :: (ls, W.listOf (List.toArray (vs ++ [.int sr ts])) (n3 + 1)) :: (ldt, W.listOf (List.toArray (vd ++ [dv])) (n4 + 1)) :: (a, ({ cls := .type "tuple", data := .seq (List.toArray [.str op top, .ref D, .int sr ts, dv]) } : Obj)) :: (D3, oD3) :: (a9, oa) :: (D1, oD1) :: (D2, oD2) :: (fr, ofr) :: (fa, ofa) :: (fn, ofn) :: (sw, osw) :: (sn, osn) :: (q, oq) :: (so, oso) :: (x, instObj 683 db) :: (db, dictOf es nb) :: news ∧
        TabK PySem.Challenge.rw_qz0019_01.row.prog w ((a, ({ cls := .type "tuple", data := .seq (List.toArray [.str op top, .ref D, .int sr ts, dv]) } : Obj)) :: (D3, oD3) :: (a9, oa) :: (D1, oD1) :: (D2, oD2) :: (fr, ofr) :: (fa, ofa) :: (fn, ofn) :: (sw, osw) :: (sn, osn) :: (q, oq) :: (so, oso) :: (x, instObj 683 db) :: (db, dictOf es nb) :: news) o' (ks ++ [k]) ∧ (∀ p ∈ (D3, oD3) :: (a9, oa) :: (D1, oD1) :: (D2, oD2) :: (fr, ofr) :: (fa, ofa) :: (fn, ofn) :: (sw, osw) :: (sn, osn) :: (q, oq) :: (so, oso) :: (x, instObj 683 db) :: (db, dictOf es nb) :: news, p.1 < a) ∧ d < a ∧ lo < a ∧ la < a ∧ ls < a ∧ ldt < a) :=
  (make_g (x0 := (D3, oD3)) (rest := (a9, oa) :: (D1, oD1) :: (D2, oD2) :: (fr, ofr) :: (fa, ofa) :: (fn, ofn) :: (sw, osw) :: (sn, osn) :: (q, oq) :: (so, oso) :: (x, instObj 683 db) :: (db, dictOf es nb) :: news) (mem_idx (l := (D3, oD3) :: [(a9, oa), (D1, oD1), (D2, oD2), (fr, ofr), (fa, ofa), (fn, ofn), (sw, osw), (sn, osn), (q, oq), (so, oso), (x, instObj 683 db), (db, dictOf es nb)] ++ news) 11 (D3, oD3) (Nat.le_add_left 12 _)) (mem_idx (l := (D3, oD3) :: [(a9, oa), (D1, oD1), (D2, oD2), (fr, ofr), (fa, ofa), (fn, ofn), (sw, osw), (sn, osn), (q, oq), (so, oso), (x, instObj 683 db), (db, dictOf es nb)] ++ news) 12 (D3, oD3) (Nat.le_add_left 13 _)) g1 g2 g3 g4 g5 (hc.ne (i := 14) (j := 9) (Nat.le_of_ble_eq_true rfl) (Nat.le_of_ble_eq_true rfl) (by decide)) (hc.ne (i := 14) (j := 11) (Nat.le_of_ble_eq_true rfl) (Nat.le_of_ble_eq_true rfl) (by decide)) (hc.ne (i := 14) (j := 12) (Nat.le_of_ble_eq_true rfl) (Nat.le_of_ble_eq_true rfl) (by decide)) (hc.ne (i := 14) (j := 13) (Nat.le_of_ble_eq_true rfl) (Nat.le_of_ble_eq_true rfl) (by decide)) (hc.ne (i := 9) (j := 11) (Nat.le_of_ble_eq_true rfl) (Nat.le_of_ble_eq_true rfl) (by decide)) (hc.ne (i := 9) (j := 12) (Nat.le_of_ble_eq_true rfl) (Nat.le_of_ble_eq_true rfl) (by decide)) (hc.ne (i := 9) (j := 13) (Nat.le_of_ble_eq_true rfl) (Nat.le_of_ble_eq_true rfl) (by decide)) (hc.ne (i := 11) (j := 12) (Nat.le_of_ble_eq_true rfl) (Nat.le_of_ble_eq_true rfl) (by decide)) (hc.ne (i := 11) (j := 13) (Nat.le_of_ble_eq_true rfl) (Nat.le_of_ble_eq_true rfl) (by decide)) (hc.ne (i := 12) (j := 13) (Nat.le_of_ble_eq_true rfl) (Nat.le_of_ble_eq_true rfl) (by decide)) (hc.off (is := [17, 16, 15, 10, 8, 7, 6, 5, 4, 3, 2, 1, 0]) (ps := (D3, oD3) :: [(a9, oa), (D1, oD1), (D2, oD2), (fr, ofr), (fa, ofa), (fn, ofn), (sw, osw), (sn, osn), (q, oq), (so, oso), (x, instObj 683 db), (db, dictOf es nb)]) rfl hb (j := 14) (Nat.le_of_ble_eq_true rfl) rfl) (hc.off (is := [17, 16, 15, 10, 8, 7, 6, 5, 4, 3, 2, 1, 0]) (ps := (D3, oD3) :: [(a9, oa), (D1, oD1), (D2, oD2), (fr, ofr), (fa, ofa), (fn, ofn), (sw, osw), (sn, osn), (q, oq), (so, oso), (x, instObj 683 db), (db, dictOf es nb)]) rfl hb (j := 9) (Nat.le_of_ble_eq_true rfl) rfl) (hc.off (is := [17, 16, 15, 10, 8, 7, 6, 5, 4, 3, 2, 1, 0]) (ps := (D3, oD3) :: [(a9, oa), (D1, oD1), (D2, oD2), (fr, ofr), (fa, ofa), (fn, ofn), (sw, osw), (sn, osn), (q, oq), (so, oso), (x, instObj 683 db), (db, dictOf es nb)]) rfl hb (j := 11) (Nat.le_of_ble_eq_true rfl) rfl) (hc.off (is := [17, 16, 15, 10, 8, 7, 6, 5, 4, 3, 2, 1, 0]) (ps := (D3, oD3) :: [(a9, oa), (D1, oD1), (D2, oD2), (fr, ofr), (fa, ofa), (fn, ofn), (sw, osw), (sn, osn), (q, oq), (so, oso), (x, instObj 683 db), (db, dictOf es nb)]) rfl hb (j := 12) (Nat.le_of_ble_eq_true rfl) rfl) (hc.off (is := [17, 16, 15, 10, 8, 7, 6, 5, 4, 3, 2, 1, 0]) (ps := (D3, oD3) :: [(a9, oa), (D1, oD1), (D2, oD2), (fr, ofr), (fa, ofa), (fn, ofn), (sw, osw), (sn, osn), (q, oq), (so, oso), (x, instObj 683 db), (db, dictOf es nb)]) rfl hb (j := 13) (Nat.le_of_ble_eq_true rfl) rfl) hlo hT hkn hkl hl hnn hl2 hl3 hl4 hK)
theorem bank_fin {w : World} {news X : LD} {db x so q sn sw fn fa fr lo D2 la ls ldt d D1 a9 D3 b9 bd : Addr} {ob oD3 oa oD1 oD2 oq oso o bo : Obj} {i1 i2 h0 h1 h2 h3 h4 h5 h6 h7 h8 h9 h10 h11 h12 h13 : Int} {t0 t1 t2 t3 t4 t5 t6 t7 t8 t9 t10 t11 t12 t13 s1 s2 s3 u1 u2 : Tok} {v5 x1 x2 x3 y1 y2 y3 z1 z2 z3 w1 w2 w3 k1 k2 k3 : Value} {nb n1 n2 n3 n4 n5 n6 n7 n8 n9 : Nat}
    (ei1 : i1 = 1) (ei2 : i2 = 2) (hb : ∀ p ∈ news, p.1 < db) (hc : Chn [db, x, so, q, sn, sw, fn, fa, fr, lo, D2, la, ls, ldt, d, D1, a9, D3, b9, bd])
    (l1 : (d == sysModules) = false) (l2 : (bd == sysModules) = false) (hbo : bo.IsDictOf (PySem.intKind PySem.Challenge.rw_qz0019_01.row.prog w) []) (hbf : FlatPairs PyData.int [] [])
    (hT : TabK PySem.Challenge.rw_qz0019_01.row.prog w X o [.oth (Str.ofString "true") 0 0, .oth (Str.ofString "false") 0 0])
    (hX : ∀ p ∈ X, p.2.cls = .type "tuple" → p ∈ (b9, ob) :: (D3, oD3) :: (a9, oa) :: (D1, oD1) :: (D2, oD2) :: (q, oq) :: (so, oso) :: (x, instObj 683 db) :: (db, dictOf [⟨h0, .str (Str.ofString "sort_names") t0, .ref sn⟩, ⟨h1, .str (Str.ofString "sort_widths") t1, .ref sw⟩, ⟨h2, .str (Str.ofString "fun_names") t2, .ref fn⟩, ⟨h3, .str (Str.ofString "fun_args") t3, .ref fa⟩, ⟨h4, .str (Str.ofString "fun_results") t4, .ref fr⟩, ⟨h5, .str (Str.ofString "fresh_count") t5, v5⟩, ⟨h6, .str (Str.ofString "term_ops") t6, .ref lo⟩, ⟨h7, .str (Str.ofString "term_args") t7, .ref la⟩, ⟨h8, .str (Str.ofString "term_sorts") t8, .ref ls⟩, ⟨h9, .str (Str.ofString "term_datas") t9, .ref ldt⟩, ⟨h10, .str (Str.ofString "numbers") t10, .ref d⟩, ⟨h11, .str (Str.ofString "true_number") t11, .int i1 u1⟩, ⟨h12, .str (Str.ofString "false_number") t12, .int i2 u2⟩, ⟨h13, .str (Str.ofString "bv_numbers") t13, .ref bd⟩] nb) :: news) :
    ∃ bank P add e1 e2 e3, Value.ref x = .ref bank ∧ (∀ q ∈ add, ∀ p ∈ news, p.1 < q.1) ∧ BankD P add bank ∧ BSt w P ((bd, bo) :: (d, o) :: (lo, W.listOf (List.toArray [.str (Str.ofString "") s1, .str (Str.ofString "true") s2, .str (Str.ofString "false") s3]) n1) :: (la, W.listOf (List.toArray [x1, x2, x3]) n2) :: (ls, W.listOf (List.toArray [y1, y2, y3]) n3) :: (ldt, W.listOf (List.toArray [z1, z2, z3]) n4) :: (b9, ob) :: (D3, oD3) :: (a9, oa) :: (D1, oD1) :: (D2, oD2) :: (fr, W.listOf (List.toArray []) n7) :: (fa, W.listOf (List.toArray []) n6) :: (fn, W.listOf (List.toArray []) n5) :: (sw, W.listOf (List.toArray [w1, w2, w3]) n9) :: (sn, W.listOf (List.toArray [k1, k2, k3]) n8) :: (q, oq) :: (so, oso) :: (x, instObj 683 db) :: (db, dictOf [⟨h0, .str (Str.ofString "sort_names") t0, .ref sn⟩, ⟨h1, .str (Str.ofString "sort_widths") t1, .ref sw⟩, ⟨h2, .str (Str.ofString "fun_names") t2, .ref fn⟩, ⟨h3, .str (Str.ofString "fun_args") t3, .ref fa⟩, ⟨h4, .str (Str.ofString "fun_results") t4, .ref fr⟩, ⟨h5, .str (Str.ofString "fresh_count") t5, v5⟩, ⟨h6, .str (Str.ofString "term_ops") t6, .ref lo⟩, ⟨h7, .str (Str.ofString "term_args") t7, .ref la⟩, ⟨h8, .str (Str.ofString "term_sorts") t8, .ref ls⟩, ⟨h9, .str (Str.ofString "term_datas") t9, .ref ldt⟩, ⟨h10, .str (Str.ofString "numbers") t10, .ref d⟩, ⟨h11, .str (Str.ofString "true_number") t11, .int i1 u1⟩, ⟨h12, .str (Str.ofString "false_number") t12, .int i2 u2⟩, ⟨h13, .str (Str.ofString "bv_numbers") t13, .ref bd⟩] nb) :: news) (add ++ news) 3 0 [.oth (Str.ofString "true") 0 0, .oth (Str.ofString "false") 0 0] [.str (Str.ofString "") e1, .str (Str.ofString "true") e2, .str (Str.ofString "false") e3] false := by
  subst ei1 ei2
  refine ⟨x, ⟨d, lo, la, ls, ldt, fn, fa, fr, sn, sw, bd⟩, [(b9, ob), (D3, oD3), (a9, oa), (D1, oD1), (D2, oD2), (q, oq), (so, oso), (x, instObj 683 db), (db, dictOf [⟨h0, .str (Str.ofString "sort_names") t0, .ref sn⟩, ⟨h1, .str (Str.ofString "sort_widths") t1, .ref sw⟩, ⟨h2, .str (Str.ofString "fun_names") t2, .ref fn⟩, ⟨h3, .str (Str.ofString "fun_args") t3, .ref fa⟩, ⟨h4, .str (Str.ofString "fun_results") t4, .ref fr⟩, ⟨h5, .str (Str.ofString "fresh_count") t5, v5⟩, ⟨h6, .str (Str.ofString "term_ops") t6, .ref lo⟩, ⟨h7, .str (Str.ofString "term_args") t7, .ref la⟩, ⟨h8, .str (Str.ofString "term_sorts") t8, .ref ls⟩, ⟨h9, .str (Str.ofString "term_datas") t9, .ref ldt⟩, ⟨h10, .str (Str.ofString "numbers") t10, .ref d⟩, ⟨h11, .str (Str.ofString "true_number") t11, .int 1 u1⟩, ⟨h12, .str (Str.ofString "false_number") t12, .int 2 u2⟩, ⟨h13, .str (Str.ofString "bv_numbers") t13, .ref bd⟩] nb)], s1, s2, s3, rfl, fun r hr p hp => Nat.lt_of_lt_of_le (hb p hp) (hc.above (is := [18, 17, 16, 15, 10, 3, 2, 1, 0]) rfl rfl r hr), ⟨db, fun i => [h0, h1, h2, h3, h4, h5, h6, h7, h8, h9, h10, h11, h12, h13].getD i 0, fun i => [t0, t1, t2, t3, t4, t5, t6, t7, t8, t9, t10, t11, t12, t13].getD i 0, v5, u1, u2, nb, mem_idx 7 (x, o) (Nat.le_of_ble_eq_true rfl), mem_idx 8 (x, o) (Nat.le_of_ble_eq_true rfl)⟩, hc.nodup (is := [14, 9, 11, 12, 13, 6, 7, 8, 4, 5, 19]) rfl (by decide), hc.offs (is := [18, 17, 16, 15, 10, 3, 2, 1, 0]) (js := [14, 9, 11, 12, 13, 6, 7, 8, 4, 5, 19]) rfl hb rfl rfl rfl, ⟨l1, l2⟩, ⟨o, bo, _, [x1, x2, x3], [y1, y2, y3], [z1, z2, z3], [], [], [], [k1, k2, k3], [w1, w2, w3], n1, n2, n3, n4, n5, n6, n7, n8, n9⟩, sub_idx2 (is := [1, 2, 3, 4, 5, 13, 12, 11, 15, 14, 0, 6, 7, 8, 9, 10, 16, 17, 18, 19]) (B := [(bd, bo), (d, o), (lo, W.listOf (List.toArray [.str (Str.ofString "") s1, .str (Str.ofString "true") s2, .str (Str.ofString "false") s3]) n1), (la, W.listOf (List.toArray [x1, x2, x3]) n2), (ls, W.listOf (List.toArray [y1, y2, y3]) n3), (ldt, W.listOf (List.toArray [z1, z2, z3]) n4), (b9, ob), (D3, oD3), (a9, oa), (D1, oD1), (D2, oD2), (fr, W.listOf (List.toArray []) n7), (fa, W.listOf (List.toArray []) n6), (fn, W.listOf (List.toArray []) n5), (sw, W.listOf (List.toArray [w1, w2, w3]) n9), (sn, W.listOf (List.toArray [k1, k2, k3]) n8), (q, oq), (so, oso), (x, instObj 683 db), (db, dictOf [⟨h0, .str (Str.ofString "sort_names") t0, .ref sn⟩, ⟨h1, .str (Str.ofString "sort_widths") t1, .ref sw⟩, ⟨h2, .str (Str.ofString "fun_names") t2, .ref fn⟩, ⟨h3, .str (Str.ofString "fun_args") t3, .ref fa⟩, ⟨h4, .str (Str.ofString "fun_results") t4, .ref fr⟩, ⟨h5, .str (Str.ofString "fresh_count") t5, v5⟩, ⟨h6, .str (Str.ofString "term_ops") t6, .ref lo⟩, ⟨h7, .str (Str.ofString "term_args") t7, .ref la⟩, ⟨h8, .str (Str.ofString "term_sorts") t8, .ref ls⟩, ⟨h9, .str (Str.ofString "term_datas") t9, .ref ldt⟩, ⟨h10, .str (Str.ofString "numbers") t10, .ref d⟩, ⟨h11, .str (Str.ofString "true_number") t11, .int 1 u1⟩, ⟨h12, .str (Str.ofString "false_number") t12, .int 2 u2⟩, ⟨h13, .str (Str.ofString "bv_numbers") t13, .ref bd⟩] nb)]) (x, o) rfl rfl, hT.monoT hX, rfl, ⟨[], hbo, hbf⟩, by simp⟩

end
section
local macro_rules | `(tactic| walk_at "call ref") => `(tactic| (k_here; k_dflt refine' my_stopG (h := ?_)))
local macro_rules | `(tactic| ktr_units) => `(tactic| ((simp only [units_under_make, units_in1, units_deeper, Around.mark_units, units_caller]); (try dsimp only); omega))
/-- a mark: d is the ledger's bottom -/
def Bot (_ : Nat) : Prop := True
theorem lt_head {x : Addr} {o : Obj} {L : LD} {X : Addr} (h : ∀ p ∈ (x, o) :: L, p.1 < X) : @LT.lt Nat _ x X := h _ (.head _)
theorem lt_bot {d a X : Nat} (_ : Bot d) (h : d < a) (k : a < X) : d < X := Nat.lt_trans h k
theorem lt_in {x : Addr} {o : Obj} {L : LD} {X : Addr} (h : ∀ p ∈ L, p.1 < X) (m : (x, o) ∈ L) : @LT.lt Nat _ x X := h _ m
theorem pr_raw {L L' : LD} {X : Addr} (h : ∀ p ∈ L, p.1 < X) (e : L.map (·.1) = L'.map (·.1)) : ∀ p ∈ L', p.1 < X := by
  intro p hp
  have : p.1 ∈ L.map (·.1) := e ▸ List.mem_map.mpr ⟨p, hp, rfl⟩
  obtain ⟨q, hq, e⟩ := List.mem_map.mp this
  exact e ▸ h q hq
local macro_rules | `(tactic| k_lt $h:ident) => `(tactic| (k_dflt (have hq1 := lt_head $h; have hq2 := lt_bot (by assumption) (by assumption) hq1)))
local macro_rules | `(tactic| k_ne) => `(tactic| first | exact Nat.ne_of_gt (by assumption) | exact Nat.ne_of_lt (by assumption) | (refine neN ?_; (try dsimp only); omega))
theorem sub_many {A B : LD} (h : ∀ p ∈ A, p ∈ B) : ∀ p ∈ A, p ∈ B := h
theorem bank_c {w : World} {mean : ExcName → Option Value} {mg mb : Str → Option Value} {news : LD} :
    Does w mean mg mb 8 100 683 [] news (fun v news' => ∃ bank P add t1 t2 t3, v = .ref bank ∧ (∀ q ∈ add, ∀ p ∈ news, p.1 < q.1) ∧ BankD P add bank ∧ BSt w P news' (add ++ news) 3 0 [.oth (Str.ofString "true") 0 0, .oth (Str.ofString "false") 0 0] [.str (Str.ofString "") t1, .str (Str.ofString "true") t2, .str (Str.ofString "false") t3] false) := by
  unfold Does; k_fill
  w_on
  intro dp un gd cn nms gen cor mor a0 ccd cl outer A₀ base h₀ L m sH sG sD sT sO Q E B F X N T hk hdp hun hret
  w_strict (k_dflt (refine' call_cls ?k1 ?k2 ?k3 ?k4 ?k5 ?k6 ?_; (case k1 => k_asm); (case k2 => k_asm); (case k3 => k_asm); (case k4 => k_is); (case k5 => k_is); (case k6 => k_is); k_whole))
  intro x' d' h' F' N' l1 l2
  have hne : ∀ p ∈ news, p.1 ≠ d' := fun p hp => Nat.ne_of_lt (l1 p hp)
  have hne2 : ∀ p ∈ news, p.1 ≠ x' := fun p hp => Nat.ne_of_lt (Nat.lt_trans (l1 p hp) l2)
  have l2' := l2
  have hbot : Bot d' := True.intro
  have hbase := l1
  replace l2 := ltN l2
  w_strict (k_dflt (refine' ks_code_super ?k1 ?k2 ?k3 ?k4 ?k5 ?kA ?kF ?kK ?k6 ?k7 ?k8 ?k9 ?kB ?_ ?c1 ?c2 ?c3 ?c4; (case kA => exact rfl); (case kF => exact rfl); (case kK => first | exact rfl | assumption); (case k1 => k_asm); (case k2 => k_asm); (case k3 => k_asm); (case k4 => k_asm); (case k5 => k_asm); (case k6 => k_is); (case k7 => k_is); (case k8 => ktr_room); (case k9 => exact BindsTo.of_eq rfl); (case kB => exact locs rfl); (case c1 => decide); (case c2 => exact rfl); (case c3 => exact rfl); (case c4 => exact rfl); intro g' L' h' FG' F' N' B' X' T' l1; (try k_lt l1); (try dsimp only); (try k_lift B')))

  w_strict k_steps
  unfold MyCall
  k_dflt (refine' Does.use (make_f (nn := 1) (A := [_]) (k := .oth (Str.ofString "true") 0 0) ?hB ?hD ?g1 ?g2 ?g3 ?g4 ?g5 ?o1 ?o2 ?o3 ?o4 ?o5 ?pr ?pa ?hlo ?hT ?hkn ?hkl ?hl ?hN ?hl2 ?hl3 ?hl4 ?hK) ?k1 ?k2 ?k3 ?k4 ?k5 ?kK ?kd ?ku ?kR)
  case k1 => k_asm
  case k2 => k_asm
  case k3 => k_asm
  case k4 => k_asm
  case k5 => k_asm
  case kK => first | exact rfl | assumption
  case hB => k_mem
  case hD => k_mem
  case g1 => k_get
  case g2 => k_get
  case g3 => k_get
  case g4 => k_get
  case g5 => k_get
  case hT => exact TabK.empty (by assumption)
  case hkn => exact List.not_mem_nil
  case hkl => decide
  case hl => exact rfl
  case hN => exact Nat.le_of_ble_eq_true rfl
  case hl2 => exact Nat.le_of_ble_eq_true rfl
  case hl3 => exact Nat.le_of_ble_eq_true rfl
  case hl4 => exact Nat.le_of_ble_eq_true rfl
  case hlo => assumption
  case o1 => (first | assumption | (show @LT.lt Nat _ _ _; omega))
  case o2 => (first | assumption | (show @LT.lt Nat _ _ _; omega))
  case o3 => (first | assumption | (show @LT.lt Nat _ _ _; omega))
  case o4 => (first | assumption | (show @LT.lt Nat _ _ _; omega))
  case o5 => (first | assumption | (show @LT.lt Nat _ _ _; omega))
  case pa => (refine List.forall_mem_cons.mpr ⟨?_, List.forall_mem_nil _⟩; show @LT.lt Nat _ _ _; omega)
  case pr => exact pr_raw (by assumption) (by rfl)
  case hK => (intro a news hs ha; exact keyIn_oth (by decide) (hs _ (by k_mem)) ha)
  case kd => ktr_room
  case ku => ktr_units
  intro v9 news9 h9 tk9 hp9 F9 N9
  obtain ⟨a9, tk9, o9, e1, e2, hT9, hr9, r1, r2, r3, r4, r5⟩ := hp9
  subst e1
  rw [e2] at N9
  clear e2
  simp only [List.cons_append, List.nil_append] at N9 hr9 hT9
  k_lt hr9
  replace r1 := ltN r1; replace r2 := ltN r2; replace r3 := ltN r3; replace r4 := ltN r4; replace r5 := ltN r5
  (try dsimp only)
  (try k_fold)
  w_strict k_steps
  unfold MyCall
  k_dflt (refine' Does.use (make_2 (nn := 2) (k := .oth (Str.ofString "false") 0 0) hbase ?yhc ?yg1 ?yg2 ?yg3 ?yg4 ?yg5 ?yhlo ?yhT ?yhkn ?yhkl ?yhl ?yhN ?yhl2 ?yhl3 ?yhl4 ?yhK) ?yk1 ?yk2 ?yk3 ?yk4 ?yk5 ?ykK ?ykd ?yku ?ykR)
  case yk1 => k_asm
  case yk2 => k_asm
  case yk3 => k_asm
  case yk4 => k_asm
  case yk5 => k_asm
  case ykK => first | exact rfl | assumption
  case yg1 => k_get
  case yg2 => k_get
  case yg3 => k_get
  case yg4 => k_get
  case yg5 => k_get
  case yhT =>
    refine TabK.monoT hT9 ?_
    repeat (refine List.forall_mem_cons.mpr (And.intro ?_ ?_); focus (first | exact fun hc => (cls_dict hc).elim | exact fun hc => (cls_list hc).elim | exact fun _ => by k_mem))
    exact fun p hp _ => sub_many (by (repeat (refine sub_tail ?_)); exact fun _ h => h) p hp
  case yhkn => decide +kernel
  case yhkl => decide
  case yhl => exact rfl
  case yhN => exact Nat.le_of_ble_eq_true rfl
  case yhl2 => exact Nat.le_of_ble_eq_true rfl
  case yhl3 => exact Nat.le_of_ble_eq_true rfl
  case yhl4 => exact Nat.le_of_ble_eq_true rfl
  case yhlo => assumption
  case yhc => (repeat (refine And.intro ?_ ?_; focus (first | assumption | exact lt_in (by assumption) (by repeat (first | exact List.Mem.head _ | refine List.Mem.tail _ ?_))))); exact True.intro
  case yhK => (intro a news hs ha; exact keyIn_oth (by decide) (hs _ (by k_mem)) ha)
  case ykd => ktr_room
  case yku => ktr_units
  clear hT9
  intro v9 news9 h9 tk9 hp9 F9 N9
  obtain ⟨b9, tk9, o9, e1, e2, hT9, hs9, q1, q2, q3, q4, q5⟩ := hp9
  subst e1
  rw [e2] at N9
  clear e2
  simp only [List.cons_append, List.nil_append] at N9 hs9 hT9
  k_lt hs9
  replace q1 := ltN q1; replace q2 := ltN q2; replace q3 := ltN q3; replace q4 := ltN q4; replace q5 := ltN q5
  (try dsimp only)
  (try k_fold)
  w_strict k_steps
  (refine hret _ _ _ _ ?_ (by k_asm) (by k_asm))
  refine bank_fin rfl rfl hbase ?_ ?_ ?_ ?_ .nil hT9 ?_
  · (repeat (refine And.intro ?_ ?_; focus (first | assumption | exact lt_in (by assumption) (by repeat (first | exact List.Mem.head _ | refine List.Mem.tail _ ?_))))); exact True.intro
  · assumption
  · assumption
  · assumption
  · repeat (refine List.forall_mem_cons.mpr (And.intro ?_ ?_); focus (first | exact fun hc => (cls_dict hc).elim | exact fun hc => (cls_list hc).elim | exact fun _ => by k_mem))
    exact fun p hp _ => sub_many (by (repeat (refine sub_tail ?_)); exact fun _ h => h) p hp

end
local macro_rules | `(tactic| walk_at "PART 1") => `(tactic| fail "part")
section
local macro_rules | `(tactic| k_get) => `(tactic| assumption)
local macro_rules | `(tactic| walk_at "call type:tuple") => `(tactic| (k_here; k_dflt (refine' call_tuple_tup (News.isTup ?N ?p) ?_; (case N => k_asm); (case p => k_mem); k_whole)))
theorem declare_c {w : World} {mean : ExcName → Option Value} {mg mb : Str → Option Value} {rest : LD} {bank db fn fa fr D : Addr} {es : List DictEntry} {nb n5 n6 n7 m : Nat} {vn vfa vfr : List Value} {nm : Str} {so : Int} {tn ts : Tok}
    (hB : (bank, instObj 683 db) ∈ rest) (hD : (db, dictOf es nb) ∈ rest) (g1 : getL (Str.ofString "fun_names") es = some (some (.ref fn))) (g2 : getL (Str.ofString "fun_args") es = some (some (.ref fa))) (g3 : getL (Str.ofString "fun_results") es = some (some (.ref fr)))
    (e1 : fn ≠ fa) (e2 : fn ≠ fr) (e3 : fa ≠ fr) (p1 : ∀ p ∈ rest, p.1 ≠ fn) (p2 : ∀ p ∈ rest, p.1 ≠ fa) (p3 : ∀ p ∈ rest, p.1 ≠ fr)
    (hT : (D, ({ cls := .type "tuple", data := .seq (List.toArray []) } : Obj)) ∈ rest) (hl : vn.length = m) (hm : m ≤ 50) (hl1 : vn.length ≤ 50) (hl2 : vfa.length ≤ 50) (hl3 : vfr.length ≤ 50) :
    Does w mean mg mb 2 40 206 [.ref bank, .str nm tn, .ref D, .int so ts] ((fn, W.listOf (List.toArray vn) n5) :: (fa, W.listOf (List.toArray vfa) n6) :: (fr, W.listOf (List.toArray vfr) n7) :: rest)
      (fun v news' => ∃ tk, v = .int (m : Nat) tk ∧ news' = (fn, W.listOf (List.toArray (vn ++ [.str nm tn])) (n5 + 1)) :: (fa, W.listOf (List.toArray (vfa ++ [.ref D])) (n6 + 1)) :: (fr, W.listOf (List.toArray (vfr ++ [.int so ts])) (n7 + 1)) :: rest) := by
  unfold Does; k_fill
  w_on
  have hl9 : (vn ++ [Value.str nm tn]).length = m + 1 := by rw [List.length_append, hl]; rfl
  replace e1 : @Ne Nat fn fa := e1; replace e2 : @Ne Nat fn fr := e2; replace e3 : @Ne Nat fa fr := e3
  intro dp un gd cn nms gen cor mor a0 ccd cl outer A₀ base h₀ L m' sH sG sD sT sO Q E B F X N T hk hdp hun hret
  w_strict (refine wpAny_call ?_; k_dflt cell_enter)
  w_strict k_steps
  exact hret _ _ _ _ ⟨_, congrArg (fun i => Value.int i _) (by omega), rfl⟩ (by k_asm) (by k_asm)

end
local macro_rules | `(tactic| walk_at "PART 2") => `(tactic| fail "part")
section
local macro_rules | `(tactic| k_get) => `(tactic| assumption)
theorem sort0_c {w : World} {mean : ExcName → Option Value} {mg mb : Str → Option Value} {rest : LD} {bank db sn sw bd : Addr} {es : List DictEntry} {nb n8 n9 : Nat} {vsn vsw : List Value} {bo : Obj} {kvs : List (Int × Value)} {t2 : Tok}
    (hB : (bank, instObj 683 db) ∈ rest) (hD : (db, dictOf es nb) ∈ rest) (g1 : getL (Str.ofString "sort_names") es = some (some (.ref sn))) (g2 : getL (Str.ofString "sort_widths") es = some (some (.ref sw))) (g3 : getL (Str.ofString "bv_numbers") es = some (some (.ref bd)))
    (e1 : sn ≠ sw) (e2 : sn ≠ bd) (e3 : sw ≠ bd) (p1 : ∀ p ∈ rest, p.1 ≠ sn) (p2 : ∀ p ∈ rest, p.1 ≠ sw) (p3 : ∀ p ∈ rest, p.1 ≠ bd)
    (hlo : (bd == sysModules) = false) (hd : bo.IsDictOf (PySem.intKind PySem.Challenge.rw_qz0019_01.row.prog w) kvs) (hf : FlatPairs PyData.int kvs (kdfD [])) (hl1 : vsn.length = 3) (hl2 : vsw.length ≤ 50) :
    Does w mean mg mb 2 40 589 [.ref bank, .int 2 t2] ((sn, W.listOf (List.toArray vsn) n8) :: (sw, W.listOf (List.toArray vsw) n9) :: (bd, bo) :: rest)
      (fun v news' => ∃ tk x bo' kvs', v = .int 3 tk ∧ news' = (sn, W.listOf (List.toArray (vsn ++ [x])) (n8 + 1)) :: (sw, W.listOf (List.toArray (vsw ++ [.int 2 t2])) (n9 + 1)) :: (bd, bo') :: rest ∧
        bo'.IsDictOf (PySem.intKind PySem.Challenge.rw_qz0019_01.row.prog w) kvs' ∧ FlatPairs PyData.int kvs' (kdfD [(2, 3)])) := by
  unfold Does; k_fill
  w_on
  have hl9 : ∀ x : Value, (vsn ++ [x]).length = 4 := fun x => by rw [List.length_append, hl1]; rfl
  replace e1 : @Ne Nat sn sw := e1; replace e2 : @Ne Nat sn bd := e2; replace e3 : @Ne Nat sw bd := e3
  intro dp un gd cn nms gen cor mor a0 ccd cl outer A₀ base h₀ L m' sH sG sD sT sO Q E B F X N T hk hdp hun hret
  w_strict (refine wpAny_call ?_; k_dflt cell_enter)
  w_strict k_steps
  rename Obj.IsDictOf _ _ (_ : List (Int × Value)) => hd9
  rename FlatPairs _ _ _ => hf9
  exact hret _ _ _ _ ⟨_, _, _, _, rfl, rfl, hd9, hf9⟩ (by k_asm) (by k_asm)
theorem sort1_c {w : World} {mean : ExcName → Option Value} {mg mb : Str → Option Value} {rest : LD} {bank db bd : Addr} {es : List DictEntry} {nb : Nat} {bo : Obj} {kvs : List (Int × Value)} {t2 : Tok}
    (hB : (bank, instObj 683 db) ∈ rest) (hD : (db, dictOf es nb) ∈ rest) (g3 : getL (Str.ofString "bv_numbers") es = some (some (.ref bd)))
    (hlo : (bd == sysModules) = false) (hd : bo.IsDictOf (PySem.intKind PySem.Challenge.rw_qz0019_01.row.prog w) kvs) (hf : FlatPairs PyData.int kvs (kdfD [(2, 3)])) :
    Does w mean mg mb 2 40 589 [.ref bank, .int 2 t2] ((bd, bo) :: rest) (fun v news' => ∃ tk, v = .int 3 tk ∧ news' = (bd, bo) :: rest) := by
  unfold Does; k_fill
  w_on
  intro dp un gd cn nms gen cor mor a0 ccd cl outer A₀ base h₀ L m' sH sG sD sT sO Q E B F X N T hk hdp hun hret
  w_strict (refine wpAny_call ?_; k_dflt cell_enter)
  w_strict k_steps
  exact hret _ _ _ _ ⟨_, rfl, rfl⟩ (by k_asm) (by k_asm)

end
section
theorem BankD.at {P : BAddr} {news : LD} {bank : Addr} (h : BankD P news bank) : ∃ db es nb, (bank, instObj 683 db) ∈ news ∧ (db, dictOf es nb) ∈ news ∧ getL (Str.ofString "numbers") es = some (some (.ref P.d)) ∧ getL (Str.ofString "term_ops") es = some (some (.ref P.lo)) ∧ getL (Str.ofString "term_args") es = some (some (.ref P.la)) ∧ getL (Str.ofString "term_sorts") es = some (some (.ref P.ls)) ∧ getL (Str.ofString "term_datas") es = some (some (.ref P.ldt)) ∧
    getL (Str.ofString "fun_names") es = some (some (.ref P.fn)) ∧ getL (Str.ofString "fun_args") es = some (some (.ref P.fa)) ∧ getL (Str.ofString "fun_results") es = some (some (.ref P.fr)) ∧ getL (Str.ofString "sort_names") es = some (some (.ref P.sn)) ∧ getL (Str.ofString "sort_widths") es = some (some (.ref P.sw)) ∧ getL (Str.ofString "bv_numbers") es = some (some (.ref P.bd)) := by
  obtain ⟨db, bhs, bts, v5, u1, u2, nb, hb, hdb⟩ := h
  refine ⟨db, _, nb, hb, hdb, ?_, ?_, ?_, ?_, ?_, ?_, ?_, ?_, ?_, ?_, ?_⟩ <;> k_get
theorem make_b {w : World} {mean : ExcName → Option Value} {mg mb : Str → Option Value} {P : BAddr} {news rest : LD} {bank : Addr} {nn m : Nat} {ks : List KY} {ops : List Value} {bv : Bool} {k : KY} {op : Str} {so : Int} {top ts : Tok} {dv : Value} {D : Addr} (hBD : BankD P rest bank) (hS : BSt w P news rest nn m ks ops bv) (hkn : k ∉ ks) (hnn : nn ≤ 50)
    (hK : ∀ (a : Addr) (news : LD), (∀ p ∈ rest, p ∈ news) → (a, ({ cls := .type "tuple", data := .seq (List.toArray [.str op top, .ref D, .int so ts, dv]) } : Obj)) ∈ news → KeyIn PySem.Challenge.rw_qz0019_01.row.prog w news k a) :
    Does w mean mg mb 2 40 297 [.ref bank, .str op top, .ref D, .int so ts, dv] news (fun v news' => ∃ rest' tk, v = .int (nn : Nat) tk ∧ Ext rest rest' ∧ BSt w P news' rest' (nn + 1) m (ks ++ [k]) (ops ++ [.str op top]) bv) := by
  obtain ⟨db, es, nb, hb, hdb, g1, g2, g3, g4, g5, g6, g7, g8, g9, g10, g11⟩ := hBD.at
  have hdist := hS.dist
  simp only [BAddr.all, List.nodup_cons, List.mem_cons, List.not_mem_nil, or_false, not_or, List.nodup_nil, not_false_eq_true, and_true] at hdist
  obtain ⟨⟨n_d_lo, n_d_la, n_d_ls, n_d_ldt, n_d_fn, n_d_fa, n_d_fr, n_d_sn, n_d_sw, n_d_bd⟩, ⟨n_lo_la, n_lo_ls, n_lo_ldt, n_lo_fn, n_lo_fa, n_lo_fr, n_lo_sn, n_lo_sw, n_lo_bd⟩, ⟨n_la_ls, n_la_ldt, n_la_fn, n_la_fa, n_la_fr, n_la_sn, n_la_sw, n_la_bd⟩, ⟨n_ls_ldt, n_ls_fn, n_ls_fa, n_ls_fr, n_ls_sn, n_ls_sw, n_ls_bd⟩, ⟨n_ldt_fn, n_ldt_fa, n_ldt_fr, n_ldt_sn, n_ldt_sw, n_ldt_bd⟩, ⟨n_fn_fa, n_fn_fr, n_fn_sn, n_fn_sw, n_fn_bd⟩, ⟨n_fa_fr, n_fa_sn, n_fa_sw, n_fa_bd⟩, ⟨n_fr_sn, n_fr_sw, n_fr_bd⟩, ⟨n_sn_sw, n_sn_bd⟩, n_sw_bd⟩ := hdist
  have hoff : ∀ p ∈ rest, ¬ p.1 = P.d ∧ ¬ p.1 = P.lo ∧ ¬ p.1 = P.la ∧ ¬ p.1 = P.ls ∧ ¬ p.1 = P.ldt ∧ ¬ p.1 = P.fn ∧ ¬ p.1 = P.fa ∧ ¬ p.1 = P.fr ∧ ¬ p.1 = P.sn ∧ ¬ p.1 = P.sw ∧ ¬ p.1 = P.bd := fun p hp => by
    have := hS.off p hp
    simpa only [BAddr.all, List.mem_cons, List.not_mem_nil, or_false, not_or] using this
  have hlow := hS.low
  have hdist := hS.dist
  obtain ⟨b, hs, hT, rfl, ⟨kvs, hbo, hbf⟩, q1, q2, q3, q4, q5, q6, q7, q8, q9, q10⟩ := hS.ex
  have hup : ∀ p ∈ rest, p ∈ (P.fn, W.listOf (List.toArray b.vn) b.n5) :: (P.fa, W.listOf (List.toArray b.vfa) b.n6) :: (P.fr, W.listOf (List.toArray b.vfr) b.n7) :: (P.sn, W.listOf (List.toArray b.vsn) b.n8) :: (P.sw, W.listOf (List.toArray b.vsw) b.n9) :: (P.bd, b.bo) :: rest := fun p hp => (List.mem_cons_of_mem _ (List.mem_cons_of_mem _ (List.mem_cons_of_mem _ (List.mem_cons_of_mem _ (List.mem_cons_of_mem _ (List.mem_cons_of_mem _ (hp)))))))
  refine Does.weaken (Does.perm (make_c (o := b.o) (ops := b.ops) (va := b.va) (vs := b.vs) (vd := b.vd) (n1 := b.n1) (n2 := b.n2) (n3 := b.n3) (n4 := b.n4) (rest := (P.fn, W.listOf (List.toArray b.vn) b.n5) :: (P.fa, W.listOf (List.toArray b.vfa) b.n6) :: (P.fr, W.listOf (List.toArray b.vfr) b.n7) :: (P.sn, W.listOf (List.toArray b.vsn) b.n8) :: (P.sw, W.listOf (List.toArray b.vsw) b.n9) :: (P.bd, b.bo) :: rest) (hup _ hb) (hup _ hdb) g1 g2 g3 g4 g5 n_d_lo n_d_la n_d_ls n_d_ldt n_lo_la n_lo_ls n_lo_ldt n_la_ls n_la_ldt n_ls_ldt
    (List.forall_mem_cons.mpr ⟨(Ne.symm n_d_fn), List.forall_mem_cons.mpr ⟨(Ne.symm n_d_fa), List.forall_mem_cons.mpr ⟨(Ne.symm n_d_fr), List.forall_mem_cons.mpr ⟨(Ne.symm n_d_sn), List.forall_mem_cons.mpr ⟨(Ne.symm n_d_sw), List.forall_mem_cons.mpr ⟨(Ne.symm n_d_bd), fun p hp => (hoff p hp).1⟩⟩⟩⟩⟩⟩)
    (List.forall_mem_cons.mpr ⟨(Ne.symm n_lo_fn), List.forall_mem_cons.mpr ⟨(Ne.symm n_lo_fa), List.forall_mem_cons.mpr ⟨(Ne.symm n_lo_fr), List.forall_mem_cons.mpr ⟨(Ne.symm n_lo_sn), List.forall_mem_cons.mpr ⟨(Ne.symm n_lo_sw), List.forall_mem_cons.mpr ⟨(Ne.symm n_lo_bd), fun p hp => (hoff p hp).2.1⟩⟩⟩⟩⟩⟩)
    (List.forall_mem_cons.mpr ⟨(Ne.symm n_la_fn), List.forall_mem_cons.mpr ⟨(Ne.symm n_la_fa), List.forall_mem_cons.mpr ⟨(Ne.symm n_la_fr), List.forall_mem_cons.mpr ⟨(Ne.symm n_la_sn), List.forall_mem_cons.mpr ⟨(Ne.symm n_la_sw), List.forall_mem_cons.mpr ⟨(Ne.symm n_la_bd), fun p hp => (hoff p hp).2.2.1⟩⟩⟩⟩⟩⟩)
    (List.forall_mem_cons.mpr ⟨(Ne.symm n_ls_fn), List.forall_mem_cons.mpr ⟨(Ne.symm n_ls_fa), List.forall_mem_cons.mpr ⟨(Ne.symm n_ls_fr), List.forall_mem_cons.mpr ⟨(Ne.symm n_ls_sn), List.forall_mem_cons.mpr ⟨(Ne.symm n_ls_sw), List.forall_mem_cons.mpr ⟨(Ne.symm n_ls_bd), fun p hp => (hoff p hp).2.2.2.1⟩⟩⟩⟩⟩⟩)
    (List.forall_mem_cons.mpr ⟨(Ne.symm n_ldt_fn), List.forall_mem_cons.mpr ⟨(Ne.symm n_ldt_fa), List.forall_mem_cons.mpr ⟨(Ne.symm n_ldt_fr), List.forall_mem_cons.mpr ⟨(Ne.symm n_ldt_sn), List.forall_mem_cons.mpr ⟨(Ne.symm n_ldt_sw), List.forall_mem_cons.mpr ⟨(Ne.symm n_ldt_bd), fun p hp => (hoff p hp).2.2.2.2.1⟩⟩⟩⟩⟩⟩)
    hlow.1 (hT.mono hup) hkn (by omega) q2 (by omega) (by omega) (by omega) (by omega) (by omega) (fun a n hn ha => hK a n (fun p hp => hn p (hup p hp)) ha)) ?_) ?_
  · intro p hp
    refine hs p ?_
    simp only [BData.led, List.mem_cons, List.mem_append, List.not_mem_nil, or_false] at hp ⊢
    rcases hp with h | h | h | h | h | h | h | h | h | h | h | h <;> simp only [h, true_or, or_true]
  · rintro v news' ⟨a, tk, o', hv, rfl, hT', hlt, r1, r2, r3, r4, r5⟩
    refine ⟨(a, ({ cls := .type "tuple", data := .seq (List.toArray [.str op top, .ref D, .int so ts, dv]) } : Obj)) :: rest, tk, hv, Ext.cons fun p hp => hlt p (hup p hp), hdist, ?_, hlow, ⟨o', b.bo, b.ops ++ [.str op top], b.va ++ [.ref D], b.vs ++ [.int so ts], b.vd ++ [dv], b.vn, b.vfa, b.vfr, b.vsn, b.vsw, b.n1 + 1, b.n2 + 1, b.n3 + 1, b.n4 + 1, b.n5, b.n6, b.n7, b.n8, b.n9⟩, ?_, hT'.monoT ?_, rfl, ⟨kvs, hbo, hbf⟩, ?_⟩
    · refine List.forall_mem_cons.mpr ⟨?_, hS.off⟩
      simp only [BAddr.all, List.mem_cons, List.not_mem_nil, or_false, not_or]
      exact ⟨(Nat.ne_of_lt r1).symm, (Nat.ne_of_lt r2).symm, (Nat.ne_of_lt r3).symm, (Nat.ne_of_lt r4).symm, (Nat.ne_of_lt r5).symm, (Nat.ne_of_lt (hlt _ (List.mem_cons_self))).symm, (Nat.ne_of_lt (hlt _ (List.mem_cons_of_mem _ (List.mem_cons_self)))).symm, (Nat.ne_of_lt (hlt _ (List.mem_cons_of_mem _ (List.mem_cons_of_mem _ (List.mem_cons_self))))).symm, (Nat.ne_of_lt (hlt _ (List.mem_cons_of_mem _ (List.mem_cons_of_mem _ (List.mem_cons_of_mem _ (List.mem_cons_self)))))).symm, (Nat.ne_of_lt (hlt _ (List.mem_cons_of_mem _ (List.mem_cons_of_mem _ (List.mem_cons_of_mem _ (List.mem_cons_of_mem _ (List.mem_cons_self))))))).symm, (Nat.ne_of_lt (hlt _ (List.mem_cons_of_mem _ (List.mem_cons_of_mem _ (List.mem_cons_of_mem _ (List.mem_cons_of_mem _ (List.mem_cons_of_mem _ (List.mem_cons_self)))))))).symm⟩
    · intro p hp
      simp only [BData.led, List.mem_cons, List.mem_append, List.not_mem_nil, or_false] at hp ⊢
      rcases hp with (h | h | h | h | h | h | h | h | h | h | h) | h | h <;> simp only [h, true_or, or_true]
    · refine List.forall_mem_cons.mpr ⟨fun _ => .head _, ?_⟩
      refine List.forall_mem_cons.mpr ⟨fun hc => (cls_list hc).elim, ?_⟩
      refine List.forall_mem_cons.mpr ⟨fun hc => (cls_list hc).elim, ?_⟩
      refine List.forall_mem_cons.mpr ⟨fun hc => (cls_list hc).elim, ?_⟩
      refine List.forall_mem_cons.mpr ⟨fun hc => (cls_list hc).elim, ?_⟩
      refine List.forall_mem_cons.mpr ⟨fun hc => (cls_list hc).elim, ?_⟩
      refine List.forall_mem_cons.mpr ⟨fun hc => ?_, fun p hp _ => .tail _ hp⟩
      obtain ⟨_, _, hx, _⟩ := hbo
      have h2 : Value.type "dict" = Value.type "tuple" := hx.1.symm.trans hc
      injection h2 with h2
      exact absurd h2 (by decide)
    · simp only [List.length_append, List.length_cons, List.length_nil]
      refine ⟨by omega, by omega, by omega, by omega, by omega, q6, q7, q8, q9, q10⟩
theorem declare_b {w : World} {mean : ExcName → Option Value} {mg mb : Str → Option Value} {P : BAddr} {news rest : LD} {bank : Addr} {nn m : Nat} {ks : List KY} {ops : List Value} {bv : Bool} {nm : Str} {so : Int} {tn ts : Tok} {D : Addr} (hBD : BankD P rest bank) (hS : BSt w P news rest nn m ks ops bv) (hD : (D, ({ cls := .type "tuple", data := .seq (List.toArray []) } : Obj)) ∈ rest) (hm : m ≤ 50) :
    Does w mean mg mb 2 40 206 [.ref bank, .str nm tn, .ref D, .int so ts] news (fun v news' => ∃ tk, v = .int (m : Nat) tk ∧ BSt w P news' rest nn (m + 1) ks ops bv) := by
  obtain ⟨db, es, nb, hb, hdb, g1, g2, g3, g4, g5, g6, g7, g8, g9, g10, g11⟩ := hBD.at
  have hdist := hS.dist
  simp only [BAddr.all, List.nodup_cons, List.mem_cons, List.not_mem_nil, or_false, not_or, List.nodup_nil, not_false_eq_true, and_true] at hdist
  obtain ⟨⟨n_d_lo, n_d_la, n_d_ls, n_d_ldt, n_d_fn, n_d_fa, n_d_fr, n_d_sn, n_d_sw, n_d_bd⟩, ⟨n_lo_la, n_lo_ls, n_lo_ldt, n_lo_fn, n_lo_fa, n_lo_fr, n_lo_sn, n_lo_sw, n_lo_bd⟩, ⟨n_la_ls, n_la_ldt, n_la_fn, n_la_fa, n_la_fr, n_la_sn, n_la_sw, n_la_bd⟩, ⟨n_ls_ldt, n_ls_fn, n_ls_fa, n_ls_fr, n_ls_sn, n_ls_sw, n_ls_bd⟩, ⟨n_ldt_fn, n_ldt_fa, n_ldt_fr, n_ldt_sn, n_ldt_sw, n_ldt_bd⟩, ⟨n_fn_fa, n_fn_fr, n_fn_sn, n_fn_sw, n_fn_bd⟩, ⟨n_fa_fr, n_fa_sn, n_fa_sw, n_fa_bd⟩, ⟨n_fr_sn, n_fr_sw, n_fr_bd⟩, ⟨n_sn_sw, n_sn_bd⟩, n_sw_bd⟩ := hdist
  have hoff : ∀ p ∈ rest, ¬ p.1 = P.d ∧ ¬ p.1 = P.lo ∧ ¬ p.1 = P.la ∧ ¬ p.1 = P.ls ∧ ¬ p.1 = P.ldt ∧ ¬ p.1 = P.fn ∧ ¬ p.1 = P.fa ∧ ¬ p.1 = P.fr ∧ ¬ p.1 = P.sn ∧ ¬ p.1 = P.sw ∧ ¬ p.1 = P.bd := fun p hp => by
    have := hS.off p hp
    simpa only [BAddr.all, List.mem_cons, List.not_mem_nil, or_false, not_or] using this
  have hlow := hS.low
  have hdist := hS.dist
  obtain ⟨b, hs, hT, rfl, ⟨kvs, hbo, hbf⟩, q1, q2, q3, q4, q5, q6, q7, q8, q9, q10⟩ := hS.ex
  have hup : ∀ p ∈ rest, p ∈ (P.d, b.o) :: (P.lo, W.listOf (List.toArray b.ops) b.n1) :: (P.la, W.listOf (List.toArray b.va) b.n2) :: (P.ls, W.listOf (List.toArray b.vs) b.n3) :: (P.ldt, W.listOf (List.toArray b.vd) b.n4) :: (P.sn, W.listOf (List.toArray b.vsn) b.n8) :: (P.sw, W.listOf (List.toArray b.vsw) b.n9) :: (P.bd, b.bo) :: rest := fun p hp => (List.mem_cons_of_mem _ (List.mem_cons_of_mem _ (List.mem_cons_of_mem _ (List.mem_cons_of_mem _ (List.mem_cons_of_mem _ (List.mem_cons_of_mem _ (List.mem_cons_of_mem _ (List.mem_cons_of_mem _ (hp)))))))))
  refine Does.weaken (Does.perm (declare_c (vn := b.vn) (vfa := b.vfa) (vfr := b.vfr) (n5 := b.n5) (n6 := b.n6) (n7 := b.n7) (rest := (P.d, b.o) :: (P.lo, W.listOf (List.toArray b.ops) b.n1) :: (P.la, W.listOf (List.toArray b.va) b.n2) :: (P.ls, W.listOf (List.toArray b.vs) b.n3) :: (P.ldt, W.listOf (List.toArray b.vd) b.n4) :: (P.sn, W.listOf (List.toArray b.vsn) b.n8) :: (P.sw, W.listOf (List.toArray b.vsw) b.n9) :: (P.bd, b.bo) :: rest) (hup _ hb) (hup _ hdb) g6 g7 g8 n_fn_fa n_fn_fr n_fa_fr
    (List.forall_mem_cons.mpr ⟨n_d_fn, List.forall_mem_cons.mpr ⟨n_lo_fn, List.forall_mem_cons.mpr ⟨n_la_fn, List.forall_mem_cons.mpr ⟨n_ls_fn, List.forall_mem_cons.mpr ⟨n_ldt_fn, List.forall_mem_cons.mpr ⟨(Ne.symm n_fn_sn), List.forall_mem_cons.mpr ⟨(Ne.symm n_fn_sw), List.forall_mem_cons.mpr ⟨(Ne.symm n_fn_bd), fun p hp => (hoff p hp).2.2.2.2.2.1⟩⟩⟩⟩⟩⟩⟩⟩)
    (List.forall_mem_cons.mpr ⟨n_d_fa, List.forall_mem_cons.mpr ⟨n_lo_fa, List.forall_mem_cons.mpr ⟨n_la_fa, List.forall_mem_cons.mpr ⟨n_ls_fa, List.forall_mem_cons.mpr ⟨n_ldt_fa, List.forall_mem_cons.mpr ⟨(Ne.symm n_fa_sn), List.forall_mem_cons.mpr ⟨(Ne.symm n_fa_sw), List.forall_mem_cons.mpr ⟨(Ne.symm n_fa_bd), fun p hp => (hoff p hp).2.2.2.2.2.2.1⟩⟩⟩⟩⟩⟩⟩⟩)
    (List.forall_mem_cons.mpr ⟨n_d_fr, List.forall_mem_cons.mpr ⟨n_lo_fr, List.forall_mem_cons.mpr ⟨n_la_fr, List.forall_mem_cons.mpr ⟨n_ls_fr, List.forall_mem_cons.mpr ⟨n_ldt_fr, List.forall_mem_cons.mpr ⟨(Ne.symm n_fr_sn), List.forall_mem_cons.mpr ⟨(Ne.symm n_fr_sw), List.forall_mem_cons.mpr ⟨(Ne.symm n_fr_bd), fun p hp => (hoff p hp).2.2.2.2.2.2.2.1⟩⟩⟩⟩⟩⟩⟩⟩)
    (hup _ hD) q6 hm (by omega) (by omega) (by omega)) ?_) ?_
  · intro p hp
    refine hs p ?_
    simp only [BData.led, List.mem_cons, List.mem_append, List.not_mem_nil, or_false] at hp ⊢
    rcases hp with h | h | h | h | h | h | h | h | h | h | h | h <;> simp only [h, true_or, or_true]
  · rintro v news' ⟨tk, hv, rfl⟩
    refine ⟨tk, hv, hdist, hS.off, hlow, ⟨b.o, b.bo, b.ops, b.va, b.vs, b.vd, b.vn ++ [.str nm tn], b.vfa ++ [.ref D], b.vfr ++ [.int so ts], b.vsn, b.vsw, b.n1, b.n2, b.n3, b.n4, b.n5 + 1, b.n6 + 1, b.n7 + 1, b.n8, b.n9⟩, ?_, hT, rfl, ⟨kvs, hbo, hbf⟩, q1, q2, q3, q4, q5, ?_⟩
    · intro p hp
      simp only [BData.led, List.mem_cons, List.mem_append, List.not_mem_nil, or_false] at hp ⊢
      rcases hp with (h | h | h | h | h | h | h | h | h | h | h) | h <;> simp only [h, true_or, or_true]
    · simp only [List.length_append, List.length_cons, List.length_nil]
      refine ⟨by omega, by omega, by omega, q9, q10⟩
theorem sort0_b {w : World} {mean : ExcName → Option Value} {mg mb : Str → Option Value} {P : BAddr} {news rest : LD} {bank : Addr} {nn m : Nat} {ks : List KY} {ops : List Value} {t2 : Tok} (hBD : BankD P rest bank) (hS : BSt w P news rest nn m ks ops false) :
    Does w mean mg mb 2 40 589 [.ref bank, .int 2 t2] news (fun v news' => ∃ tk, v = .int 3 tk ∧ BSt w P news' rest nn m ks ops true) := by
  obtain ⟨db, es, nb, hb, hdb, g1, g2, g3, g4, g5, g6, g7, g8, g9, g10, g11⟩ := hBD.at
  have hdist := hS.dist
  simp only [BAddr.all, List.nodup_cons, List.mem_cons, List.not_mem_nil, or_false, not_or, List.nodup_nil, not_false_eq_true, and_true] at hdist
  obtain ⟨⟨n_d_lo, n_d_la, n_d_ls, n_d_ldt, n_d_fn, n_d_fa, n_d_fr, n_d_sn, n_d_sw, n_d_bd⟩, ⟨n_lo_la, n_lo_ls, n_lo_ldt, n_lo_fn, n_lo_fa, n_lo_fr, n_lo_sn, n_lo_sw, n_lo_bd⟩, ⟨n_la_ls, n_la_ldt, n_la_fn, n_la_fa, n_la_fr, n_la_sn, n_la_sw, n_la_bd⟩, ⟨n_ls_ldt, n_ls_fn, n_ls_fa, n_ls_fr, n_ls_sn, n_ls_sw, n_ls_bd⟩, ⟨n_ldt_fn, n_ldt_fa, n_ldt_fr, n_ldt_sn, n_ldt_sw, n_ldt_bd⟩, ⟨n_fn_fa, n_fn_fr, n_fn_sn, n_fn_sw, n_fn_bd⟩, ⟨n_fa_fr, n_fa_sn, n_fa_sw, n_fa_bd⟩, ⟨n_fr_sn, n_fr_sw, n_fr_bd⟩, ⟨n_sn_sw, n_sn_bd⟩, n_sw_bd⟩ := hdist
  have hoff : ∀ p ∈ rest, ¬ p.1 = P.d ∧ ¬ p.1 = P.lo ∧ ¬ p.1 = P.la ∧ ¬ p.1 = P.ls ∧ ¬ p.1 = P.ldt ∧ ¬ p.1 = P.fn ∧ ¬ p.1 = P.fa ∧ ¬ p.1 = P.fr ∧ ¬ p.1 = P.sn ∧ ¬ p.1 = P.sw ∧ ¬ p.1 = P.bd := fun p hp => by
    have := hS.off p hp
    simpa only [BAddr.all, List.mem_cons, List.not_mem_nil, or_false, not_or] using this
  have hlow := hS.low
  have hdist := hS.dist
  obtain ⟨b, hs, hT, rfl, ⟨kvs, hbo, hbf⟩, q1, q2, q3, q4, q5, q6, q7, q8, q9, q10⟩ := hS.ex
  simp only [Bool.false_eq_true, if_false] at q9 q10
  have hup : ∀ p ∈ rest, p ∈ (P.d, b.o) :: (P.lo, W.listOf (List.toArray b.ops) b.n1) :: (P.la, W.listOf (List.toArray b.va) b.n2) :: (P.ls, W.listOf (List.toArray b.vs) b.n3) :: (P.ldt, W.listOf (List.toArray b.vd) b.n4) :: (P.fn, W.listOf (List.toArray b.vn) b.n5) :: (P.fa, W.listOf (List.toArray b.vfa) b.n6) :: (P.fr, W.listOf (List.toArray b.vfr) b.n7) :: rest := fun p hp => (List.mem_cons_of_mem _ (List.mem_cons_of_mem _ (List.mem_cons_of_mem _ (List.mem_cons_of_mem _ (List.mem_cons_of_mem _ (List.mem_cons_of_mem _ (List.mem_cons_of_mem _ (List.mem_cons_of_mem _ (hp)))))))))
  refine Does.weaken (Does.perm (sort0_c (vsn := b.vsn) (vsw := b.vsw) (n8 := b.n8) (n9 := b.n9) (bo := b.bo) (rest := (P.d, b.o) :: (P.lo, W.listOf (List.toArray b.ops) b.n1) :: (P.la, W.listOf (List.toArray b.va) b.n2) :: (P.ls, W.listOf (List.toArray b.vs) b.n3) :: (P.ldt, W.listOf (List.toArray b.vd) b.n4) :: (P.fn, W.listOf (List.toArray b.vn) b.n5) :: (P.fa, W.listOf (List.toArray b.vfa) b.n6) :: (P.fr, W.listOf (List.toArray b.vfr) b.n7) :: rest) (hup _ hb) (hup _ hdb) g9 g10 g11 n_sn_sw n_sn_bd n_sw_bd
    (List.forall_mem_cons.mpr ⟨n_d_sn, List.forall_mem_cons.mpr ⟨n_lo_sn, List.forall_mem_cons.mpr ⟨n_la_sn, List.forall_mem_cons.mpr ⟨n_ls_sn, List.forall_mem_cons.mpr ⟨n_ldt_sn, List.forall_mem_cons.mpr ⟨n_fn_sn, List.forall_mem_cons.mpr ⟨n_fa_sn, List.forall_mem_cons.mpr ⟨n_fr_sn, fun p hp => (hoff p hp).2.2.2.2.2.2.2.2.1⟩⟩⟩⟩⟩⟩⟩⟩)
    (List.forall_mem_cons.mpr ⟨n_d_sw, List.forall_mem_cons.mpr ⟨n_lo_sw, List.forall_mem_cons.mpr ⟨n_la_sw, List.forall_mem_cons.mpr ⟨n_ls_sw, List.forall_mem_cons.mpr ⟨n_ldt_sw, List.forall_mem_cons.mpr ⟨n_fn_sw, List.forall_mem_cons.mpr ⟨n_fa_sw, List.forall_mem_cons.mpr ⟨n_fr_sw, fun p hp => (hoff p hp).2.2.2.2.2.2.2.2.2.1⟩⟩⟩⟩⟩⟩⟩⟩)
    (List.forall_mem_cons.mpr ⟨n_d_bd, List.forall_mem_cons.mpr ⟨n_lo_bd, List.forall_mem_cons.mpr ⟨n_la_bd, List.forall_mem_cons.mpr ⟨n_ls_bd, List.forall_mem_cons.mpr ⟨n_ldt_bd, List.forall_mem_cons.mpr ⟨n_fn_bd, List.forall_mem_cons.mpr ⟨n_fa_bd, List.forall_mem_cons.mpr ⟨n_fr_bd, fun p hp => (hoff p hp).2.2.2.2.2.2.2.2.2.2⟩⟩⟩⟩⟩⟩⟩⟩)
    hlow.2 hbo hbf q9 (by omega)) ?_) ?_
  · intro p hp
    refine hs p ?_
    simp only [BData.led, List.mem_cons, List.mem_append, List.not_mem_nil, or_false] at hp ⊢
    rcases hp with h | h | h | h | h | h | h | h | h | h | h | h <;> simp only [h, true_or, or_true]
  · rintro v news' ⟨tk, x, bo', kvs', hv, rfl, hbo', hbf'⟩
    refine ⟨tk, hv, hdist, hS.off, hlow, ⟨b.o, bo', b.ops, b.va, b.vs, b.vd, b.vn, b.vfa, b.vfr, b.vsn ++ [x], b.vsw ++ [.int 2 t2], b.n1, b.n2, b.n3, b.n4, b.n5, b.n6, b.n7, b.n8 + 1, b.n9 + 1⟩, ?_, hT, rfl, ⟨kvs', hbo', hbf'⟩, q1, q2, q3, q4, q5, q6, q7, q8, ?_⟩
    · intro p hp
      simp only [BData.led, List.mem_cons, List.mem_append, List.not_mem_nil, or_false] at hp ⊢
      rcases hp with (h | h | h | h | h | h | h | h | h | h | h) | h <;> simp only [h, true_or, or_true]
    · simp only [List.length_append, List.length_cons, List.length_nil]
      refine ⟨by rw [q9]; rfl, by show _ ≤ 4; omega⟩
theorem sort1_b {w : World} {mean : ExcName → Option Value} {mg mb : Str → Option Value} {P : BAddr} {news rest : LD} {bank : Addr} {nn m : Nat} {ks : List KY} {ops : List Value} {t2 : Tok} (hBD : BankD P rest bank) (hS : BSt w P news rest nn m ks ops true) :
    Does w mean mg mb 2 40 589 [.ref bank, .int 2 t2] news (fun v news' => ∃ tk, v = .int 3 tk ∧ BSt w P news' rest nn m ks ops true) := by
  obtain ⟨db, es, nb, hb, hdb, g1, g2, g3, g4, g5, g6, g7, g8, g9, g10, g11⟩ := hBD.at
  have hlow := hS.low
  obtain ⟨b, hs, hT, rfl, ⟨kvs, hbo, hbf⟩, q1, q2, q3, q4, q5, q6, q7, q8, q9, q10⟩ := hS.ex
  have hup : ∀ p ∈ rest, p ∈ (P.d, b.o) :: (P.lo, W.listOf (List.toArray b.ops) b.n1) :: (P.la, W.listOf (List.toArray b.va) b.n2) :: (P.ls, W.listOf (List.toArray b.vs) b.n3) :: (P.ldt, W.listOf (List.toArray b.vd) b.n4) :: (P.fn, W.listOf (List.toArray b.vn) b.n5) :: (P.fa, W.listOf (List.toArray b.vfa) b.n6) :: (P.fr, W.listOf (List.toArray b.vfr) b.n7) :: (P.sn, W.listOf (List.toArray b.vsn) b.n8) :: (P.sw, W.listOf (List.toArray b.vsw) b.n9) :: rest := fun p hp => (List.mem_cons_of_mem _ (List.mem_cons_of_mem _ (List.mem_cons_of_mem _ (List.mem_cons_of_mem _ (List.mem_cons_of_mem _ (List.mem_cons_of_mem _ (List.mem_cons_of_mem _ (List.mem_cons_of_mem _ (List.mem_cons_of_mem _ (List.mem_cons_of_mem _ (hp)))))))))))
  refine Does.weaken (Does.perm (sort1_c (bo := b.bo) (rest := (P.d, b.o) :: (P.lo, W.listOf (List.toArray b.ops) b.n1) :: (P.la, W.listOf (List.toArray b.va) b.n2) :: (P.ls, W.listOf (List.toArray b.vs) b.n3) :: (P.ldt, W.listOf (List.toArray b.vd) b.n4) :: (P.fn, W.listOf (List.toArray b.vn) b.n5) :: (P.fa, W.listOf (List.toArray b.vfa) b.n6) :: (P.fr, W.listOf (List.toArray b.vfr) b.n7) :: (P.sn, W.listOf (List.toArray b.vsn) b.n8) :: (P.sw, W.listOf (List.toArray b.vsw) b.n9) :: rest) (hup _ hb) (hup _ hdb) g11 hlow.2 hbo hbf) ?_) ?_
  · intro p hp
    refine hs p ?_
    simp only [BData.led, List.mem_cons, List.mem_append, List.not_mem_nil, or_false] at hp ⊢
    rcases hp with h | h | h | h | h | h | h | h | h | h | h | h <;> simp only [h, true_or, or_true]
  · rintro v news' ⟨tk, hv, rfl⟩
    refine ⟨tk, hv, hS.dist, hS.off, hlow, b, ?_, hT, rfl, ⟨kvs, hbo, hbf⟩, q1, q2, q3, q4, q5, q6, q7, q8, q9, q10⟩
    intro p hp
    simp only [BData.led, List.mem_cons, List.mem_append, List.not_mem_nil, or_false] at hp ⊢
    rcases hp with (h | h | h | h | h | h | h | h | h | h | h) | h <;> simp only [h, true_or, or_true]

end
section
local macro_rules | `(tactic| walk_at "call ref") => `(tactic| (k_here; k_dflt refine' my_stopG (h := ?_)))
local macro_rules | `(tactic| walk_at "callWith ref") => `(tactic| (k_here; (with_reducible show wpAny _ _ (callWith _ (Value.ref _) _ (backTo _ (starEach [] _)) []) _ _ _); k_dflt (refine' callWith_K0 (by exact Frag.In.keeps (by k_asm) (Fr.keep (by k_asm))) (by k_is) ?_; k_whole)))
theorem two_pos : ∀ k : Nat, (0 : Int) < 2 ^ k
  | 0 => by decide
  | k + 1 => by have := two_pos k; rw [Int.pow_succ]; omega
theorem big_shift {a : Int} (h0 : 0 ≤ a) (h1 : a ≤ 2) : a.fdiv (2 ^ Int.toNat 65536) = 0 := by
  have hn : Int.toNat 65536 = 65534 + 2 := by decide
  rw [hn]
  generalize 65534 = k
  have hp := two_pos k
  have hb : (2 : Int) ^ (k + 2) = 2 ^ k * 2 * 2 := by rw [Int.pow_succ, Int.pow_succ]
  rw [hb, Int.fdiv_eq_ediv_of_nonneg _ (by omega)]
  exact Int.ediv_eq_zero_of_lt h0 (by omega)
theorem my_rshift {prog : Program} {w : World} {A : Around} {E : Value → Shared → Prop} {s : Shared} {a : Int} {t u : Tok} {Q : Value → Shared → Prop} (h0 : 0 ≤ a := by first | decide | omega) (h1 : a ≤ 2 := by first | decide | omega) (h : Q (.int 0 s.toks) { s with toks := s.toks + 1 }) : wpAny (model prog w) A (binaryOp .RShift (.int a t) (.int 65536 u)) Q E s :=
  rshift_int (by decide) (by rw [big_shift h0 h1]; exact h)
local macro_rules | `(tactic| walk_at "binaryOp RShift int int") => `(tactic| (k_here; k_dflt (refine' my_rshift (h := ?_); k_whole)))
theorem fmod4 {x : Int} (h0 : 0 ≤ x) (h1 : x ≤ 2) : x.fmod (1 * 2 ^ Int.toNat 2) = x := by
  rw [show (1 * 2 ^ Int.toNat 2 : Int) = 4 from by decide, Int.fmod_eq_emod_of_nonneg _ (by decide)]; exact Int.emod_eq_of_lt h0 (by omega)
theorem declare_w {w : World} {mean : ExcName → Option Value} {mg mb : Str → Option Value} {P : BAddr} {news r : LD} {bank : Addr} {nn m : Nat} {ks : List KY} {ops : List Value} {bv : Bool} {nm : Str} {so : Int} {tn ts : Tok} {D1 D2 : Addr} (hBD : BankD P r bank) (hS : BSt w P news r nn m ks ops bv) (hm : m ≤ 50) (l1 : ∀ p ∈ news, p.1 < D1) (l2 : ∀ p ∈ (D1, ({ cls := .type "tuple", data := .seq (List.toArray []) } : Obj)) :: news, p.1 < D2) :
    Does w mean mg mb 2 40 206 [.ref bank, .str nm tn, .ref D2, .int so ts] ((D2, ({ cls := .type "tuple", data := .seq (List.toArray []) } : Obj)) :: (D1, ({ cls := .type "tuple", data := .seq (List.toArray []) } : Obj)) :: news) (fun v news' => ∃ r' tk, v = .int (m : Nat) tk ∧ Ext r r' ∧ (D1, ({ cls := .type "tuple", data := .seq (List.toArray []) } : Obj)) ∈ r' ∧ BankD P r' bank ∧ BSt w P news' r' nn (m + 1) ks ops bv) := by
  have S2 := (hS.push (o := ({ cls := .type "tuple", data := .seq (List.toArray []) } : Obj)) l1).push (o := ({ cls := .type "tuple", data := .seq (List.toArray []) } : Obj)) l2
  have E : Ext r ((D2, ({ cls := .type "tuple", data := .seq (List.toArray []) } : Obj)) :: (D1, ({ cls := .type "tuple", data := .seq (List.toArray []) } : Obj)) :: r) := (Ext.cons fun p hp => l1 p (hS.sub p hp)).trans (Ext.cons fun p hp => l2 p (by rcases List.mem_cons.mp hp with rfl | hp; exact .head _; exact .tail _ (hS.sub p hp)))
  refine Does.weaken (declare_b (hBD.mono E.sub) S2 (.head _) hm) ?_
  rintro v n ⟨tk, hv, S⟩
  exact ⟨_, tk, hv, E, .tail _ (.head _), hBD.mono E.sub, S⟩
theorem app_w {w : World} {mean : ExcName → Option Value} {mg mb : Str → Option Value} {P : BAddr} {news r : LD} {bank : Addr} {nn m : Nat} {ks : List KY} {ops : List Value} {bv : Bool} {op : Str} {so i : Int} {top ts ti : Tok} {D : Addr} (hBD : BankD P r bank) (hS : BSt w P news r nn m ks ops bv) (hD : (D, ({ cls := .type "tuple", data := .seq (List.toArray []) } : Obj)) ∈ r) (hop : op ≠ Str.ofString "num") (hkn : KY.oth op so i ∉ ks) (hnn : nn ≤ 50) :
    Does w mean mg mb 2 40 297 [.ref bank, .str op top, .ref D, .int so ts, .int i ti] news (fun v news' => ∃ r' tk, v = .int (nn : Nat) tk ∧ Ext r r' ∧ BankD P r' bank ∧ BSt w P news' r' (nn + 1) m (ks ++ [.oth op so i]) (ops ++ [.str op top]) bv) := by
  refine Does.weaken (make_b hBD hS hkn hnn fun a n hn ha => keyIn_oth hop (hn _ hD) ha) ?_
  rintro v n ⟨r', tk, hv, E, S⟩
  exact ⟨r', tk, hv, E, hBD.mono E.sub, S⟩
theorem bvn_w {w : World} {mean : ExcName → Option Value} {mg mb : Str → Option Value} {P : BAddr} {news r : LD} {bank : Addr} {nn m : Nat} {ks : List KY} {ops : List Value} {bv : Bool} {op : Str} {so i : Int} {top ts ti : Tok} {D : Addr} (hBD : BankD P r bank) (hS : BSt w P news r nn m ks ops bv) (l1 : ∀ p ∈ news, p.1 < D) (hop : op ≠ Str.ofString "num") (hkn : KY.oth op so i ∉ ks) (hnn : nn ≤ 50) :
    Does w mean mg mb 2 40 297 [.ref bank, .str op top, .ref D, .int so ts, .int i ti] ((D, ({ cls := .type "tuple", data := .seq (List.toArray []) } : Obj)) :: news) (fun v news' => ∃ r' tk, v = .int (nn : Nat) tk ∧ Ext r r' ∧ BankD P r' bank ∧ BSt w P news' r' (nn + 1) m (ks ++ [.oth op so i]) (ops ++ [.str op top]) bv) := by
  have E : Ext r ((D, ({ cls := .type "tuple", data := .seq (List.toArray []) } : Obj)) :: r) := Ext.cons fun p hp => l1 p (hS.sub p hp)
  refine Does.weaken (app_w (hBD.mono E.sub) (hS.push l1) (.head _) hop hkn hnn) ?_
  rintro v n ⟨r', tk, hv, E', B, S⟩
  exact ⟨r', tk, hv, E.trans E', B, S⟩
theorem num_w {w : World} {mean : ExcName → Option Value} {mg mb : Str → Option Value} {P : BAddr} {news r : LD} {bank : Addr} {nn m : Nat} {ks : List KY} {ops : List Value} {bv : Bool} {so x y : Int} {top ts tx ty : Tok} {D V : Addr} (hBD : BankD P r bank) (hS : BSt w P news r nn m ks ops bv) (l1 : ∀ p ∈ news, p.1 < V) (l2 : ∀ p ∈ (V, ({ cls := .type "tuple", data := .seq (List.toArray [.int x tx, .int y ty]) } : Obj)) :: news, p.1 < D) (hkn : KY.num so x y ∉ ks) (hnn : nn ≤ 50) :
    Does w mean mg mb 2 40 297 [.ref bank, .str (Str.ofString "num") top, .ref D, .int so ts, .ref V] ((D, ({ cls := .type "tuple", data := .seq (List.toArray []) } : Obj)) :: (V, ({ cls := .type "tuple", data := .seq (List.toArray [.int x tx, .int y ty]) } : Obj)) :: news) (fun v news' => ∃ r' tk, v = .int (nn : Nat) tk ∧ Ext r r' ∧ BankD P r' bank ∧ BSt w P news' r' (nn + 1) m (ks ++ [.num so x y]) (ops ++ [.str (Str.ofString "num") top]) bv) := by
  have S2 := (hS.push (o := ({ cls := .type "tuple", data := .seq (List.toArray [.int x tx, .int y ty]) } : Obj)) l1).push (o := ({ cls := .type "tuple", data := .seq (List.toArray []) } : Obj)) l2
  have E : Ext r ((D, ({ cls := .type "tuple", data := .seq (List.toArray []) } : Obj)) :: (V, ({ cls := .type "tuple", data := .seq (List.toArray [.int x tx, .int y ty]) } : Obj)) :: r) := (Ext.cons fun p hp => l1 p (hS.sub p hp)).trans (Ext.cons fun p hp => l2 p (by rcases List.mem_cons.mp hp with rfl | hp; exact .head _; exact .tail _ (hS.sub p hp)))
  refine Does.weaken (make_b (hBD.mono E.sub) S2 hkn hnn fun a n hn ha => keyIn_num (hn _ (.head _)) (hn _ (.tail _ (.head _))) ha) ?_
  rintro v n ⟨r', tk, hv, E', S⟩
  exact ⟨r', tk, hv, E.trans E', hBD.mono (E.trans E').sub, S⟩
theorem sort0_w {w : World} {mean : ExcName → Option Value} {mg mb : Str → Option Value} {P : BAddr} {news r : LD} {bank : Addr} {nn m : Nat} {ks : List KY} {ops : List Value} {t2 : Tok} {l : Addr} {o : Obj} (hBD : BankD P r bank) (hS : BSt w P news r nn m ks ops false) (l1 : ∀ p ∈ news, p.1 < l) :
    Does w mean mg mb 2 40 589 [.ref bank, .int 2 t2] ((l, o) :: news) (fun v news' => ∃ r' tk, v = .int 3 tk ∧ Ext r r' ∧ (l, o) ∈ r' ∧ BankD P r' bank ∧ BSt w P news' r' nn m ks ops true) := by
  have E : Ext r ((l, o) :: r) := Ext.cons fun p hp => l1 p (hS.sub p hp)
  refine Does.weaken (sort0_b (hBD.mono E.sub) (hS.push l1)) ?_
  rintro v n ⟨tk, hv, S⟩
  exact ⟨_, tk, hv, E, .head _, hBD.mono E.sub, S⟩
theorem BSt.fin {w : World} {P : BAddr} {news r : LD} {nn m : Nat} {ks : List KY} {ops : List Value} {bv : Bool} (S : BSt w P news r nn m ks ops bv) : ∃ n, (∀ p ∈ (P.lo, W.listOf (List.toArray ops) n) :: r, p ∈ news) ∧ ∀ p ∈ r, p.1 ≠ P.lo := by
  have hoff := S.off
  obtain ⟨b, hs, _, rfl, _⟩ := S.ex
  refine ⟨b.n1, fun p hp => hs p ?_, fun p hp e => hoff p hp ?_⟩
  · rcases List.mem_cons.mp hp with rfl | hp
    · exact List.mem_append.mpr (.inl (.tail _ (.head _)))
    · exact List.mem_append.mpr (.inr hp)
  · rw [e]; exact .tail _ (.head _)
theorem mem_add {add rest : LD} {l : Addr} {o : Obj} (h : (l, o) ∈ add ++ rest) (hl : ∀ p ∈ rest, p.1 < l) : (l, o) ∈ add := by
  rcases List.mem_append.mp h with h | h
  · exact h
  · exact absurd (hl _ h) (Nat.lt_irrefl _)
theorem groups_fin {w : World} {P : BAddr} {n9 rest r9 : LD} {nn m : Nat} {ks : List KY} {ops : List Value} {bv : Bool} {gl l1 l2 l3 l4 : Addr} {ng m1 m2 m3 m4 : Nat} {k1 k2 k3 k4 k5 k6 k7 k8 k9 k10 k11 k12 : Tok} {x1 x2 x3 x4 x5 x6 x7 x8 x9 x10 x11 x12 : Int}
    (S : BSt w P ((gl, W.listOf (List.toArray [.ref l1, .ref l2, .ref l3, .ref l4]) ng) :: (l4, W.listOf (List.toArray [.int x10 k10, .int x11 k11, .int x12 k12]) m4) :: n9) ((gl, W.listOf (List.toArray [.ref l1, .ref l2, .ref l3, .ref l4]) ng) :: (l4, W.listOf (List.toArray [.int x10 k10, .int x11 k11, .int x12 k12]) m4) :: r9) nn m ks ops bv)
    (E : Ext rest r9) (h1 : (l1, W.listOf (List.toArray [.int x1 k1, .int x2 k2, .int x3 k3]) m1) ∈ r9) (h2 : (l2, W.listOf (List.toArray [.int x4 k4, .int x5 k5, .int x6 k6]) m2) ∈ r9) (h3 : (l3, W.listOf (List.toArray [.int x7 k7, .int x8 k8, .int x9 k9]) m3) ∈ r9)
    (q1 : ∀ p ∈ rest, p.1 < l1) (q2 : ∀ p ∈ rest, p.1 < l2) (q3 : ∀ p ∈ rest, p.1 < l3) (q4 : ∀ p ∈ rest, p.1 < l4) (qg : ∀ p ∈ rest, p.1 < gl) (hok : OpsOk ops) :
    ∃ gl' add ops n, Value.ref gl = .ref gl' ∧ (∀ q ∈ add, ∀ p ∈ rest, p.1 < q.1) ∧ (∀ p ∈ (P.lo, W.listOf (List.toArray ops) n) :: (add ++ rest), p ∈ (gl, W.listOf (List.toArray [.ref l1, .ref l2, .ref l3, .ref l4]) ng) :: (l4, W.listOf (List.toArray [.int x10 k10, .int x11 k11, .int x12 k12]) m4) :: n9) ∧ (∀ p ∈ add ++ rest, p.1 ≠ P.lo) ∧ ThreesL add gl' [(x1, x2, x3), (x4, x5, x6), (x7, x8, x9), (x10, x11, x12)] ∧ OpsOk ops := by
  obtain ⟨n, hn, hne⟩ := S.fin
  obtain ⟨add0, rfl, ho⟩ := E
  refine ⟨gl, _ :: _ :: add0, ops, n, rfl, ?_, hn, hne, ⟨_, _, .head _, .cons (.tail _ (.tail _ (mem_add h1 q1))) (.cons (.tail _ (.tail _ (mem_add h2 q2))) (.cons (.tail _ (.tail _ (mem_add h3 q3))) (.cons (.tail _ (.head _)) .nil)))⟩, hok⟩
  intro q hq
  rcases List.mem_cons.mp hq with rfl | hq
  · exact qg
  · rcases List.mem_cons.mp hq with rfl | hq
    · exact q4
    · exact ho q hq
theorem ops_ok {c1 c2 c3 c4 c5 c6 c7 c8 c9 c10 c11 c12 c13 : Tok} : OpsOk [.str (Str.ofString "") c1, .str (Str.ofString "true") c2, .str (Str.ofString "false") c3, .str (Str.ofString "app") c4, .str (Str.ofString "num") c5, .str (Str.ofString "num") c6, .str (Str.ofString "app") c7, .str (Str.ofString "num") c8, .str (Str.ofString "num") c9, .str (Str.ofString "app") c10, .str (Str.ofString "bvnum") c11, .str (Str.ofString "bvnum") c12, .str (Str.ofString "app") c13] := by
  intro t h1 h2
  have : t = 1 ∨ t = 2 ∨ t = 3 ∨ t = 4 ∨ t = 5 ∨ t = 6 ∨ t = 7 ∨ t = 8 ∨ t = 9 ∨ t = 10 ∨ t = 11 ∨ t = 12 := by omega
  rcases this with rfl | rfl | rfl | rfl | rfl | rfl | rfl | rfl | rfl | rfl | rfl | rfl
  · exact ⟨_, _, rfl, .inr ⟨rfl, .inr (.inl rfl)⟩⟩
  · exact ⟨_, _, rfl, .inr ⟨rfl, .inr (.inr rfl)⟩⟩
  · exact ⟨_, _, rfl, .inr ⟨rfl, .inl rfl⟩⟩
  · exact ⟨_, _, rfl, .inl ⟨rfl, .inl rfl⟩⟩
  · exact ⟨_, _, rfl, .inl ⟨rfl, .inl rfl⟩⟩
  · exact ⟨_, _, rfl, .inr ⟨rfl, .inl rfl⟩⟩
  · exact ⟨_, _, rfl, .inl ⟨rfl, .inl rfl⟩⟩
  · exact ⟨_, _, rfl, .inl ⟨rfl, .inl rfl⟩⟩
  · exact ⟨_, _, rfl, .inr ⟨rfl, .inl rfl⟩⟩
  · exact ⟨_, _, rfl, .inl ⟨rfl, .inr rfl⟩⟩
  · exact ⟨_, _, rfl, .inl ⟨rfl, .inr rfl⟩⟩
  · exact ⟨_, _, rfl, .inr ⟨rfl, .inl rfl⟩⟩
theorem made_use {w : World} {mean : ExcName → Option Value} {mg mb : Str → Option Value} {room units : Nat} {f : Addr} {vs : List Value} {news r rest : LD} {dp un : Nat} {gd : Option (List Code)} {cn : Str} {cs : Scope} {a : Addr} {ccd : Value} {cl : List (Str × Addr)} {outer : List Env} {A₀ : Around} {base h₀ : Heap} {L : Addr} {μ : Str → Option Value} {s : Shared} {Q E : Value → Shared → Prop} {P : BAddr} {bank : Addr} {i : Int} {nn m : Nat} {ks : List KY} {ops : Tok → List Value} {bv : Bool}
    (D : Does w mean mg mb room units f vs news (fun v news' => ∃ r' tk top, v = .int i tk ∧ Ext r r' ∧ BankD P r' bank ∧ BSt w P news' r' nn m ks (ops top) bv))
    (E0 : Ext rest r)
    (ret : ∀ r' tk top news' h' tk', Ext r r' → Ext rest r' → BankD P r' bank → BSt w P news' r' nn m ks (ops top) bv → Fr h₀ L h' μ → News h₀ L h' news' → Q (.int i tk) { s with heap := h', toks := tk' })
    (B : Below A₀ base outer h₀ := by k_asm) (F : Fr h₀ L s.heap μ := by k_asm) (X : (hd.heap_39 w.params).In h₀ := by k_asm) (N : News h₀ L s.heap news := by k_asm) (T : Top hd.view_39 (looseW hd.view_39 [Str.ofString "MOST_BITS"]) mean mg mb h₀ := by k_asm) (hk : cs.kind = .function := by first | exact rfl | assumption) (hdp : dp + room < recursionLimit := by ktr_room) (hun : un + units < cLine := by ktr_units) :
    wpAny (model PySem.Challenge.rw_qz0019_01.row.prog w) (ktrTop dp un gd cn cs L a ccd cl outer) (call (.ref f) vs) Q E s :=
  Does.use D B F X N T hk hdp hun (ret := fun v n h tk p F1 N1 => by obtain ⟨r', t, top, rfl, e, b, c⟩ := p; exact ret r' t top n h tk e (E0.trans e) b c F1 N1)
theorem small_c {w : World} {mean : ExcName → Option Value} {mg mb : Str → Option Value} {news : LD} {x y : Int} {tx ty : Tok} {V : Addr} (hV : (V, ({ cls := .type "tuple", data := .seq (List.toArray [.int x tx, .int y ty]) } : Obj)) ∈ news) (hx0 : 0 ≤ x) (hx1 : x ≤ 2) (hy0 : 0 ≤ y) (hy1 : y ≤ 2) :
    Does w mean mg mb 2 20 477 [.ref V] news (fun v news' => v = .none ∧ news' = news) := by
  unfold Does; k_fill
  w_on
  intro dp un gd cn nms gen cor mor a0 ccd cl outer A₀ base h₀ L m sH sG sD sT sO Q E B F X N T hk hdp hun hret
  w_strict (refine wpAny_call ?_; k_dflt cell_enter)
  w_strict k_steps
  exact hret _ _ _ _ ⟨rfl, rfl⟩ (by k_asm) (by k_asm)
theorem fresh_c {w : World} {mean : ExcName → Option Value} {mg mb : Str → Option Value} {P : BAddr} {news r : LD} {bank : Addr} {nn m : Nat} {ks : List KY} {ops : List Value} {bv : Bool} {nm : Str} {so : Int} {tn ts : Tok} (hBD : BankD P r bank) (hS : BSt w P news r nn m ks ops bv) (hm : m ≤ 50) (hkn : KY.oth (Str.ofString "app") so (m : Nat) ∉ ks) (hnn : nn ≤ 50) :
    Does w mean mg mb 4 60 220 [.ref bank, .str nm tn, .int so ts] news (fun v news' => ∃ r' tk top, v = .int (nn : Nat) tk ∧ Ext r r' ∧ BankD P r' bank ∧ BSt w P news' r' (nn + 1) (m + 1) (ks ++ [.oth (Str.ofString "app") so (m : Nat)]) (ops ++ [.str (Str.ofString "app") top]) bv) := by
  unfold Does; k_fill
  w_on
  have hBD0 := hBD
  obtain ⟨db, bhs, bts, v5, u1, u2, nb, hb, hdb⟩ := hBD
  intro dp un gd cn nms gen cor mor a0 ccd cl outer A₀ base h₀ L m sH sG sD sT sO Q E B F X N T hk hdp hun hret
  have hbN := hS.sub _ hb
  have hdbN := hS.sub _ hdb
  have E0 := Ext.refl r
  w_strict (refine wpAny_call ?_; k_dflt cell_enter)
  w_strict k_steps
  unfold MyCall
  refine Does.use (declare_w hBD0 hS hm (by first | assumption | exact pr_of (by assumption)) (by first | assumption | exact pr_of (by assumption))) (by k_asm) (by k_asm) (by k_asm) (by k_asm) (by k_asm) (by first | exact rfl | assumption) (by ktr_room) (by ktr_units) ?_
  intro v9 n9 h9 tk9 hp9 F9 N9
  obtain ⟨r9, tk9, e1, E1, hD1, B1, S1⟩ := hp9
  subst e1
  clear hS hbN hdbN hBD0
  have hb := E1.sub _ hb
  have hdb := E1.sub _ hdb
  have E0 := E0.trans E1
  have hS := S1
  have hBD0 := B1
  have hbN := hS.sub _ hb
  have hdbN := hS.sub _ hdb
  clear S1 B1
  (try dsimp only)
  (try k_fold)
  w_strict k_steps
  unfold MyCall
  refine Does.use (app_w hBD0 hS hD1 (by decide +kernel) hkn hnn) (by k_asm) (by k_asm) (by k_asm) (by k_asm) (by k_asm) (by first | exact rfl | assumption) (by ktr_room) (by ktr_units) ?_
  intro v9 n9 h9 tk9 hp9 F9 N9
  obtain ⟨r9, tk9, e1, E1, B1, S1⟩ := hp9
  subst e1
  clear hS hbN hdbN hBD0
  have hb := E1.sub _ hb
  have hdb := E1.sub _ hdb
  have E0 := E0.trans E1
  have hS := S1
  have hBD0 := B1
  have hbN := hS.sub _ hb
  have hdbN := hS.sub _ hdb
  clear S1 B1
  (try dsimp only)
  (try k_fold)
  w_strict k_steps
  exact hret _ _ _ _ ⟨_, _, _, rfl, E0, hBD0, hS⟩ (by k_asm) (by k_asm)
theorem num1_c {w : World} {mean : ExcName → Option Value} {mg mb : Str → Option Value} {P : BAddr} {news r : LD} {bank : Addr} {nn m : Nat} {ks : List KY} {ops : List Value} {bv : Bool} {x y : Int} {tx ty ts : Tok} {V : Addr} (hBD : BankD P r bank) (hS : BSt w P news r nn m ks ops bv) (l0 : ∀ p ∈ news, p.1 < V) (hx0 : 0 ≤ x) (hx1 : x ≤ 2) (hy0 : 0 ≤ y) (hy1 : y ≤ 2) (hy : y = 1) (hkn : KY.num 1 x y ∉ ks) (hnn : nn ≤ 50) :
    Does w mean mg mb 5 70 491 [.ref bank, .ref V, .int 1 ts] ((V, ({ cls := .type "tuple", data := .seq (List.toArray [.int x tx, .int y ty]) } : Obj)) :: news) (fun v news' => ∃ r' tk top, v = .int (nn : Nat) tk ∧ Ext r r' ∧ BankD P r' bank ∧ BSt w P news' r' (nn + 1) m (ks ++ [.num 1 x y]) (ops ++ [.str (Str.ofString "num") top]) bv) := by
  subst hy
  unfold Does; k_fill
  w_on
  have hBD0 := hBD
  obtain ⟨db, bhs, bts, v5, u1, u2, nb, hb, hdb⟩ := hBD
  intro dp un gd cn nms gen cor mor a0 ccd cl outer A₀ base h₀ L m sH sG sD sT sO Q E B F X N T hk hdp hun hret
  have hbN := hS.sub _ hb
  have hdbN := hS.sub _ hdb
  have E0 := Ext.refl r
  have hbN := List.Mem.tail (V, ({ cls := .type "tuple", data := .seq (List.toArray [.int x tx, .int 1 ty]) } : Obj)) hbN
  have hdbN := List.Mem.tail (V, ({ cls := .type "tuple", data := .seq (List.toArray [.int x tx, .int 1 ty]) } : Obj)) hdbN
  have hVm : (V, ({ cls := .type "tuple", data := .seq (List.toArray [.int x tx, .int 1 ty]) } : Obj)) ∈ (V, ({ cls := .type "tuple", data := .seq (List.toArray [.int x tx, .int 1 ty]) } : Obj)) :: news := .head _
  w_strict (refine wpAny_call ?_; k_dflt cell_enter)
  w_strict k_steps
  unfold MyCall
  refine Does.use (small_c (x := x) (y := 1) hVm hx0 hx1 (by decide) (by decide)) (by k_asm) (by k_asm) (by k_asm) (by k_asm) (by k_asm) (by first | exact rfl | assumption) (by ktr_room) (by ktr_units) ?_
  intro v9 n9 h9 tk9 hp9 F9 N9
  obtain ⟨e1, e2⟩ := hp9
  subst e1 e2
  (try dsimp only)
  (try k_fold)
  w_strict k_steps
  unfold MyCall
  refine Does.use (num_w (x := x) (y := 1) hBD0 hS l0 (by first | assumption | exact pr_of (by assumption)) hkn hnn) (by k_asm) (by k_asm) (by k_asm) (by k_asm) (by k_asm) (by first | exact rfl | assumption) (by ktr_room) (by ktr_units) ?_
  intro v9 n9 h9 tk9 hp9 F9 N9
  obtain ⟨r9, tk9, e1, E1, B1, S1⟩ := hp9
  subst e1
  clear hS hbN hdbN hBD0
  have hb := E1.sub _ hb
  have hdb := E1.sub _ hdb
  have E0 := E0.trans E1
  have hS := S1
  have hBD0 := B1
  have hbN := hS.sub _ hb
  have hdbN := hS.sub _ hdb
  clear S1 B1
  (try dsimp only)
  (try k_fold)
  w_strict k_steps
  exact hret _ _ _ _ ⟨_, _, _, rfl, E0, hBD0, hS⟩ (by k_asm) (by k_asm)
theorem num2_c {w : World} {mean : ExcName → Option Value} {mg mb : Str → Option Value} {P : BAddr} {news r : LD} {bank : Addr} {nn m : Nat} {ks : List KY} {ops : List Value} {bv : Bool} {x y : Int} {tx ty ts : Tok} {V : Addr} (hBD : BankD P r bank) (hS : BSt w P news r nn m ks ops bv) (l0 : ∀ p ∈ news, p.1 < V) (hx0 : 0 ≤ x) (hx1 : x ≤ 2) (hy0 : 0 ≤ y) (hy1 : y ≤ 2) (hkn : KY.num 2 x y ∉ ks) (hnn : nn ≤ 50) :
    Does w mean mg mb 5 70 491 [.ref bank, .ref V, .int 2 ts] ((V, ({ cls := .type "tuple", data := .seq (List.toArray [.int x tx, .int y ty]) } : Obj)) :: news) (fun v news' => ∃ r' tk top, v = .int (nn : Nat) tk ∧ Ext r r' ∧ BankD P r' bank ∧ BSt w P news' r' (nn + 1) m (ks ++ [.num 2 x y]) (ops ++ [.str (Str.ofString "num") top]) bv) := by
  unfold Does; k_fill
  w_on
  have hBD0 := hBD
  obtain ⟨db, bhs, bts, v5, u1, u2, nb, hb, hdb⟩ := hBD
  intro dp un gd cn nms gen cor mor a0 ccd cl outer A₀ base h₀ L m sH sG sD sT sO Q E B F X N T hk hdp hun hret
  have hbN := hS.sub _ hb
  have hdbN := hS.sub _ hdb
  have E0 := Ext.refl r
  have hbN := List.Mem.tail (V, ({ cls := .type "tuple", data := .seq (List.toArray [.int x tx, .int y ty]) } : Obj)) hbN
  have hdbN := List.Mem.tail (V, ({ cls := .type "tuple", data := .seq (List.toArray [.int x tx, .int y ty]) } : Obj)) hdbN
  have hVm : (V, ({ cls := .type "tuple", data := .seq (List.toArray [.int x tx, .int y ty]) } : Obj)) ∈ (V, ({ cls := .type "tuple", data := .seq (List.toArray [.int x tx, .int y ty]) } : Obj)) :: news := .head _
  w_strict (refine wpAny_call ?_; k_dflt cell_enter)
  w_strict k_steps
  unfold MyCall
  refine Does.use (small_c (x := x) (y := y) hVm hx0 hx1 hy0 hy1) (by k_asm) (by k_asm) (by k_asm) (by k_asm) (by k_asm) (by first | exact rfl | assumption) (by ktr_room) (by ktr_units) ?_
  intro v9 n9 h9 tk9 hp9 F9 N9
  obtain ⟨e1, e2⟩ := hp9
  subst e1 e2
  (try dsimp only)
  (try k_fold)
  w_strict k_steps
  unfold MyCall
  refine Does.use (num_w (x := x) (y := y) hBD0 hS l0 (by first | assumption | exact pr_of (by assumption)) hkn hnn) (by k_asm) (by k_asm) (by k_asm) (by k_asm) (by k_asm) (by first | exact rfl | assumption) (by ktr_room) (by ktr_units) ?_
  intro v9 n9 h9 tk9 hp9 F9 N9
  obtain ⟨r9, tk9, e1, E1, B1, S1⟩ := hp9
  subst e1
  clear hS hbN hdbN hBD0
  have hb := E1.sub _ hb
  have hdb := E1.sub _ hdb
  have E0 := E0.trans E1
  have hS := S1
  have hBD0 := B1
  have hbN := hS.sub _ hb
  have hdbN := hS.sub _ hdb
  clear S1 B1
  (try dsimp only)
  (try k_fold)
  w_strict k_steps
  exact hret _ _ _ _ ⟨_, _, _, rfl, E0, hBD0, hS⟩ (by k_asm) (by k_asm)
theorem bvn_c {w : World} {mean : ExcName → Option Value} {mg mb : Str → Option Value} {P : BAddr} {news r : LD} {bank : Addr} {nn m : Nat} {ks : List KY} {ops : List Value} {x : Int} {tx ts : Tok} (hBD : BankD P r bank) (hS : BSt w P news r nn m ks ops true) (hx0 : 0 ≤ x) (hx1 : x ≤ 2) (hkn : KY.oth (Str.ofString "bvnum") 3 x ∉ ks) (hnn : nn ≤ 50) :
    Does w mean mg mb 4 60 610 [.ref bank, .int x tx, .int 2 ts] news (fun v news' => ∃ r' tk top, v = .int (nn : Nat) tk ∧ Ext r r' ∧ BankD P r' bank ∧ BSt w P news' r' (nn + 1) m (ks ++ [.oth (Str.ofString "bvnum") 3 x]) (ops ++ [.str (Str.ofString "bvnum") top]) true) := by
  unfold Does; k_fill
  w_on
  have hBD0 := hBD
  obtain ⟨db, bhs, bts, v5, u1, u2, nb, hb, hdb⟩ := hBD
  intro dp un gd cn nms gen cor mor a0 ccd cl outer A₀ base h₀ L m sH sG sD sT sO Q E B F X N T hk hdp hun hret
  have hbN := hS.sub _ hb
  have hdbN := hS.sub _ hdb
  have E0 := Ext.refl r
  w_strict (refine wpAny_call ?_; k_dflt cell_enter)
  w_strict k_steps
  unfold MyCall
  refine Does.use (sort1_b hBD0 hS) (by k_asm) (by k_asm) (by k_asm) (by k_asm) (by k_asm) (by first | exact rfl | assumption) (by ktr_room) (by ktr_units) ?_
  intro v9 n9 h9 tk9 hp9 F9 N9
  obtain ⟨tk9, e1, S1⟩ := hp9
  subst e1
  have B1 := hBD0
  clear hS hbN hdbN hBD0
  have hS := S1
  have hBD0 := B1
  have hbN := hS.sub _ hb
  have hdbN := hS.sub _ hdb
  clear S1 B1
  (try dsimp only)
  (try k_fold)
  w_strict k_steps
  rw [fmod4 hx0 hx1]
  unfold MyCall
  refine Does.use (bvn_w hBD0 hS (by first | assumption | exact pr_of (by assumption)) (by decide +kernel) hkn hnn) (by k_asm) (by k_asm) (by k_asm) (by k_asm) (by k_asm) (by first | exact rfl | assumption) (by ktr_room) (by ktr_units) ?_
  intro v9 n9 h9 tk9 hp9 F9 N9
  obtain ⟨r9, tk9, e1, E1, B1, S1⟩ := hp9
  subst e1
  clear hS hbN hdbN hBD0
  have hb := E1.sub _ hb
  have hdb := E1.sub _ hdb
  have E0 := E0.trans E1
  have hS := S1
  have hBD0 := B1
  have hbN := hS.sub _ hb
  have hdbN := hS.sub _ hdb
  clear S1 B1
  (try dsimp only)
  (try k_fold)
  w_strict k_steps
  exact hret _ _ _ _ ⟨_, _, _, rfl, E0, hBD0, hS⟩ (by k_asm) (by k_asm)
theorem groups_c {w : World} {mean : ExcName → Option Value} {mg mb : Str → Option Value} {P : BAddr} {news r : LD} {bank : Addr} {c1 c2 c3 : Tok} (hBD : BankD P r bank)
    (hS : BSt w P news r 3 0 [.oth (Str.ofString "true") 0 0, .oth (Str.ofString "false") 0 0] [.str (Str.ofString "") c1, .str (Str.ofString "true") c2, .str (Str.ofString "false") c3] false) :
    Does w mean mg mb 8 100 699 [.ref bank] news (fun v news' => ∃ gl add ops n, v = .ref gl ∧ (∀ q ∈ add, ∀ p ∈ r, p.1 < q.1) ∧ (∀ p ∈ (P.lo, W.listOf (List.toArray ops) n) :: (add ++ r), p ∈ news') ∧ (∀ p ∈ add ++ r, p.1 ≠ P.lo) ∧ ThreesL add gl [(3, 4, 5), (6, 7, 8), (9, 10, 11), (12, 1, 2)] ∧ OpsOk ops) := by
  unfold Does; k_fill
  w_on
  have hBD0 := hBD
  obtain ⟨db, bhs, bts, v5, u1, u2, nb, hb, hdb⟩ := hBD
  intro dp un gd cn nms gen cor mor a0 ccd cl outer A₀ base h₀ L m sH sG sD sT sO Q E B F X N T hk hdp hun hret
  have hbN := hS.sub _ hb
  have hdbN := hS.sub _ hdb
  have E0 := Ext.refl r
  w_strict (refine wpAny_call ?_; k_dflt cell_enter)
  w_strict k_steps
  unfold MyCall
  refine made_use (fresh_c hBD0 hS (by decide) (by decide +kernel) (by decide)) (E0) ?_
  intro r9 tk9 top9 n9 h9 t9 E1 E2 B1 S1 F9 N9
  clear hS hbN hdbN hBD0 E0
  have E0 := E2
  have hS := S1
  have hBD0 := B1
  have hbN := hS.sub _ (E0.sub _ hb)
  have hdbN := hS.sub _ (E0.sub _ hdb)
  clear S1 B1 E1 E2
  (try dsimp only)
  (try k_fold)
  w_strict k_steps
  unfold MyCall
  refine made_use (num1_c (x := 0) (y := 1) hBD0 hS (by assumption) (by decide) (by decide) (by decide) (by decide) rfl (by decide +kernel) (by decide)) (E0) ?_
  intro r9 tk9 top9 n9 h9 t9 E1 E2 B1 S1 F9 N9
  clear hS hbN hdbN hBD0 E0
  have E0 := E2
  have hS := S1
  have hBD0 := B1
  have hbN := hS.sub _ (E0.sub _ hb)
  have hdbN := hS.sub _ (E0.sub _ hdb)
  clear S1 B1 E1 E2
  (try dsimp only)
  (try k_fold)
  w_strict k_steps
  unfold MyCall
  refine made_use (num1_c (x := 1) (y := 1) hBD0 hS (by assumption) (by decide) (by decide) (by decide) (by decide) rfl (by decide +kernel) (by decide)) (E0) ?_
  intro r9 tk9 top9 n9 h9 t9 E1 E2 B1 S1 F9 N9
  clear hS hbN hdbN hBD0 E0
  have E0 := E2
  have hS := S1
  have hBD0 := B1
  have hbN := hS.sub _ (E0.sub _ hb)
  have hdbN := hS.sub _ (E0.sub _ hdb)
  clear S1 B1 E1 E2
  (try dsimp only)
  (try k_fold)
  w_strict k_steps
  have hq1 := fun p hp => (show ∀ p ∈ n9, p.1 < _ from by assumption) p (hS.sub p (E0.sub p hp))
  have hSp := fun (o : Obj) => hS.push (o := o) (show ∀ p ∈ n9, p.1 < _ from by assumption)
  have hEp := fun (o : Obj) => Ext.cons (o := o) (fun p hp => (show ∀ p ∈ n9, p.1 < _ from by assumption) p (hS.sub p hp))
  have hBp := fun (o : Obj) => hBD0.mono (hEp o).sub
  unfold MyCall
  refine made_use (fresh_c (hBp _) (hSp _) (by decide) (by decide +kernel) (by decide)) (E0.trans (hEp _)) ?_
  intro r9 tk9 top9 n9 h9 t9 E1 E2 B1 S1 F9 N9
  clear hSp hEp hBp
  clear hS hbN hdbN hBD0 E0
  have hl1 := E1.sub _ (.head _)
  have E0 := E2
  have hS := S1
  have hBD0 := B1
  have hbN := hS.sub _ (E0.sub _ hb)
  have hdbN := hS.sub _ (E0.sub _ hdb)
  clear S1 B1 E1 E2
  (try dsimp only)
  (try k_fold)
  w_strict k_steps
  unfold MyCall
  refine made_use (num2_c (x := 0) (y := 1) hBD0 hS (by assumption) (by decide) (by decide) (by decide) (by decide) (by decide +kernel) (by decide)) (E0) ?_
  intro r9 tk9 top9 n9 h9 t9 E1 E2 B1 S1 F9 N9
  clear hS hbN hdbN hBD0 E0
  have hl1 := E1.sub _ hl1
  have E0 := E2
  have hS := S1
  have hBD0 := B1
  have hbN := hS.sub _ (E0.sub _ hb)
  have hdbN := hS.sub _ (E0.sub _ hdb)
  clear S1 B1 E1 E2
  (try dsimp only)
  (try k_fold)
  w_strict k_steps
  unfold MyCall
  refine made_use (num2_c (x := 1) (y := 2) hBD0 hS (by assumption) (by decide) (by decide) (by decide) (by decide) (by decide +kernel) (by decide)) (E0) ?_
  intro r9 tk9 top9 n9 h9 t9 E1 E2 B1 S1 F9 N9
  clear hS hbN hdbN hBD0 E0
  have hl1 := E1.sub _ hl1
  have E0 := E2
  have hS := S1
  have hBD0 := B1
  have hbN := hS.sub _ (E0.sub _ hb)
  have hdbN := hS.sub _ (E0.sub _ hdb)
  clear S1 B1 E1 E2
  (try dsimp only)
  (try k_fold)
  w_strict k_steps
  have hq2 := fun p hp => (show ∀ p ∈ n9, p.1 < _ from by assumption) p (hS.sub p (E0.sub p hp))
  unfold MyCall
  refine Does.use (sort0_w hBD0 hS (by assumption)) (by k_asm) (by k_asm) (by k_asm) (by k_asm) (by k_asm) (by first | exact rfl | assumption) (by ktr_room) (by ktr_units) ?_
  intro v9 n9 h9 tk9 hp9 F9 N9
  obtain ⟨r9, tk9, e1, E1, hl2, B1, S1⟩ := hp9
  subst e1
  clear hS hbN hdbN hBD0
  have hl1 := E1.sub _ hl1
  have E0 := E0.trans E1
  have hS := S1
  have hBD0 := B1
  have hbN := hS.sub _ (E0.sub _ hb)
  have hdbN := hS.sub _ (E0.sub _ hdb)
  clear S1 B1 E1
  (try dsimp only)
  (try k_fold)
  w_strict k_steps
  unfold MyCall
  refine made_use (fresh_c hBD0 hS (by decide) (by decide +kernel) (by decide)) (E0) ?_
  intro r9 tk9 top9 n9 h9 t9 E1 E2 B1 S1 F9 N9
  clear hS hbN hdbN hBD0 E0
  have hl1 := E1.sub _ hl1
  have hl2 := E1.sub _ hl2
  have E0 := E2
  have hS := S1
  have hBD0 := B1
  have hbN := hS.sub _ (E0.sub _ hb)
  have hdbN := hS.sub _ (E0.sub _ hdb)
  clear S1 B1 E1 E2
  (try dsimp only)
  (try k_fold)
  w_strict k_steps
  unfold MyCall
  refine made_use (bvn_c (x := 0) hBD0 hS (by decide) (by decide) (by decide +kernel) (by decide)) (E0) ?_
  intro r9 tk9 top9 n9 h9 t9 E1 E2 B1 S1 F9 N9
  clear hS hbN hdbN hBD0 E0
  have hl1 := E1.sub _ hl1
  have hl2 := E1.sub _ hl2
  have E0 := E2
  have hS := S1
  have hBD0 := B1
  have hbN := hS.sub _ (E0.sub _ hb)
  have hdbN := hS.sub _ (E0.sub _ hdb)
  clear S1 B1 E1 E2
  (try dsimp only)
  (try k_fold)
  w_strict k_steps
  unfold MyCall
  refine made_use (bvn_c (x := 2) hBD0 hS (by decide) (by decide) (by decide +kernel) (by decide)) (E0) ?_
  intro r9 tk9 top9 n9 h9 t9 E1 E2 B1 S1 F9 N9
  clear hS hbN hdbN hBD0 E0
  have hl1 := E1.sub _ hl1
  have hl2 := E1.sub _ hl2
  have E0 := E2
  have hS := S1
  have hBD0 := B1
  have hbN := hS.sub _ (E0.sub _ hb)
  have hdbN := hS.sub _ (E0.sub _ hdb)
  clear S1 B1 E1 E2
  (try dsimp only)
  (try k_fold)
  w_strict k_steps
  have hq3 := fun p hp => (show ∀ p ∈ n9, p.1 < _ from by assumption) p (hS.sub p (E0.sub p hp))
  have hSp := fun (o : Obj) => hS.push (o := o) (show ∀ p ∈ n9, p.1 < _ from by assumption)
  have hEp := fun (o : Obj) => Ext.cons (o := o) (fun p hp => (show ∀ p ∈ n9, p.1 < _ from by assumption) p (hS.sub p hp))
  have hBp := fun (o : Obj) => hBD0.mono (hEp o).sub
  unfold MyCall
  refine made_use (fresh_c (hBp _) (hSp _) (by decide) (by decide +kernel) (by decide)) (E0.trans (hEp _)) ?_
  intro r9 tk9 top9 n9 h9 t9 E1 E2 B1 S1 F9 N9
  clear hSp hEp hBp
  clear hS hbN hdbN hBD0 E0
  have hl3 := E1.sub _ (.head _)
  have hl1 := E1.sub _ (.tail _ hl1)
  have hl2 := E1.sub _ (.tail _ hl2)
  have E0 := E2
  have hS := S1
  have hBD0 := B1
  have hbN := hS.sub _ (E0.sub _ hb)
  have hdbN := hS.sub _ (E0.sub _ hdb)
  clear S1 B1 E1 E2
  (try dsimp only)
  (try k_fold)
  w_strict k_steps
  have hq4 := fun p hp => (show ∀ p ∈ n9, p.1 < _ from by assumption) p (hS.sub p (E0.sub p hp))
  (refine hret _ _ _ _ ?_ (by k_asm) (by k_asm))
  rename _ ∧ AllLt _ _ => hz
  refine groups_fin ((hS.push (show ∀ p ∈ n9, p.1 < _ from by assumption)).push (pr_of hz)) E0 hl1 hl2 hl3 hq1 hq2 hq3 hq4 ?_ ops_ok
  intro p hp
  exact Nat.lt_trans (hq4 p hp) hz.1

end
section
theorem are_one_c {w : World} {mean : ExcName → Option Value} {mg mb : Str → Option Value} {news : LD} {clo bank tl ld : Addr} {c : List (Int × Int)} {a b : Int} {ta tb : Tok}
    (hC : CloIn news clo bank tl ld) (hL : IntD w news ld c) (ha : kdfHas c a = true) (hb : kdfHas c b = true) :
    Does w mean mg mb 1 8 50 [.ref clo, .int a ta, .int b tb] news (fun v news' => v = .bool (decide (kdfLook c a 0 = kdfLook c b 0)) ∧ news' = news) := by
  unfold Does; k_fill
  w_on
  obtain ⟨dclo, h1, h2, h3, t1, t2, t3, n, hC, hD⟩ := hC
  obtain ⟨hlo, o, kvs, hL, hd, hf⟩ := hL
  intro dp un gd cn nms gen cor mor a0 ccd cl outer A₀ base h₀ L m sH sG sD sT sO Q E B F X N T hk hdp hun hret
  w_strict (refine wpAny_call ?_; k_dflt cell_enter)
  w_strict k_steps
  exact hret _ _ _ _ ⟨rfl, rfl⟩ (by k_asm) (by k_asm)
theorem are_one_use {w : World} {mean : ExcName → Option Value} {mg mb : Str → Option Value} {dp un : Nat} {gd : Option (List Code)} {cn : Str} {cs : Scope} {ad : Addr} {ccd : Value} {cl : List (Str × Addr)} {outer : List Env} {A₀ : Around} {base h₀ : Heap} {L : Addr} {μ : Str → Option Value} {s : Shared} {Q E : Value → Shared → Prop} {news : LD} {clo bank tl ld : Addr} {c : List (Int × Int)} {a b : Int} {ta tb : Tok}
    (B : Below A₀ base outer h₀ := by k_asm) (F : Fr h₀ L s.heap μ := by k_asm) (X : (hd.heap_39 w.params).In h₀ := by k_asm) (N : News h₀ L s.heap news := by k_asm) (T : Top hd.view_39 (looseW hd.view_39 [Str.ofString "MOST_BITS"]) mean mg mb h₀ := by k_asm) (hk : cs.kind = .function := by first | exact rfl | assumption)
    (hC : CloIn news clo bank tl ld := by walk_at "CLO") (hL : IntD w news ld c := by walk_at "INTD") (ha : kdfHas c a = true := by assumption) (hb : kdfHas c b = true := by assumption)
    (hdp : dp + 1 < recursionLimit := by ktr_room) (hun : un + 8 < cLine := by ktr_units)
    (ret : ∀  (h' : Heap) (tk' : Nat), Fr h₀ L h' μ → News h₀ L h' (news) → Q (.bool (decide (kdfLook c a 0 = kdfLook c b 0))) { s with heap := h', toks := tk' }) :
    wpAny (model PySem.Challenge.rw_qz0019_01.row.prog w) (ktrTop dp un gd cn cs L ad ccd cl outer) (call (.ref 50) [.ref clo, .int a ta, .int b tb]) Q E s :=
  Does.use (are_one_c hC hL ha hb) B F X N T hk hdp hun (ret := fun v n h tk p F1 N1 => by obtain ⟨rfl, rfl⟩ := p; exact ret  h tk  F1 N1)

end
local macro_rules | `(tactic| walk_at "call ref") => `(tactic| (k_here; (with_reducible show wpAny _ _ (call (Value.ref 50) _) _ _ _); k_dflt refine' are_one_use (ret := ?_); intro h9 tk9 F9 N9; (try dsimp only); (try k_fold)))
section
noncomputable def lo2 (x y : Int) : Int := if y < x then y else x
noncomputable def hi2 (x y : Int) : Int := if y > x then y else x
noncomputable def joinStep (low high : Int) (c : List (Int × Int)) (t : Int) : List (Int × Int) := if kdfLook c t 0 = high then kdfPut c t low else c
noncomputable def joinC (c : List (Int × Int)) (ns : List Int) (a b : Int) : List (Int × Int) :=
  if kdfLook c a 0 = kdfLook c b 0 then c else ns.foldl (joinStep (lo2 (kdfLook c a 0) (kdfLook c b 0)) (hi2 (kdfLook c a 0) (kdfLook c b 0))) c
theorem put_len {c : List (Int × Int)} {k v : Int} (h : kdfHas c k = true) : (kdfPut c k v).length = c.length := by
  unfold kdfPut
  rw [if_pos (show (c.any fun p => decide (p.1 = k)) = true from h), List.length_map]
theorem put_has {c : List (Int × Int)} {k v : Int} (h : kdfHas c k = true) (j : Int) : kdfHas (kdfPut c k v) j = kdfHas c j := by
  rw [kdyHas_put]
  by_cases e : j = k
  · subst e; simp [h]
  · simp [e]
theorem step_len {c : List (Int × Int)} {low high t : Int} (h : kdfHas c t = true) : (joinStep low high c t).length = c.length := by
  unfold joinStep
  split
  · exact put_len h
  · rfl
theorem step_has {c : List (Int × Int)} {low high t : Int} (h : kdfHas c t = true) (j : Int) : kdfHas (joinStep low high c t) j = kdfHas c j := by
  unfold joinStep
  split
  · exact put_has h j
  · rfl
theorem take_fold {σ : Type} {ns : List Int} {i : Nat} {t : Int} (f : σ → Int → σ) (z : σ) (h : ns[i]? = some t) : (ns.take (i + 1)).foldl f z = f ((ns.take i).foldl f z) t := by
  rw [List.take_add_one, h]; simp

theorem join_c {w : World} {mean : ExcName → Option Value} {mg mb : Str → Option Value} {rest : LD} {clo bank tl ld : Addr} {o : Obj} {kvs : List (Int × Value)} {c : List (Int × Int)} {ns : List Int} {a b : Int} {ta tb : Tok}
    (hC : CloIn rest clo bank tl ld) (hT : IntL rest tl ns) (hlo : (ld == sysModules) = false) (hd : o.IsDictOf (PySem.intKind PySem.Challenge.rw_qz0019_01.row.prog w) kvs) (hf : FlatPairs PyData.int kvs (kdfD c))
    (hap : ∀ p ∈ rest, p.1 ≠ ld) (ha : kdfHas c a = true) (hb : kdfHas c b = true) (hns : ∀ t ∈ ns, kdfHas c t = true) (hlen : c.length ≤ 1000) :
    Does w mean mg mb 1 8 43 [.ref clo, .int a ta, .int b tb] ((ld, o) :: rest) (fun v news' => v = .bool (!decide (kdfLook c a 0 = kdfLook c b 0)) ∧ ∃ o' kvs', news' = (ld, o') :: rest ∧
      o'.IsDictOf (PySem.intKind PySem.Challenge.rw_qz0019_01.row.prog w) kvs' ∧ FlatPairs PyData.int kvs' (kdfD (joinC c ns a b))) := by
  unfold Does; k_fill
  w_on
  obtain ⟨dclo, h1, h2, h3, t1, t2, t3, n, hC, hD⟩ := hC
  obtain ⟨vs, nn, hTm, hTi⟩ := hT
  intro dp un gd cn nms gen cor mor a0 ccd cl outer A₀ base h₀ L m sH sG sD sT sO Q E B F X N T hk hdp hun hret
  w_strict (refine wpAny_call ?_; k_dflt cell_enter)
  w_strict k_steps
  · refine hret _ _ _ _ ⟨by rw [decide_eq_true (by assumption)]; rfl, o, kvs, rfl, hd, ?_⟩ (by k_asm) (kst_newsOf (by k_asm) (by intro p hp; exact .tail _ hp))
    rw [show joinC c ns a b = c from if_pos (by assumption)]; exact hf
  · rename_i hne _ _ _ _ _ _ _ _ _
    (rename Fr _ _ _ _ => lF); (rename News _ _ _ _ => lN)
    refine my_list (Led := fun q : Obj × List (Int × Value) × List (Int × Int) => [(ld, q.1)]) (ps := fun _ => []) (stored := [Str.ofString "t"])
      (P := fun i q => q.1.IsDictOf (PySem.intKind PySem.Challenge.rw_qz0019_01.row.prog w) q.2.1 ∧ FlatPairs PyData.int q.2.1 (kdfD q.2.2) ∧
        q.2.2 = (ns.take i).foldl (joinStep (lo2 (kdfLook c a 0) (kdfLook c b 0)) (hi2 (kdfLook c a 0) (kdfLook c b 0))) c ∧ (∀ k, kdfHas q.2.2 k = kdfHas c k) ∧ q.2.2.length = c.length)
      rest (o, kvs, c) hTm lF lN (fun p hp => .tail _ (.tail _ hp)) ?_ (fun _ h => nomatch h) ⟨hd, hf, rfl, fun _ => rfl, rfl⟩ ?_ ?_
    · intro p hp q hq
      rw [List.mem_singleton.mp hp]; exact hap q hq
    · clear lF lN
      rintro i v ⟨o₁, kvs₁, c₁⟩ rest' u h tk hv hsub hap' ⟨hd₁, hf₁, hc₁, hk₁, hl₁⟩ F' N'
      dsimp only at hd₁ hf₁ hc₁ hk₁ hl₁
      obtain ⟨t, ht⟩ : ∃ t, ns[i]? = some t := by
        have : i < ns.length := by rw [← hTi.length]; exact (List.getElem?_eq_some_iff.mp hv).1
        exact ⟨_, List.getElem?_eq_getElem this⟩
      obtain ⟨tt, ht'⟩ := hTi.get i t ht
      rw [ht'] at hv; cases hv
      have hkt : kdfHas c₁ t = true := by rw [hk₁]; exact hns t (List.mem_of_getElem? ht)
      replace hap' : ∀ p ∈ rest', p.1 ≠ ld := fun p hp => hap' _ (.head _) p hp
      replace hC := hsub _ hC
      replace hD := hsub _ hD
      replace N' : News _ _ _ ((ld, o₁) :: rest') := N'
      clear hd hf N F hap
      have hlc : c₁.length ≤ 16777216 := by omega
      refine wpAny_assign_Name ?_
      w_strict k_steps
      · rename Fr _ _ _ _ => F9
        rename News _ _ _ _ => N9
        rename Obj.IsDictOf _ _ _ => hd9
        rename FlatPairs _ _ _ => hf9
        rename (_ : Int) = _ => hx
        refine my_end (_, _, kdfPut c₁ t (lo2 (kdfLook c a 0) (kdfLook c b 0))) F9 N9 (fun p hp => hp) ?_ ?_ ⟨hd9, hf9, ?_, ?_, ?_⟩
        · intro p hp q hq
          rw [List.mem_singleton.mp hp]; exact hap' q hq
        · exact FrmOk.set rfl rfl frmOk0
        · rw [take_fold _ _ ht, ← hc₁]
          exact (if_pos hx).symm
        · intro k; exact (put_has hkt k).trans (hk₁ k)
        · exact (put_len hkt).trans hl₁
      · rename Fr _ _ _ _ => F9
        rename News _ _ _ _ => N9
        rename (_ : Int) ≠ _ => hx
        refine my_end (o₁, kvs₁, c₁) F9 N9 (fun p hp => hp) ?_ ?_ ⟨hd₁, hf₁, ?_, hk₁, hl₁⟩
        · intro p hp q hq
          rw [List.mem_singleton.mp hp]; exact hap' q hq
        · exact FrmOk.set rfl rfl frmOk0
        · rw [take_fold _ _ ht, ← hc₁]
          exact (if_neg hx).symm
    · clear lF lN
      rintro ⟨o₁, kvs₁, c₁⟩ u h tk ⟨hd₁, hf₁, hc₁, hk₁, hl₁⟩ hap' F' N'
      dsimp only at hd₁ hf₁ hc₁ hk₁ hl₁
      dsimp only
      w_strict k_steps
      refine hret _ _ _ _ ⟨?_, o₁, kvs₁, rfl, hd₁, ?_⟩ (by k_asm) (by k_asm)
      · rw [decide_eq_false (by assumption)]; rfl
      · rw [show joinC c ns a b = c₁ from ?_]
        · exact hf₁
        · rw [List.take_of_length_le (Nat.le_of_eq hTi.length.symm)] at hc₁
          exact (if_neg (by assumption)).trans hc₁.symm

end
section
noncomputable def valScan (c : List (Int × Int)) : List Int → List Int → Bool
  | [], _ => false
  | t :: r, seen => if isVal t = true then (if kdfLook c t 0 ∈ seen then true else valScan c r (kdfLook c t 0 :: seen)) else valScan c r seen
noncomputable def clashOf (c : List (Int × Int)) (ns : List Int) (ps : List (Int × Int)) : Bool :=
  (ps.any fun p => decide (kdfLook c p.1 0 = kdfLook c p.2 0)) || decide (kdfLook c 1 0 = kdfLook c 2 0) || valScan c ns []

theorem has_clash_c {w : World} {mean : ExcName → Option Value} {mg mb : Str → Option Value} {news : LD} {clo bank tl ld lo al : Addr} {c : List (Int × Int)} {ns : List Int} {ps : List (Int × Int)} {ops : List Value} {no : Nat}
    (hC : CloIn news clo bank tl ld) (hT : IntL news tl ns) (hB : BankIn news bank lo) (hO : (lo, W.listOf (List.toArray ops) no) ∈ news) (hok : OpsOk ops) (hL : IntD w news ld c) (hA : PairsL news al ps)
    (hns : ∀ t ∈ ns, 1 ≤ t ∧ t ≤ 12 ∧ kdfHas c t = true) (hps : ∀ p ∈ ps, kdfHas c p.1 = true ∧ kdfHas c p.2 = true) (h1 : kdfHas c 1 = true) (h2 : kdfHas c 2 = true) (hnl : ns.length ≤ 100) :
    Does w mean mg mb 4 40 69 [.ref clo, .ref al] news (fun v news' => v = .bool (clashOf c ns ps) ∧ news' = news) := by
  unfold Does; k_fill
  w_on
  have hC0 := hC
  have hL0 := hL
  obtain ⟨dclo, j1, j2, j3, i1, i2, i3, n, hC, hD⟩ := hC
  obtain ⟨vs, nn, hTm, hTi⟩ := hT
  obtain ⟨va, na, hAm, hAi⟩ := hA
  obtain ⟨P, rfl, db, bhs, bts, v5, u1, u2, nb, hB1, hB2⟩ := hB
  intro dp un gd cn nms gen cor mor a0 ccd cl outer A₀ base h₀ L m sH sG sD sT sO Q E B F X N T hk hdp hun hret
  w_strict (refine wpAny_call ?_; k_dflt cell_enter)
  w_strict k_steps
  (rename Fr _ _ _ _ => lF); (rename News _ _ _ _ => lN)
  refine my_list (Led := fun _ : Unit => []) (ps := fun _ => []) (stored := [Str.ofString "a", Str.ofString "b"])
    (P := fun i _ => ((ps.take i).any fun p => decide (kdfLook c p.1 0 = kdfLook c p.2 0)) = false)
    news () hAm lF lN (fun p hp => hp) (fun p hp => nomatch hp) (fun _ h => nomatch h) rfl ?_ ?_
  · clear lF lN
    rintro i v _ rest' u h tk hv hsub - hP F' N'
    obtain ⟨q, x, y, tx, ty, nq, hpi, rfl, hqm⟩ := hAi.get hv
    obtain ⟨hx, hy⟩ := hps _ (List.mem_of_getElem? hpi)
    replace N' : News _ _ _ rest' := N'
    replace hqm := hsub _ hqm
    replace hC := hsub _ hC
    replace hD := hsub _ hD
    replace hC0 := hC0.mono hsub
    replace hL0 := hL0.mono hsub
    w_strict k_steps
    · rename kdfLook _ _ _ = _ => hx
      rename News _ _ _ _ => N9
      refine hret _ _ _ _ ⟨?_, rfl⟩ (by k_asm) (kst_newsOf N9 hsub)
      unfold clashOf
      rw [show (ps.any fun p => decide (kdfLook c p.1 0 = kdfLook c p.2 0)) = true from List.any_eq_true.mpr ⟨_, List.mem_of_getElem? hpi, decide_eq_true hx⟩]
      rfl
    · rename ¬ kdfLook _ _ _ = _ => hx
      rename Fr _ _ _ _ => F9
      rename News _ _ _ _ => N9
      refine my_end () F9 N9 (fun p hp => hp) (fun p hp => nomatch hp) (FrmOk.set rfl rfl (FrmOk.set rfl rfl frmOk0)) ?_
      rw [List.take_add_one, hpi, List.any_append, hP]
      simpa using hx
  · clear lF lN
    rintro _ u h tk hP - F' N'
    dsimp only
    replace N' : News _ _ _ news := N'
    w_strict k_steps
    · rename kdfLook _ _ _ = _ => hx
      refine hret _ _ _ _ ⟨?_, rfl⟩ (by k_asm) (by k_asm)
      unfold clashOf
      rw [decide_eq_true hx, Bool.or_true, Bool.true_or]
    · rename ¬ kdfLook _ _ _ = _ => hx
      rename (∀ p ∈ news, p.1 < _) => hlt
      rename ((_ == sysModules) = false) => hvlo
      rename Obj.IsDictOf (PySem.intKind _ _) _ _ => hvd
      rename FlatPairs PyData.int _ _ => hvf
      (rename Fr _ _ _ _ => lF); (rename News _ _ _ _ => lN)
      obtain ⟨hlo, o, kvs, hLm, hd, hf⟩ := hL0
      have hpa : (ps.any fun p => decide (kdfLook c p.1 0 = kdfLook c p.2 0)) = false := by
        rw [List.take_of_length_le (Nat.le_of_eq hAi.length.symm)] at hP; exact hP
      refine my_list (Led := fun q : Obj × List (Int × Value) × List (Int × Int) × List Int => [(_, q.1)]) (ps := fun _ => []) (stored := [Str.ofString "t"])
        (P := fun i q => q.1.IsDictOf (PySem.intKind PySem.Challenge.rw_qz0019_01.row.prog w) q.2.1 ∧ FlatPairs PyData.int q.2.1 (kdfD q.2.2.1) ∧ q.2.2.1.length ≤ i ∧
          (∀ k, kdfHas q.2.2.1 k = decide (k ∈ q.2.2.2)) ∧ valScan c ns [] = valScan c (ns.drop i) q.2.2.2)
        news (_, [], [], []) hTm lF lN (fun p hp => hp) ?_ (fun _ h => nomatch h) ⟨hvd, hvf, Nat.zero_le _, fun _ => by simp [kdfHas], rfl⟩ ?_ ?_
      · intro p hp q hq
        rw [List.mem_singleton.mp hp]; exact Nat.ne_of_lt (hlt q hq)
      · clear lF lN
        rintro i v ⟨o₁, kvs₁, cv, seen⟩ rest' u h tk hv hsub hap' ⟨hd₁, hf₁, hl₁, hk₁, hs₁⟩ F' N'
        dsimp only at hd₁ hf₁ hl₁ hk₁ hs₁
        obtain ⟨t, ht⟩ : ∃ t, ns[i]? = some t := by
          have : i < ns.length := by rw [← hTi.length]; exact (List.getElem?_eq_some_iff.mp hv).1
          exact ⟨_, List.getElem?_eq_getElem this⟩
        have hi : i < ns.length := (List.getElem?_eq_some_iff.mp ht).1
        obtain ⟨tt, ht'⟩ := hTi.get i t ht
        rw [ht'] at hv; cases hv
        obtain ⟨ht1, ht2, hkt⟩ := hns t (List.mem_of_getElem? ht)
        obtain ⟨x, tx, hx, hcase⟩ := hok t ht1 ht2
        replace hap' := fun p hp => hap' _ (.head _) p hp
        replace hC := hsub _ hC
        replace hD := hsub _ hD
        replace hLm := hsub _ hLm
        replace hO := hsub _ hO
        replace hB1 := hsub _ hB1
        replace hB2 := hsub _ hB2
        replace N' : News _ _ _ ((_, o₁) :: rest') := N'
        have hdrop : ns.drop i = t :: ns.drop (i + 1) := by
          rw [List.drop_eq_getElem_cons hi]
          rw [List.getElem?_eq_getElem hi] at ht
          rw [Option.some.inj ht]
        have hlc : cv.length ≤ 16777216 := by omega
        clear hvd hvf
        have hany := any_isVal hcase
        w_strict k_steps
        · rename isVal _ = _ => hiv
          rename kdfHas _ _ = _ => hin
          refine hret _ _ _ _ ⟨?_, rfl⟩ (by k_asm) (kst_newsOf (by k_asm) (fun p hp => .tail _ (hsub p hp)))
          unfold clashOf
          rw [hs₁, hdrop, valScan, if_pos hiv, if_pos (by rw [hk₁] at hin; exact of_decide_eq_true hin), Bool.or_true]
        · rename isVal _ = _ => hiv
          rename kdfHas _ _ = _ => hin
          rename Fr _ _ _ _ => F9
          rename News _ _ _ _ => N9
          rename Obj.IsDictOf _ _ _ => hd9
          rename FlatPairs _ _ _ => hf9
          refine my_end (_, _, kdfPut cv (kdfLook c t 0) t, kdfLook c t 0 :: seen) F9 N9 (fun p hp => hp) ?_ (FrmOk.set rfl rfl frmOk0) ⟨hd9, hf9, ?_, ?_, ?_⟩
          · intro p hp q hq
            rw [List.mem_singleton.mp hp]; exact hap' q hq
          · exact Nat.le_trans (kdfPut_len _ _ _) (by omega)
          · intro k
            show kdfHas (kdfPut cv (kdfLook c t 0) t) k = decide (k ∈ kdfLook c t 0 :: seen)
            rw [kdyHas_put, hk₁]
            by_cases e : k = kdfLook c t 0
            · simp [e]
            · simp [e]
          · show valScan c ns [] = valScan c (ns.drop (i + 1)) (kdfLook c t 0 :: seen)
            rw [hs₁, hdrop, valScan, if_pos hiv, if_neg (by rw [hk₁] at hin; exact of_decide_eq_false hin)]
        · rename isVal _ = _ => hiv
          rename Fr _ _ _ _ => F9
          rename News _ _ _ _ => N9
          refine my_end (o₁, kvs₁, cv, seen) F9 N9 (fun p hp => hp) ?_ (FrmOk.set rfl rfl frmOk0) ⟨hd₁, hf₁, Nat.le_succ_of_le hl₁, hk₁, ?_⟩
          · intro p hp q hq
            rw [List.mem_singleton.mp hp]; exact hap' q hq
          · show valScan c ns [] = valScan c (ns.drop (i + 1)) seen
            rw [hs₁, hdrop, valScan, if_neg (by rw [hiv]; exact Bool.false_ne_true)]
      · clear lF lN
        rintro ⟨o₁, kvs₁, cv, seen⟩ u h tk ⟨hd₁, hf₁, hl₁, hk₁, hs₁⟩ hap' F' N'
        dsimp only at hd₁ hf₁ hl₁ hk₁ hs₁
        dsimp only
        w_strict k_steps
        rename ¬ kdfLook _ _ _ = _ => hne
        refine hret _ _ _ _ ⟨?_, rfl⟩ (by k_asm) (kst_newsOf (by k_asm) (fun p hp => .tail _ hp))
        unfold clashOf
        rw [hs₁, hpa, decide_eq_false hne, List.drop_of_length_le (Nat.le_of_eq hTi.length.symm)]
        rfl
theorem has_clash_use {w : World} {mean : ExcName → Option Value} {mg mb : Str → Option Value} {dp un : Nat} {gd : Option (List Code)} {cn : Str} {cs : Scope} {ad : Addr} {ccd : Value} {cl : List (Str × Addr)} {outer : List Env} {A₀ : Around} {base h₀ : Heap} {L : Addr} {μ : Str → Option Value} {s : Shared} {Q E : Value → Shared → Prop} {news : LD} {clo bank tl ld lo al : Addr} {c : List (Int × Int)} {ns : List Int} {ps : List (Int × Int)} {ops : List Value} {no : Nat}
    (B : Below A₀ base outer h₀ := by k_asm) (F : Fr h₀ L s.heap μ := by k_asm) (X : (hd.heap_39 w.params).In h₀ := by k_asm) (N : News h₀ L s.heap news := by k_asm) (T : Top hd.view_39 (looseW hd.view_39 [Str.ofString "MOST_BITS"]) mean mg mb h₀ := by k_asm) (hk : cs.kind = .function := by first | exact rfl | assumption)
    (hC : CloIn news clo bank tl ld := by walk_at "CLO") (hT : IntL news tl ns := by walk_at "INTL") (hB : BankIn news bank lo := by walk_at "BANK") (hO : (lo, W.listOf (List.toArray ops) no) ∈ news := by first | k_mem | exact mem_lift (by assumption) (by walk_at "SUB")) (hok : OpsOk ops := by assumption) (hL : IntD w news ld c := by walk_at "INTD") (hA : PairsL news al ps := by walk_at "PAIRS") (hns : ∀ t ∈ ns, 1 ≤ t ∧ t ≤ 12 ∧ kdfHas c t = true := by assumption) (hps : ∀ p ∈ ps, kdfHas c p.1 = true ∧ kdfHas c p.2 = true := by first | assumption | exact List.forall_mem_nil _) (h1 : kdfHas c 1 = true := by assumption) (h2 : kdfHas c 2 = true := by assumption) (hnl : ns.length ≤ 100 := by omega)
    (hdp : dp + 4 < recursionLimit := by ktr_room) (hun : un + 40 < cLine := by ktr_units)
    (ret : ∀  (h' : Heap) (tk' : Nat), Fr h₀ L h' μ → News h₀ L h' (news) → Q (.bool (clashOf c ns ps)) { s with heap := h', toks := tk' }) :
    wpAny (model PySem.Challenge.rw_qz0019_01.row.prog w) (ktrTop dp un gd cn cs L ad ccd cl outer) (call (.ref 69) [.ref clo, .ref al]) Q E s :=
  Does.use (has_clash_c hC hT hB hO hok hL hA hns hps h1 h2 hnl) B F X N T hk hdp hun (ret := fun v n h tk p F1 N1 => by obtain ⟨rfl, rfl⟩ := p; exact ret  h tk  F1 N1)

end
local macro_rules | `(tactic| walk_at "call ref") => `(tactic| (k_here; (with_reducible show wpAny _ _ (call (Value.ref 69) _) _ _ _); k_dflt refine' has_clash_use (ret := ?_); intro h9 tk9 F9 N9; (try dsimp only); (try k_fold)))
section
noncomputable def idC (ns : List Int) : List (Int × Int) := ns.map fun t => (t, t)
theorem idC_has (ns : List Int) (k : Int) : kdfHas (idC ns) k = decide (k ∈ ns) := by
  unfold kdfHas idC
  induction ns with
  | nil => simp
  | cons t r ih =>
    simp only [List.map_cons, List.any_cons, List.mem_cons]
    rw [ih]
    by_cases e : t = k
    · subst e; simp
    · have : ¬ k = t := fun q => e q.symm
      simp [e, this]
theorem idC_put {ns : List Int} {t : Int} (h : t ∉ ns) : kdfPut (idC ns) t t = idC (ns ++ [t]) := by
  unfold kdfPut
  rw [if_neg (by
    show ¬ kdfHas (idC ns) t = true
    rw [idC_has]; simp [h])]
  unfold idC; rw [List.map_append]; rfl

theorem init_c {w : World} {mean : ExcName → Option Value} {mg mb : Str → Option Value} {news : LD} {bank tl : Addr} {ns : List Int}
    (hT : IntL news tl ns) (hnd : ns.Nodup) (hnl : ns.length ≤ 100) :
    Does w mean mg mb 4 40 72 [.ref bank, .ref tl] news (fun v news' => ∃ clo ld o kvs add, v = .ref clo ∧ news' = (ld, o) :: (add ++ news) ∧ CloIn add clo bank tl ld ∧ (ld == sysModules) = false ∧
      o.IsDictOf (PySem.intKind PySem.Challenge.rw_qz0019_01.row.prog w) kvs ∧ FlatPairs PyData.int kvs (kdfD (idC ns)) ∧ (∀ p ∈ add ++ news, p.1 < ld) ∧ (∀ p ∈ news, ∀ q ∈ add, p.1 < q.1)) := by
  unfold Does; k_fill
  w_on
  obtain ⟨vs, nn, hTm, hTi⟩ := hT
  intro dp un gd cn nms gen cor mor a0 ccd cl outer A₀ base h₀ L m sH sG sD sT sO Q E B F X N T hk hdp hun hret
  w_strict (k_dflt (refine' call_cls ?k1 ?k2 ?k3 ?k4 ?k5 ?k6 ?_; (case k1 => k_asm); (case k2 => k_asm); (case k3 => k_asm); (case k4 => k_is); (case k5 => k_is); (case k6 => k_is); k_whole))
  intro x' d' h' F' N' l1 l2
  have hne : ∀ p ∈ news, p.1 ≠ d' := fun p hp => Nat.ne_of_lt (l1 p hp)
  have hne2 : ∀ p ∈ news, p.1 ≠ x' := fun p hp => Nat.ne_of_lt (Nat.lt_trans (l1 p hp) l2)
  have l2' := l2
  replace l2 := ltN l2
  w_strict (k_dflt (refine' code_def ?k1 ?k2 ?k3 ?k4 ?k5 ?kA ?kF ?kK ?k6 ?k7 ?k8 ?k9 ?kB ?_ ?c2 ?c3 ?c4 ?c5; (case kA => exact rfl); (case kF => exact rfl); (case kK => first | exact rfl | assumption); (case k1 => k_asm); (case k2 => k_asm); (case k3 => k_asm); (case k4 => k_asm); (case k5 => k_asm); (case k6 => k_is); (case k7 => k_is); (case k8 => ktr_room); (case k9 => exact BindsTo.of_eq rfl); (case c5 => decide); (case kB => exact locs rfl); (case c2 => exact rfl); (case c3 => exact rfl); (case c4 => exact rfl); k_whole; intro g' L' h' FG' F' N' B' X' T'; (try dsimp only); (try k_lift B'); (try k_fold)))
  w_strict k_steps
  rename _ ∧ _ ∧ AllLt _ _ => hlt
  rename ((_ == sysModules) = false) => hvlo
  rename Obj.IsDictOf (PySem.intKind _ _) _ _ => hvd
  rename FlatPairs PyData.int _ _ => hvf
  (rename Fr _ _ _ _ => lF); (rename News _ _ _ _ => lN)
  obtain ⟨hl1, hl2, hl3⟩ := hlt
  have hl3 := ktn_ltOf hl3
  refine my_list (Led := fun q : Obj × List (Int × Value) => [(_, q.1)]) (ps := fun _ => []) (stored := [Str.ofString "t"])
    (P := fun i q => q.1.IsDictOf (PySem.intKind PySem.Challenge.rw_qz0019_01.row.prog w) q.2 ∧ FlatPairs PyData.int q.2 (kdfD (idC (ns.take i))))
    (_ :: _ :: news) (_, []) (.tail _ (.tail _ hTm)) lF lN (fun p hp => hp) ?_ (fun _ h => nomatch h) ⟨hvd, hvf⟩ ?_ ?_
  · intro p hp q hq
    rw [List.mem_singleton.mp hp]
    rcases List.mem_cons.mp hq with rfl | hq
    · exact Nat.ne_of_lt hl1
    · rcases List.mem_cons.mp hq with rfl | hq
      · exact Nat.ne_of_lt hl2
      · exact Nat.ne_of_lt (hl3 q hq)
  · clear lF lN
    rintro i v ⟨o₁, kvs₁⟩ rest' u h tk hv hsub hap' ⟨hd₁, hf₁⟩ F' N'
    dsimp only at hd₁ hf₁
    obtain ⟨t, ht⟩ : ∃ t, ns[i]? = some t := by
      have : i < ns.length := by rw [← hTi.length]; exact (List.getElem?_eq_some_iff.mp hv).1
      exact ⟨_, List.getElem?_eq_getElem this⟩
    have hi : i < ns.length := (List.getElem?_eq_some_iff.mp ht).1
    obtain ⟨tt, ht'⟩ := hTi.get i t ht
    rw [ht'] at hv; cases hv
    replace hap' := fun p hp => hap' _ (.head _) p hp
    replace N' : News _ _ _ ((_, o₁) :: rest') := N'
    have hlc : (idC (ns.take i)).length ≤ 16777216 := by
      unfold idC; rw [List.length_map, List.length_take]; omega
    have htake : ns.take (i + 1) = ns.take i ++ [t] := by rw [List.take_add_one, ht]; rfl
    have hnt : t ∉ ns.take i := by
      intro hm
      have h2 : (ns.take (i + 1)).Nodup := hnd.sublist (List.take_sublist _ _)
      rw [htake] at h2
      exact (List.nodup_append.mp h2).2.2 t hm t (.head _) rfl
    clear hvd hvf
    have hX := hsub _ (.head _)
    have hD := hsub _ (.tail _ (.head _))
    refine wpAny_assign_Name ?_
    w_strict k_steps
    rename Fr _ _ _ _ => F9
    rename News _ _ _ _ => N9
    rename Obj.IsDictOf _ _ _ => hd9
    rename FlatPairs _ _ _ => hf9
    refine my_end (_, _) F9 N9 (fun p hp => hp) ?_ (FrmOk.set rfl rfl frmOk0) ⟨hd9, ?_⟩
    · intro p hp q hq
      rw [List.mem_singleton.mp hp]; exact hap' q hq
    · rw [htake, ← idC_put hnt]; exact hf9
  · clear lF lN
    rintro ⟨o₁, kvs₁⟩ u h tk ⟨hd₁, hf₁⟩ hap' F' N'
    dsimp only at hd₁ hf₁
    dsimp only
    w_strict k_steps
    refine hret _ _ _ _ ⟨x', _, o₁, kvs₁, [_, _], rfl, rfl, ⟨d', _, _, _, _, _, _, _, .head _, .tail _ (.head _)⟩, hvlo, hd₁, ?_, ?_, ?_⟩ (by k_asm) (by k_asm)
    · rw [List.take_of_length_le (Nat.le_of_eq hTi.length.symm)] at hf₁; exact hf₁
    · intro p hp
      rcases List.mem_cons.mp hp with rfl | hp
      · exact hl1
      · rcases List.mem_cons.mp hp with rfl | hp
        · exact hl2
        · exact hl3 p hp
    · intro p hp q hq
      rcases List.mem_cons.mp hq with rfl | hq
      · exact Nat.lt_trans (l1 p hp) l2'
      · rw [List.mem_singleton.mp hq]; exact l1 p hp

end
section
/-- the sack: its list of cells, the next one's number -/
def SackIs (w : World) (o : Obj) (lc : Addr) (k : Int) : Prop := ∃ tk, o.IsDictOf (PySem.strKind PySem.Challenge.rw_qz0019_01.row.prog w) [(Str.ofString "cells", Value.ref lc), (Str.ofString "at", Value.int k tk)]
theorem pull_c {w : World} {mean : ExcName → Option Value} {mg mb : Str → Option Value} {rest : LD} {ds lc : Addr} {o : Obj} {ns : List Int} {k mn : Int} {tm : Tok}
    (hS : SackIs w o lc k) (hT : IntL rest lc ns) (hap : ∀ p ∈ rest, p.1 ≠ ds) (hk0 : 0 ≤ k) (hk1 : k ≤ 1000) (hm0 : 1 ≤ mn) (hm1 : mn ≤ 100) (hnl : ns.length ≤ 100) :
    Does w mean mg mb 1 16 692 [.ref ds, .int mn tm] ((ds, o) :: rest) (fun v news' => ∃ r t o', v = .int r t ∧ 0 ≤ r ∧ r < mn ∧ news' = (ds, o') :: rest ∧ SackIs w o' lc (k + 1)) := by
  unfold Does; k_fill
  w_on
  obtain ⟨tk0, hd⟩ := hS
  obtain ⟨vs, nn, hTm, hTi⟩ := hT
  intro dp un gd cn nms gen cor mor a0 ccd cl outer A₀ base h₀ L m sH sG sD sT sO Q E B F X N T hk hdp hun hret
  w_strict (refine wpAny_call ?_; k_dflt cell_enter)
  have hvl : vs.length = ns.length := hTi.length
  by_cases hlt : k < ns.length
  · have hkn : k.toNat < ns.length := by omega
    obtain ⟨tz, hx⟩ := hTi.get k.toNat ns[k.toNat] (List.getElem?_eq_getElem hkn)
    w_strict k_steps
    rename Obj.IsDictOf _ _ _ => hd9
    exact hret _ _ _ _ ⟨_, _, _, rfl, Int.fmod_nonneg_of_pos _ (by omega), Int.fmod_lt_of_pos _ (by omega), rfl, ⟨_, hd9⟩⟩ (by k_asm) (by k_asm)
  · w_strict k_steps
    rename Obj.IsDictOf _ _ _ => hd9
    exact hret _ _ _ _ ⟨_, _, _, rfl, Int.fmod_nonneg_of_pos _ (by omega), Int.fmod_lt_of_pos _ (by omega), rfl, ⟨_, hd9⟩⟩ (by k_asm) (by k_asm)

end
section
inductive Conn (es : List (Int × Int)) : Int → Int → Prop
  | refl (a : Int) : Conn es a a
  | fwd {a b c : Int} : Conn es a b → (b, c) ∈ es → Conn es a c
  | bwd {a b c : Int} : Conn es a b → (c, b) ∈ es → Conn es a c
theorem nodup_len {α : Type} [BEq α] [LawfulBEq α] : ∀ {l m : List α}, l.Nodup → (∀ x ∈ l, x ∈ m) → l.length ≤ m.length
  | [], _, _, _ => Nat.zero_le _
  | a :: l, m, hn, hs => by
    have ha := hs a (.head _)
    have hn' := List.nodup_cons.mp hn
    have h : l.length ≤ (m.erase a).length := nodup_len hn'.2 fun x hx => by
      have hne : x ≠ a := fun e => hn'.1 (e ▸ hx)
      exact (List.mem_erase_of_ne hne).mpr (hs x (.tail _ hx))
    rw [List.length_erase_of_mem ha] at h
    have : 0 < m.length := List.length_pos_of_mem ha
    rw [List.length_cons]; omega
noncomputable def ends (es : List (Int × Int)) : List Int := es.map (·.1) ++ es.map (·.2)
structure LedOk (es : List (Int × Int)) (t : Int) (fs : List Int) : Prop where
  mem : t ∈ fs
  nodup : fs.Nodup
  conn : ∀ y ∈ fs, Conn es t y
  sub : ∀ y ∈ fs, y ∈ t :: ends es
theorem LedOk.len {es : List (Int × Int)} {t : Int} {fs : List Int} (h : LedOk es t fs) (he : es.length ≤ 20) : fs.length ≤ 41 := by
  have := nodup_len h.nodup h.sub
  unfold ends at this
  simp only [List.length_cons, List.length_append, List.length_map] at this
  omega
def Closed (es : List (Int × Int)) (fs : List Int) (i : Nat) : Prop := ∀ j, j < i → ∀ x, fs[j]? = some x → ∀ p ∈ es, (p.1 = x → p.2 ∈ fs) ∧ (p.2 = x → p.1 ∈ fs)
theorem closed_conn {es : List (Int × Int)} {t : Int} {fs : List Int} (h : LedOk es t fs) (hc : Closed es fs fs.length) (y : Int) : y ∈ fs ↔ Conn es t y := by
  refine ⟨h.conn y, fun hy => ?_⟩
  have all : ∀ x ∈ fs, ∀ p ∈ es, (p.1 = x → p.2 ∈ fs) ∧ (p.2 = x → p.1 ∈ fs) := by
    intro x hx p hp
    obtain ⟨j, hj⟩ := List.mem_iff_getElem?.mp hx
    exact hc j (List.getElem?_eq_some_iff.mp hj).1 x hj p hp
  induction hy with
  | refl => exact h.mem
  | fwd _ hm ih => exact (all _ ih _ hm).1 rfl
  | bwd _ hm ih => exact (all _ ih _ hm).2 rfl
noncomputable def addIf (x : Int) (fs : List Int) (a b : Int) : List Int := if a = x ∧ b ∉ fs then fs ++ [b] else fs
theorem addIf_ok {es : List (Int × Int)} {t x a b : Int} {fs : List Int} (h : LedOk es t fs) (hx : x ∈ fs) (hp : (a, b) ∈ es ∨ (b, a) ∈ es) : LedOk es t (addIf x fs a b) := by
  unfold addIf
  split
  · rename_i hc
    obtain ⟨rfl, hb⟩ := hc
    refine ⟨List.mem_append.mpr (.inl h.mem), List.nodup_append.mpr ⟨h.nodup, by simp, fun y hy z hz => ?_⟩, fun y hy => ?_, fun y hy => ?_⟩
    · rw [List.mem_singleton.mp hz]; exact fun e => hb (e ▸ hy)
    · rcases List.mem_append.mp hy with hy | hy
      · exact h.conn y hy
      · rw [List.mem_singleton.mp hy]
        rcases hp with hp | hp
        · exact .fwd (h.conn _ hx) hp
        · exact .bwd (h.conn _ hx) hp
    · rcases List.mem_append.mp hy with hy | hy
      · exact h.sub y hy
      · rw [List.mem_singleton.mp hy]
        refine .tail _ (List.mem_append.mpr ?_)
        rcases hp with hp | hp
        · exact .inr (List.mem_map.mpr ⟨_, hp, rfl⟩)
        · exact .inl (List.mem_map.mpr ⟨_, hp, rfl⟩)
  · exact h
theorem addIf_pre (x : Int) (fs : List Int) (a b : Int) : ∃ ex, addIf x fs a b = fs ++ ex := by
  unfold addIf
  split
  · exact ⟨[b], rfl⟩
  · exact ⟨[], by simp⟩
theorem addIf_mem {x a b : Int} {fs : List Int} (h : a = x) : b ∈ addIf x fs a b := by
  unfold addIf
  split
  · simp
  · rename_i hc
    exact Classical.byContradiction fun hb => hc ⟨h, hb⟩
/-- within a turn: k edges are looked at -/
structure InOk (es : List (Int × Int)) (t x : Int) (fs₀ : List Int) (k : Nat) (fs : List Int) : Prop where
  ok : LedOk es t fs
  pre : ∃ ex, fs = fs₀ ++ ex
  seen : ∀ p ∈ es.take k, (p.1 = x → p.2 ∈ fs) ∧ (p.2 = x → p.1 ∈ fs)
theorem InOk.step {es : List (Int × Int)} {t x a b : Int} {fs₀ fs : List Int} {k : Nat} (h : InOk es t x fs₀ k fs) (hx : x ∈ fs₀) (hk : es[k]? = some (a, b)) : InOk es t x fs₀ (k + 1) (addIf x (addIf x fs a b) b a) := by
  have hm : (a, b) ∈ es := List.mem_of_getElem? hk
  obtain ⟨ex, hex⟩ := h.pre
  have hx1 : x ∈ fs := by rw [hex]; exact List.mem_append.mpr (.inl hx)
  obtain ⟨e1, h1⟩ := addIf_pre x fs a b
  obtain ⟨e2, h2⟩ := addIf_pre x (addIf x fs a b) b a
  have hx2 : x ∈ addIf x fs a b := by rw [h1]; exact List.mem_append.mpr (.inl hx1)
  refine ⟨addIf_ok (addIf_ok h.ok hx1 (.inl hm)) hx2 (.inr hm), ⟨ex ++ e1 ++ e2, by rw [h2, h1, hex]; simp⟩, fun p hp => ?_⟩
  rw [List.take_add_one, hk] at hp
  rcases List.mem_append.mp hp with hp | hp
  · obtain ⟨a1, a2⟩ := h.seen p hp
    have up : ∀ y, y ∈ fs → y ∈ addIf x (addIf x fs a b) b a := fun y hy => by
      rw [h2, h1]; exact List.mem_append.mpr (.inl (List.mem_append.mpr (.inl hy)))
    exact ⟨fun e => up _ (a1 e), fun e => up _ (a2 e)⟩
  · rw [show p = (a, b) from by simpa using hp]
    refine ⟨fun e => ?_, fun e => addIf_mem e⟩
    rw [h2]; exact List.mem_append.mpr (.inl (addIf_mem e))
theorem InOk.done {es : List (Int × Int)} {t x : Int} {fs₀ fs : List Int} {i : Nat} (h : InOk es t x fs₀ es.length fs) (hc : Closed es fs₀ i) (hi : fs₀[i]? = some x) : Closed es fs (i + 1) := by
  obtain ⟨ex, hex⟩ := h.pre
  intro j hj y hy p hp
  have hlt : i < fs₀.length := (List.getElem?_eq_some_iff.mp hi).1
  have hjlt : j < fs₀.length := by omega
  have hy' : fs₀[j]? = some y := by rw [hex, List.getElem?_append_left hjlt] at hy; exact hy
  have up : ∀ z, z ∈ fs₀ → z ∈ fs := fun z hz => by rw [hex]; exact List.mem_append.mpr (.inl hz)
  rcases Nat.lt_or_eq_of_le (Nat.le_of_lt_succ hj) with hj' | hj'
  · obtain ⟨a1, a2⟩ := hc j hj' y hy' p hp
    exact ⟨fun e => up _ (a1 e), fun e => up _ (a2 e)⟩
  · subst hj'
    rw [hi] at hy'; cases hy'
    have := h.seen
    rw [List.take_length] at this
    exact this p hp

theorem led_to_c {w : World} {mean : ExcName → Option Value} {mg mb : Str → Option Value} {news : LD} {el : Addr} {es : List (Int × Int)} {t : Int} {tt : Tok}
    (hE : PairsL news el es) (hel : es.length ≤ 20) :
    Does w mean mg mb 1 16 706 [.ref el, .int t tt] news (fun v news' => ∃ fl vs fs n, v = .ref fl ∧ news' = (fl, W.listOf (List.toArray vs) n) :: news ∧ IntsAre vs fs ∧ (∀ y, y ∈ fs ↔ Conn es t y) ∧ (∀ p ∈ news, p.1 < fl)) := by
  unfold Does; k_fill
  w_on
  obtain ⟨ve, ne, hEm, hEi⟩ := hE
  intro dp un gd cn nms gen cor mor a0 ccd cl outer A₀ base h₀ L m sH sG sD sT sO Q E B F X N T hk hdp hun hret
  w_strict (refine wpAny_call ?_; k_dflt cell_enter)
  w_strict k_steps
  rename (∀ p ∈ news, p.1 < _) => hlt
  (rename Fr _ _ _ _ => lF); (rename News _ _ _ _ => lN)
  have hap0 : ∀ p ∈ news, p.1 ≠ _ := fun p hp => Nat.ne_of_lt (hlt p hp)
  refine my_grow [Str.ofString "one", Str.ofString "pair", Str.ofString "here", Str.ofString "there"] (fun i fs => i ≤ fs.length ∧ LedOk es t fs ∧ Closed es fs i) news 41 (.cons t tt .nil) lF lN (fun p hp => hp) hap0
    ⟨Nat.zero_le _, ⟨.head _, by simp, (fun y hy => by rw [List.mem_singleton.mp hy]; exact .refl _), (fun y hy => by rw [List.mem_singleton.mp hy]; exact .head _)⟩, (fun j hj => absurd hj (Nat.not_lt_zero _))⟩ (fun i fs h => ⟨h.1, h.2.1.len hel⟩) ?_ ?_
  · clear lF lN hlt hap0
    rintro i x tx vs fs nn rest' u h tk hvi hx hsub hap ⟨hi, hok, hcl⟩ F' N'
    replace hEm := hsub _ hEm
    replace hEi := hEi.mono hsub
    refine wpAny_assign_Name ?_
    w_strict k_steps
    (rename Fr _ _ _ _ => lF); (rename News _ _ _ _ => lN)
    have hxm : x ∈ fs := List.mem_of_getElem? hx
    refine my_list (Led := growLed _) (ps := fun _ => []) (stored := [Str.ofString "pair", Str.ofString "here", Str.ofString "there"])
      (P := fun k q => IntsAre q.1 q.2.1 ∧ InOk es t x fs k q.2.1) rest' (vs, fs, nn) hEm lF lN (fun p hp => hp) ?_ (fun _ h => nomatch h) ⟨hvi, hok, ⟨[], by simp⟩, by simp⟩ ?_ ?_
    · intro p hp q hq
      rw [List.mem_singleton.mp hp]; exact hap q hq
    · clear lF lN
      rintro k v ⟨vs₁, fs₁, nn₁⟩ rest₂ u₂ h₂ tk₂ hv hsub₂ hap₂ ⟨hvi₁, hin₁⟩ F' N'
      dsimp only at hvi₁ hin₁
      obtain ⟨pa, a, b, ta, tb, np, hpk, rfl, hpm⟩ := hEi.get hv
      replace hap₂ : ∀ p ∈ rest₂, p.1 ≠ _ := fun p hp => hap₂ _ (.head _) p hp
      replace N' : News _ _ _ ((_, W.listOf (List.toArray vs₁) nn₁) :: rest₂) := N'
      replace hpm := hsub₂ _ hpm
      have hlen1 : vs₁.length = fs₁.length := hvi₁.length
      have hlen2 := hin₁.ok.len hel
      refine wpAny_assign_Name ?_
      w_strict k_steps
      rename _ < _ ∧ AllLt _ _ => hl1
      rename _ < _ ∧ _ < _ ∧ AllLt _ _ => hl2
      (rename Fr _ _ _ _ => lF); (rename News _ _ _ _ => lN)
      refine my_tup2 lF lN (Led := growLed _) (ps := fun _ => []) (stored := [Str.ofString "here", Str.ofString "there"])
        (P := fun i q => IntsAre q.1 q.2.1 ∧ q.2.1 = if i = 0 then fs₁ else if i = 1 then addIf x fs₁ a b else addIf x (addIf x fs₁ a b) b a)
        (vs₁, fs₁, nn₁) rfl rfl (Nat.ne_of_gt hl2.2.1) (Nat.ne_of_gt hl1.1) hap₂ (fun _ h => nomatch h) ⟨hvi₁, rfl⟩ ?_ ?_
      · clear lF lN
        rintro i₂ v ⟨vs₂, fs₂, nn₂⟩ rest₃ u₃ h₃ tk₃ hv₂ hsub₃ hap₃ ⟨hvi₂, hfs₂⟩ F' N'
        dsimp only at hvi₂ hfs₂
        replace hap₃ : ∀ p ∈ rest₃, p.1 ≠ _ := fun p hp => hap₃ _ (.head _) p hp
        replace N' : News _ _ _ ((_, W.listOf (List.toArray vs₂) nn₂) :: rest₃) := N'
        obtain ⟨q, x1, y1, t1, t2, nq, rfl, hqm, hnx⟩ : ∃ q x1 y1 t1 t2 nq, v = .ref q ∧ (q, ({ cls := .type "tuple", data := .seq #[.int x1 t1, .int y1 t2] nq } : Obj)) ∈ rest₃ ∧
            addIf x fs₂ x1 y1 = if i₂ + 1 = 0 then fs₁ else if i₂ + 1 = 1 then addIf x fs₁ a b else addIf x (addIf x fs₁ a b) b a := by
          match i₂, hv₂, hfs₂ with
          | 0, hv₂, hfs₂ =>
            cases hv₂
            refine ⟨pa, a, b, _, _, _, rfl, hsub₃ _ (.tail _ (.tail _ hpm)), ?_⟩
            rw [hfs₂]; rfl
          | 1, hv₂, hfs₂ =>
            cases hv₂
            refine ⟨_, b, a, _, _, _, rfl, hsub₃ _ (.tail _ (.head _)), ?_⟩
            rw [hfs₂]; rfl
        have hlen3 : vs₂.length = fs₂.length := hvi₂.length
        have hlen4 : fs₂.length ≤ 43 := by
          have h1 : ∀ y (gs : List Int) c d, (addIf y gs c d).length ≤ gs.length + 1 := by
            intro y gs c d; unfold addIf; split
            · simp
            · omega
          rw [hfs₂]
          split
          · omega
          · split
            · exact Nat.le_trans (h1 _ _ _ _) (by omega)
            · exact Nat.le_trans (h1 _ _ _ _) (Nat.le_trans (Nat.add_le_add_right (h1 _ _ _ _) 1) (by omega))
        w_strict k_steps
        · rename x1 = _ => hx1
          rename y1 ∈ _ => hy1
          rename Fr _ _ _ _ => F9
          rename News _ _ _ _ => N9
          refine my_end (vs₂, fs₂, nn₂) F9 N9 (fun p hp => hp) (fun p hp z hz => ?_) (FrmOk.set rfl rfl (FrmOk.set rfl rfl frmOk0)) ⟨hvi₂, ?_⟩
          · rw [List.mem_singleton.mp hp]; exact hap₃ z hz
          · show fs₂ = _
            rw [← hnx]; exact (if_neg (fun h => h.2 hy1)).symm
        · rename x1 = _ => hx1
          rename ¬ y1 ∈ _ => hy1
          rename Fr _ _ _ _ => F9
          rename News _ _ _ _ => N9
          refine my_end (vs₂ ++ [Value.int y1 t2], fs₂ ++ [y1], nn₂ + 1) F9 N9 (fun p hp => hp) (fun p hp z hz => ?_) (FrmOk.set rfl rfl (FrmOk.set rfl rfl frmOk0)) ⟨ints_snoc hvi₂, ?_⟩
          · rw [List.mem_singleton.mp hp]; exact hap₃ z hz
          · show fs₂ ++ [y1] = _
            rw [← hnx]; exact (if_pos ⟨hx1, hy1⟩).symm
        · rename x1 ≠ _ => hx1
          rename Fr _ _ _ _ => F9
          rename News _ _ _ _ => N9
          refine my_end (vs₂, fs₂, nn₂) F9 N9 (fun p hp => hp) (fun p hp z hz => ?_) (FrmOk.set rfl rfl (FrmOk.set rfl rfl frmOk0)) ⟨hvi₂, ?_⟩
          · rw [List.mem_singleton.mp hp]; exact hap₃ z hz
          · show fs₂ = _
            rw [← hnx]; exact (if_neg (fun h => hx1 h.1)).symm
      · clear lF lN
        rintro ⟨vs₂, fs₂, nn₂⟩ u₃ h₃ tk₃ ⟨hvi₂, hfs₂⟩ hap₃ F' N'
        dsimp only at hvi₂ hfs₂
        dsimp only
        w_strict k_steps
        rename Fr _ _ _ _ => F9
        rename News _ _ _ _ => N9
        refine my_end (vs₂, fs₂, nn₂) F9 N9 (fun p hp => hp) hap₃ (FrmOk.sub (fun x hx => ?_) (fun _ h => nomatch h) (FrmOk.set rfl rfl frmOk0)) ⟨hvi₂, ?_⟩
        · simp only [List.contains_cons, List.contains_nil, Bool.or_false, Bool.or_eq_true] at hx ⊢
          exact .inr hx
        · show InOk es t x fs (k + 1) fs₂
          rw [hfs₂]; exact hin₁.step hxm hpk
    · clear lF lN
      rintro ⟨vs₁, fs₁, nn₁⟩ u₂ h₂ tk₂ ⟨hvi₁, hin₁⟩ hap₂ F' N'
      dsimp only at hvi₁ hin₁
      dsimp only
      w_strict k_steps
      rename Fr _ _ _ _ => F9
      rename News _ _ _ _ => N9
      rw [hEi.length] at hin₁
      refine my_end (vs₁, fs₁, nn₁) F9 N9 (fun p hp => hp) hap₂ (FrmOk.sub (fun x hx => ?_) (fun _ h => nomatch h) (FrmOk.set rfl rfl frmOk0)) ⟨hvi₁, ?_, hin₁.ok, hin₁.done hcl hx⟩
      · simp only [List.contains_cons, List.contains_nil, Bool.or_false, Bool.or_eq_true] at hx ⊢
        exact .inr hx
      · obtain ⟨ex, hex⟩ := hin₁.pre
        have := (List.getElem?_eq_some_iff.mp hx).1
        show i + 1 ≤ fs₁.length
        rw [hex, List.length_append]; omega
  · clear lF lN
    rintro vs fs nn u h tk hvi ⟨_, hok, hcl⟩ F' N'
    dsimp only
    w_strict k_steps
    exact hret _ _ _ _ ⟨_, vs, fs, nn, rfl, rfl, hvi, closed_conn hok hcl, hlt⟩ (by k_asm) (by k_asm)
theorem led_to_use {w : World} {mean : ExcName → Option Value} {mg mb : Str → Option Value} {dp un : Nat} {gd : Option (List Code)} {cn : Str} {cs : Scope} {ad : Addr} {ccd : Value} {cl : List (Str × Addr)} {outer : List Env} {A₀ : Around} {base h₀ : Heap} {L : Addr} {μ : Str → Option Value} {s : Shared} {Q E : Value → Shared → Prop} {news : LD} {el : Addr} {es : List (Int × Int)} {t : Int} {tt : Tok}
    (B : Below A₀ base outer h₀ := by k_asm) (F : Fr h₀ L s.heap μ := by k_asm) (X : (hd.heap_39 w.params).In h₀ := by k_asm) (N : News h₀ L s.heap news := by k_asm) (T : Top hd.view_39 (looseW hd.view_39 [Str.ofString "MOST_BITS"]) mean mg mb h₀ := by k_asm) (hk : cs.kind = .function := by first | exact rfl | assumption)
    (hE : PairsL news el es := by walk_at "PAIRS") (hel : es.length ≤ 20 := by assumption)
    (hdp : dp + 1 < recursionLimit := by ktr_room) (hun : un + 16 < cLine := by ktr_units)
    (ret : ∀ (fl : Addr) (vs : List Value) (fs : List Int) (n : Nat) (h' : Heap) (tk' : Nat), IntsAre vs fs → (∀ y, y ∈ fs ↔ Conn es t y) → (∀ p ∈ news, p.1 < fl) → Fr h₀ L h' μ → News h₀ L h' ((fl, W.listOf (List.toArray vs) n) :: news) → Q (.ref fl) { s with heap := h', toks := tk' }) :
    wpAny (model PySem.Challenge.rw_qz0019_01.row.prog w) (ktrTop dp un gd cn cs L ad ccd cl outer) (call (.ref 706) [.ref el, .int t tt]) Q E s :=
  Does.use (led_to_c hE hel) B F X N T hk hdp hun (ret := fun v n h tk p F1 N1 => by obtain ⟨fl, vs, fs, n, rfl, rfl, f1, f2, f3⟩ := p; exact ret fl vs fs n h tk f1 f2 f3 F1 N1)

end
local macro_rules | `(tactic| walk_at "call ref") => `(tactic| (k_here; (with_reducible show wpAny _ _ (call (Value.ref 706) _) _ _ _); k_dflt refine' led_to_use (ret := ?_); intro fl9 vs9 fs9 n9 h9 tk9 hvi9 hfs9 hlt9 F9 N9; (try dsimp only); (try k_fold)))
section
theorem clashes_c {w : World} {mean : ExcName → Option Value} {mg mb : Str → Option Value} {news : LD} {el gl al : Addr} {es ps : List (Int × Int)} {gs : List (Int × Int × Int)}
    (hE : PairsL news el es) (hG : ThreesL news gl gs) (hA : PairsL news al ps) (hel : es.length ≤ 20) :
    Does w mean mg mb 3 32 713 [.ref el, .ref gl, .ref al] news (fun v news' => ∃ b, v = .bool b ∧ news' = news ∧ (b = true ↔ (∃ p ∈ ps, Conn es p.1 p.2) ∨ ∃ g ∈ gs, Conn es g.2.1 g.2.2)) := by
  unfold Does; k_fill
  w_on
  obtain ⟨vg, ng, hGm, hGi⟩ := hG
  obtain ⟨va, na, hAm, hAi⟩ := hA
  intro dp un gd cn nms gen cor mor a0 ccd cl outer A₀ base h₀ L m sH sG sD sT sO Q E B F X N T hk hdp hun hret
  w_strict (refine wpAny_call ?_; k_dflt cell_enter)
  w_strict k_steps
  (rename Fr _ _ _ _ => lF); (rename News _ _ _ _ => lN)
  refine my_list (Led := fun _ : Unit => []) (ps := fun _ => []) (stored := [Str.ofString "a", Str.ofString "b"])
    (P := fun i _ => ∀ p ∈ ps.take i, ¬ Conn es p.1 p.2)
    news () hAm lF lN (fun p hp => hp) (fun p hp => nomatch hp) (fun _ h => nomatch h) (by simp) ?_ ?_
  · clear lF lN
    rintro i v _ rest' u h tk hv hsub - hP F' N'
    obtain ⟨q, x, y, tx, ty, nq, hpi, rfl, hqm⟩ := hAi.get hv
    replace N' : News _ _ _ rest' := N'
    replace hqm := hsub _ hqm
    replace hE := hE.mono hsub
    w_strict k_steps
    · rename (∀ y, y ∈ _ ↔ _) => hfs
      rename _ ∈ _ => hin
      refine hret _ _ _ _ ⟨true, rfl, rfl, ?_⟩ (by k_asm) (kst_newsOf (by k_asm) (fun p hp => .tail _ (hsub p hp)))
      exact ⟨fun _ => .inl ⟨_, List.mem_of_getElem? hpi, (hfs _).mp hin⟩, fun _ => rfl⟩
    · rename (∀ y, y ∈ _ ↔ _) => hfs
      rename ¬ _ ∈ _ => hin
      rename Fr _ _ _ _ => F9
      rename News _ _ _ _ => N9
      refine my_end () F9 N9 (fun p hp => .tail _ hp) (fun p hp => nomatch hp) (FrmOk.set rfl rfl (FrmOk.set rfl rfl frmOk0)) (fun p hp => ?_)
      rw [List.take_add_one, hpi] at hp
      rcases List.mem_append.mp hp with hp | hp
      · exact hP p hp
      · rw [show p = (x, y) from by simpa using hp]
        exact fun h => hin ((hfs _).mpr h)
  · clear lF lN
    rintro _ u h tk hP - F' N'
    dsimp only
    replace N' : News _ _ _ news := N'
    w_strict k_steps
    (rename Fr _ _ _ _ => lF); (rename News _ _ _ _ => lN)
    have hpa : ∀ p ∈ ps, ¬ Conn es p.1 p.2 := by
      rw [List.take_of_length_le (Nat.le_of_eq hAi.length.symm)] at hP; exact hP
    refine my_list (Led := fun _ : Unit => []) (ps := fun _ => []) (stored := [Str.ofString "group"])
      (P := fun i _ => ∀ g ∈ gs.take i, ¬ Conn es g.2.1 g.2.2)
      news () hGm lF lN (fun p hp => hp) (fun p hp => nomatch hp) (fun _ h => nomatch h) (by simp) ?_ ?_
    · clear lF lN
      rintro i v _ rest' u h tk hv hsub - hP F' N'
      obtain ⟨q, x, y, z, tx, ty, tz, nq, hpi, rfl, hqm⟩ := hGi.get hv
      replace N' : News _ _ _ rest' := N'
      replace hqm := hsub _ hqm
      replace hE := hE.mono hsub
      refine wpAny_assign_Name ?_
      w_strict k_steps
      · rename (∀ y, y ∈ _ ↔ _) => hfs
        rename _ ∈ _ => hin
        refine hret _ _ _ _ ⟨true, rfl, rfl, ?_⟩ (by k_asm) (kst_newsOf (by k_asm) (fun p hp => .tail _ (hsub p hp)))
        exact ⟨fun _ => .inr ⟨_, List.mem_of_getElem? hpi, (hfs _).mp hin⟩, fun _ => rfl⟩
      · rename (∀ y, y ∈ _ ↔ _) => hfs
        rename ¬ _ ∈ _ => hin
        rename Fr _ _ _ _ => F9
        rename News _ _ _ _ => N9
        refine my_end () F9 N9 (fun p hp => .tail _ hp) (fun p hp => nomatch hp) (FrmOk.set rfl rfl frmOk0) (fun p hp => ?_)
        rw [List.take_add_one, hpi] at hp
        rcases List.mem_append.mp hp with hp | hp
        · exact hP p hp
        · rw [show p = (x, y, z) from by simpa using hp]
          exact fun h => hin ((hfs _).mpr h)
    · clear lF lN
      rintro _ u h tk hP - F' N'
      dsimp only
      w_strict k_steps
      refine hret _ _ _ _ ⟨false, rfl, rfl, ?_⟩ (by k_asm) (by k_asm)
      rw [List.take_of_length_le (Nat.le_of_eq hGi.length.symm)] at hP
      constructor
      · intro h; cases h
      · rintro (⟨p, hp, h⟩ | ⟨g, hg, h⟩)
        · exact absurd h (hpa p hp)
        · exact absurd h (hP g hg)
theorem clashes_use {w : World} {mean : ExcName → Option Value} {mg mb : Str → Option Value} {dp un : Nat} {gd : Option (List Code)} {cn : Str} {cs : Scope} {ad : Addr} {ccd : Value} {cl : List (Str × Addr)} {outer : List Env} {A₀ : Around} {base h₀ : Heap} {L : Addr} {μ : Str → Option Value} {s : Shared} {Q E : Value → Shared → Prop} {news : LD} {el gl al : Addr} {es ps : List (Int × Int)} {gs : List (Int × Int × Int)}
    (B : Below A₀ base outer h₀ := by k_asm) (F : Fr h₀ L s.heap μ := by k_asm) (X : (hd.heap_39 w.params).In h₀ := by k_asm) (N : News h₀ L s.heap news := by k_asm) (T : Top hd.view_39 (looseW hd.view_39 [Str.ofString "MOST_BITS"]) mean mg mb h₀ := by k_asm) (hk : cs.kind = .function := by first | exact rfl | assumption)
    (hE : PairsL news el es := by walk_at "PAIRS") (hG : ThreesL news gl gs := by walk_at "THREES") (hA : PairsL news al ps := by walk_at "PAIRS") (hel : es.length ≤ 20 := by assumption)
    (hdp : dp + 3 < recursionLimit := by ktr_room) (hun : un + 32 < cLine := by ktr_units)
    (ret : ∀ (b : Bool) (h' : Heap) (tk' : Nat), (b = true ↔ (∃ p ∈ ps, Conn es p.1 p.2) ∨ ∃ g ∈ gs, Conn es g.2.1 g.2.2) → Fr h₀ L h' μ → News h₀ L h' (news) → Q (.bool b) { s with heap := h', toks := tk' }) :
    wpAny (model PySem.Challenge.rw_qz0019_01.row.prog w) (ktrTop dp un gd cn cs L ad ccd cl outer) (call (.ref 713) [.ref el, .ref gl, .ref al]) Q E s :=
  Does.use (clashes_c hE hG hA hel) B F X N T hk hdp hun (ret := fun v n h tk p F1 N1 => by obtain ⟨b, rfl, rfl, f1⟩ := p; exact ret b h tk f1 F1 N1)

end
local macro_rules | `(tactic| walk_at "call ref") => `(tactic| (k_here; (with_reducible show wpAny _ _ (call (Value.ref 713) _) _ _ _); k_dflt refine' clashes_use (ret := ?_); intro b9 h9 tk9 hb9 F9 N9; (try dsimp only); (try k_fold)))
section
local macro_rules | `(tactic| k_mem) => `(tactic| first | assumption | exact List.Mem.head _ | exact mem_lift (by assumption) (by walk_at "SUB"))
theorem clash_iff {c : List (Int × Int)} {ns : List Int} {es ps : List (Int × Int)} {gs : List (Int × Int × Int)} (hlk : ∀ p ∈ ps, (kdfLook c p.1 0 = kdfLook c p.2 0 ↔ Conn es p.1 p.2))
    (hq : (decide (kdfLook c 1 0 = kdfLook c 2 0) || valScan c ns []) = true ↔ ∃ g ∈ gs, Conn es g.2.1 g.2.2) :
    clashOf c ns ps = true ↔ (∃ p ∈ ps, Conn es p.1 p.2) ∨ ∃ g ∈ gs, Conn es g.2.1 g.2.2 := by
  unfold clashOf
  rw [Bool.or_assoc, Bool.or_eq_true, hq, List.any_eq_true]
  constructor
  · rintro (⟨p, hp, h⟩ | h)
    · exact .inl ⟨p, hp, (hlk p hp).mp (of_decide_eq_true h)⟩
    · exact .inr h
  · rintro (⟨p, hp, h⟩ | h)
    · exact .inl ⟨p, hp, decide_eq_true ((hlk p hp).mpr h)⟩
    · exact .inr h
theorem clash_swap {c : List (Int × Int)} {ns : List Int} {ps : List (Int × Int)} : clashOf c ns (ps.map swap2) = clashOf c ns ps := by
  unfold clashOf
  rw [List.any_map]
  have e : ((fun p : Int × Int => decide (kdfLook c p.1 0 = kdfLook c p.2 0)) ∘ swap2) = fun p => decide (kdfLook c p.1 0 = kdfLook c p.2 0) := by
    funext p
    show decide (kdfLook c p.2 0 = kdfLook c p.1 0) = decide (kdfLook c p.1 0 = kdfLook c p.2 0)
    exact decide_eq_decide.mpr ⟨Eq.symm, Eq.symm⟩
  rw [e]
theorem is_right_c {w : World} {mean : ExcName → Option Value} {mg mb : Str → Option Value} {news : LD} {clo bank tl ld lo el gl al : Addr} {c : List (Int × Int)} {ns : List Int} {es ps : List (Int × Int)} {gs : List (Int × Int × Int)} {ops : List Value} {no : Nat}
    (hC : CloIn news clo bank tl ld) (hT : IntL news tl ns) (hB : BankIn news bank lo) (hO : (lo, W.listOf (List.toArray ops) no) ∈ news) (hok : OpsOk ops) (hL : IntD w news ld c) (hE : PairsL news el es) (hG : ThreesL news gl gs) (hA : PairsL news al ps)
    (hns : ∀ t ∈ ns, 1 ≤ t ∧ t ≤ 12 ∧ kdfHas c t = true) (hps : ∀ p ∈ ps, kdfHas c p.1 = true ∧ kdfHas c p.2 = true) (h1 : kdfHas c 1 = true) (h2 : kdfHas c 2 = true) (hnl : ns.length ≤ 100) (hel : es.length ≤ 20) (hcl : c.length ≤ 1000) (hpl : ps.length ≤ 100) (hnd : (c.map (·.1)).Nodup)
    (hlk : ∀ p ∈ ps, (kdfLook c p.1 0 = kdfLook c p.2 0 ↔ Conn es p.1 p.2)) (hq : (decide (kdfLook c 1 0 = kdfLook c 2 0) || valScan c ns []) = true ↔ ∃ g ∈ gs, Conn es g.2.1 g.2.2) :
    Does w mean mg mb 8 80 718 [.ref clo, .ref el, .ref gl, .ref al] news (fun v news' => v = .bool true ∧ news' = news) := by
  unfold Does; k_fill
  w_on
  have hC0 := hC
  have hL0 := hL
  have hA0 := hA
  obtain ⟨dclo, j1, j2, j3, i1, i2, i3, n, hC, hD⟩ := hC
  obtain ⟨va, na, hAm, hAi⟩ := hA
  obtain ⟨hlo, o, kvs, hLm, hd, hf⟩ := hL0
  have hvl : va.length ≤ 100000 := by rw [hAi.length]; omega
  have hps' : ∀ p ∈ ps.map swap2, kdfHas c p.1 = true ∧ kdfHas c p.2 = true := by
    intro p hp
    obtain ⟨q, hq, rfl⟩ := List.mem_map.mp hp
    exact ⟨(hps q hq).2, (hps q hq).1⟩
  intro dp un gd cn nms gen cor mor a0 ccd cl outer A₀ base h₀ L m sH sG sD sT sO Q E B F X N T hk hdp hun hret
  w_strict (refine wpAny_call ?_; k_dflt cell_enter)
  w_strict k_steps
  · rename (_ ↔ _) => hb9
    rename (_ != _) = _ => hne
    exfalso
    have e : (clashOf c ns ps = true) ↔ _ := clash_iff hlk hq
    rw [← hb9] at e
    rw [Bool.eq_iff_iff.mpr e] at hne
    simp at hne
  · rename (_ ↔ _) => hb9
    rename (_ != _) = _ => hne
    exfalso
    have e : (clashOf c ns [] = true) ↔ _ := clash_iff (fun p hp => nomatch hp) hq
    rw [← hb9] at e
    rw [Bool.eq_iff_iff.mpr e] at hne
    simp at hne
  · rename (_ != _) = _ => hne
    exfalso
    rw [clash_swap] at hne
    simp at hne
  · exact hret _ _ _ _ ⟨rfl, rfl⟩ (by k_asm) (kst_newsOf (by k_asm) (by walk_at "SUB"))

end
section
theorem look_map_ne {k v j : Int} (hj : ¬ j = k) : ∀ c : List (Int × Int), kdfLook (c.map fun p => if decide (p.1 = k) then (p.1, v) else p) j 0 = kdfLook c j 0
  | [] => rfl
  | p :: c => by
    have ih := look_map_ne (v := v) hj c
    unfold kdfLook at ih ⊢
    rw [List.map_cons, List.find?_cons, List.find?_cons]
    by_cases hp : p.1 = k
    · have hpj : ¬ p.1 = j := fun e => hj (e.symm.trans hp)
      simp only [hp, decide_true, if_true]
      rw [decide_eq_false (by rw [← hp]; exact hpj)]
      simp only [← hp]
      rw [hp]; exact ih
    · simp only [hp, decide_false, Bool.false_eq_true, if_false]
      by_cases hpj : p.1 = j
      · simp [hpj]
      · simp only [hpj, decide_false]; exact ih
theorem look_map_eq {k v : Int} : ∀ c : List (Int × Int), kdfHas c k = true → kdfLook (c.map fun p => if decide (p.1 = k) then (p.1, v) else p) k 0 = v
  | [], h => by cases h
  | p :: c, h => by
    by_cases hp : p.1 = k
    · simp [kdfLook, hp]
    · have h' : kdfHas c k = true := by simpa [kdfHas, hp] using h
      have ih := look_map_eq (v := v) c h'
      unfold kdfLook at ih ⊢
      rw [List.map_cons, List.find?_cons]
      simp only [hp, decide_false, Bool.false_eq_true, if_false]
      exact ih
theorem look_put {c : List (Int × Int)} {k v : Int} (h : kdfHas c k = true) (j : Int) : kdfLook (kdfPut c k v) j 0 = if j = k then v else kdfLook c j 0 := by
  unfold kdfPut
  rw [if_pos (show (c.any fun p => decide (p.1 = k)) = true from h)]
  by_cases e : j = k
  · subst e; rw [if_pos rfl]; exact look_map_eq c h
  · rw [if_neg e]; exact look_map_ne e c
theorem keys_put {c : List (Int × Int)} {k v : Int} (h : kdfHas c k = true) : (kdfPut c k v).map (·.1) = c.map (·.1) := by
  unfold kdfPut
  rw [if_pos (show (c.any fun p => decide (p.1 = k)) = true from h), List.map_map]
  refine List.map_congr_left fun p _ => ?_
  show (if decide (p.1 = k) = true then (p.1, v) else p).1 = p.1
  split <;> rfl
theorem look_step {low high : Int} {c : List (Int × Int)} {t : Int} (h : kdfHas c t = true) (j : Int) : kdfLook (joinStep low high c t) j 0 = if j = t ∧ kdfLook c t 0 = high then low else kdfLook c j 0 := by
  unfold joinStep
  by_cases e : kdfLook c t 0 = high
  · rw [if_pos e, look_put h]
    by_cases ej : j = t
    · rw [if_pos ej, if_pos ⟨ej, e⟩]
    · rw [if_neg ej, if_neg fun q => ej q.1]
  · rw [if_neg e, if_neg fun q => e q.2]
theorem keys_step {low high : Int} {c : List (Int × Int)} {t : Int} (h : kdfHas c t = true) : (joinStep low high c t).map (·.1) = c.map (·.1) := by
  unfold joinStep
  split
  · exact keys_put h
  · rfl
theorem fold_look {low high : Int} (hne : ¬ low = high) : ∀ (ns : List Int) (c : List (Int × Int)), (∀ t ∈ ns, kdfHas c t = true) → ∀ j, kdfLook (ns.foldl (joinStep low high) c) j 0 = if j ∈ ns ∧ kdfLook c j 0 = high then low else kdfLook c j 0
  | [], c, _, j => by simp
  | t :: r, c, h, j => by
    have ht := h t (.head _)
    rw [List.foldl_cons, fold_look hne r _ (fun u hu => by rw [step_has ht]; exact h u (.tail _ hu)) j, look_step ht]
    by_cases e : j = t ∧ kdfLook c t 0 = high
    · have hx : (if j = t ∧ kdfLook c t 0 = high then low else kdfLook c j 0) = low := if_pos e
      rw [hx]
      obtain ⟨e1, e2⟩ := e
      rw [if_neg fun q => hne q.2, if_pos (⟨e1 ▸ .head _, e1 ▸ e2⟩ : j ∈ t :: r ∧ kdfLook c j 0 = high)]
    · have hx : (if j = t ∧ kdfLook c t 0 = high then low else kdfLook c j 0) = kdfLook c j 0 := if_neg e
      rw [hx]
      by_cases e2 : j ∈ r ∧ kdfLook c j 0 = high
      · rw [if_pos e2, if_pos ⟨.tail _ e2.1, e2.2⟩]
      · rw [if_neg e2, if_neg]
        rintro ⟨hm, hl⟩
        rcases List.mem_cons.mp hm with h1 | h1
        · exact e ⟨h1, h1 ▸ hl⟩
        · exact e2 ⟨h1, hl⟩
theorem fold_keys {low high : Int} : ∀ (ns : List Int) (c : List (Int × Int)), (∀ t ∈ ns, kdfHas c t = true) → (ns.foldl (joinStep low high) c).map (·.1) = c.map (·.1)
  | [], c, _ => rfl
  | t :: r, c, h => by
    have ht := h t (.head _)
    rw [List.foldl_cons, fold_keys r _ (fun u hu => by rw [step_has ht]; exact h u (.tail _ hu)), keys_step ht]
theorem has_keys {c : List (Int × Int)} {k : Int} : kdfHas c k = true ↔ k ∈ c.map (·.1) := by
  unfold kdfHas
  rw [List.any_eq_true, List.mem_map]
  constructor
  · rintro ⟨p, hp, e⟩; exact ⟨p, hp, of_decide_eq_true e⟩
  · rintro ⟨p, hp, e⟩; exact ⟨p, hp, decide_eq_true e⟩

theorem Conn.trans {es : List (Int × Int)} {a b c : Int} (h : Conn es a b) (k : Conn es b c) : Conn es a c := by
  induction k with
  | refl => exact h
  | fwd _ hm ih => exact .fwd ih hm
  | bwd _ hm ih => exact .bwd ih hm
theorem Conn.symm {es : List (Int × Int)} {a b : Int} (h : Conn es a b) : Conn es b a := by
  induction h with
  | refl => exact .refl _
  | fwd _ hm ih => exact (Conn.bwd (.refl _) hm).trans ih
  | bwd _ hm ih => exact (Conn.fwd (.refl _) hm).trans ih
theorem Conn.map {es fs : List (Int × Int)} {a b : Int} (h : Conn es a b) (hs : ∀ p ∈ es, p ∈ fs ∨ swap2 p ∈ fs) : Conn fs a b := by
  induction h with
  | refl => exact .refl _
  | fwd _ hm ih => rcases hs _ hm with h | h; exact .fwd ih h; exact .bwd ih h
  | bwd _ hm ih => rcases hs _ hm with h | h; exact .bwd ih h; exact .fwd ih h
theorem conn_rev {es : List (Int × Int)} {a b : Int} : Conn (es.reverse.map swap2) a b ↔ Conn es a b := by
  constructor
  · refine fun h => h.map fun p hp => .inr ?_
    obtain ⟨q, hq, rfl⟩ := List.mem_map.mp hp
    exact List.mem_reverse.mp hq
  · exact fun h => h.map fun p hp => .inr (List.mem_map.mpr ⟨p, List.mem_reverse.mpr hp, rfl⟩)
theorem conn_snoc {es : List (Int × Int)} {a b x y : Int} : Conn (es ++ [(a, b)]) x y ↔ Conn es x y ∨ (Conn es x a ∧ Conn es b y) ∨ (Conn es x b ∧ Conn es a y) := by
  have up : ∀ {u v}, Conn es u v → Conn (es ++ [(a, b)]) u v := fun h => h.map fun p hp => .inl (List.mem_append.mpr (.inl hp))
  have hm : (a, b) ∈ es ++ [(a, b)] := List.mem_append.mpr (.inr (.head _))
  constructor
  · intro h
    induction h with
    | refl => exact .inl (.refl _)
    | @fwd u v _ hm ih =>
      rcases List.mem_append.mp hm with hm | hm
      · rcases ih with h | ⟨h, k⟩ | ⟨h, k⟩
        · exact .inl (.fwd h hm)
        · exact .inr (.inl ⟨h, .fwd k hm⟩)
        · exact .inr (.inr ⟨h, .fwd k hm⟩)
      · cases List.mem_singleton.mp hm
        rcases ih with h | ⟨h, k⟩ | ⟨h, k⟩
        · exact .inr (.inl ⟨h, .refl _⟩)
        · exact .inr (.inl ⟨h, .refl _⟩)
        · exact .inl h
    | @bwd u v _ hm ih =>
      rcases List.mem_append.mp hm with hm | hm
      · rcases ih with h | ⟨h, k⟩ | ⟨h, k⟩
        · exact .inl (.bwd h hm)
        · exact .inr (.inl ⟨h, .bwd k hm⟩)
        · exact .inr (.inr ⟨h, .bwd k hm⟩)
      · cases List.mem_singleton.mp hm
        rcases ih with h | ⟨h, k⟩ | ⟨h, k⟩
        · exact .inr (.inr ⟨h, .refl _⟩)
        · exact .inl h
        · exact .inr (.inr ⟨h, .refl _⟩)
  · rintro (h | ⟨h, k⟩ | ⟨h, k⟩)
    · exact up h
    · exact (Conn.fwd (up h) hm).trans (up k)
    · exact (Conn.bwd (up h) hm).trans (up k)
/-- the group of a term -/
noncomputable def grp (t : Int) : Int := if t ≤ 2 then 3 else if t ≤ 5 then 0 else if t ≤ 8 then 1 else if t ≤ 11 then 2 else 3
noncomputable def GS : List (Int × Int × Int) := [(3, 4, 5), (6, 7, 8), (9, 10, 11), (12, 1, 2)]
theorem conn_grp {es : List (Int × Int)} (he : ∀ p ∈ es, grp p.1 = grp p.2) {a b : Int} (h : Conn es a b) : grp a = grp b := by
  induction h with
  | refl => rfl
  | fwd _ hm ih => exact ih.trans (he _ hm)
  | bwd _ hm ih => exact ih.trans (he _ hm).symm
/-- the terms, in some order -/
structure Terms (ns : List Int) : Prop where
  nodup : ns.Nodup
  mem : ∀ t, t ∈ ns ↔ 1 ≤ t ∧ t ≤ 12
theorem Terms.len {ns : List Int} (h : Terms ns) : ns.length ≤ 100 := by
  have := nodup_len (m := [1, 2, 3, 4, 5, 6, 7, 8, 9, 10, 11, 12]) h.nodup fun x hx => by
    obtain ⟨h1, h2⟩ := (h.mem x).mp hx
    have : x = 1 ∨ x = 2 ∨ x = 3 ∨ x = 4 ∨ x = 5 ∨ x = 6 ∨ x = 7 ∨ x = 8 ∨ x = 9 ∨ x = 10 ∨ x = 11 ∨ x = 12 := by omega
    simpa using this
  exact Nat.le_trans this (by decide)
theorem Terms.rev {ns : List Int} (h : Terms ns) : Terms ns.reverse := ⟨List.pairwise_reverse.mpr (List.Pairwise.imp (fun h e => h e.symm) h.nodup), fun t => by rw [List.mem_reverse]; exact h.mem t⟩
structure CInv (ns : List Int) (c es : List (Int × Int)) : Prop where
  keys : c.map (·.1) = ns
  look : ∀ a ∈ ns, ∀ b ∈ ns, (kdfLook c a 0 = kdfLook c b 0 ↔ Conn es a b)
  grp : ∀ p ∈ es, grp p.1 = grp p.2
theorem CInv.has {ns : List Int} {c es : List (Int × Int)} (h : CInv ns c es) {t : Int} (ht : t ∈ ns) : kdfHas c t = true := by rw [has_keys, h.keys]; exact ht
theorem CInv.len {ns : List Int} {c es : List (Int × Int)} (h : CInv ns c es) : c.length = ns.length := by rw [← h.keys, List.length_map]
theorem idC_look {ns : List Int} {t : Int} (h : t ∈ ns) : kdfLook (idC ns) t 0 = t := by
  unfold kdfLook idC
  induction ns with
  | nil => cases h
  | cons u r ih =>
    rw [List.map_cons, List.find?_cons]
    by_cases e : u = t
    · simp [e]
    · simp only [e, decide_false]
      rcases List.mem_cons.mp h with rfl | h
      · exact absurd rfl e
      · exact ih h
theorem CInv.init (ns : List Int) : CInv ns (idC ns) [] := by
  refine ⟨?_, fun a ha b hb => ?_, (fun p hp => absurd hp List.not_mem_nil)⟩
  · unfold idC; rw [List.map_map]; exact List.map_id _
  · rw [idC_look ha, idC_look hb]
    constructor
    · rintro rfl; exact .refl _
    · intro h
      cases h with
      | refl => rfl
      | fwd _ hm => cases hm
      | bwd _ hm => cases hm
theorem CInv.join {ns : List Int} {c es : List (Int × Int)} (h : CInv ns c es) {a b : Int} (ha : a ∈ ns) (hb : b ∈ ns) (hg : Mine.grp a = Mine.grp b) : CInv ns (joinC c ns a b) (es ++ [(a, b)]) := by
  have hgrp : ∀ p ∈ es ++ [(a, b)], Mine.grp p.1 = Mine.grp p.2 := by
    intro p hp
    rcases List.mem_append.mp hp with hp | hp
    · exact h.grp p hp
    · rw [List.mem_singleton.mp hp]; exact hg
  by_cases e : kdfLook c a 0 = kdfLook c b 0
  · rw [show joinC c ns a b = c from if_pos e]
    refine ⟨h.keys, fun x hx y hy => ?_, hgrp⟩
    have hab := (h.look a ha b hb).mp e
    rw [h.look x hx y hy, conn_snoc]
    constructor
    · exact .inl
    · rintro (q | ⟨q, k⟩ | ⟨q, k⟩)
      · exact q
      · exact (q.trans hab).trans k
      · exact (q.trans hab.symm).trans k
  · have hns : ∀ t ∈ ns, kdfHas c t = true := fun t ht => h.has ht
    have hne : ¬ lo2 (kdfLook c a 0) (kdfLook c b 0) = hi2 (kdfLook c a 0) (kdfLook c b 0) := by unfold lo2 hi2; split <;> split <;> omega
    rw [show joinC c ns a b = _ from if_neg e]
    refine ⟨by rw [fold_keys ns c hns, h.keys], fun x hx y hy => ?_, hgrp⟩
    rw [fold_look hne ns c hns, fold_look hne ns c hns, conn_snoc, ← h.look x hx y hy, ← h.look x hx a ha, ← h.look b hb y hy, ← h.look x hx b hb, ← h.look a ha y hy]
    have hlh : (lo2 (kdfLook c a 0) (kdfLook c b 0) = kdfLook c a 0 ∧ hi2 (kdfLook c a 0) (kdfLook c b 0) = kdfLook c b 0) ∨ (lo2 (kdfLook c a 0) (kdfLook c b 0) = kdfLook c b 0 ∧ hi2 (kdfLook c a 0) (kdfLook c b 0) = kdfLook c a 0) := by
      unfold lo2 hi2
      split <;> split <;> omega
    generalize lo2 (kdfLook c a 0) (kdfLook c b 0) = l at *
    generalize hi2 (kdfLook c a 0) (kdfLook c b 0) = g at *
    generalize kdfLook c a 0 = A at *
    generalize kdfLook c b 0 = B at *
    generalize kdfLook c x 0 = X at *
    generalize kdfLook c y 0 = Y at *
    simp only [hx, hy, true_and]
    rcases hlh with ⟨rfl, rfl⟩ | ⟨rfl, rfl⟩ <;> split <;> split <;> omega
theorem valScan_iff {c : List (Int × Int)} : ∀ {ns seen : List Int}, ns.Nodup → (valScan c ns seen = true ↔ (∃ t ∈ ns, isVal t = true ∧ kdfLook c t 0 ∈ seen) ∨ ∃ t ∈ ns, ∃ u ∈ ns, t ≠ u ∧ isVal t = true ∧ isVal u = true ∧ kdfLook c t 0 = kdfLook c u 0)
  | [], seen, _ => by simp [valScan]
  | t :: r, seen, hn => by
    rw [List.nodup_cons] at hn
    unfold valScan
    by_cases hv : isVal t = true
    · rw [if_pos hv]
      by_cases hs : kdfLook c t 0 ∈ seen
      · rw [if_pos hs]
        exact ⟨fun _ => .inl ⟨t, .head _, hv, hs⟩, fun _ => rfl⟩
      · rw [if_neg hs, valScan_iff hn.2]
        constructor
        · rintro (⟨u, hu, huv, hus⟩ | ⟨u, hu, w, hw, q⟩)
          · rcases List.mem_cons.mp hus with hus | hus
            · exact .inr ⟨t, .head _, u, .tail _ hu, fun e => hn.1 (e ▸ hu), hv, huv, hus.symm⟩
            · exact .inl ⟨u, .tail _ hu, huv, hus⟩
          · exact .inr ⟨u, .tail _ hu, w, .tail _ hw, q⟩
        · rintro (⟨u, hu, huv, hus⟩ | ⟨u, hu, w, hw, q1, q2, q3, q4⟩)
          · rcases List.mem_cons.mp hu with e | hu'
            · exact absurd (e ▸ hus) hs
            · exact .inl ⟨u, hu', huv, .tail _ hus⟩
          · rcases List.mem_cons.mp hu with e | hu'
            · rcases List.mem_cons.mp hw with e2 | hw'
              · exact absurd (e.trans e2.symm) q1
              · exact .inl ⟨w, hw', q3, by rw [← q4, e]; exact .head _⟩
            · rcases List.mem_cons.mp hw with e2 | hw'
              · exact .inl ⟨u, hu', q2, by rw [q4, e2]; exact .head _⟩
              · exact .inr ⟨u, hu', w, hw', q1, q2, q3, q4⟩
    · rw [if_neg hv, valScan_iff hn.2]
      constructor
      · rintro (⟨u, hu, q⟩ | ⟨u, hu, w, hw, q⟩)
        · exact .inl ⟨u, .tail _ hu, q⟩
        · exact .inr ⟨u, .tail _ hu, w, .tail _ hw, q⟩
      · rintro (⟨u, hu, q⟩ | ⟨u, hu, w, hw, q1, q2, q3, q4⟩)
        · rcases List.mem_cons.mp hu with e | hu'
          · exact absurd (e ▸ q.1) hv
          · exact .inl ⟨u, hu', q⟩
        · rcases List.mem_cons.mp hu with e | hu'
          · exact absurd (e ▸ q2) hv
          · rcases List.mem_cons.mp hw with e2 | hw'
            · exact absurd (e2 ▸ q3) hv
            · exact .inr ⟨u, hu', w, hw', q1, q2, q3, q4⟩
theorem CInv.hq {ns : List Int} {c es : List (Int × Int)} (h : CInv ns c es) (ht : Terms ns) : (decide (kdfLook c 1 0 = kdfLook c 2 0) || valScan c ns []) = true ↔ ∃ g ∈ GS, Conn es g.2.1 g.2.2 := by
  have hm : ∀ t : Int, 1 ≤ t → t ≤ 12 → t ∈ ns := fun t h1 h2 => (ht.mem t).mpr ⟨h1, h2⟩
  rw [Bool.or_eq_true, decide_eq_true_eq, valScan_iff ht.nodup, h.look 1 (hm _ (by decide) (by decide)) 2 (hm _ (by decide) (by decide))]
  constructor
  · rintro (q | ⟨u, hu, _, q⟩ | ⟨u, hu, w, hw, q1, q2, q3, q4⟩)
    · exact ⟨(12, 1, 2), by decide, q⟩
    · cases q
    · have q5 := (h.look u hu w hw).mp q4
      have q6 := conn_grp h.grp q5
      have hs : ∀ {x y : Int}, u = x → w = y → Conn es x y := fun e1 e2 => by rw [← e1, ← e2]; exact q5
      unfold isVal at q2 q3
      simp only [Bool.or_eq_true, beq_iff_eq] at q2 q3
      unfold Mine.grp at q6
      have hc : (u = 4 ∧ w = 5) ∨ (u = 5 ∧ w = 4) ∨ (u = 7 ∧ w = 8) ∨ (u = 8 ∧ w = 7) ∨ (u = 10 ∧ w = 11) ∨ (u = 11 ∧ w = 10) := by
        rcases q2 with ((((q2 | q2) | q2) | q2) | q2) | q2 <;> rcases q3 with ((((q3 | q3) | q3) | q3) | q3) | q3 <;> subst q2 <;> subst q3 <;> first | (exact absurd rfl q1) | (exfalso; revert q6; decide) | simp
      rcases hc with ⟨e1, e2⟩ | ⟨e1, e2⟩ | ⟨e1, e2⟩ | ⟨e1, e2⟩ | ⟨e1, e2⟩ | ⟨e1, e2⟩
      · exact ⟨(3, 4, 5), by decide, hs e1 e2⟩
      · exact ⟨(3, 4, 5), by decide, (hs e1 e2).symm⟩
      · exact ⟨(6, 7, 8), by decide, hs e1 e2⟩
      · exact ⟨(6, 7, 8), by decide, (hs e1 e2).symm⟩
      · exact ⟨(9, 10, 11), by decide, hs e1 e2⟩
      · exact ⟨(9, 10, 11), by decide, (hs e1 e2).symm⟩
  · rintro ⟨g, hg, q⟩
    have vals : ∀ x y : Int, 1 ≤ x → x ≤ 12 → 1 ≤ y → y ≤ 12 → x ≠ y → isVal x = true → isVal y = true → Conn es x y → ∃ t ∈ ns, ∃ u ∈ ns, t ≠ u ∧ isVal t = true ∧ isVal u = true ∧ kdfLook c t 0 = kdfLook c u 0 :=
      fun x y h1 h2 h3 h4 h5 h6 h7 h8 => ⟨x, hm x h1 h2, y, hm y h3 h4, h5, h6, h7, (h.look x (hm x h1 h2) y (hm y h3 h4)).mpr h8⟩
    simp only [GS, List.mem_cons, List.not_mem_nil, or_false] at hg
    rcases hg with rfl | rfl | rfl | rfl
    · exact .inr (.inr (vals 4 5 (by decide) (by decide) (by decide) (by decide) (by decide) (by decide) (by decide) q))
    · exact .inr (.inr (vals 7 8 (by decide) (by decide) (by decide) (by decide) (by decide) (by decide) (by decide) q))
    · exact .inr (.inr (vals 10 11 (by decide) (by decide) (by decide) (by decide) (by decide) (by decide) (by decide) q))
    · exact .inl q
theorem CInv.clash {ns : List Int} {c es ps : List (Int × Int)} (h : CInv ns c es) (ht : Terms ns) (hps : ∀ p ∈ ps, p.1 ∈ ns ∧ p.2 ∈ ns) : clashOf c ns ps = true ↔ (∃ p ∈ ps, Conn es p.1 p.2) ∨ ∃ g ∈ GS, Conn es g.2.1 g.2.2 :=
  clash_iff (fun p hp => h.look _ (hps p hp).1 _ (hps p hp).2) (h.hq ht)
theorem clash_same {ns ns' : List Int} {c es c' ps : List (Int × Int)} (h : CInv ns c es) (ht : Terms ns) (h' : CInv ns' c' (es.reverse.map swap2)) (ht' : Terms ns') (hps : ∀ p ∈ ps, p.1 ∈ ns ∧ p.2 ∈ ns) : clashOf c' ns' ps = clashOf c ns ps := by
  have hps' : ∀ p ∈ ps, p.1 ∈ ns' ∧ p.2 ∈ ns' := fun p hp => by
    rw [ht'.mem, ht'.mem, ← ht.mem, ← ht.mem]; exact hps p hp
  rw [Bool.eq_iff_iff, h.clash ht hps, h'.clash ht' hps']
  simp only [conn_rev]
theorem clash_mono {ns : List Int} {c es c' es' : List (Int × Int)} (h : CInv ns c es) (ht : Terms ns) (h' : CInv ns c' es') (hs : ∀ p ∈ es, p ∈ es') (hc : clashOf c ns [] = true) : clashOf c' ns [] = true := by
  rw [h.clash ht (fun p hp => absurd hp List.not_mem_nil)] at hc
  rw [h'.clash ht (fun p hp => absurd hp List.not_mem_nil)]
  rcases hc with ⟨p, hp, _⟩ | ⟨g, hg, k⟩
  · cases hp
  · exact .inr ⟨g, hg, k.map fun p hp => .inl (hs p hp)⟩

end
section
/-- the ledger behind the bank's and the groups' making, the sack and the list of terms ahead -/
theorem law_split {n9 : LD} {lo ds tl T cl d2 : Addr} {oo so ot otl oc od : Obj} {add1 add2 : LD}
    (h1 : ∀ q ∈ add1, ∀ p ∈ [(cl, oc), (d2, od), (ds, so)], p.1 < q.1)
    (h2 : ∀ q ∈ add2, ∀ p ∈ (T, ot) :: (tl, otl) :: (add1 ++ [(cl, oc), (d2, od), (ds, so)]), p.1 < q.1)
    (hn : ∀ p ∈ (lo, oo) :: (add2 ++ (T, ot) :: (tl, otl) :: (add1 ++ [(cl, oc), (d2, od), (ds, so)])), p ∈ n9) (hlo : ∀ p ∈ add2 ++ (T, ot) :: (tl, otl) :: (add1 ++ [(cl, oc), (d2, od), (ds, so)]), p.1 ≠ lo)
    (ht : ∀ p ∈ add1 ++ [(cl, oc), (d2, od), (ds, so)], p.1 < tl) (hc : ds ≠ cl) :
    ∃ R, (∀ p ∈ (ds, so) :: (tl, otl) :: R, p ∈ n9) ∧ (∀ p ∈ R, p.1 ≠ ds) ∧ (∀ p ∈ R, p.1 ≠ tl) ∧ ds ≠ tl ∧ (∀ p ∈ add1, p ∈ R) ∧ (∀ p ∈ add2, p ∈ R) ∧ (lo, oo) ∈ R ∧ (cl, oc) ∈ R := by
  have hds : ds < tl := ht (ds, so) (List.mem_append.mpr (.inr (by simp)))
  refine ⟨(lo, oo) :: (cl, oc) :: (add2 ++ add1), ?_, ?_, ?_, Nat.ne_of_lt hds, ?_, ?_, .head _, .tail _ (.head _)⟩
  · intro p hp
    refine hn p ?_
    simp only [List.mem_cons, List.mem_append, List.not_mem_nil, or_false] at hp ⊢
    rcases hp with h | h | h | h | h | h <;> simp [h]
  · have hdm : (ds, so) ∈ add2 ++ (T, ot) :: (tl, otl) :: (add1 ++ [(cl, oc), (d2, od), (ds, so)]) := by simp
    refine List.forall_mem_cons.mpr ⟨fun e => hlo _ hdm e.symm, List.forall_mem_cons.mpr ⟨Ne.symm hc, fun p hp => ?_⟩⟩
    rcases List.mem_append.mp hp with hp | hp
    · exact (Nat.ne_of_lt (h2 p hp (ds, so) (by simp))).symm
    · exact (Nat.ne_of_lt (h1 p hp (ds, so) (by simp))).symm
  · have hdm : (tl, otl) ∈ add2 ++ (T, ot) :: (tl, otl) :: (add1 ++ [(cl, oc), (d2, od), (ds, so)]) := by simp
    refine List.forall_mem_cons.mpr ⟨fun e => hlo _ hdm e.symm, List.forall_mem_cons.mpr ⟨Nat.ne_of_lt (ht (cl, oc) (by simp)), fun p hp => ?_⟩⟩
    rcases List.mem_append.mp hp with hp | hp
    · exact (Nat.ne_of_lt (h2 p hp (tl, otl) (by simp))).symm
    · exact Nat.ne_of_lt (ht p (List.mem_append.mpr (.inl hp)))
  · intro p hp; exact .tail _ (.tail _ (List.mem_append.mpr (.inr hp)))
  · intro p hp; exact .tail _ (.tail _ (List.mem_append.mpr (.inl hp)))
theorem groups_at {news : LD} {vs : List Value} (h : ThreesAre news vs [(3, 4, 5), (6, 7, 8), (9, 10, 11), (12, 1, 2)]) :
    ∃ (a1 a2 a3 a4 : Addr) (n1 n2 n3 n4 : Nat) (k1 k2 k3 k4 k5 k6 k7 k8 k9 k10 k11 k12 : Tok), vs = [.ref a1, .ref a2, .ref a3, .ref a4] ∧
      (a1, W.listOf (List.toArray [.int 3 k1, .int 4 k2, .int 5 k3]) n1) ∈ news ∧ (a2, W.listOf (List.toArray [.int 6 k4, .int 7 k5, .int 8 k6]) n2) ∈ news ∧ (a3, W.listOf (List.toArray [.int 9 k7, .int 10 k8, .int 11 k9]) n3) ∈ news ∧ (a4, W.listOf (List.toArray [.int 12 k10, .int 1 k11, .int 2 k12]) n4) ∈ news := by
  cases h with
  | cons h1 h => cases h with
    | cons h2 h => cases h with
      | cons h3 h => cases h with
        | cons h4 h => cases h with
          | nil => exact ⟨_, _, _, _, _, _, _, _, _, _, _, _, _, _, _, _, _, _, _, _, rfl, h1, h2, h3, h4⟩
section
variable {prog : Program} {w : World} {A : Around} {E : Value → Shared → Prop} {s : Shared} {h₀ : Heap} {L l : Addr} {m : Str → Option Value} {news news' : LD} {vs : List Value} {n : Nat} {x : Int} {u : Tok} {y : Value}
noncomputable def insAt {α : Type} (l : List α) (k : Nat) (y : α) : List α := l.take k ++ y :: l.drop k
theorem my_insert {Q : Value → Shared → Prop} (F : Fr h₀ L s.heap m := by k_asm) (N : News h₀ L s.heap news := by k_asm) (h0 : 0 ≤ x := by omega) (h1 : x ≤ vs.length := by omega) (U : Upd l (W.listOf (List.toArray vs) n) (W.listOf (List.toArray (insAt vs x.toNat y)) (n + 1)) news news' := by k_upd) (hz : vs.length ≤ 1000 := by omega)
    (h : ∀ h', Fr h₀ L h' m → News h₀ L h' news' → Q .none { s with heap := h' }) : wpAny (model prog w) A (call (.builtin "list.insert") [.ref l, .int x u, y]) Q E s := by
  refine kl_insert (l := insAt vs x.toNat y) F N ?_ ?_ U (by rw [sizeLine_eq]; show vs.length ≤ _; omega) h
  · unfold Builtin.List.listFitsIndex
    simp only [Bool.and_eq_true, decide_eq_true_eq]
    omega
  · show kl_ins vs x y = insAt vs x.toNat y
    unfold kl_ins insAt
    rw [if_neg (by omega), Nat.min_eq_left (by omega)]
end
theorem ints_ins {t : Int} {tk : Tok} : ∀ {vs : List Value} {ns : List Int}, IntsAre vs ns → ∀ k, IntsAre (insAt vs k (.int t tk)) (insAt ns k t)
  | vs, ns, h, 0 => by simpa [insAt] using IntsAre.cons t tk h
  | _, _, .nil, k + 1 => by simpa [insAt] using IntsAre.cons t tk .nil
  | _, _, .cons a ta h, k + 1 => by simpa [insAt] using IntsAre.cons a ta (ints_ins h k)
theorem perm_ins {t : Int} {ns : List Int} (k : Nat) : (insAt ns k t).Perm (ns ++ [t]) := by
  unfold insAt
  refine (List.perm_middle).trans ?_
  rw [List.take_append_drop]
  exact (List.perm_append_comm (l₁ := [t]) (l₂ := ns))
noncomputable def ALL : List Int := [3, 4, 5, 6, 7, 8, 9, 10, 11, 12, 1, 2]
theorem all_terms {ns : List Int} (h : ns.Perm ALL) : Terms ns := by
  refine ⟨h.nodup_iff.mpr (by decide), fun t => ?_⟩
  rw [h.mem_iff]
  simp only [ALL, List.mem_cons, List.not_mem_nil, or_false]
  omega
theorem sack_of {w : World} {o : Obj} {lc : Addr} {t1 t2 t3 : Tok} {k : Int} (h : o.IsDictOf (PySem.strKind PySem.Challenge.rw_qz0019_01.row.prog w) (strPairs [(.str (Str.ofString "cells") t1, .ref lc), (.str (Str.ofString "at") t2, .int k t3)])) : SackIs w o lc k := ⟨t3, h⟩
theorem name2 {a b : Addr} (h : a ≠ b) : ∃ x y, x = a ∧ y = b ∧ x ≠ y := ⟨a, b, rfl, rfl, h⟩
/-- the ledger behind PlainClosing's making: the objects that change ahead, the others behind -/
theorem law_split3 {n9 : LD} {dt al el ld dl ds tl dd : Addr} {od oa oe co ol so ot o12 : Obj} {add R : LD}
    (hm : ∀ p ∈ (dt, od) :: (al, oa) :: (el, oe) :: (ld, co) :: (add ++ (dl, ol) :: (ds, so) :: (tl, ot) :: (dd, o12) :: R), p ∈ n9)
    (hld : ∀ p ∈ add ++ (dl, ol) :: (ds, so) :: (tl, ot) :: (dd, o12) :: R, p.1 < ld) (h1 : @LT.lt Nat _ ld el) (h2 : @LT.lt Nat _ el al)
    (hds : ∀ p ∈ R, p.1 ≠ ds) (hadd : ∀ p ∈ (dl, ol) :: (ds, so) :: (tl, ot) :: (dd, o12) :: R, ∀ q ∈ add, p.1 < q.1) (hdl : @LT.lt Nat _ ds dl) (hdt : ds ≠ tl) :
    ∃ R2, (∀ p ∈ (ds, so) :: (ld, co) :: (al, oa) :: (el, oe) :: R2, p ∈ n9) ∧ ((∀ p ∈ R2, p.1 ≠ ds) ∧ (∀ p ∈ R2, p.1 ≠ ld) ∧ (∀ p ∈ R2, p.1 ≠ al) ∧ (∀ p ∈ R2, p.1 ≠ el)) ∧
      (ds ≠ ld ∧ ds ≠ al ∧ ds ≠ el ∧ ld ≠ al ∧ ld ≠ el ∧ al ≠ el) ∧ (∀ p ∈ add, p ∈ R2) ∧ (dl, ol) ∈ R2 ∧ (tl, ot) ∈ R2 ∧ (∀ p ∈ R, p ∈ R2) := by
  have hsub : ∀ p ∈ (dl, ol) :: (tl, ot) :: (add ++ R), p ∈ add ++ (dl, ol) :: (ds, so) :: (tl, ot) :: (dd, o12) :: R := by
    intro p hp
    simp only [List.mem_cons, List.mem_append] at hp ⊢
    rcases hp with h | h | h | h <;> simp [h]
  have hlt : ∀ p ∈ (dl, ol) :: (tl, ot) :: (add ++ R), @LT.lt Nat _ p.1 ld := fun p hp => hld p (hsub p hp)
  have hdl0 : @LT.lt Nat _ ds ld := hld (ds, so) (by simp)
  refine ⟨(dl, ol) :: (tl, ot) :: (add ++ R), ?_, ⟨?_, fun p hp => Nat.ne_of_lt (hlt p hp), fun p hp => Nat.ne_of_lt (Nat.lt_trans (hlt p hp) (Nat.lt_trans h1 h2)), fun p hp => Nat.ne_of_lt (Nat.lt_trans (hlt p hp) h1)⟩,
    ⟨Nat.ne_of_lt hdl0, Nat.ne_of_lt (Nat.lt_trans hdl0 (Nat.lt_trans h1 h2)), Nat.ne_of_lt (Nat.lt_trans hdl0 h1), Nat.ne_of_lt (Nat.lt_trans h1 h2), Nat.ne_of_lt h1, (Nat.ne_of_lt h2).symm⟩,
    fun p hp => .tail _ (.tail _ (List.mem_append.mpr (.inl hp))), .head _, .tail _ (.head _), fun p hp => .tail _ (.tail _ (List.mem_append.mpr (.inr hp)))⟩
  · intro p hp
    refine hm p ?_
    simp only [List.mem_cons, List.mem_append] at hp ⊢
    rcases hp with h | h | h | h | h | h | h | h <;> simp [h]
  · refine List.forall_mem_cons.mpr ⟨(Nat.ne_of_lt hdl).symm, List.forall_mem_cons.mpr ⟨Ne.symm hdt, fun p hp => ?_⟩⟩
    rcases List.mem_append.mp hp with hp | hp
    · exact (Nat.ne_of_lt (hadd (ds, so) (by simp) p hp)).symm
    · exact hds p hp
/-- one of the four groups -/
theorem group_at {news : LD} {vg : List Value} (h : ThreesAre news vg GS) {r : Int} (h0 : 0 ≤ r) (h1 : r < 4) :
    ∃ a x y z t u w n, vg[r.toNat]? = some (.ref a) ∧ (x, y, z) ∈ GS ∧ (a, W.listOf (List.toArray [.int x t, .int y u, .int z w]) n) ∈ news := by
  have hl : r.toNat < vg.length := by rw [h.length]; show r.toNat < 4; omega
  obtain ⟨a, x, y, z, t, u, w, n, e1, e2, e3⟩ := h.get (List.getElem?_eq_getElem hl)
  exact ⟨a, x, y, z, t, u, w, n, by rw [List.getElem?_eq_getElem hl, e2], List.mem_of_getElem? e1, e3⟩
/-- one of a group's three terms -/
theorem three_at {x y z : Int} {t u w : Tok} {r : Int} (h0 : 0 ≤ r) (h1 : r < 3) : ∃ v tv, ([.int x t, .int y u, .int z w] : List Value)[r.toNat]? = some (.int v tv) ∧ (v = x ∨ v = y ∨ v = z) := by
  have : r = 0 ∨ r = 1 ∨ r = 2 := by omega
  rcases this with rfl | rfl | rfl
  · exact ⟨x, t, rfl, .inl rfl⟩
  · exact ⟨y, u, rfl, .inr (.inl rfl)⟩
  · exact ⟨z, w, rfl, .inr (.inr rfl)⟩
theorem gs_terms {x y z v v' : Int} (h : (x, y, z) ∈ GS) (hv : v = x ∨ v = y ∨ v = z) (hv' : v' = x ∨ v' = y ∨ v' = z) : (1 ≤ v ∧ v ≤ 12) ∧ (1 ≤ v' ∧ v' ≤ 12) ∧ grp v = grp v' := by
  simp only [GS, List.mem_cons, List.not_mem_nil, or_false, Prod.mk.injEq] at h
  rcases h with ⟨rfl, rfl, rfl⟩ | ⟨rfl, rfl, rfl⟩ | ⟨rfl, rfl, rfl⟩ | ⟨rfl, rfl, rfl⟩ <;> rcases hv with rfl | rfl | rfl <;> rcases hv' with rfl | rfl | rfl <;> decide
theorem Conn.none {a b : Int} (h : Conn [] a b) : a = b := by
  cases h with
  | refl => rfl
  | fwd _ hm => cases hm
  | bwd _ hm => cases hm
theorem clash_init {ns : List Int} (ht : Terms ns) : clashOf (idC ns) ns [] = false := by
  have h := (CInv.init ns).clash ht (ps := []) (fun p hp => absurd hp List.not_mem_nil)
  cases e : clashOf (idC ns) ns [] with
  | false => rfl
  | true =>
    rw [e] at h
    rcases h.mp rfl with ⟨p, hp, _⟩ | ⟨g, hg, k⟩
    · cases hp
    · have := k.none
      simp only [GS, List.mem_cons, List.not_mem_nil, or_false] at hg
      rcases hg with rfl | rfl | rfl | rfl <;> exact absurd this (by decide)
theorem range_len {r : Int} (h : 0 ≤ r) : Builtin.Range.rangeSize 0 r 1 = (r.toNat : Int) := by
  unfold Builtin.Range.rangeSize
  by_cases e : r = 0 <;> simp [e] <;> omega
theorem range_small {r : Int} (h0 : 0 ≤ r) (h : r ≤ 8) : Builtin.Range.small 0 r 1 = true := by
  have : r = 0 ∨ r = 1 ∨ r = 2 ∨ r = 3 ∨ r = 4 ∨ r = 5 ∨ r = 6 ∨ r = 7 ∨ r = 8 := by omega
  rcases this with rfl | rfl | rfl | rfl | rfl | rfl | rfl | rfl | rfl <;> decide +kernel
section
variable {prog : Program} {w : World} {A : Around} {E : Value → Shared → Prop} {s : Shared} {h₀ : Heap} {L l : Addr} {m : Str → Option Value} {news : LD} {vs : List Value} {n : Nat} {i : Int} {u : Tok}
theorem my_revl {value slice : PySem.Expr} {ops : List Value} {Q : Value → Shared → Prop} (F : Fr h₀ L s.heap m := by k_asm) (N : News h₀ L s.heap news := by k_asm) (hp : (l, W.listOf (List.toArray vs) n) ∈ news := by k_mem) (hz : vs.length ≤ 1000 := by omega) (hi : i = -1 := by rfl)
    (h : ∀ D h', Fr h₀ L h' m → News h₀ L h' ((D, W.listOf (List.toArray vs.reverse) 0) :: news) → (∀ p ∈ news, p.1 < D) → Q (.ref D) { s with heap := h' })
    (hs : subscripted slice false (.ref l) (.ref s.heap.objs.size) = operate ops (getItem (.ref l) (.ref s.heap.objs.size)) := by with_unfolding_all rfl)
    (hg : ∀ r, letTemporaryGo value (.ref l) r = pure () := by intro _; with_unfolding_all rfl) :
    wpAny (model prog w) A (subscriptTail value slice (.ref l) (.ref s.heap.objs.size)) Q E { s with heap := s.heap.push { cls := .type "slice", data := .fields #[.none, .none, .int i u] } } := by
  subst hi
  exact krv_lit (its := List.toArray vs) (zs := vs.reverse) F N ⟨_, (N _ hp).1, rfl, n, rfl⟩ (IsPart.int _ _) rfl h hs hg (by rw [sizeLine_eq, List.size_toArray]; omega)
end
/-- the state of the loop that draws the pairs: the sack, the list of pairs, the tuples made -/
structure AS where
  so : Obj
  vs : List Value
  ps : List (Int × Int)
  nn : Nat
  tu : LD
def ASOk (w : World) (lc ds al : Addr) (i : Nat) (q : AS) : Prop :=
  SackIs w q.so lc (13 + 3 * i) ∧ PairsAre q.tu q.vs q.ps ∧ q.ps.length = i ∧ (∀ p ∈ q.ps, (1 ≤ p.1 ∧ p.1 ≤ 12) ∧ (1 ≤ p.2 ∧ p.2 ≤ 12)) ∧ (∀ p ∈ q.tu, p.1 ≠ ds ∧ p.1 ≠ al)

end
section
theorem right_c {w : World} {mean : ExcName → Option Value} {mg mb : Str → Option Value} {news : LD} {clo bank tl ld lo el gl al : Addr} {c : List (Int × Int)} {ns : List Int} {es ps : List (Int × Int)} {ops : List Value} {no : Nat}
    (hC : CloIn news clo bank tl ld) (hT : IntL news tl ns) (hB : BankIn news bank lo) (hO : (lo, W.listOf (List.toArray ops) no) ∈ news) (hok : OpsOk ops) (hL : IntD w news ld c) (hE : PairsL news el es) (hG : ThreesL news gl GS) (hA : PairsL news al ps)
    (hI : CInv ns c es) (ht : Terms ns) (hps : ∀ p ∈ ps, p.1 ∈ ns ∧ p.2 ∈ ns) (hel : es.length ≤ 20) (hpl : ps.length ≤ 100) :
    Does w mean mg mb 8 80 718 [.ref clo, .ref el, .ref gl, .ref al] news (fun v news' => v = .bool true ∧ news' = news) :=
  is_right_c hC hT hB hO hok hL hE hG hA (fun t h => ⟨((ht.mem t).mp h).1, ((ht.mem t).mp h).2, hI.has h⟩) (fun p hp => ⟨hI.has (hps p hp).1, hI.has (hps p hp).2⟩) (hI.has ((ht.mem 1).mpr (by decide))) (hI.has ((ht.mem 2).mpr (by decide))) ht.len hel (by rw [hI.len]; have := ht.len; omega) hpl (hI.keys ▸ ht.nodup) (fun p hp => hI.look _ (hps p hp).1 _ (hps p hp).2) (hI.hq ht)
theorem hclash_c {w : World} {mean : ExcName → Option Value} {mg mb : Str → Option Value} {news : LD} {clo bank tl ld lo al : Addr} {c : List (Int × Int)} {ns : List Int} {es ps : List (Int × Int)} {ops : List Value} {no : Nat}
    (hC : CloIn news clo bank tl ld) (hT : IntL news tl ns) (hB : BankIn news bank lo) (hO : (lo, W.listOf (List.toArray ops) no) ∈ news) (hok : OpsOk ops) (hL : IntD w news ld c) (hA : PairsL news al ps)
    (hI : CInv ns c es) (ht : Terms ns) (hps : ∀ p ∈ ps, p.1 ∈ ns ∧ p.2 ∈ ns) :
    Does w mean mg mb 4 40 69 [.ref clo, .ref al] news (fun v news' => v = .bool (clashOf c ns ps) ∧ news' = news) :=
  has_clash_c hC hT hB hO hok hL hA (fun t h => ⟨((ht.mem t).mp h).1, ((ht.mem t).mp h).2, hI.has h⟩) (fun p hp => ⟨hI.has (hps p hp).1, hI.has (hps p hp).2⟩) (hI.has ((ht.mem 1).mpr (by decide))) (hI.has ((ht.mem 2).mpr (by decide))) ht.len
/-- the state of the loop of the joins -/
structure MS where
  so : Obj
  co : Obj
  kvs : List (Int × Value)
  c : List (Int × Int)
  ve : List Value
  es : List (Int × Int)
  ne : Nat
  b : Bool
  tu : LD
structure MSOk (w : World) (lc ds ld el : Addr) (ns : List Int) (k0 : Int) (i : Nat) (q : MS) : Prop where
  sack : SackIs w q.so lc (k0 + 3 * i)
  dict : q.co.IsDictOf (PySem.intKind PySem.Challenge.rw_qz0019_01.row.prog w) q.kvs
  flat : FlatPairs PyData.int q.kvs (kdfD q.c)
  inv : CInv ns q.c q.es
  pairs : PairsAre q.tu q.ve q.es
  len : q.es.length = i
  mem : ∀ p ∈ q.es, p.1 ∈ ns ∧ p.2 ∈ ns
  was : q.b = clashOf q.c ns []
  ap : ∀ p ∈ q.tu, p.1 ≠ ds ∧ p.1 ≠ ld ∧ p.1 ≠ el
theorem ints_rev : ∀ {vs : List Value} {ns : List Int}, IntsAre vs ns → IntsAre vs.reverse ns.reverse
  | _, _, .nil => .nil
  | _, _, .cons a t h => by rw [List.reverse_cons, List.reverse_cons]; exact ints_snoc (ints_rev h)
theorem PairsAre.rev {news : LD} {vs : List Value} {ps : List (Int × Int)} (h : PairsAre news vs ps) : PairsAre news vs.reverse ps.reverse := by
  induction h with
  | nil => exact .nil
  | cons hm h ih =>
    rw [List.reverse_cons, List.reverse_cons]
    exact ih.append (.cons hm .nil)

end
local macro_rules | `(tactic| k_qdec) => `(tactic| decide +kernel)
local macro_rules | `(tactic| walk_at "call ref") => `(tactic| (k_here; (refine my_stop ?_)))
local macro_rules | `(tactic| walk_at "call builtin:list.insert") => `(tactic| (k_here; k_dflt (refine' my_insert (h := ?_); k_whole); intro h' F' N'))
local macro_rules | `(tactic| walk_at "subscriptTail Name Slice ref ref") => `(tactic| (k_here; k_dflt (refine' my_revl (h := ?_); k_whole); intro D' h' F' N' l1; (try k_lt l1)))
local macro_rules | `(tactic| k_mem) => `(tactic| first | assumption | exact List.Mem.head _ | exact mem_lift (by assumption) (by walk_at "SUB"))
section
/-- the goal at which a part of the walk stops -/
structure StopAt (P : Prop) : Prop where
  out : P
noncomputable def stage0 : {P : Prop // StopAt P → PySem.Challenge.rw_qz0019_01.Holds} := ⟨_, fun hNext1 => hd (by
  w_on
  intro x0
  revert x0
  w_strict (k_go0; (all_goals try k_fold); k_steps)
  unfold MyCall
  refine Does.use bank_c (by k_asm) (by k_asm) (by k_asm) (by k_asm) (by k_asm) (by first | exact rfl | assumption) (by ktr_room) (by ktr_units) ?_
  intro v9 n9 h9 tk9 hp9 F9 N9
  obtain ⟨bank, P, add1, c1, c2, c3, e1, ho1, B1, S1⟩ := hp9
  subst e1
  (try dsimp only)
  (try k_fold)
  w_strict k_steps
  unfold MyCall
  rename _ ∧ AllLt _ _ => hT9
  rename ∀ p ∈ n9, p.1 < _ => ht9
  refine Does.use (groups_c (B1.mono fun p hp => .tail _ (.tail _ (List.mem_append.mpr (.inl hp)))) ((S1.push ht9).push (pr_of hT9))) (by k_asm) (by k_asm) (by k_asm) (by k_asm) (by k_asm) (by first | exact rfl | assumption) (by ktr_room) (by ktr_units) ?_
  intro v9 n10 h9 tk9 hp9 F9 N9
  obtain ⟨gl, add2, ops, nop, e1, ho2, hn10, hlo10, hG, hok⟩ := hp9
  subst e1
  rename _ ≠ _ ∧ _ ≠ _ => hne9
  obtain ⟨R, hR, hRd, hRt, hdt, hR1, hR2, hlo, hcl⟩ := law_split ho1 ho2 hn10 hlo10 (fun p hp => ht9 p (S1.sub p hp)) hne9.2
  replace N9 := kst_newsOf N9 hR
  obtain ⟨ds, tl, ed, et, -⟩ := name2 hdt
  subst ed et
  replace hG := hG.mono hR2
  have hBk := (B1.mono hR1).bankIn
  clear hn10 hlo10 ho1 ho2 S1 B1 hR hR1 hR2 hT9 ht9 hne9
  obtain ⟨vg, ng, hgm, hgt⟩ := hG
  have hG0 : ThreesL R gl [(3, 4, 5), (6, 7, 8), (9, 10, 11), (12, 1, 2)] := ⟨vg, ng, hgm, hgt⟩
  obtain ⟨a1, a2, a3, a4, n1, n2, n3, n4, k1, k2, k3, k4, k5, k6, k7, k8, k9, k10, k11, k12, rfl, hg1, hg2, hg3, hg4⟩ := groups_at hgt
  (try dsimp only)
  (try k_fold)
  w_strict k_steps
  (k_dflt (refine' groups_comp (z := Str.ofString "groups") (x := Str.ofString "group") (y := Str.ofString "one") ?kh ?kF ?kN rfl rfl rfl ?kv (by decide) (.tail _ (.tail _ hgm)) (.tail _ (.tail _ hg1)) (.tail _ (.tail _ hg2)) (.tail _ (.tail _ hg3)) (.tail _ (.tail _ hg4)) (Nat.le_of_ble_eq_true rfl) (by decide) (by decide) rfl (by decide) rfl rfl (by decide) (by decide) ?_; (case kF => k_asm); (case kN => k_asm); (case kv => rfl); (case kh => exact rfl)))
  intro D12 h9 tk9 F9 N9 l12
  (try dsimp only)
  (try k_fold)
  w_strict k_steps
  rename Obj.IsDictOf (PySem.strKind _ _) _ (strPairs _) => hsk
  rename IntsAre ys _ => hcells
  have hS0 := sack_of hsk
  have hTc : IntL R _ _ := ⟨_, _, hcl, hcells⟩
  have hcl60 : ∀ (f : Int → Int) (xs : List Int), (List.map f (List.take 60 xs)).length ≤ 100 := fun f xs => by rw [List.length_map, List.length_take]; omega
  (rename Fr _ _ _ _ => lF); (rename News _ _ _ _ => lN)
  have hAll : IntsAre [.int 3 k1, .int 4 k2, .int 5 k3, .int 6 k4, .int 7 k5, .int 8 k6, .int 9 k7, .int 10 k8, .int 11 k9, .int 12 k10, .int 1 k11, .int 2 k12] ALL := .cons _ _ (.cons _ _ (.cons _ _ (.cons _ _ (.cons _ _ (.cons _ _ (.cons _ _ (.cons _ _ (.cons _ _ (.cons _ _ (.cons _ _ (.cons _ _ .nil)))))))))))
  refine my_list (vs := [.int 3 k1, .int 4 k2, .int 5 k3, .int 6 k4, .int 7 k5, .int 8 k6, .int 9 k7, .int 10 k8, .int 11 k9, .int 12 k10, .int 1 k11, .int 2 k12]) (nn := 12) (Led := fun q : Obj × List Value × List Int × Nat => [(ds, q.1), (tl, W.listOf (List.toArray q.2.1) q.2.2.2)]) (ps := fun _ => []) (stored := [Str.ofString "t"])
    (P := fun i q => SackIs _ q.1 _ i ∧ IntsAre q.2.1 q.2.2.1 ∧ q.2.2.1.Perm (ALL.take i))
    ((D12, W.listOf (List.toArray [.int 3 k1, .int 4 k2, .int 5 k3, .int 6 k4, .int 7 k5, .int 8 k6, .int 9 k7, .int 10 k8, .int 11 k9, .int 12 k10, .int 1 k11, .int 2 k12]) 12) :: R) (_, [], [], 0) (.head _) lF lN ?_ ?_ (fun _ h => nomatch h) ⟨hS0, .nil, .refl _⟩ ?_ ?_
  · intro p hp
    simp only [List.cons_append, List.nil_append, List.mem_cons] at hp ⊢
    rcases hp with h | h | h | h <;> simp [h]
  · intro p hp q hq
    simp only [List.mem_cons, List.not_mem_nil, or_false] at hp hq
    rcases hp with rfl | rfl
    · rcases hq with rfl | hq
      · exact (Nat.ne_of_lt (l12 _ (.head _))).symm
      · exact hRd q hq
    · rcases hq with rfl | hq
      · exact (Nat.ne_of_lt (l12 _ (.tail _ (.head _)))).symm
      · exact hRt q hq
  · clear lF lN
    rintro i v ⟨so, vs, ns, nn⟩ rest' u h tk hv hsub hap' ⟨hS₁, hi₁, hp₁⟩ F' N'
    dsimp only at hS₁ hi₁ hp₁
    obtain ⟨t, ht⟩ : ∃ t, ALL[i]? = some t := by
      have : i < ALL.length := by rw [← hAll.length]; exact (List.getElem?_eq_some_iff.mp hv).1
      exact ⟨_, List.getElem?_eq_getElem this⟩
    have hi12 : i < 12 := (List.getElem?_eq_some_iff.mp ht).1
    obtain ⟨tt, ht'⟩ := hAll.get i t ht
    rw [ht'] at hv; cases hv
    have hvn : vs.length = ns.length := hi₁.length
    have hvl : vs.length = i := by rw [hvn, hp₁.length_eq, List.length_take]; show min i 12 = i; omega
    have hap1 : ∀ p ∈ rest', p.1 ≠ ds := fun p hp => hap' _ (.head _) p hp
    have hap2 : ∀ p ∈ rest', p.1 ≠ tl := fun p hp => hap' _ (.tail _ (.head _)) p hp
    replace N' : News _ _ _ ((ds, so) :: (tl, W.listOf (List.toArray vs) nn) :: rest') := N'
    replace hTc := hTc.mono (fun p hp => hsub p (.tail _ hp))
    refine wpAny_assign_Name ?_
    w_strict k_steps
    unfold MyCall
    refine Does.use (pull_c (rest := (tl, W.listOf (List.toArray vs) nn) :: rest') hS₁ (hTc.mono fun p hp => .tail _ hp) (List.forall_mem_cons.mpr ⟨Ne.symm hdt, hap1⟩) (by omega) (by omega) (by omega) (by omega) (hcl60 _ _)) (by k_asm) (by k_asm) (by k_asm) (by k_asm) (by k_asm) (by first | exact rfl | assumption) (by ktr_room) (by ktr_units) ?_
    intro v9 n9 h9 tk9 hp9 F9 N9
    obtain ⟨r, tr, so', e1, hr0, hr1, e2, hS₂⟩ := hp9
    subst e1
    rw [e2] at N9
    clear e2
    have hrl : r ≤ vs.length := by omega
    (try dsimp only)
    (try k_fold)
    w_strict k_steps
    rename Fr _ _ _ _ => F9
    rename News _ _ _ _ => N9
    refine my_end (so', insAt vs r.toNat (.int t tt), insAt ns r.toNat t, nn + 1) F9 N9 (fun p hp => hp) ?_ (FrmOk.set rfl rfl frmOk0) ⟨hS₂, ints_ins hi₁ _, ?_⟩
    · intro p hp q hq
      simp only [List.mem_cons, List.not_mem_nil, or_false] at hp
      rcases hp with rfl | rfl
      · exact hap1 q hq
      · exact hap2 q hq
    · rw [List.take_add_one, ht]
      exact (perm_ins _).trans (List.Perm.append_right _ hp₁)
  · clear lF lN
    rintro ⟨so, vs, ns, nn⟩ u h tk ⟨hS₁, hi₁, hp₁⟩ hap' F' N'
    dsimp only at hS₁ hi₁ hp₁
    dsimp only
    replace N' : News _ _ _ ((ds, so) :: (tl, W.listOf (List.toArray vs) nn) :: (D12, _) :: R) := N'
    have hTm : Terms ns := all_terms hp₁
    have hvl : vs.length = 12 := by rw [hi₁.length, hp₁.length_eq]; rfl
    w_strict k_steps
    unfold MyCall
    refine Does.use (init_c ⟨vs, _, .head _, hi₁⟩ hTm.nodup hTm.len) (by k_asm) (by k_asm) (by k_asm) (by k_asm) (by k_asm) (by first | exact rfl | assumption) (by ktr_room) (by ktr_units) ?_
    intro v9 n9 h9 tk9 hp9 F9 N9
    obtain ⟨clo, ld, co, kvs, add, e1, e2, hC, hlol, hcd, hcf, hld, hadd⟩ := hp9
    subst e1
    rw [e2] at N9
    clear e2
    rename _ < _ ∧ _ < _ ∧ _ < _ ∧ AllLt _ R => lTl
    (try dsimp only)
    (try k_fold)
    w_strict k_steps
    rename_i z1 z2 z3 z4 z5 z6 z7 z8 z9 z10 z11 z12 z13 z14 z15 z16 z17 z18 z19 z20 z21 z22 z23 z24 z25 z26 z27 z28 z29 z30 z31 z32 z33 z34 z35 z36 z37
      z38 z39 z40 z41 z42 z43 z44 z45 z46 z47 z48 z49 z50 z51 z52 z53 z54 z55 z56 z57 z58 z59 z60 z61 z62 z63 z64 z65 z66 z67 z68 z69 z70 z71 z72 z73 z74
      z75 z76 z77 z78 z79 z80 z81 z82 z83 z84 z85 z86 z87 z88 z89 z90 z91 z92 z93 z94 z95 z96 z97 z98 z99 z100 z101 z102 z103 z104 z105 z106 z107 z108 z109
      z110 z111 z112 z113 z114 z115
    revert z1 z2 z3 z4 z5 z6 z7 z8 z9 z10 z11 z12 z13 z14 z15 z16 z17 z18 z19 z20 z21 z22 z23 z24 z25 z26 z27 z28 z29 z30 z31 z32 z33 z34 z35 z36 z37 z38
      z39 z40 z41 z42 z43 z44 z45 z46 z47 z48 z49 z50 z51 z52 z53 z54 z55 z56 z57 z58 z59 z60 z61 z62 z63 ys hcells z64 z65 z66 z67 z68 z69 hsk z70 z71 z72
      z73 z74 bank P add1 c1 c2 c3 z75 z76 z77 z78 z79 z80 z81 z82 z83 n10 z84 z85 gl add2 ops nop hok R hlo hcl ds tl z86 z87 z88 z89 hRd hRt hdt hBk ng
      hG0 a1 a2 a3 a4 n1 n2 n3 n4 k1 k2 k3 k4 k5 k6 k7 k8 k9 k10 k11 k12 hgm hgt hg1 hg2 hg3 hg4 z90 z91 D12 z92 z93 l12 hS0 hTc hcl60 hAll so vs ns nn u h
      z94 hS₁ hi₁ hp₁ hap' hTm hvl z95 z96 z97 z98 z99 lTl n9 h9 tk9 clo ld co kvs add hC hlol hcd hcf hld hadd qk ek z100 z101 z102 z103 z104 z105 z106
      z107 z108 z109 z110 z111 z112 z113 z114 z115 tk
    exact hNext1.out)⟩

end
section
noncomputable def stage1 : {P : Prop // StopAt P → stage0.val} := ⟨_, fun hNext2 => by
  intro x0
  revert x0
  k_fill
  intros _ _ _ _ _ _ _ _ _ _ _ _ _ _ _ _ _ _ _ _ _ _ _ _ _ _ _ _ _ _ _ _ _ _ _ _ _ _ _ _ _ _ _ _ _ _ _ _ _ _ _ _ _ _ _ _ _ _ _ _ _ _ _ ys hcells _ _ _ _
    _ _ hsk _ _ _ _ _ bank P add1 c1 c2 c3 _ _ _ _ _ _ _ _ _ n10 _ _ gl add2 ops nop hok R hlo hcl ds tl _ _ _ _ hRd hRt hdt hBk ng hG0 a1 a2 a3 a4 n1 n2
    n3 n4 k1 k2 k3 k4 k5 k6 k7 k8 k9 k10 k11 k12 hgm hgt hg1 hg2 hg3 hg4 _ _ D12 _ _ l12 hS0 hTc hcl60 hAll so vs ns nn u h _ hS₁ hi₁ hp₁ hap' hTm hvl _ _
    _ _ _ lTl n9 h9 tk9 clo ld co kvs add hC hlol hcd hcf hld hadd qk ek _ _ _ _ _ _ _ _ _ _ _ _ _ _ _ _ tk
  w_on
  rename _ < _ ∧ AllLt _ (add ++ _) => l1a
  rename _ < _ ∧ _ < _ ∧ AllLt _ (add ++ _) => l1b
  rename News _ _ _ _ => N9
  obtain ⟨R2, hs2, ⟨hA1, hA2, hA3, hA4⟩, ⟨m1, m2, m3, m4, m5, m6⟩, hadd2, hdl2, htl2, hR2⟩ := law_split3 (fun p hp => hp) hld (ltN l1a.1) (ltN l1b.1) hRd hadd (ltN lTl.1) hdt
  replace N9 := kst_newsOf N9 hs2
  obtain ⟨al, el, ea, ee, -⟩ := name2 m6
  subst ea ee
  obtain ⟨dl, dl', ea, -, -⟩ := name2 (neA (Ne.symm (Nat.ne_of_lt (ltN lTl.1))))
  subst ea
  replace hBk := hBk.mono hR2
  replace hG0 := hG0.mono hR2
  replace hlo := hR2 _ hlo
  replace hTc := hTc.mono hR2
  replace hC := hC.mono hadd2
  replace hgt := hgt.mono hR2
  replace hgm := hR2 _ hgm
  replace hS₁ : SackIs _ so _ 12 := hS₁
  clear hs2 hld hadd lTl l1a l1b hp₁ hap' l12 hRd hRt hdt hg1 hg2 hg3 hg4 hAll hadd2 hR2
  unfold MyCall
  refine Does.use (pull_c (rest := (ld, co) :: (al, W.listOf (List.toArray []) 0) :: (el, W.listOf (List.toArray []) 0) :: R2) hS₁ (hTc.mono fun p hp => .tail _ (.tail _ (.tail _ hp))) (List.forall_mem_cons.mpr ⟨Ne.symm m1, List.forall_mem_cons.mpr ⟨Ne.symm m2, List.forall_mem_cons.mpr ⟨Ne.symm m3, hA1⟩⟩⟩) (by decide) (by decide) (by decide) (by decide) (hcl60 _ _)) (by k_asm) (by k_asm) (by k_asm) (by k_asm) (by k_asm) (by first | exact rfl | assumption) (by ktr_room) (by ktr_units) ?_
  intro v9 n9 h9 tk9 hp9 F9 N9
  obtain ⟨r, tr, so', e1, hr0, hr1, e2, hS₂⟩ := hp9
  subst e1
  rw [e2] at N9
  clear e2
  have hrs := range_small hr0 (by omega)
  have hrn := range_len hr0
  (try dsimp only)
  (try k_fold)
  w_strict k_steps
  rename_i z1 z2 z3 z4 z5 z6 z7 z8 z9 z10 z11 z12 z13 z14 z15 z16 z17 z18 z19 z20 z21 z22 z23 z24 z25 z26 z27 z28 z29 z30 z31 z32 z33 z34 z35 z36 z37
    z38 z39 z40 z41 z42 z43 z44 z45 z46 z47 z48 z49 z50 z51 z52 z53 z54 z55 z56 z57 z58 z59 z60 z61 z62 z63 z64 z65 z66 z67 z68 z69 z70 z71 z72 z73 z74
    z75 z76 z77 z78 z79 z80 z81 z82 z83 z84 z85 z86 z87 z88 z89 z90 z91 z92 z93 z94 z95 z96 z97 z98 z99 z100 z101 z102 z103 z104 z105 z106 z107 z108 z109
    z110 z111 z112 z113 z114 z115 z116 z117 z118 z119 z120 z121 z122 z123
  revert z1 z2 z3 z4 z5 z6 z7 z8 z9 z10 z11 z12 z13 z14 z15 z16 z17 z18 z19 z20 z21 z22 z23 z24 z25 z26 z27 z28 z29 z30 z31 z32 z33 z34 z35 z36 z37 z38
    z39 z40 z41 z42 z43 z44 z45 z46 z47 z48 z49 z50 z51 z52 z53 z54 z55 z56 z57 z58 z59 z60 z61 z62 z63 ys hcells z64 z65 z66 z67 z68 z69 hsk z70 z71 z72
    z73 z74 bank P add1 c1 c2 c3 z75 z76 z77 z78 z79 z80 z81 z82 z83 n10 z84 z85 gl add2 ops nop hok R hcl ds tl z86 z87 z88 z89 ng a1 a2 a3 a4 n1 n2 n3
    n4 k1 k2 k3 k4 k5 k6 k7 k8 k9 k10 k11 k12 z90 z91 D12 z92 z93 hS0 hcl60 so vs ns nn u h z94 hi₁ hTm hvl z95 z96 z97 z98 z99 z100 clo ld co kvs add
    hlol hcd hcf qk ek z101 z102 z103 z104 z105 z106 z107 z108 z109 tk R2 hA1 hA2 m1 htl2 al el hA3 m2 m4 hA4 m3 m5 z110 m6 N9 dl dl' z111 hdl2 z112 hBk
    hG0 hlo hTc hC hgt hgm hS₁ n9 h9 tk9 z113 r tr so' z114 hr0 hr1 hS₂ hrs hrn z115 z116 z117 z118 z119 z120 z121 z122 z123
  exact hNext2.out⟩

end
section
noncomputable def stage2 : {P : Prop // StopAt P → stage1.val} := ⟨_, fun hNext3 => by
  intro x0
  revert x0
  k_fill
  intros _ _ _ _ _ _ _ _ _ _ _ _ _ _ _ _ _ _ _ _ _ _ _ _ _ _ _ _ _ _ _ _ _ _ _ _ _ _ _ _ _ _ _ _ _ _ _ _ _ _ _ _ _ _ _ _ _ _ _ _ _ _ _ ys hcells _ _ _ _
    _ _ hsk _ _ _ _ _ bank P add1 c1 c2 c3 _ _ _ _ _ _ _ _ _ n10 _ _ gl add2 ops nop hok R hcl ds tl _ _ _ _ ng a1 a2 a3 a4 n1 n2 n3 n4 k1 k2 k3 k4 k5 k6
    k7 k8 k9 k10 k11 k12 _ _ D12 _ _ hS0 hcl60 so vs ns nn u h _ hi₁ hTm hvl _ _ _ _ _ _ clo ld co kvs add hlol hcd hcf qk ek _ _ _ _ _ _ _ _ _ tk R2 hA1
    hA2 m1 htl2 al el hA3 m2 m4 hA4 m3 m5 _ m6 N9 dl dl' _ hdl2 _ hBk hG0 hlo hTc hC hgt hgm hS₁ n9 h9 tk9 _ r tr so' _ hr0 hr1 hS₂ hrs hrn _ _ _ _ _ _ _
    _ _
  w_on
  (rename Fr _ _ _ _ => lF); (rename News _ _ _ _ => lN)
  refine my_range (n := r.toNat) (Led := fun q : AS => (ds, q.so) :: (al, W.listOf (List.toArray q.vs) q.nn) :: q.tu) (ps := fun _ => []) (stored := [Str.ofString "lap", Str.ofString "group"])
    (P := ASOk _ _ ds al) ((ld, co) :: (el, W.listOf (List.toArray []) 0) :: R2) ⟨so', [], [], 0, []⟩ (by exact rfl) (by assumption) hrs hrn lF lN ?_ ?_ (fun _ h => nomatch h) ⟨hS₂, .nil, rfl, (fun p hp => absurd hp List.not_mem_nil), (fun p hp => absurd hp List.not_mem_nil)⟩ ?_ ?_
  · intro p hp
    simp only [List.cons_append, List.nil_append, List.mem_cons] at hp ⊢
    rcases hp with h | h | h | h | h <;> simp [h]
  · intro p hp q hq
    simp only [List.mem_cons, List.not_mem_nil, or_false] at hp hq
    rcases hp with rfl | rfl
    · rcases hq with rfl | rfl | hq
      · exact Ne.symm m1
      · exact Ne.symm m3
      · exact hA1 q hq
    · rcases hq with rfl | rfl | hq
      · exact m4
      · exact Ne.symm m6
      · exact hA3 q hq
  · clear lF lN
    rintro i t ⟨so, va, pa, na, tu⟩ rest' u h tk hi hsub hap' ⟨hS₁, hp₁, hl₁, ht₁, ho₁⟩ F' N'
    dsimp only at hS₁ hp₁ hl₁ ht₁ ho₁ hap'
    have hap1 : ∀ p ∈ rest', p.1 ≠ ds := fun p hp => hap' _ (.head _) p hp
    have hap2 : ∀ p ∈ rest', p.1 ≠ al := fun p hp => hap' _ (.tail _ (.head _)) p hp
    have hs3 : ∀ p ∈ R2, p ∈ rest' := fun p hp => hsub p (.tail _ (.tail _ hp))
    have hvl : va.length ≤ 100000 := by rw [hp₁.length]; omega
    replace N' : News _ _ _ ((ds, so) :: (al, W.listOf (List.toArray va) na) :: (tu ++ rest')) := N'
    obtain ⟨Tq, hT⟩ : ∃ Tq, Tq = tu ++ rest' := ⟨_, rfl⟩
    rw [← hT] at N'
    have hsT : ∀ p ∈ R2, p ∈ Tq := fun p hp => by rw [hT]; exact List.mem_append.mpr (.inr (hs3 p hp))
    have hT1 : ∀ p ∈ Tq, p.1 ≠ ds := fun p hp => by
      rw [hT] at hp
      rcases List.mem_append.mp hp with hp | hp
      · exact (ho₁ p hp).1
      · exact hap1 p hp
    have hT2 : ∀ p ∈ Tq, p.1 ≠ al := fun p hp => by
      rw [hT] at hp
      rcases List.mem_append.mp hp with hp | hp
      · exact (ho₁ p hp).2
      · exact hap2 p hp
    replace hTc := hTc.mono hsT
    have hgm' := hsT _ hgm
    refine wpAny_assign_Name ?_
    w_strict k_steps
    unfold MyCall
    refine Does.use (pull_c (rest := (al, W.listOf (List.toArray va) na) :: Tq) hS₁ (hTc.mono fun p hp => .tail _ hp) (List.forall_mem_cons.mpr ⟨Ne.symm m2, hT1⟩) (by omega) (by omega) (by decide) (by decide) (hcl60 _ _)) (by k_asm) (by k_asm) (by k_asm) (by k_asm) (by k_asm) (by first | exact rfl | assumption) (by ktr_room) (by ktr_units) ?_
    intro v9 n9 h9 tk9 hp9 F9 N9
    obtain ⟨r1, tr1, so1, e1, hr2, hr3, e2, hS₃⟩ := hp9
    subst e1
    rw [e2] at N9
    clear e2
    obtain ⟨ga, gx, gy, gz, gt1, gt2, gt3, gn, hgi, hgs, hgam⟩ := group_at (hgt.mono hsT) hr2 hr3
    (try dsimp only)
    (try k_fold)
    w_strict k_steps
    unfold MyCall
    refine Does.use (pull_c (rest := (al, W.listOf (List.toArray va) na) :: Tq) hS₃ (hTc.mono fun p hp => .tail _ hp) (List.forall_mem_cons.mpr ⟨Ne.symm m2, hT1⟩) (by omega) (by omega) (by decide) (by decide) (hcl60 _ _)) (by k_asm) (by k_asm) (by k_asm) (by k_asm) (by k_asm) (by first | exact rfl | assumption) (by ktr_room) (by ktr_units) ?_
    intro v9 n9 h9 tk9 hp9 F9 N9
    obtain ⟨r2, tr2, so2, e1, hr4, hr5, e2, hS₄⟩ := hp9
    subst e1
    rw [e2] at N9
    clear e2
    obtain ⟨x1, tx1, hx1, hx2⟩ := three_at (x := gx) (y := gy) (z := gz) (t := gt1) (u := gt2) (w := gt3) hr4 hr5
    (try dsimp only)
    (try k_fold)
    w_strict k_steps
    unfold MyCall
    refine Does.use (pull_c (rest := (al, W.listOf (List.toArray va) na) :: Tq) hS₄ (hTc.mono fun p hp => .tail _ hp) (List.forall_mem_cons.mpr ⟨Ne.symm m2, hT1⟩) (by omega) (by omega) (by decide) (by decide) (hcl60 _ _)) (by k_asm) (by k_asm) (by k_asm) (by k_asm) (by k_asm) (by first | exact rfl | assumption) (by ktr_room) (by ktr_units) ?_
    intro v9 n9 h9 tk9 hp9 F9 N9
    obtain ⟨r3, tr3, so3, e1, hr6, hr7, e2, hS₅⟩ := hp9
    subst e1
    rw [e2] at N9
    clear e2
    obtain ⟨y1, ty1, hy1, hy2⟩ := three_at (x := gx) (y := gy) (z := gz) (t := gt1) (u := gt2) (w := gt3) hr6 hr7
    have hlt9 : ∀ p ∈ (ds, so3) :: (al, W.listOf (List.toArray va) na) :: Tq, @LT.lt Nat _ p.1 h9.objs.size := fun p hp => Heap.lt_size (N9 p hp).1
    have hlt8 := hlt9 _ (.tail _ (.head _))
    (try dsimp only)
    (try k_fold)
    w_strict k_steps
    rename Fr _ _ _ _ => F9
    rename News _ _ _ _ => N9
    have hgg := gs_terms hgs hx2 hy2
    refine my_end ⟨so3, va ++ [.ref h9.objs.size], pa ++ [(x1, y1)], na + 1, (h9.objs.size, { cls := .type "tuple", data := .seq #[.int x1 tx1, .int y1 ty1] }) :: tu⟩ F9 N9 ?_ ?_ (FrmOk.set rfl rfl (FrmOk.set rfl rfl frmOk0)) ⟨?_, ?_, by simp [hl₁], ?_, ?_⟩
    · intro p hp
      rw [hT]
      simp only [List.cons_append, List.mem_cons, List.mem_append] at hp ⊢
      rcases hp with h | h | h | h | h <;> simp [h]
    · intro p hp q hq
      simp only [List.mem_cons] at hp
      have hq9 : q ∈ Tq := by rw [hT]; exact List.mem_append.mpr (.inr hq)
      rcases hp with rfl | rfl | rfl | hp
      · exact hap1 q hq
      · exact hap2 q hq
      · exact Nat.ne_of_lt (hlt9 q (.tail _ (.tail _ hq9)))
      · exact hap' p (.tail _ (.tail _ hp)) q hq
    · have e : (13 + 3 * (i : Int) + 1 + 1 + 1) = 13 + 3 * ((i + 1 : Nat) : Int) := by omega
      exact e ▸ hS₅
    · exact (hp₁.mono fun p hp => .tail _ hp).append (.cons (.head _) .nil)
    · intro p hp
      rcases List.mem_append.mp hp with hp | hp
      · exact ht₁ p hp
      · rw [List.mem_singleton.mp hp]; exact ⟨hgg.1, hgg.2.1⟩
    · refine List.forall_mem_cons.mpr ⟨⟨(Nat.ne_of_lt (hlt9 _ (.head _))).symm, (Nat.ne_of_lt hlt8).symm⟩, ho₁⟩
  · clear lF lN
    rintro ⟨so, va, pa, na, tu⟩ u h tk ⟨hS₁, hp₁, hl₁, ht₁, ho₁⟩ hap' F' N'
    dsimp only at hS₁ hp₁ hl₁ ht₁ ho₁ hap'
    dsimp only
    have hu1 : ∀ p ∈ tu, p.1 ≠ ld := fun p hp => (hap' p (.tail _ (.tail _ hp)) _ (.head _)).symm
    have hu2 : ∀ p ∈ tu, p.1 ≠ el := fun p hp => (hap' p (.tail _ (.tail _ hp)) _ (.tail _ (.head _))).symm
    obtain ⟨R3, hR3⟩ : ∃ R3, R3 = (al, W.listOf (List.toArray va) na) :: (tu ++ R2) := ⟨_, rfl⟩
    have hs3 : ∀ p ∈ R2, p ∈ R3 := fun p hp => by rw [hR3]; exact .tail _ (List.mem_append.mpr (.inr hp))
    have hal3 : (al, W.listOf (List.toArray va) na) ∈ R3 := by rw [hR3]; exact .head _
    have hA : PairsL R3 al pa := ⟨va, na, hal3, hp₁.mono fun p hp => by rw [hR3]; exact .tail _ (List.mem_append.mpr (.inl hp))⟩
    have hD1 : ∀ p ∈ R3, p.1 ≠ ds := by
      rw [hR3]
      refine List.forall_mem_cons.mpr ⟨Ne.symm m2, fun p hp => ?_⟩
      rcases List.mem_append.mp hp with hp | hp
      · exact (ho₁ p hp).1
      · exact hA1 p hp
    have hD2 : ∀ p ∈ R3, p.1 ≠ ld := by
      rw [hR3]
      refine List.forall_mem_cons.mpr ⟨Ne.symm m4, fun p hp => ?_⟩
      rcases List.mem_append.mp hp with hp | hp
      · exact hu1 p hp
      · exact hA2 p hp
    have hD3 : ∀ p ∈ R3, p.1 ≠ el := by
      rw [hR3]
      refine List.forall_mem_cons.mpr ⟨m6, fun p hp => ?_⟩
      rcases List.mem_append.mp hp with hp | hp
      · exact hu2 p hp
      · exact hA4 p hp
    replace N' : News _ _ _ ((ds, so) :: (ld, co) :: (el, W.listOf (List.toArray []) 0) :: R3) := kst_newsOf N' (by
      intro p hp
      rw [hR3] at hp
      show p ∈ (ds, so) :: (al, W.listOf (List.toArray va) na) :: (tu ++ (ld, co) :: (el, W.listOf (List.toArray []) 0) :: R2)
      simp only [List.mem_cons, List.mem_append] at hp ⊢
      rcases hp with h | h | h | h | h | h <;> simp [h])
    replace hTc := hTc.mono hs3
    replace hBk := hBk.mono hs3
    replace hG0 := hG0.mono hs3
    replace hgt := hgt.mono hs3
    replace hgm := hs3 _ hgm
    replace hlo := hs3 _ hlo
    replace hC := hC.mono hs3
    have hTL : IntL R3 _ _ := ⟨_, _, hs3 _ hdl2, hi₁⟩
    have htl3 := hs3 _ htl2
    have hps : ∀ p ∈ pa, p.1 ∈ ns ∧ p.2 ∈ ns := fun p hp => ⟨(hTm.mem _).mpr (ht₁ p hp).1, (hTm.mem _).mpr (ht₁ p hp).2⟩
    have hpl : pa.length ≤ 100 := by omega
    obtain ⟨k0, hk0⟩ : ∃ k0 : Int, k0 = 13 + 3 * (r.toNat : Int) := ⟨_, rfl⟩
    have hk1 : 0 ≤ k0 ∧ k0 ≤ 40 := by omega
    rw [← hk0] at hS₁
    clear hk0 hR3 hap' hu1 hu2 ho₁ hp₁ ht₁ hl₁ hA1 hA2 hA3 hA4 hs3 hdl2 htl2
    w_strict k_steps
    rename_i z1 z2 z3 z4 z5 z6 z7 z8 z9 z10 z11 z12 z13 z14 z15 z16 z17 z18 z19 z20 z21 z22 z23 z24 z25 z26 z27 z28 z29 z30 z31 z32 z33 z34 z35 z36 z37
      z38 z39 z40 z41 z42 z43 z44 z45 z46 z47 z48 z49 z50 z51 z52 z53 z54 z55 z56 z57 z58 z59 z60 z61 z62 z63 z64 z65 z66 z67 z68 z69 z70 z71 z72 z73 z74
      z75 z76 z77 z78 z79 z80 z81 z82 z83 z84 z85 z86 z87 z88 z89 z90 z91 z92 z93 z94 z95 z96 z97 z98 z99 z100 z101 z102 z103 z104 z105 z106 z107 z108 z109
      z110 z111 z112 z113 z114 z115 z116 z117 z118 z119 z120 z121 z122 z123 z124 z125 z126
    revert z1 z2 z3 z4 z5 z6 z7 z8 z9 z10 z11 z12 z13 z14 z15 z16 z17 z18 z19 z20 z21 z22 z23 z24 z25 z26 z27 z28 z29 z30 z31 z32 z33 z34 z35 z36 z37 z38
      z39 z40 z41 z42 z43 z44 z45 z46 z47 z48 z49 z50 z51 z52 z53 z54 z55 z56 z57 z58 z59 z60 z61 z62 z63 ys hcells z64 z65 z66 z67 z68 z69 hsk z70 z71 z72
      z73 z74 bank P add1 c1 c2 c3 z75 z76 z77 z78 z79 z80 z81 z82 z83 n10 z84 z85 gl add2 ops nop hok R hcl ds tl z86 z87 z88 z89 ng a1 a2 a3 a4 n1 n2 n3
      n4 k1 k2 k3 k4 k5 k6 k7 k8 k9 k10 k11 k12 z90 z91 D12 z92 z93 hS0 hcl60 z94 vs ns nn z95 z96 z97 hi₁ hTm hvl z98 z99 z100 z101 z102 z103 clo ld co kvs
      add hlol hcd hcf qk ek z104 z105 z106 z107 z108 z109 z110 z111 z112 z113 R2 m1 al el m2 m4 m3 m5 z114 m6 N9 dl dl' z115 z116 z117 n9 h9 tk9 z118 r tr
      so' z119 hr0 hr1 hS₂ hrs hrn z120 z121 z122 z123 z124 z125 z126 so va pa na tu u h tk F' R3 hal3 hA hD1 hD2 hD3 N' hTc hBk hG0 hgt hgm hlo hC hTL htl3
      hps hpl k0 hS₁ hk1
    exact hNext3.out⟩

end
section
noncomputable def stage3 : {P : Prop // StopAt P → stage2.val} := ⟨_, fun hNext4 => by
  intro x0
  revert x0
  k_fill
  intros _ _ _ _ _ _ _ _ _ _ _ _ _ _ _ _ _ _ _ _ _ _ _ _ _ _ _ _ _ _ _ _ _ _ _ _ _ _ _ _ _ _ _ _ _ _ _ _ _ _ _ _ _ _ _ _ _ _ _ _ _ _ _ ys hcells _ _ _ _
    _ _ hsk _ _ _ _ _ bank P add1 c1 c2 c3 _ _ _ _ _ _ _ _ _ n10 _ _ gl add2 ops nop hok R hcl ds tl _ _ _ _ ng a1 a2 a3 a4 n1 n2 n3 n4 k1 k2 k3 k4 k5 k6
    k7 k8 k9 k10 k11 k12 _ _ D12 _ _ hS0 hcl60 _ vs ns nn _ _ _ hi₁ hTm hvl _ _ _ _ _ _ clo ld co kvs add hlol hcd hcf qk ek _ _ _ _ _ _ _ _ _ _ R2 m1 al
    el m2 m4 m3 m5 _ m6 N9 dl dl' _ _ _ n9 h9 tk9 _ r tr so' _ hr0 hr1 hS₂ hrs hrn _ _ _ _ _ _ _ so va pa na tu u h tk F' R3 hal3 hA hD1 hD2 hD3 N' hTc
    hBk hG0 hgt hgm hlo hC hTL htl3 hps hpl k0 hS₁ hk1
  w_on
  unfold MyCall
  refine Does.use (right_c (c := idC ns) (es := []) (ps := pa) (hC.mono fun p hp => .tail _ (.tail _ (.tail _ hp))) (hTL.mono fun p hp => .tail _ (.tail _ (.tail _ hp))) (hBk.mono fun p hp => .tail _ (.tail _ (.tail _ hp))) (.tail _ (.tail _ (.tail _ hlo))) hok ⟨hlol, co, _, .tail _ (.head _), hcd, hcf⟩ ⟨[], 0, .tail _ (.tail _ (.head _)), .nil⟩ (hG0.mono fun p hp => .tail _ (.tail _ (.tail _ hp))) (hA.mono fun p hp => .tail _ (.tail _ (.tail _ hp))) (CInv.init ns) hTm hps (Nat.zero_le _) hpl) (by k_asm) (by k_asm) (by k_asm) (by k_asm) (by k_asm) (by first | exact rfl | assumption) (by ktr_room) (by ktr_units) ?_
  intro v9 n9 h9 tk9 hp9 F9 N9
  obtain ⟨rfl, e2⟩ := hp9
  rw [e2] at N9
  clear e2
  (try dsimp only)
  (try k_fold)
  w_strict k_steps
  unfold MyCall
  refine Does.use (pull_c (rest := (ld, co) :: (el, W.listOf (List.toArray []) 0) :: R3) hS₁ (hTc.mono fun p hp => .tail _ (.tail _ hp)) (List.forall_mem_cons.mpr ⟨Ne.symm m1, List.forall_mem_cons.mpr ⟨Ne.symm m3, hD1⟩⟩) hk1.1 (by omega) (by decide) (by decide) (hcl60 _ _)) (by k_asm) (by k_asm) (by k_asm) (by k_asm) (by k_asm) (by first | exact rfl | assumption) (by ktr_room) (by ktr_units) ?_
  intro v9 n9 h9 tk9 hp9 F9 N9
  obtain ⟨r8, tr8, so8, e1, hq0, hq1, e2, hS₂⟩ := hp9
  subst e1
  rw [e2] at N9
  clear e2
  have hrs8 := range_small (r := 1 + r8) (by omega) (by omega)
  have hrn8 := range_len (r := 1 + r8) (by omega)
  (try dsimp only)
  (try k_fold)
  w_strict k_steps
  rename_i z1 z2 z3 z4 z5 z6 z7 z8 z9 z10 z11 z12 z13 z14 z15 z16 z17 z18 z19 z20 z21 z22 z23 z24 z25 z26 z27 z28 z29 z30 z31 z32 z33 z34 z35 z36 z37
    z38 z39 z40 z41 z42 z43 z44 z45 z46 z47 z48 z49 z50 z51 z52 z53 z54 z55 z56 z57 z58 z59 z60 z61 z62 z63 z64 z65 z66 z67 z68 z69 z70 z71 z72 z73 z74
    z75 z76 z77 z78 z79 z80 z81 z82 z83 z84 z85 z86 z87 z88 z89 z90 z91 z92 z93 z94 z95 z96 z97 z98 z99 z100 z101 z102 z103 z104 z105 z106 z107 z108 z109
    z110 z111 z112 z113 z114 z115 z116 z117 z118 z119 z120 z121 z122 z123 z124 z125 z126 z127 z128 z129 z130 z131 z132 z133 z134 z135 z136 z137 z138 z139
    z140 z141 z142 z143 z144 z145 z146 z147 z148 z149 z150
  revert z1 z2 z3 z4 z5 z6 z7 z8 z9 z10 z11 z12 z13 z14 z15 z16 z17 z18 z19 z20 z21 z22 z23 z24 z25 z26 z27 z28 z29 z30 z31 z32 z33 z34 z35 z36 z37 z38
    z39 z40 z41 z42 z43 z44 z45 z46 z47 z48 z49 z50 z51 z52 z53 z54 z55 z56 z57 z58 z59 z60 z61 z62 z63 ys hcells z64 z65 z66 z67 z68 z69 hsk z70 z71 z72
    z73 z74 bank P add1 c1 c2 c3 z75 z76 z77 z78 z79 z80 z81 z82 z83 n10 z84 z85 gl add2 ops nop hok R hcl ds tl z86 z87 z88 z89 ng a1 a2 a3 a4 n1 n2 n3
    n4 k1 k2 k3 k4 k5 k6 k7 k8 k9 k10 k11 k12 z90 z91 D12 z92 z93 hS0 hcl60 z94 vs ns nn z95 z96 z97 z98 hTm hvl z99 z100 z101 z102 z103 z104 clo ld co
    kvs add hlol hcd hcf z105 z106 z107 z108 z109 z110 z111 z112 z113 z114 z115 z116 R2 m1 al el m2 m4 m3 m5 z117 m6 z118 dl dl' z119 z120 z121 z122 z123
    z124 z125 r tr so' z126 hr0 hr1 z127 hrs hrn z128 z129 z130 z131 z132 z133 z134 so va pa na tu u h tk F' R3 hal3 hA hD1 hD2 hD3 N' hTc hBk hG0 hgt hgm
    hlo hC hTL htl3 hps hpl k0 hS₁ hk1 z135 z136 z137 F9 N9 qk ek n9 h9 tk9 z138 r8 tr8 so8 z139 hq0 hq1 hS₂ hrs8 hrn8 z140 z141 z142 z143 z144 z145 z146
    z147 z148 z149 z150
  exact hNext4.out⟩

end
section
noncomputable def stage4 : {P : Prop × Prop // StopAt P.1 → StopAt P.2 → stage3.val} := ⟨(_, _), fun hNext5 hNext7 => by
  intro x0
  revert x0
  k_fill
  intros _ _ _ _ _ _ _ _ _ _ _ _ _ _ _ _ _ _ _ _ _ _ _ _ _ _ _ _ _ _ _ _ _ _ _ _ _ _ _ _ _ _ _ _ _ _ _ _ _ _ _ _ _ _ _ _ _ _ _ _ _ _ _ ys hcells _ _ _ _
    _ _ hsk _ _ _ _ _ bank P add1 c1 c2 c3 _ _ _ _ _ _ _ _ _ n10 _ _ gl add2 ops nop hok R hcl ds tl _ _ _ _ ng a1 a2 a3 a4 n1 n2 n3 n4 k1 k2 k3 k4 k5 k6
    k7 k8 k9 k10 k11 k12 _ _ D12 _ _ hS0 hcl60 _ vs ns nn _ _ _ _ hTm hvl _ _ _ _ _ _ clo ld co kvs add hlol hcd hcf _ _ _ _ _ _ _ _ _ _ _ _ R2 m1 al el
    m2 m4 m3 m5 _ m6 _ dl dl' _ _ _ _ _ _ _ r tr so' _ hr0 hr1 _ hrs hrn _ _ _ _ _ _ _ so va pa na tu u h tk F' R3 hal3 hA hD1 hD2 hD3 N' hTc hBk hG0 hgt
    hgm hlo hC hTL htl3 hps hpl k0 hS₁ hk1 _ _ _ F9 N9 qk ek n9 h9 tk9 _ r8 tr8 so8 _ hq0 hq1 hS₂ hrs8 hrn8 _ _ _ _ _ _ _ _ _ _ _
  w_on
  (rename Fr _ _ _ _ => lF); (rename News _ _ _ _ => lN)
  refine my_range (n := (1 + r8).toNat) (Led := fun q : MS => (ds, q.so) :: (ld, q.co) :: (el, W.listOf (List.toArray q.ve) q.ne) :: q.tu) (ps := fun q => [(Str.ofString "was", Value.bool q.b)]) (stored := [Str.ofString "lap", Str.ofString "group", Str.ofString "one", Str.ofString "other"])
    (P := MSOk _ _ ds ld el ns (k0 + 1)) R3 ⟨so8, co, _, idC ns, [], [], 0, false, []⟩ (by exact rfl) (by assumption) hrs8 hrn8 lF lN ?_ ?_ ?_ ⟨by simpa using hS₂, hcd, hcf, CInv.init ns, .nil, rfl, (fun p hp => absurd hp List.not_mem_nil), (clash_init hTm).symm, (fun p hp => absurd hp List.not_mem_nil)⟩ ?_ ?_
  · intro p hp
    simp only [List.cons_append, List.nil_append, List.mem_cons] at hp ⊢
    rcases hp with h | h | h | h <;> simp [h]
  · intro p hp q hq
    simp only [List.mem_cons, List.not_mem_nil, or_false] at hp
    rcases hp with rfl | rfl | rfl
    · exact hD1 q hq
    · exact hD2 q hq
    · exact hD3 q hq
  · intro p hp
    rw [List.mem_singleton.mp hp]
    rfl
  · clear lF lN
    rintro i t ⟨so, co, kvs, c, ve, es, ne, b, tu⟩ rest' u h tk hi hsub hap' ⟨hS₃, hd₁, hf₁, hI, hp₁, hl₁, hm₁, hw₁, ho₁⟩ F' N'
    dsimp only at hS₃ hd₁ hf₁ hI hp₁ hl₁ hm₁ hw₁ ho₁ hap'
    have hap1 : ∀ p ∈ rest', p.1 ≠ ds := fun p hp => hap' _ (.head _) p hp
    have hap2 : ∀ p ∈ rest', p.1 ≠ ld := fun p hp => hap' _ (.tail _ (.head _)) p hp
    have hap3 : ∀ p ∈ rest', p.1 ≠ el := fun p hp => hap' _ (.tail _ (.tail _ (.head _))) p hp
    have hvl : ve.length ≤ 100000 := by rw [hp₁.length]; omega
    replace N' : News _ _ _ ((ds, so) :: (ld, co) :: (el, W.listOf (List.toArray ve) ne) :: (tu ++ rest')) := N'
    obtain ⟨Tq, hT⟩ : ∃ Tq, Tq = tu ++ rest' := ⟨_, rfl⟩
    rw [← hT] at N'
    have hsT : ∀ p ∈ R3, p ∈ Tq := fun p hp => by rw [hT]; exact List.mem_append.mpr (.inr (hsub p hp))
    have hpT : PairsAre Tq ve es := hp₁.mono fun p hp => by rw [hT]; exact List.mem_append.mpr (.inl hp)
    have hT1 : ∀ p ∈ Tq, p.1 ≠ ds := fun p hp => by
      rw [hT] at hp
      rcases List.mem_append.mp hp with hp | hp
      · exact (ho₁ p hp).1
      · exact hap1 p hp
    have hT2 : ∀ p ∈ Tq, p.1 ≠ ld := fun p hp => by
      rw [hT] at hp
      rcases List.mem_append.mp hp with hp | hp
      · exact (ho₁ p hp).2.1
      · exact hap2 p hp
    have hT3 : ∀ p ∈ Tq, p.1 ≠ el := fun p hp => by
      rw [hT] at hp
      rcases List.mem_append.mp hp with hp | hp
      · exact (ho₁ p hp).2.2
      · exact hap3 p hp
    replace hTc := hTc.mono hsT
    have hgm' := hsT _ hgm
    replace hgt := hgt.mono hsT
    refine wpAny_assign_Name ?_
    w_strict k_steps
    unfold MyCall
    refine Does.use (pull_c (rest := (ld, co) :: (el, W.listOf (List.toArray ve) ne) :: Tq) hS₃ (hTc.mono fun p hp => .tail _ (.tail _ hp)) (List.forall_mem_cons.mpr ⟨Ne.symm m1, List.forall_mem_cons.mpr ⟨Ne.symm m3, hT1⟩⟩) (by omega) (by omega) (by decide) (by decide) (hcl60 _ _)) (by k_asm) (by k_asm) (by k_asm) (by k_asm) (by k_asm) (by first | exact rfl | assumption) (by ktr_room) (by ktr_units) ?_
    intro v9 n9 h9 tk9 hp9 F9 N9
    obtain ⟨r1, tr1, so1, e1, hr2, hr3, e2, hS₄⟩ := hp9
    subst e1
    rw [e2] at N9
    clear e2
    obtain ⟨ga, gx, gy, gz, gt1, gt2, gt3, gn, hgi, hgs, hgam⟩ := group_at hgt hr2 hr3
    (try dsimp only)
    (try k_fold)
    w_strict k_steps
    unfold MyCall
    refine Does.use (pull_c (rest := (ld, co) :: (el, W.listOf (List.toArray ve) ne) :: Tq) hS₄ (hTc.mono fun p hp => .tail _ (.tail _ hp)) (List.forall_mem_cons.mpr ⟨Ne.symm m1, List.forall_mem_cons.mpr ⟨Ne.symm m3, hT1⟩⟩) (by omega) (by omega) (by decide) (by decide) (hcl60 _ _)) (by k_asm) (by k_asm) (by k_asm) (by k_asm) (by k_asm) (by first | exact rfl | assumption) (by ktr_room) (by ktr_units) ?_
    intro v9 n9 h9 tk9 hp9 F9 N9
    obtain ⟨r2, tr2, so2, e1, hr4, hr5, e2, hS₅⟩ := hp9
    subst e1
    rw [e2] at N9
    clear e2
    obtain ⟨x1, tx1, hx1, hx2⟩ := three_at (x := gx) (y := gy) (z := gz) (t := gt1) (u := gt2) (w := gt3) hr4 hr5
    (try dsimp only)
    (try k_fold)
    w_strict k_steps
    unfold MyCall
    refine Does.use (pull_c (rest := (ld, co) :: (el, W.listOf (List.toArray ve) ne) :: Tq) hS₅ (hTc.mono fun p hp => .tail _ (.tail _ hp)) (List.forall_mem_cons.mpr ⟨Ne.symm m1, List.forall_mem_cons.mpr ⟨Ne.symm m3, hT1⟩⟩) (by omega) (by omega) (by decide) (by decide) (hcl60 _ _)) (by k_asm) (by k_asm) (by k_asm) (by k_asm) (by k_asm) (by first | exact rfl | assumption) (by ktr_room) (by ktr_units) ?_
    intro v9 n9 h9 tk9 hp9 F9 N9
    obtain ⟨r3, tr3, so3, e1, hr6, hr7, e2, hS₆⟩ := hp9
    subst e1
    rw [e2] at N9
    clear e2
    obtain ⟨y1, ty1, hy1, hy2⟩ := three_at (x := gx) (y := gy) (z := gz) (t := gt1) (u := gt2) (w := gt3) hr6 hr7
    (try dsimp only)
    (try k_fold)
    w_strict k_steps
    rename News _ _ _ _ => N9
    have hgg := gs_terms hgs hx2 hy2
    have hxm : x1 ∈ ns := (hTm.mem _).mpr hgg.1
    have hym : y1 ∈ ns := (hTm.mem _).mpr hgg.2.1
    have hCq := hC.mono hsT
    obtain ⟨dclo, j1, j2, j3, i1, i2, i3, nC, hCm, hDm⟩ := hCq
    rename_i z1 z2 z3 z4 z5 z6 z7 z8 z9 z10 z11 z12 z13 z14 z15 z16 z17 z18 z19 z20 z21 z22 z23 z24 z25 z26 z27 z28 z29 z30 z31 z32 z33 z34 z35 z36 z37
      z38 z39 z40 z41 z42 z43 z44 z45 z46 z47 z48 z49 z50 z51 z52 z53 z54 z55 z56 z57 z58 z59 z60 z61 z62 z63 z64 z65 z66 z67 z68 z69 z70 z71 z72 z73 z74
      z75 z76 z77 z78 z79 z80 z81 z82 z83 z84 z85 z86 z87 z88 z89 z90 z91 z92 z93 z94 z95 z96 z97 z98 z99 z100 z101 z102 z103 z104 z105 z106 z107 z108 z109
      z110 z111 z112 z113 z114 z115 z116 z117 z118 z119 z120 z121 z122 z123 z124 z125 z126 z127 z128 z129 z130 z131 z132 z133 z134 z135 z136 z137 z138 z139
      z140 z141 z142 z143 z144 z145 z146 z147 z148 z149 z150 z151 z152 z153 z154 z155 z156 z157 z158 z159 z160 z161 z162 z163 z164 z165 z166 z167 z168 z169
      z170 z171 z172 z173 z174 z175 z176 z177 z178 z179
    revert z1 z2 z3 z4 z5 z6 z7 z8 z9 z10 z11 z12 z13 z14 z15 z16 z17 z18 z19 z20 z21 z22 z23 z24 z25 z26 z27 z28 z29 z30 z31 z32 z33 z34 z35 z36 z37 z38
      z39 z40 z41 z42 z43 z44 z45 z46 z47 z48 z49 z50 z51 z52 z53 z54 z55 z56 z57 z58 z59 z60 z61 z62 z63 ys hcells z64 z65 z66 z67 z68 z69 hsk z70 z71 z72
      z73 z74 bank P add1 c1 c2 c3 z75 z76 z77 z78 z79 z80 z81 z82 z83 n10 z84 z85 gl add2 ops nop hok R hcl ds tl z86 z87 z88 z89 ng a1 a2 a3 a4 n1 n2 n3
      n4 k1 k2 k3 k4 k5 k6 k7 k8 k9 k10 k11 k12 z90 z91 D12 z92 z93 hS0 hcl60 z94 vs ns nn z95 z96 z97 z98 hTm z99 z100 z101 z102 z103 z104 z105 clo ld z106
      z107 add hlol hcd hcf z108 z109 z110 z111 z112 z113 z114 z115 z116 z117 z118 z119 R2 m1 al el m2 m4 m3 m5 m6 dl dl' z120 z121 z122 z123 z124 z125 r tr
      so' hr0 hr1 z126 hrs hrn z127 z128 z129 z130 z131 z132 z133 z134 va pa na z135 z136 z137 z138 z139 R3 hal3 hA hD1 hD2 hD3 z140 hBk hG0 hgm hlo hC hTL
      htl3 hps hpl k0 hS₁ hk1 z141 z142 z143 z144 z145 z146 z147 z148 r8 tr8 so8 hq0 hq1 hS₂ hrs8 hrn8 z149 z150 z151 z152 z153 z154 z155 z156 z157 i t so
      co kvs c ve es ne b tu rest' u h z158 hi hsub hap' hS₃ hd₁ hf₁ hI hp₁ hl₁ hm₁ hw₁ ho₁ F' hap1 hap2 hap3 hvl Tq N' hT hsT hpT hT1 hT2 hT3 hTc hgm' hgt
      z159 z160 z161 z162 z163 r1 tr1 so1 hr2 hr3 hS₄ ga gx gy gz gt1 gt2 gt3 gn hgi hgs hgam z164 z165 z166 z167 z168 z169 z170 r2 tr2 so2 hr4 hr5 hS₅ x1
      tx1 hx1 hx2 z171 z172 n9 h9 tk9 r3 tr3 so3 hr6 hr7 hS₆ y1 ty1 hy1 hy2 qk ek z173 z174 z175 z176 z177 z178 z179 N9 tk hgg hxm hym dclo j1 j2 j3 i1 i2
      i3 nC hCm hDm
    exact hNext5.out
  · clear lF lN
    rintro ⟨so, co, kvs, c, ve, es, ne, b, tu⟩ u h tk ⟨hS₃, hd₁, hf₁, hI, hp₁, hl₁, hm₁, hw₁, ho₁⟩ hap' F' N'
    dsimp only at hS₃ hd₁ hf₁ hI hp₁ hl₁ hm₁ hw₁ ho₁ hap'
    dsimp only
    rename_i z1 z2 z3 z4 z5 z6 z7 z8 z9 z10 z11 z12 z13 z14 z15 z16 z17 z18 z19 z20 z21 z22 z23 z24 z25 z26 z27 z28 z29 z30 z31 z32 z33 z34 z35 z36 z37
      z38 z39 z40 z41 z42 z43 z44 z45 z46 z47 z48 z49 z50 z51 z52 z53 z54 z55 z56 z57 z58 z59 z60 z61 z62 z63 z64 z65 z66 z67 z68 z69 z70 z71 z72 z73 z74
      z75 z76 z77 z78 z79 z80 z81 z82 z83 z84 z85 z86 z87 z88 z89 z90 z91 z92 z93 z94 z95 z96 z97 z98 z99 z100 z101 z102 z103 z104 z105 z106 z107 z108 z109
      z110 z111 z112 z113 z114 z115 z116 z117 z118 z119 z120 z121 z122 z123 z124 z125 z126 z127 z128 z129 z130 z131 z132 z133 z134 z135 z136 z137 z138 z139
      z140 z141 z142 z143 z144 z145 z146 z147 z148 z149 z150 z151 z152 z153 z154 z155 z156 z157
    revert z1 z2 z3 z4 z5 z6 z7 z8 z9 z10 z11 z12 z13 z14 z15 z16 z17 z18 z19 z20 z21 z22 z23 z24 z25 z26 z27 z28 z29 z30 z31 z32 z33 z34 z35 z36 z37 z38
      z39 z40 z41 z42 z43 z44 z45 z46 z47 z48 z49 z50 z51 z52 z53 z54 z55 z56 z57 z58 z59 z60 z61 z62 z63 ys hcells z64 z65 z66 z67 z68 z69 hsk z70 z71 z72
      z73 z74 bank P add1 c1 c2 c3 z75 z76 z77 z78 z79 z80 z81 z82 z83 n10 z84 z85 gl add2 ops nop hok R hcl ds tl z86 z87 z88 z89 ng a1 a2 a3 a4 n1 n2 n3
      n4 k1 k2 k3 k4 k5 k6 k7 k8 k9 k10 k11 k12 z90 z91 D12 z92 z93 hS0 hcl60 z94 vs ns nn z95 z96 z97 z98 hTm hvl z99 z100 z101 z102 z103 z104 clo ld z105
      z106 add hlol hcd hcf z107 z108 z109 z110 z111 z112 z113 z114 z115 z116 z117 z118 R2 m1 al el m2 m4 m3 m5 z119 m6 z120 dl dl' z121 z122 z123 z124 z125
      z126 z127 r tr so' z128 hr0 hr1 z129 hrs hrn z130 z131 z132 z133 z134 z135 z136 z137 va pa na z138 z139 z140 z141 z142 R3 hal3 hA hD1 hD2 hD3 z143 hTc
      hBk hG0 hgt hgm hlo hC hTL htl3 hps hpl k0 hS₁ hk1 z144 z145 z146 F9 N9 qk ek n9 h9 tk9 z147 r8 tr8 so8 z148 hq0 hq1 hS₂ hrs8 hrn8 z149 z150 z151 z152
      z153 z154 z155 z156 z157 so co kvs c ve es ne b tu u h tk hS₃ hd₁ hf₁ hI hp₁ hl₁ hm₁ hw₁ ho₁ hap' F' N'
    exact hNext7.out⟩

end
section
noncomputable def stage5 : {P : Prop // StopAt P → stage4.val.1} := ⟨_, fun hNext6 => by
  intro x0
  revert x0
  k_fill
  intros _ _ _ _ _ _ _ _ _ _ _ _ _ _ _ _ _ _ _ _ _ _ _ _ _ _ _ _ _ _ _ _ _ _ _ _ _ _ _ _ _ _ _ _ _ _ _ _ _ _ _ _ _ _ _ _ _ _ _ _ _ _ _ ys hcells _ _ _ _
    _ _ hsk _ _ _ _ _ bank P add1 c1 c2 c3 _ _ _ _ _ _ _ _ _ n10 _ _ gl add2 ops nop hok R hcl ds tl _ _ _ _ ng a1 a2 a3 a4 n1 n2 n3 n4 k1 k2 k3 k4 k5 k6
    k7 k8 k9 k10 k11 k12 _ _ D12 _ _ hS0 hcl60 _ vs ns nn _ _ _ _ hTm _ _ _ _ _ _ _ clo ld _ _ add hlol hcd hcf _ _ _ _ _ _ _ _ _ _ _ _ R2 m1 al el m2 m4
    m3 m5 m6 dl dl' _ _ _ _ _ _ r tr so' hr0 hr1 _ hrs hrn _ _ _ _ _ _ _ _ va pa na _ _ _ _ _ R3 hal3 hA hD1 hD2 hD3 _ hBk hG0 hgm hlo hC hTL htl3 hps hpl
    k0 hS₁ hk1 _ _ _ _ _ _ _ _ r8 tr8 so8 hq0 hq1 hS₂ hrs8 hrn8 _ _ _ _ _ _ _ _ _ i t so co kvs c ve es ne b tu rest' u h _ hi hsub hap' hS₃ hd₁ hf₁ hI
    hp₁ hl₁ hm₁ hw₁ ho₁ F' hap1 hap2 hap3 hvl Tq N' hT hsT hpT hT1 hT2 hT3 hTc hgm' hgt _ _ _ _ _ r1 tr1 so1 hr2 hr3 hS₄ ga gx gy gz gt1 gt2 gt3 gn hgi
    hgs hgam _ _ _ _ _ _ _ r2 tr2 so2 hr4 hr5 hS₅ x1 tx1 hx1 hx2 _ _ n9 h9 tk9 r3 tr3 so3 hr6 hr7 hS₆ y1 ty1 hy1 hy2 qk ek _ _ _ _ _ _ _ N9 tk hgg hxm hym
    dclo j1 j2 j3 i1 i2 i3 nC hCm hDm
  w_on
  w_strict k_steps
  unfold MyCall
  rename News _ _ _ _ => N9
  replace N9 := kst_newsOf (l' := (ld, co) :: (ds, so3) :: (el, W.listOf (List.toArray ve) ne) :: Tq) N9 (by
    intro p hp
    simp only [List.mem_cons] at hp ⊢
    rcases hp with h | h | h | h <;> simp [h])
  refine Does.use (join_c (rest := (ds, so3) :: (el, W.listOf (List.toArray ve) ne) :: Tq) (a := x1) (b := y1) (hC.mono fun p hp => .tail _ (.tail _ (hsT p hp))) (hTL.mono fun p hp => .tail _ (.tail _ (hsT p hp))) hlol hd₁ hf₁ (List.forall_mem_cons.mpr ⟨m1, List.forall_mem_cons.mpr ⟨Ne.symm m5, hT2⟩⟩) (hI.has hxm) (hI.has hym) (fun t ht => hI.has ht) (by rw [hI.len]; have := hTm.len; omega)) (by k_asm) (by k_asm) (by k_asm) (by k_asm) (by k_asm) (by first | exact rfl | assumption) (by ktr_room) (by ktr_units) ?_
  intro v9 n9 h9 tk9 hp9 F9 N9
  obtain ⟨e1, co', kvs', e2, hd₂, hf₂⟩ := hp9
  subst e1
  rw [e2] at N9
  clear e2
  replace N9 := kst_newsOf (l' := (ds, so3) :: (ld, co') :: (el, W.listOf (List.toArray ve) ne) :: Tq) N9 (by
    intro p hp
    simp only [List.mem_cons] at hp ⊢
    rcases hp with h | h | h | h <;> simp [h])
  have hI₂ := hI.join hxm hym hgg.2.2
  obtain ⟨c₂, hc₂⟩ : ∃ c₂, c₂ = joinC c ns x1 y1 := ⟨_, rfl⟩
  rw [← hc₂] at hf₂ hI₂
  (try dsimp only)
  (try k_fold)
  w_strict k_steps
  unfold MyCall
  refine Does.use (led_to_c (es := es) ⟨ve, ne, .tail _ (.tail _ (.head _)), hpT.mono fun p hp => .tail _ (.tail _ (.tail _ hp))⟩ (by omega)) (by k_asm) (by k_asm) (by k_asm) (by k_asm) (by k_asm) (by first | exact rfl | assumption) (by ktr_room) (by ktr_units) ?_
  intro v9 n9 h9 tk9 hp9 F9 N9
  obtain ⟨fl, vf, fs, nf, e1, e2, hfi, hfc, hfl⟩ := hp9
  subst e1
  rw [e2] at N9
  clear e2
  have hkey : decide (kdfLook c x1 0 = kdfLook c y1 0) = decide (y1 ∈ fs) := decide_eq_decide.mpr ((hI.look _ hxm _ hym).trans (hfc y1).symm)
  have hfe := ltN (hfl _ (.tail _ (.tail _ (.head _))))
  (try dsimp only)
  (try k_fold)
  w_strict k_steps
  rename_i z1 z2 z3 z4 z5 z6 z7 z8 z9 z10 z11 z12 z13 z14 z15 z16 z17 z18 z19 z20 z21 z22 z23 z24 z25 z26 z27 z28 z29 z30 z31 z32 z33 z34 z35 z36 z37
    z38 z39 z40 z41 z42 z43 z44 z45 z46 z47 z48 z49 z50 z51 z52 z53 z54 z55 z56 z57 z58 z59 z60 z61 z62 z63 z64 z65 z66 z67 z68 z69 z70 z71 z72 z73 z74
    z75 z76 z77 z78 z79 z80 z81 z82 z83 z84 z85 z86 z87 z88 z89 z90 z91 z92 z93 z94 z95 z96 z97 z98 z99 z100 z101 z102 z103 z104 z105 z106 z107 z108 z109
    z110 z111 z112 z113 z114 z115 z116 z117 z118 z119 z120 z121 z122 z123 z124 z125 z126 z127 z128 z129 z130 z131 z132 z133 z134 z135 z136 z137 z138 z139
    z140 z141 z142 z143 z144 z145 z146 z147 z148 z149 z150 z151 z152 z153 z154 z155 z156 z157 z158 z159 z160 z161 z162 z163 z164 z165 z166 z167 z168 z169
    z170 z171 z172 z173 z174 z175 z176 z177 z178 z179 z180 z181 z182 z183 z184 z185 z186 z187 z188 z189 z190 z191 z192 z193
  revert z1 z2 z3 z4 z5 z6 z7 z8 z9 z10 z11 z12 z13 z14 z15 z16 z17 z18 z19 z20 z21 z22 z23 z24 z25 z26 z27 z28 z29 z30 z31 z32 z33 z34 z35 z36 z37 z38
    z39 z40 z41 z42 z43 z44 z45 z46 z47 z48 z49 z50 z51 z52 z53 z54 z55 z56 z57 z58 z59 z60 z61 z62 z63 ys hcells z64 z65 z66 z67 z68 z69 hsk z70 z71 z72
    z73 z74 bank P add1 c1 c2 c3 z75 z76 z77 z78 z79 z80 z81 z82 z83 n10 z84 z85 gl add2 ops nop hok R hcl ds tl z86 z87 z88 z89 ng a1 a2 a3 a4 n1 n2 n3
    n4 k1 k2 k3 k4 k5 k6 k7 k8 k9 k10 k11 k12 z90 z91 D12 z92 z93 hS0 hcl60 z94 vs ns nn z95 z96 z97 z98 hTm z99 z100 z101 z102 z103 z104 z105 clo ld z106
    z107 add hlol hcd hcf z108 z109 z110 z111 z112 z113 z114 z115 z116 z117 z118 z119 R2 m1 al el m2 m4 m3 m5 m6 dl dl' z120 z121 z122 z123 z124 z125 r tr
    so' hr0 hr1 z126 hrs hrn z127 z128 z129 z130 z131 z132 z133 z134 va pa na z135 z136 z137 z138 z139 R3 hal3 hA hD1 hD2 hD3 z140 hBk hG0 hgm hlo hC hTL
    htl3 hps hpl k0 hS₁ hk1 z141 z142 z143 z144 z145 z146 z147 z148 r8 tr8 so8 hq0 hq1 hS₂ hrs8 hrn8 z149 z150 z151 z152 z153 z154 z155 z156 z157 i t so
    co kvs c ve es ne b tu rest' u h z158 hi hsub hap' hS₃ hd₁ hf₁ hI hp₁ hl₁ hm₁ hw₁ ho₁ F' hap1 hap2 hap3 hvl Tq N' hT hsT hpT hT1 hT2 hT3 hTc hgm' hgt
    z159 z160 z161 z162 z163 r1 tr1 so1 hr2 hr3 hS₄ ga gx gy gz gt1 gt2 gt3 gn hgi hgs hgam z164 z165 z166 z167 z168 z169 z170 r2 tr2 so2 hr4 hr5 hS₅ x1
    tx1 hx1 hx2 z171 z172 z173 z174 z175 r3 tr3 so3 hr6 hr7 hS₆ y1 ty1 hy1 hy2 qk ek z176 z177 z178 z179 z180 z181 tk hgg hxm hym dclo j1 j2 j3 i1 i2 i3
    nC hCm hDm z182 z183 z184 co' kvs' hd₂ c₂ hI₂ hf₂ hc₂ n9 h9 tk9 fl vf fs nf hfi hfc hfl hkey hfe z185 z186 z187 z188 z189 z190 z191 z192 z193
  exact hNext6.out⟩

end
section
theorem seg6 : stage5.val := by
  intro x0
  revert x0
  k_fill
  intros _ _ _ _ _ _ _ _ _ _ _ _ _ _ _ _ _ _ _ _ _ _ _ _ _ _ _ _ _ _ _ _ _ _ _ _ _ _ _ _ _ _ _ _ _ _ _ _ _ _ _ _ _ _ _ _ _ _ _ _ _ _ _ ys hcells _ _ _ _
    _ _ hsk _ _ _ _ _ bank P add1 c1 c2 c3 _ _ _ _ _ _ _ _ _ n10 _ _ gl add2 ops nop hok R hcl ds tl _ _ _ _ ng a1 a2 a3 a4 n1 n2 n3 n4 k1 k2 k3 k4 k5 k6
    k7 k8 k9 k10 k11 k12 _ _ D12 _ _ hS0 hcl60 _ vs ns nn _ _ _ _ hTm _ _ _ _ _ _ _ clo ld _ _ add hlol hcd hcf _ _ _ _ _ _ _ _ _ _ _ _ R2 m1 al el m2 m4
    m3 m5 m6 dl dl' _ _ _ _ _ _ r tr so' hr0 hr1 _ hrs hrn _ _ _ _ _ _ _ _ va pa na _ _ _ _ _ R3 hal3 hA hD1 hD2 hD3 _ hBk hG0 hgm hlo hC hTL htl3 hps hpl
    k0 hS₁ hk1 _ _ _ _ _ _ _ _ r8 tr8 so8 hq0 hq1 hS₂ hrs8 hrn8 _ _ _ _ _ _ _ _ _ i t so co kvs c ve es ne b tu rest' u h _ hi hsub hap' hS₃ hd₁ hf₁ hI
    hp₁ hl₁ hm₁ hw₁ ho₁ F' hap1 hap2 hap3 hvl Tq N' hT hsT hpT hT1 hT2 hT3 hTc hgm' hgt _ _ _ _ _ r1 tr1 so1 hr2 hr3 hS₄ ga gx gy gz gt1 gt2 gt3 gn hgi
    hgs hgam _ _ _ _ _ _ _ r2 tr2 so2 hr4 hr5 hS₅ x1 tx1 hx1 hx2 _ _ _ _ _ r3 tr3 so3 hr6 hr7 hS₆ y1 ty1 hy1 hy2 qk ek _ _ _ _ _ _ tk hgg hxm hym dclo j1
    j2 j3 i1 i2 i3 nC hCm hDm _ _ _ co' kvs' hd₂ c₂ hI₂ hf₂ hc₂ n9 h9 tk9 fl vf fs nf hfi hfc hfl hkey hfe _ _ _ _ _ _ _ _ _
  w_on
  unfold MyCall
  rename _ < _ ∧ _ < _ ∧ _ < _ ∧ _ < _ ∧ AllLt _ Tq => l9
  rename News _ _ _ _ => N9
  obtain ⟨f0, D9, ea, eb, -⟩ := name2 (neA (Nat.ne_of_lt (ltN l9.1)))
  subst ea eb
  replace N9 := kst_newsOf (l' := (ds, so3) :: (ld, co') :: (el, W.listOf (List.toArray (ve ++ [.ref D9])) (ne + 1)) :: (D9, { cls := .type "tuple", data := .seq #[.int x1 tx1, .int y1 ty1] }) :: Tq) N9 (by
    intro p hp
    simp only [List.mem_cons] at hp ⊢
    rcases hp with h | h | h | h | h <;> simp [h])
  have hpT₂ : PairsAre ((D9, { cls := .type "tuple", data := .seq #[.int x1 tx1, .int y1 ty1] }) :: Tq) (ve ++ [.ref D9]) (es ++ [(x1, y1)]) := (hpT.mono fun p hp => .tail _ hp).append (.cons (.head _) .nil)
  have hs4 : ∀ p ∈ Tq, p ∈ (ds, so3) :: (ld, co') :: (el, W.listOf (List.toArray (ve ++ [.ref D9])) (ne + 1)) :: (D9, { cls := .type "tuple", data := .seq #[.int x1 tx1, .int y1 ty1] }) :: Tq := fun p hp => .tail _ (.tail _ (.tail _ (.tail _ hp)))
  refine Does.use (right_c (c := c₂) (es := es ++ [(x1, y1)]) (ps := pa) (hC.mono fun p hp => hs4 p (hsT p hp)) (hTL.mono fun p hp => hs4 p (hsT p hp)) (hBk.mono fun p hp => hs4 p (hsT p hp)) (hs4 _ (hsT _ hlo)) hok ⟨hlol, co', _, .tail _ (.head _), hd₂, hf₂⟩ ⟨_, _, .tail _ (.tail _ (.head _)), hpT₂.mono fun p hp => .tail _ (.tail _ (.tail _ hp))⟩ (hG0.mono fun p hp => hs4 p (hsT p hp)) (hA.mono fun p hp => hs4 p (hsT p hp)) hI₂ hTm hps (by rw [List.length_append]; show es.length + 1 ≤ 20; omega) hpl) (by k_asm) (by k_asm) (by k_asm) (by k_asm) (by k_asm) (by first | exact rfl | assumption) (by ktr_room) (by ktr_units) ?_
  intro v9 n9 h9 tk9 hp9 F9 N9
  obtain ⟨rfl, e2⟩ := hp9
  rw [e2] at N9
  clear e2
  have hE1 : ∀ X : LD, (∀ p ∈ (ds, so3) :: (ld, co') :: (el, W.listOf (List.toArray (ve ++ [.ref D9])) (ne + 1)) :: (D9, { cls := .type "tuple", data := .seq #[.int x1 tx1, .int y1 ty1] }) :: Tq, p ∈ X) → ∀ p ∈ ((ds, so3) :: (ld, co') :: (el, W.listOf (List.toArray (ve ++ [.ref D9])) (ne + 1)) :: (D9, { cls := .type "tuple", data := .seq #[.int x1 tx1, .int y1 ty1] }) :: tu) ++ rest', p ∈ X := by
    intro X hX p hp
    refine hX p ?_
    rw [hT]
    exact hp
  have hE2 : Apart ((ds, so3) :: (ld, co') :: (el, W.listOf (List.toArray (ve ++ [.ref D9])) (ne + 1)) :: (D9, { cls := .type "tuple", data := .seq #[.int x1 tx1, .int y1 ty1] }) :: tu) rest' := by
    intro p hp q hq
    have hq9 : q ∈ Tq := by rw [hT]; exact List.mem_append.mpr (.inr hq)
    simp only [List.mem_cons] at hp
    rcases hp with rfl | rfl | rfl | rfl | hp
    · exact hap1 q hq
    · exact hap2 q hq
    · exact hap3 q hq
    · exact Nat.ne_of_lt (pr_of l9.2.2.2.2 q hq9)
    · exact hap' p (.tail _ (.tail _ (.tail _ hp))) q hq
  have e3 : (k0 + 1 + 3 * (i : Int) + 1 + 1 + 1) = k0 + 1 + 3 * ((i + 1 : Nat) : Int) := by omega
  rw [e3] at hS₆
  have hL2 : (es ++ [(x1, y1)]).length = i + 1 := by rw [List.length_append, hl₁]; rfl
  have hM2 : ∀ p ∈ es ++ [(x1, y1)], p.1 ∈ ns ∧ p.2 ∈ ns := by
    intro p hp
    rcases List.mem_append.mp hp with hp | hp
    · exact hm₁ p hp
    · rw [List.mem_singleton.mp hp]; exact ⟨hxm, hym⟩
  have hO2 : ∀ p ∈ (D9, ({ cls := .type "tuple", data := .seq #[.int x1 tx1, .int y1 ty1] } : Obj)) :: tu, p.1 ≠ ds ∧ p.1 ≠ ld ∧ p.1 ≠ el :=
    List.forall_mem_cons.mpr ⟨⟨(Nat.ne_of_lt (ltN l9.2.1)).symm, (Nat.ne_of_lt (ltN l9.2.2.1)).symm, (Nat.ne_of_lt (ltN l9.2.2.2.1)).symm⟩, ho₁⟩
  have hP2 : PairsAre ((D9, { cls := .type "tuple", data := .seq #[.int x1 tx1, .int y1 ty1] }) :: tu) (ve ++ [.ref D9]) (es ++ [(x1, y1)]) := (hp₁.mono fun p hp => .tail _ hp).append (.cons (.head _) .nil)
  have hw₂ : b = true → clashOf c₂ ns [] = true := fun h => clash_mono hI hTm hI₂ (fun p hp => List.mem_append.mpr (.inl hp)) (hw₁ ▸ h)
  (try dsimp only)
  (try k_fold)
  w_strict k_steps
  · unfold MyCall
    refine Does.use (hclash_c (c := c₂) (es := es ++ [(x1, y1)]) (ps := []) (hC.mono fun p hp => .tail _ (hs4 p (hsT p hp))) (hTL.mono fun p hp => .tail _ (hs4 p (hsT p hp))) (hBk.mono fun p hp => .tail _ (hs4 p (hsT p hp))) (.tail _ (hs4 _ (hsT _ hlo))) hok ⟨hlol, co', _, .tail _ (.tail _ (.head _)), hd₂, hf₂⟩ ⟨_, _, .head _, .nil⟩ hI₂ hTm (fun p hp => absurd hp List.not_mem_nil)) (by k_asm) (by k_asm) (by k_asm) (by k_asm) (by k_asm) (by first | exact rfl | assumption) (by ktr_room) (by ktr_units) ?_
    intro v9 n9 h9 tk9 hp9 F9 N9
    obtain ⟨e1, e2⟩ := hp9
    rw [hw₂ (by assumption)] at e1
    subst e1
    rw [e2] at N9
    clear e2
    (try dsimp only)
    (try k_fold)
    w_strict k_steps
    unfold MyCall
    refine Does.use (hclash_c (c := c₂) (es := es ++ [(x1, y1)]) (ps := []) (hC.mono fun p hp => .tail _ (.tail _ (hs4 p (hsT p hp)))) (hTL.mono fun p hp => .tail _ (.tail _ (hs4 p (hsT p hp)))) (hBk.mono fun p hp => .tail _ (.tail _ (hs4 p (hsT p hp)))) (.tail _ (.tail _ (hs4 _ (hsT _ hlo)))) hok ⟨hlol, co', _, .tail _ (.tail _ (.tail _ (.head _))), hd₂, hf₂⟩ ⟨_, _, .head _, .nil⟩ hI₂ hTm (fun p hp => absurd hp List.not_mem_nil)) (by k_asm) (by k_asm) (by k_asm) (by k_asm) (by k_asm) (by first | exact rfl | assumption) (by ktr_room) (by ktr_units) ?_
    intro v9 n9 h9 tk9 hp9 F9 N9
    obtain ⟨e1, e2⟩ := hp9
    subst e1
    rw [e2] at N9
    clear e2
    (try dsimp only)
    (try k_fold)
    w_strict k_steps
    rename Fr _ _ _ _ => F8
    rename News _ _ _ _ => N8
    refine my_end ⟨so3, co', kvs', c₂, ve ++ [.ref D9], es ++ [(x1, y1)], ne + 1, clashOf c₂ ns [], (D9, { cls := .type "tuple", data := .seq #[.int x1 tx1, .int y1 ty1] }) :: tu⟩ F8 N8 (hE1 _ fun p hp => .tail _ (.tail _ (hp))) hE2 (FrmOk.put (FrmOk.set rfl rfl (FrmOk.set rfl rfl (FrmOk.set rfl rfl (FrmOk.set rfl rfl frmOk1))))) ⟨hS₆, hd₂, hf₂, hI₂, hP2, hL2, hM2, rfl, hO2⟩
  · unfold MyCall
    refine Does.use (hclash_c (c := c₂) (es := es ++ [(x1, y1)]) (ps := []) (hC.mono fun p hp => .tail _ (hs4 p (hsT p hp))) (hTL.mono fun p hp => .tail _ (hs4 p (hsT p hp))) (hBk.mono fun p hp => .tail _ (hs4 p (hsT p hp))) (.tail _ (hs4 _ (hsT _ hlo))) hok ⟨hlol, co', _, .tail _ (.tail _ (.head _)), hd₂, hf₂⟩ ⟨_, _, .head _, .nil⟩ hI₂ hTm (fun p hp => absurd hp List.not_mem_nil)) (by k_asm) (by k_asm) (by k_asm) (by k_asm) (by k_asm) (by first | exact rfl | assumption) (by ktr_room) (by ktr_units) ?_
    intro v9 n9 h9 tk9 hp9 F9 N9
    obtain ⟨e1, e2⟩ := hp9
    subst e1
    rw [e2] at N9
    clear e2
    (try dsimp only)
    (try k_fold)
    w_strict k_steps
    rename Fr _ _ _ _ => F8
    rename News _ _ _ _ => N8
    refine my_end ⟨so3, co', kvs', c₂, ve ++ [.ref D9], es ++ [(x1, y1)], ne + 1, clashOf c₂ ns [], (D9, { cls := .type "tuple", data := .seq #[.int x1 tx1, .int y1 ty1] }) :: tu⟩ F8 N8 (hE1 _ fun p hp => .tail _ (hp)) hE2 (FrmOk.put (FrmOk.set rfl rfl (FrmOk.set rfl rfl (FrmOk.set rfl rfl (FrmOk.set rfl rfl frmOk1))))) ⟨hS₆, hd₂, hf₂, hI₂, hP2, hL2, hM2, rfl, hO2⟩

end
section
noncomputable def stage7 : {P : Prop // StopAt P → stage4.val.2} := ⟨_, fun hNext8 => by
  intro x0
  revert x0
  k_fill
  intros _ _ _ _ _ _ _ _ _ _ _ _ _ _ _ _ _ _ _ _ _ _ _ _ _ _ _ _ _ _ _ _ _ _ _ _ _ _ _ _ _ _ _ _ _ _ _ _ _ _ _ _ _ _ _ _ _ _ _ _ _ _ _ ys hcells _ _ _ _
    _ _ hsk _ _ _ _ _ bank P add1 c1 c2 c3 _ _ _ _ _ _ _ _ _ n10 _ _ gl add2 ops nop hok R hcl ds tl _ _ _ _ ng a1 a2 a3 a4 n1 n2 n3 n4 k1 k2 k3 k4 k5 k6
    k7 k8 k9 k10 k11 k12 _ _ D12 _ _ hS0 hcl60 _ vs ns nn _ _ _ _ hTm hvl _ _ _ _ _ _ clo ld _ _ add hlol hcd hcf _ _ _ _ _ _ _ _ _ _ _ _ R2 m1 al el m2
    m4 m3 m5 _ m6 _ dl dl' _ _ _ _ _ _ _ r tr so' _ hr0 hr1 _ hrs hrn _ _ _ _ _ _ _ _ va pa na _ _ _ _ _ R3 hal3 hA hD1 hD2 hD3 _ hTc hBk hG0 hgt hgm hlo
    hC hTL htl3 hps hpl k0 hS₁ hk1 _ _ _ F9 N9 qk ek n9 h9 tk9 _ r8 tr8 so8 _ hq0 hq1 hS₂ hrs8 hrn8 _ _ _ _ _ _ _ _ _ so co kvs c ve es ne b tu u h tk hS₃
    hd₁ hf₁ hI hp₁ hl₁ hm₁ hw₁ ho₁ hap' F' N'
  w_on
  have hvl : ve.length ≤ 1000 := by rw [hp₁.length]; omega
  have hvt : vs.length ≤ 1000 := by omega
  obtain ⟨R4, hR4⟩ : ∃ R4, R4 = tu ++ R3 := ⟨_, rfl⟩
  have hs5 : ∀ p ∈ R3, p ∈ R4 := fun p hp => by rw [hR4]; exact List.mem_append.mpr (.inr hp)
  have hpT : PairsAre R4 ve es := hp₁.mono fun p hp => by rw [hR4]; exact List.mem_append.mpr (.inl hp)
  replace N' : News _ _ _ ((ds, so) :: (ld, co) :: (el, W.listOf (List.toArray ve) ne) :: (tu ++ R3)) := N'
  rw [← hR4] at N'
  have htl4 := hs5 _ htl3
  replace hBk := hBk.mono hs5
  replace hlo := hs5 _ hlo
  replace hC := hC.mono hs5
  replace hTL := hTL.mono hs5
  replace hA := hA.mono hs5
  clear htl3 hG0 hgt hgm hTc hap' hR4 hs5 ho₁ hp₁ hS₃
  w_strict k_steps
  unfold MyCall
  rename IntsAre vs ns => hi₁
  rename _ < _ ∧ _ < _ ∧ _ < _ ∧ AllLt _ R4 => l9
  obtain ⟨ds0, D9, ea, eb, -⟩ := name2 (neA (Nat.ne_of_lt (ltN l9.1)))
  subst ea eb
  refine Does.use (init_c (ns := ns.reverse) ⟨vs.reverse, 0, .head _, ints_rev hi₁⟩ hTm.rev.nodup hTm.rev.len) (by k_asm) (by k_asm) (by k_asm) (by k_asm) (by k_asm) (by first | exact rfl | assumption) (by ktr_room) (by ktr_units) ?_
  intro v9 n9 h9 tk9 hp9 F9 N9
  obtain ⟨clo2, ld2, co2, kvs2, add2, e1, e2, hC2, hlol2, hcd2, hcf2, hld2, hadd2⟩ := hp9
  subst e1
  rw [e2] at N9
  clear e2
  obtain ⟨R5, hR5⟩ : ∃ R5, R5 = add2 ++ (D9, W.listOf (List.toArray vs.reverse) 0) :: (ds0, so) :: (ld, co) :: (el, W.listOf (List.toArray ve) ne) :: R4 := ⟨_, rfl⟩
  rw [← hR5] at N9 hld2
  have hs6 : ∀ p ∈ (D9, W.listOf (List.toArray vs.reverse) 0) :: (ds0, so) :: (ld, co) :: (el, W.listOf (List.toArray ve) ne) :: R4, p ∈ R5 := fun p hp => by rw [hR5]; exact List.mem_append.mpr (.inr hp)
  replace hC2 := hC2.mono (fun p hp => show p ∈ R5 by rw [hR5]; exact List.mem_append.mpr (.inl hp))
  have hTL2 : IntL R5 D9 ns.reverse := ⟨vs.reverse, 0, hs6 _ (.head _), ints_rev hi₁⟩
  have hel5 : (el, W.listOf (List.toArray ve) ne) ∈ R5 := hs6 _ (.tail _ (.tail _ (.tail _ (.head _))))
  have hL5 : IntD _ R5 ld c := ⟨hlol, co, _, hs6 _ (.tail _ (.tail _ (.head _))), hd₁, hf₁⟩
  have hs7 : ∀ p ∈ R4, p ∈ R5 := fun p hp => hs6 p (.tail _ (.tail _ (.tail _ (.tail _ hp))))
  replace hpT := hpT.mono hs7
  replace hBk := hBk.mono hs7
  replace hlo := hs7 _ hlo
  replace hC := hC.mono hs7
  replace hTL := hTL.mono hs7
  replace hA := hA.mono hs7
  clear hadd2 hR5 hs6 hs7 hd₁ hf₁ l9
  (try dsimp only)
  (try k_fold)
  w_strict k_steps
  rename_i z1 z2 z3 z4 z5 z6 z7 z8 z9 z10 z11 z12 z13 z14 z15 z16 z17 z18 z19 z20 z21 z22 z23 z24 z25 z26 z27 z28 z29 z30 z31 z32 z33 z34 z35 z36 z37
    z38 z39 z40 z41 z42 z43 z44 z45 z46 z47 z48 z49 z50 z51 z52 z53 z54 z55 z56 z57 z58 z59 z60 z61 z62 z63 z64 z65 z66 z67 z68 z69 z70 z71 z72 z73 z74
    z75 z76 z77 z78 z79 z80 z81 z82 z83 z84 z85 z86 z87 z88 z89 z90 z91 z92 z93 z94 z95 z96 z97 z98 z99 z100 z101 z102 z103 z104 z105 z106 z107 z108 z109
    z110 z111 z112 z113 z114 z115 z116 z117 z118 z119 z120 z121 z122 z123 z124 z125 z126 z127 z128 z129 z130 z131 z132 z133 z134 z135 z136 z137 z138 z139
    z140 z141 z142 z143 z144 z145 z146 z147 z148 z149 z150 z151 z152 z153 z154 z155 z156 z157 z158 z159 z160 z161 z162 z163 z164 z165 z166 z167
  revert z1 z2 z3 z4 z5 z6 z7 z8 z9 z10 z11 z12 z13 z14 z15 z16 z17 z18 z19 z20 z21 z22 z23 z24 z25 z26 z27 z28 z29 z30 z31 z32 z33 z34 z35 z36 z37 z38
    z39 z40 z41 z42 z43 z44 z45 z46 z47 z48 z49 z50 z51 z52 z53 z54 z55 z56 z57 z58 z59 z60 z61 z62 z63 ys hcells z64 z65 z66 z67 z68 z69 hsk z70 z71 z72
    z73 z74 bank P add1 c1 c2 c3 z75 z76 z77 z78 z79 z80 z81 z82 z83 n10 z84 z85 gl z86 ops nop hok R hcl tl ng a1 a2 a3 a4 n1 n2 n3 n4 k1 k2 k3 k4 k5 k6
    k7 k8 k9 k10 k11 k12 z87 z88 D12 z89 z90 hS0 hcl60 z91 vs ns nn z92 z93 z94 hi₁ hTm z95 z96 z97 z98 z99 z100 clo ld z101 z102 add hlol hcd hcf z103
    z104 z105 z106 z107 z108 z109 z110 z111 z112 z113 z114 R2 al el m4 m5 m6 dl dl' z115 z116 z117 z118 r tr so' hr0 hr1 z119 hrs hrn z120 z121 z122 z123
    z124 z125 z126 z127 va pa na z128 z129 z130 z131 R3 hal3 hD2 hD3 hps hpl k0 hS₁ hk1 z132 z133 z134 qk ek z135 z136 z137 r8 tr8 so8 hq0 hq1 hS₂ hrs8
    hrn8 z138 z139 z140 z141 z142 z143 z144 z145 z146 so co kvs c ve es ne b tu u h z147 hI hl₁ hm₁ hw₁ hvl hvt R4 htl4 z148 ds0 D9 z149 z150 z151 z152
    z153 m1 m2 m3 z154 z155 z156 hD1 z157 F' N' z158 z159 n9 h9 tk9 clo2 ld2 co2 kvs2 add2 hlol2 hcd2 hcf2 R5 hld2 hC2 hTL2 hel5 hL5 hpT hBk hlo hC hTL hA
    z160 z161 z162 tk z163 z164 z165 z166 z167
  exact hNext8.out⟩

end
section
noncomputable def stage8 : {P : Prop // StopAt P → stage7.val} := ⟨_, fun hNext9 => by
  intro x0
  revert x0
  k_fill
  intros _ _ _ _ _ _ _ _ _ _ _ _ _ _ _ _ _ _ _ _ _ _ _ _ _ _ _ _ _ _ _ _ _ _ _ _ _ _ _ _ _ _ _ _ _ _ _ _ _ _ _ _ _ _ _ _ _ _ _ _ _ _ _ ys hcells _ _ _ _
    _ _ hsk _ _ _ _ _ bank P add1 c1 c2 c3 _ _ _ _ _ _ _ _ _ n10 _ _ gl _ ops nop hok R hcl tl ng a1 a2 a3 a4 n1 n2 n3 n4 k1 k2 k3 k4 k5 k6 k7 k8 k9 k10
    k11 k12 _ _ D12 _ _ hS0 hcl60 _ vs ns nn _ _ _ hi₁ hTm _ _ _ _ _ _ clo ld _ _ add hlol hcd hcf _ _ _ _ _ _ _ _ _ _ _ _ R2 al el m4 m5 m6 dl dl' _ _ _
    _ r tr so' hr0 hr1 _ hrs hrn _ _ _ _ _ _ _ _ va pa na _ _ _ _ R3 hal3 hD2 hD3 hps hpl k0 hS₁ hk1 _ _ _ qk ek _ _ _ r8 tr8 so8 hq0 hq1 hS₂ hrs8 hrn8 _
    _ _ _ _ _ _ _ _ so co kvs c ve es ne b tu u h _ hI hl₁ hm₁ hw₁ hvl hvt R4 htl4 _ ds0 D9 _ _ _ _ _ m1 m2 m3 _ _ _ hD1 _ F' N' _ _ n9 h9 tk9 clo2 ld2
    co2 kvs2 add2 hlol2 hcd2 hcf2 R5 hld2 hC2 hTL2 hel5 hL5 hpT hBk hlo hC hTL hA _ _ _ tk _ _ _ _ _
  w_on
  (rename Fr _ _ _ _ => lF); (rename News _ _ _ _ => lN)
  rename _ < _ ∧ AllLt _ R5 => l9
  obtain ⟨ld3, E9, ea, eb, -⟩ := name2 (neA (Nat.ne_of_lt (ltN l9.1)))
  subst ea eb
  refine my_list (Led := fun q : Obj × List (Int × Value) × List (Int × Int) => [(ld3, q.1)]) (ps := fun _ => []) (stored := [Str.ofString "one", Str.ofString "other"])
    (P := fun i q => q.1.IsDictOf (PySem.intKind PySem.Challenge.rw_qz0019_01.row.prog _) q.2.1 ∧ FlatPairs PyData.int q.2.1 (kdfD q.2.2) ∧ CInv ns.reverse q.2.2 ((es.reverse.take i).map swap2))
    ((E9, W.listOf (List.toArray ve.reverse) 0) :: R5) (co2, kvs2, idC ns.reverse) (.head _) lF lN ?_ ?_ (fun _ h => nomatch h) ⟨hcd2, hcf2, CInv.init _⟩ ?_ ?_
  · intro p hp
    simp only [List.cons_append, List.nil_append, List.mem_cons] at hp ⊢
    rcases hp with h | h | h <;> simp [h]
  · intro p hp q hq
    rw [List.mem_singleton.mp hp]
    rcases List.mem_cons.mp hq with rfl | hq
    · exact (Nat.ne_of_lt (ltN l9.1)).symm
    · exact Nat.ne_of_lt (hld2 q hq)
  · clear lF lN
    rintro i v ⟨o3, kvs3, c3⟩ rest' u h tk hv hsub hap' ⟨hd₃, hf₃, hI₃⟩ F' N'
    dsimp only at hd₃ hf₃ hI₃
    obtain ⟨a9, x, y, tx, ty, n9, hpi, rfl, hqm⟩ := hpT.rev.get hv
    have hxy := hm₁ _ (List.mem_reverse.mp (List.mem_of_getElem? hpi))
    have hg9 := hI.grp _ (List.mem_reverse.mp (List.mem_of_getElem? hpi))
    have hs8 : ∀ p ∈ R5, p ∈ rest' := fun p hp => hsub p (.tail _ hp)
    replace hqm := hs8 _ hqm
    have hap1 : ∀ p ∈ rest', p.1 ≠ ld3 := fun p hp => hap' _ (.head _) p hp
    replace N' : News _ _ _ ((ld3, o3) :: rest') := N'
    replace hC2 := hC2.mono hs8
    replace hTL2 := hTL2.mono hs8
    have hC3 := hC2
    obtain ⟨dclo, j1, j2, j3, i1, i2, i3, nC, hCm, hDm⟩ := hC3
    w_strict k_steps
    unfold MyCall
    refine Does.use (join_c (rest := rest') (a := y) (b := x) hC2 hTL2 hlol2 hd₃ hf₃ hap1 (hI₃.has (List.mem_reverse.mpr hxy.2)) (hI₃.has (List.mem_reverse.mpr hxy.1)) (fun t ht => hI₃.has ht) (by rw [hI₃.len]; have := hTm.rev.len; omega)) (by k_asm) (by k_asm) (by k_asm) (by k_asm) (by k_asm) (by first | exact rfl | assumption) (by ktr_room) (by ktr_units) ?_
    intro v9 n9 h9 tk9 hp9 F9 N9
    obtain ⟨e1, o4, kvs4, e2, hd₄, hf₄⟩ := hp9
    subst e1
    rw [e2] at N9
    clear e2
    have hI₄ := hI₃.join (List.mem_reverse.mpr hxy.2) (List.mem_reverse.mpr hxy.1) hg9.symm
    (try dsimp only)
    (try k_fold)
    w_strict k_steps
    rename Fr _ _ _ _ => F8
    rename News _ _ _ _ => N8
    refine my_end (o4, kvs4, joinC c3 ns.reverse y x) F8 N8 (fun p hp => hp) ?_ (FrmOk.set rfl rfl (FrmOk.set rfl rfl frmOk0)) ⟨hd₄, hf₄, ?_⟩
    · intro p hp q hq
      rw [List.mem_singleton.mp hp]
      exact hap1 q hq
    · show CInv _ _ ((es.reverse.take (i + 1)).map swap2)
      rw [List.take_add_one, hpi, List.map_append]
      exact hI₄
  · clear lF lN
    rintro ⟨o3, kvs3, c3⟩ u h tk ⟨hd₃, hf₃, hI₃⟩ hap' F' N'
    dsimp only at hd₃ hf₃ hI₃
    dsimp only
    rename_i z1 z2 z3 z4 z5 z6 z7 z8 z9 z10 z11 z12 z13 z14 z15 z16 z17 z18 z19 z20 z21 z22 z23 z24 z25 z26 z27 z28 z29 z30 z31 z32 z33 z34 z35 z36 z37
      z38 z39 z40 z41 z42 z43 z44 z45 z46 z47 z48 z49 z50 z51 z52 z53 z54 z55 z56 z57 z58 z59 z60 z61 z62 z63 z64 z65 z66 z67 z68 z69 z70 z71 z72 z73 z74
      z75 z76 z77 z78 z79 z80 z81 z82 z83 z84 z85 z86 z87 z88 z89 z90 z91 z92 z93 z94 z95 z96 z97 z98 z99 z100 z101 z102 z103 z104 z105 z106 z107 z108 z109
      z110 z111 z112 z113 z114 z115 z116 z117 z118 z119 z120 z121 z122 z123 z124 z125 z126 z127 z128 z129 z130 z131 z132 z133 z134 z135 z136 z137 z138 z139
      z140 z141 z142 z143 z144 z145 z146 z147 z148 z149 z150 z151 z152 z153 z154 z155 z156 z157 z158 z159 z160 z161 z162 z163 z164 z165 z166 z167 z168 z169
    revert z1 z2 z3 z4 z5 z6 z7 z8 z9 z10 z11 z12 z13 z14 z15 z16 z17 z18 z19 z20 z21 z22 z23 z24 z25 z26 z27 z28 z29 z30 z31 z32 z33 z34 z35 z36 z37 z38
      z39 z40 z41 z42 z43 z44 z45 z46 z47 z48 z49 z50 z51 z52 z53 z54 z55 z56 z57 z58 z59 z60 z61 z62 z63 ys hcells z64 z65 z66 z67 z68 z69 hsk z70 z71 z72
      z73 z74 bank P add1 c1 c2 z75 z76 z77 z78 z79 z80 z81 z82 z83 z84 n10 z85 z86 gl z87 ops nop hok R hcl tl ng a1 a2 a3 a4 n1 n2 n3 n4 k1 k2 k3 k4 k5 k6
      k7 k8 k9 k10 k11 k12 z88 z89 D12 z90 z91 hS0 hcl60 z92 vs ns nn z93 z94 z95 hi₁ hTm z96 z97 z98 z99 z100 z101 clo ld z102 z103 add hlol hcd hcf z104
      z105 z106 z107 z108 z109 z110 z111 z112 z113 z114 z115 R2 al el m4 m5 m6 dl dl' z116 z117 z118 z119 r tr so' hr0 hr1 z120 hrs hrn z121 z122 z123 z124
      z125 z126 z127 z128 va pa na z129 z130 z131 z132 R3 hal3 hD2 hD3 hps hpl k0 hS₁ hk1 z133 z134 z135 qk ek z136 z137 z138 r8 tr8 so8 hq0 hq1 hS₂ hrs8
      hrn8 z139 z140 z141 z142 z143 z144 z145 z146 z147 so co kvs c ve es ne b tu z148 z149 z150 hI hl₁ hm₁ hw₁ hvl hvt R4 htl4 z151 ds0 D9 z152 z153 z154
      z155 z156 m1 m2 m3 z157 z158 z159 hD1 z160 z161 z162 z163 z164 n9 h9 tk9 clo2 co2 kvs2 add2 hcd2 hcf2 R5 hTL2 hel5 hL5 hpT hBk hlo hC hTL hA z165 z166
      z167 z168 ld3 E9 hlol2 hld2 hC2 z169 l9 o3 kvs3 c3 u h tk hd₃ hf₃ hI₃ hap' F' N'
    exact hNext9.out⟩

end
section
theorem seg9 : stage8.val := by
  intro x0
  revert x0
  k_fill
  intros _ _ _ _ _ _ _ _ _ _ _ _ _ _ _ _ _ _ _ _ _ _ _ _ _ _ _ _ _ _ _ _ _ _ _ _ _ _ _ _ _ _ _ _ _ _ _ _ _ _ _ _ _ _ _ _ _ _ _ _ _ _ _ ys hcells _ _ _ _
    _ _ hsk _ _ _ _ _ bank P add1 c1 c2 _ _ _ _ _ _ _ _ _ _ n10 _ _ gl _ ops nop hok R hcl tl ng a1 a2 a3 a4 n1 n2 n3 n4 k1 k2 k3 k4 k5 k6 k7 k8 k9 k10
    k11 k12 _ _ D12 _ _ hS0 hcl60 _ vs ns nn _ _ _ hi₁ hTm _ _ _ _ _ _ clo ld _ _ add hlol hcd hcf _ _ _ _ _ _ _ _ _ _ _ _ R2 al el m4 m5 m6 dl dl' _ _ _
    _ r tr so' hr0 hr1 _ hrs hrn _ _ _ _ _ _ _ _ va pa na _ _ _ _ R3 hal3 hD2 hD3 hps hpl k0 hS₁ hk1 _ _ _ qk ek _ _ _ r8 tr8 so8 hq0 hq1 hS₂ hrs8 hrn8 _
    _ _ _ _ _ _ _ _ so co kvs c ve es ne b tu _ _ _ hI hl₁ hm₁ hw₁ hvl hvt R4 htl4 _ ds0 D9 _ _ _ _ _ m1 m2 m3 _ _ _ hD1 _ _ _ _ _ n9 h9 tk9 clo2 co2 kvs2
    add2 hcd2 hcf2 R5 hTL2 hel5 hL5 hpT hBk hlo hC hTL hA _ _ _ _ ld3 E9 hlol2 hld2 hC2 _ l9 o3 kvs3 c3 u h tk hd₃ hf₃ hI₃ hap' F' N'
  w_on
  rw [List.take_of_length_le (by rw [List.length_reverse, List.length_reverse, hpT.length]; exact Nat.le_refl _)] at hI₃
  replace N' : News _ _ _ ((ld3, o3) :: (E9, W.listOf (List.toArray ve.reverse) 0) :: R5) := N'
  obtain ⟨q1, hq1⟩ : ∃ q1, q1 = clashOf c ns pa := ⟨_, rfl⟩
  have hs1 : clashOf c3 ns.reverse pa = q1 := by rw [hq1]; exact clash_same hI hTm hI₃ hTm.rev hps
  have hs2 : clashOf c3 ns.reverse [] = b := by rw [hw₁]; exact clash_same hI hTm hI₃ hTm.rev (fun p hp => absurd hp List.not_mem_nil)
  have hps' : ∀ p ∈ pa, p.1 ∈ ns.reverse ∧ p.2 ∈ ns.reverse := fun p hp => ⟨List.mem_reverse.mpr (hps p hp).1, List.mem_reverse.mpr (hps p hp).2⟩
  have hC3 := hC2
  obtain ⟨dclo, j1, j2, j3, i1, i2, i3, nC, hCm, hDm⟩ := hC3
  have hC4 := hC
  obtain ⟨dcl4, j4, j5, j6, i4, i5, i6, nC4, hCm4, hDm4⟩ := hC4
  have hL3 : IntD _ ((ld3, o3) :: (E9, W.listOf (List.toArray ve.reverse) 0) :: R5) ld3 c3 := ⟨hlol2, o3, kvs3, .head _, hd₃, hf₃⟩
  w_strict k_steps
  unfold MyCall
  refine Does.use (hclash_c (c := c3) (ps := pa) (hC2.mono fun p hp => .tail _ (.tail _ hp)) (hTL2.mono fun p hp => .tail _ (.tail _ hp)) (hBk.mono fun p hp => .tail _ (.tail _ hp)) (.tail _ (.tail _ hlo)) hok hL3 (hA.mono fun p hp => .tail _ (.tail _ hp)) hI₃ hTm.rev hps') (by k_asm) (by k_asm) (by k_asm) (by k_asm) (by k_asm) (by first | exact rfl | assumption) (by ktr_room) (by ktr_units) ?_
  intro v9 n9 h9 tk9 hp9 F9 N9
  obtain ⟨e1, e2⟩ := hp9
  rw [hs1] at e1
  subst e1
  rw [e2] at N9
  clear e2
  (try dsimp only)
  (try k_fold)
  w_strict k_steps
  unfold MyCall
  refine Does.use (hclash_c (c := c) (ps := pa) (hC.mono fun p hp => .tail _ (.tail _ hp)) (hTL.mono fun p hp => .tail _ (.tail _ hp)) (hBk.mono fun p hp => .tail _ (.tail _ hp)) (.tail _ (.tail _ hlo)) hok (hL5.mono fun p hp => .tail _ (.tail _ hp)) (hA.mono fun p hp => .tail _ (.tail _ hp)) hI hTm hps) (by k_asm) (by k_asm) (by k_asm) (by k_asm) (by k_asm) (by first | exact rfl | assumption) (by ktr_room) (by ktr_units) ?_
  intro v9 n9 h9 tk9 hp9 F9 N9
  obtain ⟨e1, e2⟩ := hp9
  rw [← hq1] at e1
  subst e1
  rw [e2] at N9
  clear e2
  (try dsimp only)
  (try k_fold)
  w_strict k_steps
  unfold MyCall
  refine Does.use (hclash_c (c := c3) (ps := []) (hC2.mono fun p hp => .tail _ (.tail _ (.tail _ hp))) (hTL2.mono fun p hp => .tail _ (.tail _ (.tail _ hp))) (hBk.mono fun p hp => .tail _ (.tail _ (.tail _ hp))) (.tail _ (.tail _ (.tail _ hlo))) hok (hL3.mono fun p hp => .tail _ hp) ⟨_, _, .head _, .nil⟩ hI₃ hTm.rev (fun p hp => absurd hp List.not_mem_nil)) (by k_asm) (by k_asm) (by k_asm) (by k_asm) (by k_asm) (by first | exact rfl | assumption) (by ktr_room) (by ktr_units) ?_
  intro v9 n9 h9 tk9 hp9 F9 N9
  obtain ⟨e1, e2⟩ := hp9
  rw [hs2] at e1
  subst e1
  rw [e2] at N9
  clear e2
  (try dsimp only)
  (try k_fold)
  w_strict k_steps
theorem law_t : PySem.Challenge.rw_qz0019_01.Holds := (stage0.property ⟨(stage1.property ⟨(stage2.property ⟨(stage3.property ⟨(stage4.property ⟨(stage5.property ⟨seg6⟩)⟩ ⟨(stage7.property ⟨(stage8.property ⟨seg9⟩)⟩)⟩)⟩)⟩)⟩)⟩)

end
end Mine
theorem PySem.Challenge.cw_qz0019_01_holds : PySem.Challenge.rw_qz0019_01.Holds :=
  Mine.law_t
