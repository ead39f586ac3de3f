import PyProof.Rows.All
import Wide.All
import OpenK.AllK
import Wide.FinOn
import KE.KStateDown
import HandS.Base
import HandS.Call
import HandS.Ends
import HandS.More
import HandS.Words
import HandS.WordsExc
import HandS.Defaults
import HandS.Head0
import HandS.Head1
import HandS.Head2
import HandS.HeadEnd
import HandS.HeadHook1
import HandS.HeadHook2
import OpenK.KQuick
import HandS.ForExc
import HandS.ForMost
import HandS.Evl
import HandS.Walk
import HandS.Wide
import HandS.WideBits
import HandS.IsInst
import HandS.TupAny
import HandS.TryOnly
import HandS.Style
import HandS.Zip
import PyProof.WalksEnum
import PyProof.EnumMake
import HandS.Rev
import KE.KExcSuper
import KE.KSuper
import HandS.ExcInit
import HandS.ExcField
import HandS.Nested
import HandS.SortKw
import PySem.Challenge.RW_swornspire_k76_judge_zero_less_rest
set_option Elab.async false
set_option linter.all false
set_option maxRecDepth 100000
set_option maxHeartbeats 0
/-! ## HdS -/
namespace K76
open PySem PySem.W PySem.Calls PyProof.Rows HandSHeadRun L2
abbrev P0 : Program := PySem.Challenge.pw_swornspire_k76_judge_zero_less_rest
abbrev R : OpenRow := OpenLaw.row PySem.Challenge.rw_swornspire_k76_judge_zero_less_rest
def top (i : Nat) : Stmt := P0.main.body.getD i (.Pass ⟨0, 0, 0, 0⟩)
/-! ### objects as the top makes them -/
def stL : Nat → List Str → List Value
  | _, [] => []
  | t, x :: r => .str x t :: stL (t + 1) r
def stName (s : Stmt) : Str := match s with
  | .FunctionDef n _ _ _ _ _ _ _ _ _ => n
  | _ => "none"
def oT (l : List Value) : Obj := ⟨.type "tuple", none, .seq ⟨l⟩ 0, ⟨[]⟩⟩
def oF (l : List Value) : Obj := ⟨.none, none, .fields ⟨l⟩, ⟨[]⟩⟩
def oFn (c : Value) (st : Stmt) (ql : Str) (gl : Nat) (m cd : Value) : Obj :=
  ⟨c, none, .func { name := stName st, qualname := ql, params := defArgs st, body := .stmts (defBody st), scope := defScope st, globals := gl, closure := [], defaults := .none, kwdefaults := .none, doc := .none, pyModule := m, annotations := none, code := cd, closureTuple := .none, builtins := 0 }, ⟨[]⟩⟩
def oCd (st : Stmt) (ql : Str) (ln ac fl b t v : Nat) (x y r : Value) : Obj :=
  ⟨.type "code", none, .fields ⟨[.str (stName st) t, .str ql (t + 1), .str "/claim/cut.py" (t + 2), .int (.ofNat ln) 0, .int (.ofNat ac) 0, .int 0 0, .int 0 0, .int (.ofNat fl) 0, .ref b, .bool true, .int 181 0, .ref (b + 1), .none, x, y, r, .int (.ofNat (t + 3 + v)) 0, .int (.ofNat ln) 0, .str "/claim/cut.py" (t + 4 + v)]⟩, ⟨[]⟩⟩
def mkD (st : Stmt) (ql : Str) (ln ac fl b t : Nat) (vs : Option (List Str)) (m : Value) : List Obj := match vs with
  | some l => [oT [], oF [], oT (stL (t + 3) l), oT [], oFn .none st ql 0 .none .none, oCd st ql ln ac fl b t l.length (.ref (b + 2)) (.ref (b + 3)) (.ref (b + 4)), oFn (.type "function") st ql 3 m (.ref (b + 5))]
  | none => [oT [], oF [], oFn .none st ql 0 .none .none, oCd st ql ln ac fl b t 0 .none .none (.ref (b + 2)), oFn (.type "function") st ql 3 m (.ref (b + 3))]
def trip : List (Nat × Nat × Nat) → List Value
  | [] => []
  | (a, b, c) :: r => .int (.ofNat a) 0 :: .int (.ofNat b) 0 :: .ref c :: trip r
def oK (l : List (Nat × Nat × Nat)) : Obj := ⟨.none, none, .fields ⟨trip l⟩, ⟨[]⟩⟩
structure Ent where
  x : Str
  t : Nat
  v : Value
def en (x : Str) (t : Nat) (v : Value) : Ent := ⟨x, t, v⟩
def er (x : Str) (t a : Nat) : Ent := ⟨x, t, .ref a⟩
def ents (P : Params) : List Ent → List DictEntry
  | [] => []
  | ⟨x, t, v⟩ :: r => ⟨PyData.keyHash P x, .str x t, v⟩ :: ents P r
def oD (P : Params) (l : List Ent) (n : Nat) : Obj := ⟨.type "dict", none, .dict ⟨ents P l⟩ n, ⟨[]⟩⟩
noncomputable def insL : Nat → List Obj → PySem.W.BT → PySem.W.BT
  | _, [], t => t
  | n, o :: r, t => insL (n + 1) r (t.ins n o)
noncomputable def stT (objs : List Obj) (main : Option Obj) (n tk : Nat) (w : World) (os : OsState) : SharedT :=
  ⟨match main with
    | some m => (insL 0 ((boot_heap w.params).objs.toList ++ objs) .nil).ins 3 m
    | none => insL 0 ((boot_heap w.params).objs.toList ++ objs) .nil, n, (boot_heap w.params).life, ⟨[]⟩, boot_drawn, tk, os⟩
/-! ### a stretch of the top -/
noncomputable def segF (st : SharedT → Thread → Option (SharedT × Thread)) (n0 : Nat) (ann : Option Value) : Nat → SharedT → Thread → Option (Flow × SharedT × Code × Pos)
  | 0, _, _ => none
  | m + 1, s, t => match endAt 1 t with
    | some f => some (f, s, t.code, t.pos)
    | none => match stepOk n0 ann t with
      | false => none
      | true => match st s t with
        | some (s', t') => frS s' fun s' => segF st n0 ann m s' t'
        | none => none
theorem segF_ok {tb : String → Option Builtin} {p : Program} {w : World} {n0 : Nat} {ann : Option Value} : ∀ {m : Nat} {s s' : SharedT} {t : Thread} {f : Flow} {c : Code} {q : Pos},
    segF (stepT (denote tb) p w) n0 ann m s t = some (f, s', c, q) → segRun tb p w n0 ann 1 m s.abs t = some (f, s'.abs, c, q)
  | 0, _, _, _, _, _, _, h => by cases h
  | m + 1, s, s', t, f, c, q, h => by
    unfold segF at h
    unfold segRun
    cases he : endAt 1 t with
    | some x =>
      rw [he] at h
      cases h
      rfl
    | none =>
      rw [he] at h
      cases hk : stepOk n0 ann t with
      | false =>
        rw [hk] at h
        cases h
      | true =>
        rw [hk] at h
        cases hs : stepT (denote tb) p w s t with
        | none =>
          rw [hs] at h
          cases h
        | some r =>
          obtain ⟨s2, t2⟩ := r
          rw [hs] at h
          have h3 : (frS s2 fun s' => segF (stepT (denote tb) p w) n0 ann m s' t2) = some (f, s', c, q) := h
          rw [frS_eq] at h3
          rw [stepT_spec hs]
          exact segF_ok h3
noncomputable def goG (st : SharedT → Thread → Option (SharedT × Thread)) (n0 : Nat) (ann : Option Value) : Nat → SharedT → Thread → Option (SharedT × Thread)
  | 0, s, t => some (s, t)
  | m + 1, s, t => match through t with
    | true => none
    | false => match stepOk n0 ann t with
      | false => none
      | true => match st s t with
        | some (s', t') => frS s' fun s' => goG st n0 ann m s' t'
        | none => none
theorem goG_ok {tb : String → Option Builtin} {p : Program} {w : World} {n0 : Nat} {ann : Option Value} : ∀ {m : Nat} {s s' : SharedT} {t t' : Thread},
    goG (stepT (denote tb) p w) n0 ann m s t = some (s', t') → topGo tb p w n0 ann m s.abs t = some (s'.abs, t')
  | 0, _, _, _, _, h => by
    cases h
    rfl
  | m + 1, s, s', t, t', h => by
    unfold goG at h
    unfold topGo
    cases he : through t with
    | true =>
      rw [he] at h
      cases h
    | false =>
      rw [he] at h
      cases hk : stepOk n0 ann t with
      | false =>
        rw [hk] at h
        cases h
      | true =>
        rw [hk] at h
        cases hs : stepT (denote tb) p w s t with
        | none =>
          rw [hs] at h
          cases h
        | some r =>
          obtain ⟨s2, t2⟩ := r
          rw [hs] at h
          have h3 : (frS s2 fun s' => goG (stepT (denote tb) p w) n0 ann m s' t2) = some (s', t') := h
          rw [frS_eq] at h3
          rw [stepT_spec hs]
          exact goG_ok h3
noncomputable abbrev stQ (w : World) := stepQ (denQ tabQ) P0 w
theorem stQ_eq (w : World) : stQ w = stepT (denote treeTable) P0 w := by
  unfold stQ
  rw [stepQ_eq, denQ_eq, tabQ_eq]
abbrev annV : Option Value := some (.ref 6)
def envE : Env := { scope := P0.main.scope, locals := mainNs, globals := mainNs, cells := [], code := .ref 13, frame := some 14 }
abbrev bE : List Stmt := behindTheImports P0
abbrev cE : Code := .body bE envE
abbrev q0 : Pos := ⟨0, 0, 0, 0⟩

def s0_o0 (P : Params) : List Obj := [⟨(.type "tuple"), none, (.seq ⟨[]⟩ 0), ⟨[]⟩⟩,
  oK [],
  ⟨(.type "code"), none, (.fields ⟨[(.str "<module>" 182), (.str "<module>" 183), (.str "/claim/cut.py" 184), (.int 1 0), (.int 0 0), (.int 0 0), (.int 0 0), (.int 0 0), (.ref 11), (.bool false), (.int 181 0), (.ref 12), .none, .none, .none, .none, (.int 185 0), (.int 1 0), (.str "/claim/cut.py" 186)]⟩), ⟨[]⟩⟩,
  ⟨(.type "frame"), none, .plain, ⟨[(some (.ref 13)), (some (.ref 3)), (some (.ref 3)), none, (some (.str "__main__" 164)), none, (some (.ref 0))]⟩⟩]
def s0_o (P : Params) : List Obj := s0_o0 P
noncomputable abbrev S0 (w : World) (os : OsState) : SharedT := stT (s0_o w.params) none 15 187 w os
def s150_o0 (P : Params) : List Obj := [⟨(.type "tuple"), none, (.seq ⟨[]⟩ 0), ⟨[]⟩⟩,
  oK [(2, 0, 20), (4, 0, 34), (10, 0, 54), (12, 0, 61), (14, 0, 68), (23, 0, 75), (34, 0, 82), (36, 0, 89), (45, 0, 96), (52, 0, 101), (58, 0, 108), (64, 0, 115), (77, 0, 122), (161, 0, 202), (163, 0, 207), (165, 0, 212), (167, 0, 217), (169, 0, 222), (171, 0, 229), (173, 0, 236), (175, 0, 243), (185, 0, 250), (189, 0, 257), (203, 0, 264), (210, 0, 271), (217, 0, 278), (225, 0, 285), (230, 0, 292), (246, 0, 299), (269, 0, 306), (284, 0, 313), (291, 0, 320), (300, 0, 327), (310, 0, 332), (315, 0, 339), (323, 0, 344), (325, 0, 351), (335, 0, 356), (338, 0, 363), (343, 0, 370), (351, 0, 377), (362, 0, 384), (364, 0, 391), (369, 0, 396), (378, 0, 401), (380, 0, 408), (390, 0, 415), (395, 0, 422), (405, 0, 429), (411, 0, 436), (415, 0, 443), (420, 0, 450), (422, 0, 457), (433, 0, 462), (437, 0, 469), (439, 0, 474), (442, 0, 481), (445, 0, 488), (459, 0, 495), (471, 0, 500), (489, 0, 507), (504, 0, 514), (511, 0, 521), (532, 0, 528), (543, 0, 535), (562, 0, 542), (571, 0, 549), (578, 0, 554), (585, 0, 561), (594, 0, 568), (606, 0, 575), (611, 0, 582), (617, 0, 587), (638, 0, 594), (644, 0, 601), (665, 0, 608), (672, 0, 615), (678, 0, 620), (682, 0, 627), (693, 0, 632), (702, 0, 639), (718, 0, 646), (725, 0, 651), (727, 0, 656), (729, 0, 663), (731, 0, 670), (733, 0, 677), (737, 0, 684), (742, 0, 691), (751, 0, 698), (756, 0, 703), (761, 0, 710), (769, 0, 717), (775, 0, 724), (782, 0, 729), (784, 0, 736), (796, 0, 743), (799, 0, 750), (808, 0, 757), (818, 0, 764), (825, 0, 771), (848, 0, 778), (851, 0, 785), (856, 0, 792), (870, 0, 799), (884, 0, 806), (890, 0, 813), (902, 0, 820), (918, 0, 827), (921, 0, 834), (935, 0, 841), (940, 0, 848), (958, 0, 855), (966, 0, 860), (968, 0, 865), (970, 0, 872), (972, 0, 879), (987, 0, 886), (996, 0, 893), (1006, 0, 898), (1021, 0, 905), (1029, 0, 910), (1035, 0, 915), (1051, 0, 922), (1058, 0, 929), (1068, 0, 934), (1087, 0, 941), (1104, 0, 946), (1113, 0, 953), (1120, 0, 958), (1142, 0, 965)],
  ⟨(.type "code"), none, (.fields ⟨[(.str "<module>" 182), (.str "<module>" 183), (.str "/claim/cut.py" 184), (.int 1 0), (.int 0 0), (.int 0 0), (.int 0 0), (.int 0 0), (.ref 11), (.bool false), (.int 181 0), (.ref 12), .none, .none, .none, .none, (.int 185 0), (.int 1 0), (.str "/claim/cut.py" 186)]⟩), ⟨[]⟩⟩,
  ⟨(.type "frame"), none, .plain, ⟨[(some (.ref 13)), (some (.ref 3)), (some (.ref 3)), none, (some (.str "__main__" 164)), none, (some (.ref 0))]⟩⟩,
  ⟨(.type "tuple"), none, (.seq ⟨[(.type "ValueError")]⟩ 0), ⟨[]⟩⟩,
  ⟨(.type "builtin_function_or_method"), none, (.fields ⟨[(.builtin "type.__prepare__"), (.type "type")]⟩), ⟨[]⟩⟩,
  oD P [en "__module__" 196 (.str "swornspire.errors" 187), en "__qualname__" 198 (.str "SpireError" 197), en "__firstlineno__" 200 (.int 2 199), er "__static_attributes__" 201 22] 4,
  ⟨(.type "tuple"), none, (.seq ⟨[]⟩ 0), ⟨[]⟩⟩,
  ⟨.none, none, (.fields ⟨[]⟩), ⟨[]⟩⟩,
  ⟨(.type "code"), none, (.fields ⟨[(.str "SpireError" 191), (.str "SpireError" 192), (.str "/claim/cut.py" 193), (.int 2 0), (.int 0 0), (.int 0 0), (.int 0 0), (.int 0 0), (.ref 18), (.bool false), (.int 181 0), (.ref 19), .none, .none, .none, .none, (.int 194 0), (.int 2 0), (.str "/claim/cut.py" 195)]⟩), ⟨[]⟩⟩,
  ⟨(.type "frame"), none, .plain, ⟨[(some (.ref 20)), (some (.ref 3)), (some (.ref 17)), none, (some (.str "swornspire.errors" 187)), none, (some (.ref 0))]⟩⟩,
  ⟨(.type "tuple"), none, (.seq ⟨[]⟩ 0), ⟨[]⟩⟩,
  oD P [en "__module__" 196 (.str "swornspire.errors" 187), en "__firstlineno__" 200 (.int 2 199), er "__static_attributes__" 201 22, er "__weakref__" 203 25, en "__doc__" 204 .none] 3,
  ⟨(.type "type"), none, (.cls { name := "SpireError", bases := [(.type "ValueError")], mro := [(.ref 24), (.type "ValueError"), (.type "Exception"), (.type "BaseException"), (.type "object")], ns := 23, qualname := "SpireError", hasDict := true, subclasses := [(.ref 46)] }), ⟨[(some (.ref 15)), none, (some (.str "SpireError" 189)), (some (.str "SpireError" 197)), (some (.builtin "ValueError.__new__")), (some (.bool true))]⟩⟩,
  ⟨(.type "getset_descriptor"), none, (.fields ⟨[(.str "__weakref__" 202), (.ref 24), (.builtin "ExceptionGroup.__weakref__"), .none]⟩), ⟨[]⟩⟩,
  ⟨(.type "super"), none, (.fields ⟨[(.ref 24), (.ref 24), (.ref 24)]⟩), ⟨[]⟩⟩,
  ⟨(.type "builtin_function_or_method"), none, (.fields ⟨[(.builtin "object.__init_subclass__"), (.ref 24)]⟩), ⟨[]⟩⟩,
  ⟨(.type "tuple"), none, (.seq ⟨[(.ref 24)]⟩ 0), ⟨[]⟩⟩,
  ⟨(.type "builtin_function_or_method"), none, (.fields ⟨[(.builtin "type.__prepare__"), (.type "type")]⟩), ⟨[]⟩⟩,
  oD P [en "__module__" 214 (.str "swornspire.errors" 187), en "__qualname__" 216 (.str "NotSo" 215), en "__firstlineno__" 218 (.int 4 217), er "__init__" 227 43, er "__static_attributes__" 229 44, er "__classcell__" 230 31] 6,
  ⟨(.type "cell"), none, (.cell (some (.ref 46))), ⟨[]⟩⟩,
  ⟨(.type "tuple"), none, (.seq ⟨[]⟩ 0), ⟨[]⟩⟩,
  ⟨.none, none, (.fields ⟨[(.int 6 0), (.int 4 0), (.ref 42)]⟩), ⟨[]⟩⟩,
  ⟨(.type "code"), none, (.fields ⟨[(.str "NotSo" 209), (.str "NotSo" 210), (.str "/claim/cut.py" 211), (.int 4 0), (.int 0 0), (.int 0 0), (.int 0 0), (.int 0 0), (.ref 32), (.bool false), (.int 181 0), (.ref 33), .none, .none, .none, .none, (.int 212 0), (.int 4 0), (.str "/claim/cut.py" 213)]⟩), ⟨[]⟩⟩,
  ⟨(.type "frame"), none, .plain, ⟨[(some (.ref 34)), (some (.ref 3)), (some (.ref 30)), none, (some (.str "swornspire.errors" 187)), none, (some (.ref 0))]⟩⟩,
  ⟨(.type "tuple"), none, (.seq ⟨[(.ref 31)]⟩ 0), ⟨[]⟩⟩,
  ⟨(.type "tuple"), none, (.seq ⟨[(.str "__class__" 222)]⟩ 0), ⟨[]⟩⟩,
  ⟨.none, none, (.fields ⟨[]⟩), ⟨[]⟩⟩,
  ⟨(.type "tuple"), none, (.seq ⟨[(.str "self" 223), (.str "rule" 224)]⟩ 0), ⟨[]⟩⟩,
  ⟨(.type "tuple"), none, (.seq ⟨[]⟩ 0), ⟨[]⟩⟩,
  ⟨.none, none, (.func { name := "__init__", qualname := "NotSo.__init__", params := defArgs (inClass (top 2) 0), body := .stmts (defBody (inClass (top 2) 0)), scope := defScope (inClass (top 2) 0), globals := 0, closure := [], defaults := .none, kwdefaults := .none, doc := .none, pyModule := .none, annotations := none, code := .none, closureTuple := .none, builtins := 0 }), ⟨[]⟩⟩,
  ⟨(.type "code"), none, (.fields ⟨[(.str "__init__" 219), (.str "NotSo.__init__" 220), (.str "/claim/cut.py" 221), (.int 6 0), (.int 2 0), (.int 0 0), (.int 0 0), (.int 3 0), (.ref 37), (.bool true), (.int 181 0), (.ref 38), .none, (.ref 39), (.ref 40), (.ref 41), (.int 225 0), (.int 6 0), (.str "/claim/cut.py" 226)]⟩), ⟨[]⟩⟩,
  ⟨(.type "function"), none, (.func { name := "__init__", qualname := "NotSo.__init__", params := defArgs (inClass (top 2) 0), body := .stmts (defBody (inClass (top 2) 0)), scope := defScope (inClass (top 2) 0), globals := 3, closure := [("__class__", 31)], defaults := .none, kwdefaults := .none, doc := .none, pyModule := (.str "swornspire.errors" 187), annotations := none, code := (.ref 42), closureTuple := (.ref 36), builtins := 0 }), ⟨[]⟩⟩,
  ⟨(.type "tuple"), none, (.seq ⟨[(.str "rule" 228)]⟩ 0), ⟨[]⟩⟩,
  oD P [en "__module__" 214 (.str "swornspire.errors" 187), en "__firstlineno__" 218 (.int 4 217), er "__init__" 227 43, er "__static_attributes__" 229 44, en "__doc__" 231 .none] 3,
  ⟨(.type "type"), none, (.cls { name := "NotSo", bases := [(.ref 24)], mro := [(.ref 46), (.ref 24), (.type "ValueError"), (.type "Exception"), (.type "BaseException"), (.type "object")], ns := 45, qualname := "NotSo", hasDict := true, subclasses := [] }), ⟨[(some (.ref 28)), none, (some (.str "NotSo" 207)), (some (.str "NotSo" 215)), (some (.builtin "ValueError.__new__")), (some (.bool true))]⟩⟩,
  ⟨(.type "super"), none, (.fields ⟨[(.ref 46), (.ref 46), (.ref 46)]⟩), ⟨[]⟩⟩,
  ⟨(.type "builtin_function_or_method"), none, (.fields ⟨[(.builtin "object.__init_subclass__"), (.ref 46)]⟩), ⟨[]⟩⟩] ++ (
  mkD (top 4) "is_whole" 10 1 3 49 236 (some ["value"]) (.str "swornspire.sizes" 234) ++ (
  mkD (top 5) "bits_of" 12 1 3 56 243 (some ["number"]) (.str "swornspire.sizes" 234) ++ (
  mkD (top 6) "words_of" 14 2 3 63 250 (some ["number", "bits", "rest", "base", "words"]) (.str "swornspire.sizes" 234) ++ (
  mkD (top 8) "is_word_prime" 23 1 3 70 263 (some ["number", "divisor"]) (.str "swornspire.points" 261) ++ (
  mkD (top 9) "weight_of" 34 1 3 77 271 (some ["point"]) (.str "swornspire.points" 261) ++ (
  mkD (top 10) "are_good_points" 36 2 3 84 278 (some ["points", "bits", "last", "point"]) (.str "swornspire.points" 261) ++ (
  mkD (top 11) "used_points" 45 2 3 91 288 (some ["points", "need", "weight", "used", "point"]) (.str "swornspire.points" 261) ++ (
  mkD (top 12) "need_of" 52 1 3 98 299 none (.str "swornspire.points" 261) ++ (
  mkD (top 14) "trimmed" 58 1 3 103 307 (some ["numbers", "end"]) (.str "swornspire.trimming" 305) ++ (
  mkD (top 16) "product_words" 64 3 3 110 317 (some ["left", "right", "bits", "xs", "ys", "base", "words", "low", "x", "high", "place", "y", "total"]) (.str "swornspire.judge" 315) ++ (
  [⟨(.type "tuple"), none, (.seq ⟨[]⟩ 0), ⟨[]⟩⟩,
  ⟨(.type "builtin_function_or_method"), none, (.fields ⟨[(.builtin "type.__prepare__"), (.type "type")]⟩), ⟨[]⟩⟩,
  oD P [en "__module__" 343 (.str "swornspire.judge" 315), en "__qualname__" 345 (.str "Judge" 344), en "__firstlineno__" 347 (.int 77 346), er "__init__" 356 130, er "rest_of" 368 137, er "leaves_none" 382 144, er "zero" 388 149, er "size_less" 399 156, er "less" 410 163, er "fraction_less" 421 170, er "most_of" 430 177, er "between" 439 184, er "equal" 445 189, er "__static_attributes__" 451 190] 14,
  ⟨(.type "tuple"), none, (.seq ⟨[]⟩ 0), ⟨[]⟩⟩,
  ⟨.none, none, (.fields ⟨[(.int 79 0), (.int 4 0), (.ref 129), (.int 86 0), (.int 4 0), (.ref 136), (.int 94 0), (.int 4 0), (.ref 143), (.int 103 0), (.int 4 0), (.ref 148), (.int 120 0), (.int 4 0), (.ref 155), (.int 128 0), (.int 4 0), (.ref 162), (.int 140 0), (.int 4 0), (.ref 169), (.int 152 0), (.int 4 0), (.ref 176), (.int 155 0), (.int 4 0), (.ref 183), (.int 158 0), (.int 4 0), (.ref 188)]⟩), ⟨[]⟩⟩,
  ⟨(.type "code"), none, (.fields ⟨[(.str "Judge" 338), (.str "Judge" 339), (.str "/claim/cut.py" 340), (.int 77 0), (.int 0 0), (.int 0 0), (.int 0 0), (.int 0 0), (.ref 120), (.bool false), (.int 181 0), (.ref 121), .none, .none, .none, .none, (.int 341 0), (.int 77 0), (.str "/claim/cut.py" 342)]⟩), ⟨[]⟩⟩,
  ⟨(.type "frame"), none, .plain, ⟨[(some (.ref 122)), (some (.ref 3)), (some (.ref 119)), none, (some (.str "swornspire.judge" 315)), none, (some (.ref 0))]⟩⟩] ++ (
  mkD (inClass (top 17) 0) "Judge.__init__" 79 3 3 124 348 (some ["self", "bits", "points"]) (.str "swornspire.judge" 315) ++ (
  mkD (inClass (top 17) 1) "Judge.rest_of" 86 4 3 131 357 (some ["self", "number", "words", "point", "rest", "word"]) (.str "swornspire.judge" 315) ++ (
  mkD (inClass (top 17) 2) "Judge.leaves_none" 94 3 3 138 369 (some ["self", "read", "point", "total", "term", "product", "number", "words"]) (.str "swornspire.judge" 315) ++ (
  mkD (inClass (top 17) 3) "Judge.zero" 103 2 3 145 383 none (.str "swornspire.judge" 315) ++ (
  mkD (inClass (top 17) 4) "Judge.size_less" 120 3 3 150 389 (some ["self", "left", "right", "word", "other"]) (.str "swornspire.judge" 315) ++ (
  mkD (inClass (top 17) 5) "Judge.less" 128 3 3 157 400 (some ["self", "left", "right", "left_words", "right_words"]) (.str "swornspire.judge" 315) ++ (
  mkD (inClass (top 17) 6) "Judge.fraction_less" 140 3 3 164 411 (some ["self", "left", "right", "first", "second"]) (.str "swornspire.judge" 315) ++ (
  mkD (inClass (top 17) 7) "Judge.most_of" 152 3 3 171 422 (some ["self", "left", "right"]) (.str "swornspire.judge" 315) ++ (
  mkD (inClass (top 17) 8) "Judge.between" 155 3 3 178 431 (some ["self", "number", "bound"]) (.str "swornspire.judge" 315) ++ (
  mkD (inClass (top 17) 9) "Judge.equal" 158 3 3 185 440 none (.str "swornspire.judge" 315) ++ (
  [⟨(.type "tuple"), none, (.seq ⟨[(.str "bits" 446), (.str "good" 447), (.str "most" 448), (.str "points" 449), (.str "steps" 450)]⟩ 0), ⟨[]⟩⟩,
  oD P [en "__module__" 343 (.str "swornspire.judge" 315), en "__firstlineno__" 347 (.int 77 346), er "__init__" 356 130, er "rest_of" 368 137, er "leaves_none" 382 144, er "zero" 388 149, er "size_less" 399 156, er "less" 410 163, er "fraction_less" 421 170, er "most_of" 430 177, er "between" 439 184, er "equal" 445 189, er "__static_attributes__" 451 190, er "__dict__" 453 193, er "__weakref__" 455 194, en "__doc__" 456 .none] 4,
  ⟨(.type "type"), none, (.cls { name := "Judge", bases := [(.type "object")], mro := [(.ref 192), (.type "object")], ns := 191, qualname := "Judge", hasDict := true, subclasses := [] }), ⟨[none, none, (some (.str "Judge" 336)), (some (.str "Judge" 344)), (some (.builtin "object.__new__")), (some (.bool true))]⟩⟩,
  ⟨(.type "getset_descriptor"), none, (.fields ⟨[(.str "__dict__" 452), (.ref 192), (.builtin "function.__dict__"), (.builtin "function.__dict__#set")]⟩), ⟨[]⟩⟩,
  ⟨(.type "getset_descriptor"), none, (.fields ⟨[(.str "__weakref__" 454), (.ref 192), (.builtin "ExceptionGroup.__weakref__"), .none]⟩), ⟨[]⟩⟩,
  ⟨(.type "super"), none, (.fields ⟨[(.ref 192), (.ref 192), (.ref 192)]⟩), ⟨[]⟩⟩,
  ⟨(.type "builtin_function_or_method"), none, (.fields ⟨[(.builtin "object.__init_subclass__"), (.ref 192)]⟩), ⟨[]⟩⟩] ++ (
  mkD (top 19) "is_parts" 161 2 3 197 461 (some ["value", "many"]) (.str "swornspire.shapes" 459) ++ (
  mkD (top 20) "is_numbers" 163 2 3 204 469 none (.str "swornspire.shapes" 459)))))))))))))))))))))))))
def s150_o1 (P : Params) : List Obj := mkD (top 21) "is_row" 165 1 3 209 475 none (.str "swornspire.shapes" 459) ++ (
  mkD (top 22) "is_rows" 167 3 3 214 481 none (.str "swornspire.shapes" 459) ++ (
  mkD (top 23) "are_rows" 169 1 3 219 487 none (.str "swornspire.shapes" 459) ++ (
  mkD (top 24) "is_poly_form" 171 1 3 224 493 (some ["value"]) (.str "swornspire.shapes" 459) ++ (
  mkD (top 25) "is_point" 173 1 3 231 500 (some ["value"]) (.str "swornspire.shapes" 459) ++ (
  mkD (top 26) "is_ascending" 175 2 3 238 507 (some ["value", "limit", "last", "number"]) (.str "swornspire.shapes" 459) ++ (
  mkD (top 28) "is_lowest" 185 3 3 245 519 (some ["judge", "value", "paper", "top", "bottom", "s", "t"]) (.str "swornspire.judgefraction" 517) ++ (
  mkD (top 29) "takes_sum" 189 5 3 252 532 (some ["judge", "op", "args", "value", "paper", "a", "b", "c", "d", "p", "q", "same"]) (.str "swornspire.judgefraction" 517) ++ (
  mkD (top 30) "takes_over" 203 4 3 259 550 (some ["judge", "args", "value", "paper", "x", "y"]) (.str "swornspire.judgefraction" 517) ++ (
  mkD (top 31) "takes_floor" 210 4 3 266 562 (some ["judge", "args", "value", "paper", "a", "b"]) (.str "swornspire.judgefraction" 517) ++ (
  mkD (top 32) "takes_order" 217 4 3 273 574 (some ["judge", "args", "value", "paper", "a", "b", "c", "d", "k", "l"]) (.str "swornspire.judgefraction" 517) ++ (
  mkD (top 33) "is_wide" 225 3 3 280 590 (some ["judge", "args", "product", "x", "y", "z", "w"]) (.str "swornspire.judgefraction" 517) ++ (
  mkD (top 34) "takes_again" 230 4 3 287 603 (some ["judge", "args", "value", "paper", "x", "y", "z", "w", "n", "k", "e", "m", "s", "t"]) (.str "swornspire.judgefraction" 517) ++ (
  mkD (top 35) "takes_fraction" 246 5 3 294 623 (some ["judge", "op", "args", "value", "paper", "x"]) (.str "swornspire.judgefraction" 517) ++ (
  mkD (top 36) "bars_rows" 269 3 3 301 635 (some ["judge", "args", "paper", "x", "y", "z", "w", "m", "u", "s", "k", "v", "t", "l", "side", "size"]) (.str "swornspire.judgefraction" 517) ++ (
  mkD (top 37) "bars_again" 284 3 3 308 657 (some ["judge", "args", "paper", "x", "y", "z", "w"]) (.str "swornspire.judgefraction" 517) ++ (
  mkD (top 38) "bars_fraction" 291 4 3 315 670 (some ["judge", "op", "args", "paper"]) (.str "swornspire.judgefraction" 517) ++ (
  mkD (top 40) "choices" 300 2 3 322 682 (some ["many", "size", "found", "step", "longer", "part", "start", "number"]) (.str "swornspire.choosing" 680) ++ (
  mkD (top 41) "subsets" 310 1 3 329 696 none (.str "swornspire.choosing" 680) ++ (
  mkD (top 42) "half_choices" 315 1 3 334 702 (some ["many", "told", "size", "chosen"]) (.str "swornspire.choosing" 680) ++ (
  mkD (top 44) "reduced_mod" 323 2 3 341 714 none (.str "swornspire.modpolys" 712) ++ (
  mkD (top 45) "inverse_mod" 325 2 3 346 720 (some ["number", "prime", "result", "base", "exponent"]) (.str "swornspire.modpolys" 712) ++ (
  mkD (top 46) "monic_mod" 335 2 3 353 731 none (.str "swornspire.modpolys" 712) ++ (
  mkD (top 47) "difference_mod" 338 3 3 358 737 (some ["x", "y", "prime", "numbers", "place", "number"]) (.str "swornspire.modpolys" 712) ++ (
  mkD (top 48) "product_mod" 343 3 3 365 749 (some ["x", "y", "prime", "numbers", "low", "a", "place", "b"]) (.str "swornspire.modpolys" 712)))))))))))))))))))))))))
def s150_o2 (P : Params) : List Obj := mkD (top 49) "division_mod" 351 3 3 372 763 (some ["x", "y", "prime", "inverse", "rest", "many", "quotient", "place", "factor", "low", "number"]) (.str "swornspire.modpolys" 712) ++ (
  mkD (top 50) "rest_mod" 362 3 3 379 780 (some ["x", "y", "prime"]) (.str "swornspire.modpolys" 712) ++ (
  mkD (top 51) "divisor_mod" 364 3 3 386 789 (some ["x", "y", "prime", "old", "new"]) (.str "swornspire.modpolys" 712) ++ (
  mkD (top 52) "bezout_mod" 369 3 3 393 800 none (.str "swornspire.modpolys" 712) ++ (
  mkD (top 53) "derivative_mod" 378 2 3 398 806 none (.str "swornspire.modpolys" 712) ++ (
  mkD (top 54) "power_mod" 380 4 3 403 812 (some ["x", "exponent", "modulus", "prime", "result", "base", "rest"]) (.str "swornspire.modpolys" 712) ++ (
  mkD (top 55) "is_squarefree_mod" 390 2 3 410 825 (some ["x", "prime", "slope"]) (.str "swornspire.modpolys" 712) ++ (
  mkD (top 56) "irreducible_mod" 395 2 3 417 834 (some ["poly", "prime", "degree", "power", "step", "test"]) (.str "swornspire.modpolys" 712) ++ (
  mkD (top 58) "product_terms" 405 4 3 424 848 (some ["x", "y", "place", "factors", "terms", "low", "a"]) (.str "swornspire.polyterms" 846) ++ (
  mkD (top 59) "own_terms" 411 3 3 431 861 (some ["x", "place", "factors"]) (.str "swornspire.polyterms" 846) ++ (
  mkD (top 60) "is_product" 415 5 3 438 870 (some ["judge", "x", "y", "value", "factors", "place"]) (.str "swornspire.polyterms" 846) ++ (
  mkD (top 61) "is_multiple" 420 5 3 445 882 (some ["judge", "factor", "x", "y", "value"]) (.str "swornspire.polyterms" 846) ++ (
  mkD (top 62) "is_poly_sum" 422 7 3 452 893 (some ["judge", "factor", "value", "s", "x", "t", "y", "place", "left", "right"]) (.str "swornspire.polyterms" 846) ++ (
  mkD (top 67) "is_mixed" 433 3 3 459 917 none (.str "swornspire.judgeirreducible" 909) ++ (
  mkD (top 68) "is_small_prime" 437 1 3 464 923 (some ["value"]) (.str "swornspire.judgeirreducible" 909) ++ (
  mkD (top 69) "rests_of" 439 3 3 471 930 none (.str "swornspire.judgeirreducible" 909) ++ (
  mkD (top 70) "is_irreducible_rest" 442 3 3 476 936 (some ["judge", "poly", "prime", "rests"]) (.str "swornspire.judgeirreducible" 909) ++ (
  mkD (top 71) "chain_end" 445 5 3 483 946 (some ["judge", "top", "factors", "power", "chain", "current", "factor", "pair", "more", "told", "place", "left"]) (.str "swornspire.judgeirreducible" 909) ++ (
  mkD (top 72) "takes_whole_chain" 459 5 3 490 964 (some ["judge", "poly", "factors", "power", "chain", "last", "end", "place", "right"]) (.str "swornspire.judgeirreducible" 909) ++ (
  mkD (top 73) "takes_refusal" 471 6 3 497 979 none (.str "swornspire.judgeirreducible" 909) ++ (
  mkD (top 74) "are_factors" 489 4 3 502 985 (some ["judge", "factors", "prime", "power", "seen", "factor", "number", "rests"]) (.str "swornspire.judgeirreducible" 909) ++ (
  mkD (top 75) "is_roomy" 504 5 3 509 999 (some ["judge", "poly", "power", "size", "room", "number", "degree", "bound"]) (.str "swornspire.judgeirreducible" 909) ++ (
  mkD (top 76) "takes_lifted" 511 3 3 516 1013 (some ["judge", "poly", "paper", "word", "mix", "prime", "power", "count", "factors", "chain", "size", "room", "refusals", "due", "chosen", "refusal"]) (.str "swornspire.judgeirreducible" 909) ++ (
  mkD (top 77) "takes_irreducible" 532 3 3 523 1035 (some ["judge", "poly", "paper"]) (.str "swornspire.judgeirreducible" 909) ++ (
  mkD (top 79) "takes_sums" 543 5 3 530 1046 (some ["judge", "op", "args", "value", "paper", "x", "other", "place", "left", "right", "same"]) (.str "swornspire.judgepoly" 1044)))))))))))))))))))))))))
def s150_o3 (P : Params) : List Obj := mkD (top 80) "takes_slope" 562 4 3 537 1063 (some ["judge", "args", "value", "paper", "x", "place", "terms"]) (.str "swornspire.judgepoly" 1044) ++ (
  mkD (top 81) "value_terms" 571 4 3 544 1076 (some ["x", "top", "bottom", "factors", "terms", "degree", "place", "number", "powers"]) (.str "swornspire.judgepoly" 1044) ++ (
  mkD (top 82) "takes_value" 578 4 3 551 1091 none (.str "swornspire.judgepoly" 1044) ++ (
  mkD (top 84) "takes_fraction_value" 585 4 3 556 1098 (some ["judge", "args", "value", "paper", "x", "point", "degree", "right"]) (.str "swornspire.judgepoly" 1044) ++ (
  mkD (top 85) "takes_common" 594 4 3 563 1112 (some ["judge", "args", "value", "paper", "x", "y", "mix", "c", "s", "t", "k", "u", "l", "w"]) (.str "swornspire.judgepoly" 1044) ++ (
  mkD (top 86) "are_in_order" 606 1 3 570 1132 (some ["polys", "poly", "other"]) (.str "swornspire.judgepoly" 1044) ++ (
  mkD (top 87) "unlike_polys" 611 1 3 577 1141 (some ["polys", "told", "poly"]) (.str "swornspire.judgepoly" 1044) ++ (
  mkD (top 88) "takes_factored" 617 3 3 584 1150 none (.str "swornspire.judgepoly" 1044) ++ (
  mkD (top 89) "takes_part" 638 6 3 589 1156 (some ["judge", "op", "extra", "args", "value", "paper"]) (.str "swornspire.judgepoly" 1044) ++ (
  mkD (top 90) "takes_poly" 644 6 3 596 1168 (some ["judge", "op", "extra", "args", "value", "paper", "rest"]) (.str "swornspire.judgepoly" 1044) ++ (
  mkD (top 91) "bars_poly" 665 5 3 603 1181 (some ["judge", "op", "extra", "args", "paper"]) (.str "swornspire.judgepoly" 1044) ++ (
  mkD (top 93) "sign_by" 672 2 3 610 1194 (some ["judge", "number"]) (.str "swornspire.judgechain" 1192) ++ (
  mkD (top 94) "changes_by" 678 2 3 617 1202 none (.str "swornspire.judgechain" 1192) ++ (
  mkD (top 95) "takes_step" 682 5 3 622 1208 (some ["judge", "before", "poly", "after", "step", "scale", "quotient", "factor", "place", "left"]) (.str "swornspire.judgechain" 1192) ++ (
  mkD (top 96) "is_chain_form" 693 2 3 629 1224 none (.str "swornspire.judgechain" 1192) ++ (
  mkD (top 97) "takes_chain" 702 3 3 634 1230 (some ["judge", "poly", "chain", "polys", "steps", "index", "step", "ends", "after"]) (.str "swornspire.judgechain" 1192) ++ (
  mkD (top 98) "are_values" 718 4 3 641 1245 (some ["judge", "chain", "point", "values", "poly", "value"]) (.str "swornspire.judgechain" 1192) ++ (
  mkD (top 99) "changes_low" 725 2 3 648 1257 none (.str "swornspire.judgechain" 1192) ++ (
  mkD (top 100) "changes_high" 727 2 3 653 1263 none (.str "swornspire.judgechain" 1192) ++ (
  mkD (top 101) "roots_by" 729 2 3 658 1269 (some ["judge", "chain"]) (.str "swornspire.judgechain" 1192) ++ (
  mkD (top 102) "counts_well" 731 3 3 665 1277 (some ["chain", "values", "values2"]) (.str "swornspire.judgechain" 1192) ++ (
  mkD (top 103) "is_span" 733 3 3 672 1286 (some ["judge", "low", "high"]) (.str "swornspire.judgechain" 1192) ++ (
  mkD (top 104) "has_one" 737 5 3 679 1295 (some ["judge", "chain", "values", "values2", "index", "first"]) (.str "swornspire.judgechain" 1192) ++ (
  mkD (top 105) "takes_place" 742 3 3 686 1307 (some ["judge", "root", "place", "low", "high", "chain", "values", "values2"]) (.str "swornspire.judgechain" 1192) ++ (
  mkD (top 106) "takes_ends" 751 7 3 693 1321 (some ["judge", "poly", "chain", "low", "high", "values", "values2"]) (.str "swornspire.judgechain" 1192)))))))))))))))))))))))))
def s150_o4 (P : Params) : List Obj := mkD (top 108) "binomial_row" 756 1 3 700 1336 none (.str "swornspire.judgesums" 1334) ++ (
  mkD (top 109) "combined_terms" 761 5 3 705 1342 (some ["op", "factor", "poly", "row", "column"]) (.str "swornspire.judgesums" 1334) ++ (
  mkD (top 110) "first_terms" 769 4 3 712 1353 (some ["table", "poly", "row", "column", "terms", "place", "line"]) (.str "swornspire.judgesums" 1334) ++ (
  mkD (top 111) "second_terms" 775 4 3 719 1366 (some ["table", "poly", "row", "column", "terms", "place", "number"]) (.str "swornspire.judgesums" 1334) ++ (
  mkD (top 112) "longest_line" 782 1 3 726 1379 none (.str "swornspire.judgesums" 1334) ++ (
  mkD (top 113) "is_member" 784 6 3 731 1385 (some ["judge", "op", "factor", "poly", "tables", "polys", "first", "second", "x", "y", "rows", "columns", "row", "column", "left", "right"]) (.str "swornspire.judgesums" 1334) ++ (
  mkD (top 114) "is_sum_of_ends" 796 4 3 738 1407 (some ["judge", "end", "x", "y", "left"]) (.str "swornspire.judgesums" 1334) ++ (
  mkD (top 115) "is_corner" 799 6 3 745 1418 (some ["judge", "pairs", "low", "high", "x", "y", "k", "l", "m", "n"]) (.str "swornspire.judgesums" 1334) ++ (
  mkD (top 116) "are_corners" 808 6 3 752 1434 (some ["judge", "place", "place2", "low", "high", "pairs", "at", "x", "y"]) (.str "swornspire.judgesums" 1334) ++ (
  mkD (top 117) "is_covered" 818 6 3 759 1449 (some ["judge", "op", "place", "place2", "place3", "pairs", "low", "high"]) (.str "swornspire.judgesums" 1334) ++ (
  mkD (top 118) "takes_combined" 825 5 3 766 1463 (some ["judge", "op", "args", "value", "paper", "x", "y", "place", "place2", "place3", "pairs", "poly", "factor", "first", "second", "k", "u", "chain", "values", "values2", "irreducible"]) (.str "swornspire.judgesums" 1334) ++ (
  mkD (top 119) "roots_ahead" 848 3 3 773 1490 (some ["judge", "chain", "values"]) (.str "swornspire.judgesums" 1334) ++ (
  mkD (top 121) "takes_count" 851 4 3 780 1501 (some ["judge", "args", "value", "paper", "x"]) (.str "swornspire.judgeroot" 1499) ++ (
  mkD (top 122) "takes_root" 856 5 3 787 1512 (some ["judge", "extra", "args", "value", "paper", "x", "k", "u", "place", "chain", "values", "values2", "irreducible"]) (.str "swornspire.judgeroot" 1499) ++ (
  mkD (top 123) "takes_negated" 870 4 3 794 1531 (some ["judge", "args", "value", "paper", "factor", "chain", "poly", "index", "place", "number", "term"]) (.str "swornspire.judgeroot" 1499) ++ (
  mkD (top 124) "is_order" 884 5 3 801 1548 (some ["judge", "place", "place2", "k", "l", "high", "low"]) (.str "swornspire.judgeroot" 1499) ++ (
  mkD (top 125) "takes_root_order" 890 4 3 808 1561 (some ["judge", "args", "value", "paper", "x", "y", "place", "place2", "k", "l"]) (.str "swornspire.judgeroot" 1499) ++ (
  mkD (top 126) "takes_sign" 902 4 3 815 1577 (some ["judge", "args", "value", "paper", "x", "root", "place", "chain", "values", "values2"]) (.str "swornspire.judgeroot" 1499) ++ (
  mkD (top 127) "roots_below" 918 3 3 822 1593 (some ["judge", "chain", "values", "many"]) (.str "swornspire.judgeroot" 1499) ++ (
  mkD (top 128) "takes_root_floor" 921 4 3 829 1603 (some ["judge", "args", "value", "paper", "poly", "index", "following", "chain", "values", "values2"]) (.str "swornspire.judgeroot" 1499) ++ (
  mkD (top 129) "takes_lifted_root" 935 4 3 836 1619 (some ["judge", "args", "value", "paper", "top", "bottom"]) (.str "swornspire.judgeroot" 1499) ++ (
  mkD (top 130) "takes_any_root" 940 6 3 843 1631 (some ["judge", "op", "extra", "args", "value", "paper"]) (.str "swornspire.judgeroot" 1499) ++ (
  mkD (top 131) "bars_root" 958 5 3 850 1643 (some ["judge", "op", "extra", "args", "paper", "x"]) (.str "swornspire.judgeroot" 1499) ++ (
  mkD (top 133) "entry_terms" 966 2 3 857 1657 none (.str "swornspire.judgetable" 1655) ++ (
  mkD (top 134) "column_at" 968 2 3 862 1663 none (.str "swornspire.judgetable" 1655)))))))))))))))))))))))))
def s150_o5 (P : Params) : List Obj := mkD (top 135) "has_sides" 970 3 3 867 1669 (some ["value", "rows", "columns"]) (.str "swornspire.judgetable" 1655) ++ (
  mkD (top 136) "takes_entries" 972 5 3 874 1678 (some ["judge", "op", "args", "value", "paper", "place", "row", "column", "entry", "x", "same"]) (.str "swornspire.judgetable" 1655) ++ (
  mkD (top 137) "takes_product" 987 4 3 881 1695 (some ["judge", "args", "value", "paper", "place", "row", "column", "entry", "terms"]) (.str "swornspire.judgetable" 1655) ++ (
  mkD (top 138) "minor_terms" 996 3 3 888 1710 (some ["line", "chosen", "known", "terms", "size", "place", "column", "others", "term"]) (.str "swornspire.judgetable" 1655) ++ (
  mkD (top 139) "takes_determinant" 1006 4 3 895 1725 none (.str "swornspire.judgetable" 1655) ++ (
  mkD (top 140) "is_diagonal" 1021 4 3 900 1731 (some ["judge", "left", "right", "number", "place", "row", "column", "terms", "due"]) (.str "swornspire.judgetable" 1655) ++ (
  mkD (top 141) "is_combination" 1029 5 3 907 1746 none (.str "swornspire.judgetable" 1655) ++ (
  mkD (top 142) "takes_rank" 1035 4 3 912 1752 none (.str "swornspire.judgetable" 1655) ++ (
  mkD (top 143) "is_solution" 1051 5 3 917 1758 (some ["judge", "table", "right", "numbers", "factor", "row", "other"]) (.str "swornspire.judgetable" 1655) ++ (
  mkD (top 144) "is_bar" 1058 4 3 924 1771 (some ["judge", "table", "right", "paper", "numbers", "value", "column"]) (.str "swornspire.judgetable" 1655) ++ (
  mkD (top 145) "are_pivots" 1068 6 3 931 1784 none (.str "swornspire.judgetable" 1655) ++ (
  mkD (top 146) "takes_solution" 1087 5 3 936 1790 (some ["judge", "args", "numbers", "scale", "rest", "table", "right", "mix", "pivots", "left", "factor", "sums", "column", "number"]) (.str "swornspire.judgetable" 1655) ++ (
  mkD (top 147) "takes_solve" 1104 5 3 943 1810 none (.str "swornspire.judgetable" 1655) ++ (
  mkD (top 148) "takes_solvable" 1113 4 3 948 1816 (some ["judge", "args", "value", "paper", "table", "right"]) (.str "swornspire.judgetable" 1655) ++ (
  mkD (top 149) "takes_table" 1120 6 3 955 1828 none (.str "swornspire.judgetable" 1655) ++ (
  mkD (top 150) "bars_table" 1142 3 3 960 1834 (some ["judge", "args", "paper"]) (.str "swornspire.judgetable" 1655))))))))))))))))
def s150_o (P : Params) : List Obj := s150_o0 P ++ (s150_o1 P ++ (s150_o2 P ++ (s150_o3 P ++ (s150_o4 P ++ (s150_o5 P)))))
def s150_e0 : List Ent := [en "__name__" 165 (.str "swornspire.judgetable" 1655),
  en "__doc__" 166 .none,
  en "__package__" 167 .none,
  en "__loader__" 168 (.builtin "__main__.__loader__#opaque"),
  en "__spec__" 169 .none,
  er "__annotations__" 170 6,
  er "__builtins__" 171 4,
  en "__file__" 173 (.str "/claim/cut.py" 172),
  en "__cached__" 174 .none,
  er "SpireError" 206 24,
  er "NotSo" 233 46,
  er "is_whole" 242 55,
  er "bits_of" 249 62,
  er "words_of" 260 69,
  er "is_word_prime" 270 76,
  er "weight_of" 277 83,
  er "are_good_points" 287 90,
  er "used_points" 298 97,
  er "need_of" 304 102,
  er "trimmed" 314 109,
  er "product_words" 335 116,
  er "Judge" 458 192,
  er "is_parts" 468 203,
  er "is_numbers" 474 208,
  er "is_row" 480 213,
  er "is_rows" 486 218,
  er "are_rows" 492 223,
  er "is_poly_form" 499 230,
  er "is_point" 506 237,
  er "is_ascending" 516 244,
  er "is_lowest" 531 251,
  er "takes_sum" 549 258,
  er "takes_over" 561 265,
  er "takes_floor" 573 272,
  er "takes_order" 589 279,
  er "is_wide" 602 286,
  er "takes_again" 622 293,
  er "takes_fraction" 634 300,
  er "bars_rows" 656 307,
  er "bars_again" 669 314]
def s150_e1 : List Ent := [er "bars_fraction" 679 321,
  er "choices" 695 328,
  er "subsets" 701 333,
  er "half_choices" 711 340,
  er "reduced_mod" 719 345,
  er "inverse_mod" 730 352,
  er "monic_mod" 736 357,
  er "difference_mod" 748 364,
  er "product_mod" 762 371,
  er "division_mod" 779 378,
  er "rest_mod" 788 385,
  er "divisor_mod" 799 392,
  er "bezout_mod" 805 397,
  er "derivative_mod" 811 402,
  er "power_mod" 824 409,
  er "is_squarefree_mod" 833 416,
  er "irreducible_mod" 845 423,
  er "product_terms" 860 430,
  er "own_terms" 869 437,
  er "is_product" 881 444,
  er "is_multiple" 892 451,
  er "is_poly_sum" 908 458,
  en "MOST_PRIME" 912 (.int 65535 911),
  en "MOST_COUNT" 914 (.int 4000 913),
  en "MOST_FACTORS" 916 (.int 8 915),
  er "is_mixed" 922 463,
  er "is_small_prime" 929 470,
  er "rests_of" 935 475,
  er "is_irreducible_rest" 945 482,
  er "chain_end" 963 489,
  er "takes_whole_chain" 978 496,
  er "takes_refusal" 984 501,
  er "are_factors" 998 508,
  er "is_roomy" 1012 515,
  er "takes_lifted" 1034 522,
  er "takes_irreducible" 1043 529,
  er "takes_sums" 1062 536,
  er "takes_slope" 1075 543,
  er "value_terms" 1090 550,
  er "takes_value" 1096 555]
def s150_e2 : List Ent := [er "takes_value_judgepoly" 1097 555,
  er "takes_fraction_value" 1111 562,
  er "takes_common" 1131 569,
  er "are_in_order" 1140 576,
  er "unlike_polys" 1149 583,
  er "takes_factored" 1155 588,
  er "takes_part" 1167 595,
  er "takes_poly" 1180 602,
  er "bars_poly" 1191 609,
  er "sign_by" 1201 616,
  er "changes_by" 1207 621,
  er "takes_step" 1223 628,
  er "is_chain_form" 1229 633,
  er "takes_chain" 1244 640,
  er "are_values" 1256 647,
  er "changes_low" 1262 652,
  er "changes_high" 1268 657,
  er "roots_by" 1276 664,
  er "counts_well" 1285 671,
  er "is_span" 1294 678,
  er "has_one" 1306 685,
  er "takes_place" 1320 692,
  er "takes_ends" 1333 699,
  er "binomial_row" 1341 704,
  er "combined_terms" 1352 711,
  er "first_terms" 1365 718,
  er "second_terms" 1378 725,
  er "longest_line" 1384 730,
  er "is_member" 1406 737,
  er "is_sum_of_ends" 1417 744,
  er "is_corner" 1433 751,
  er "are_corners" 1448 758,
  er "is_covered" 1462 765,
  er "takes_combined" 1489 772,
  er "roots_ahead" 1498 779,
  er "takes_count" 1511 786,
  er "takes_root" 1530 793,
  er "takes_negated" 1547 800,
  er "is_order" 1560 807,
  er "takes_root_order" 1576 814]
def s150_e3 : List Ent := [er "takes_sign" 1592 821,
  er "roots_below" 1602 828,
  er "takes_root_floor" 1618 835,
  er "takes_lifted_root" 1630 842,
  er "takes_any_root" 1642 849,
  er "bars_root" 1654 856,
  er "entry_terms" 1662 861,
  er "column_at" 1668 866,
  er "has_sides" 1677 873,
  er "takes_entries" 1694 880,
  er "takes_product" 1709 887,
  er "minor_terms" 1724 894,
  er "takes_determinant" 1730 899,
  er "is_diagonal" 1745 906,
  er "is_combination" 1751 911,
  er "takes_rank" 1757 916,
  er "is_solution" 1770 923,
  er "is_bar" 1783 930,
  er "are_pivots" 1789 935,
  er "takes_solution" 1809 942,
  er "takes_solve" 1815 947,
  er "takes_solvable" 1827 954,
  er "takes_table" 1833 959,
  er "bars_table" 1842 966]
def s150_m (P : Params) : Obj := oD P (s150_e0 ++ (s150_e1 ++ (s150_e2 ++ (s150_e3)))) 144
noncomputable abbrev S150 (w : World) (os : OsState) : SharedT := stT (s150_o w.params) (some (s150_m w.params)) 967 1843 w os
def s260_o0 (P : Params) : List Obj := [⟨(.type "tuple"), none, (.seq ⟨[]⟩ 0), ⟨[]⟩⟩,
  oK [(2, 0, 20), (4, 0, 34), (10, 0, 54), (12, 0, 61), (14, 0, 68), (23, 0, 75), (34, 0, 82), (36, 0, 89), (45, 0, 96), (52, 0, 101), (58, 0, 108), (64, 0, 115), (77, 0, 122), (161, 0, 202), (163, 0, 207), (165, 0, 212), (167, 0, 217), (169, 0, 222), (171, 0, 229), (173, 0, 236), (175, 0, 243), (185, 0, 250), (189, 0, 257), (203, 0, 264), (210, 0, 271), (217, 0, 278), (225, 0, 285), (230, 0, 292), (246, 0, 299), (269, 0, 306), (284, 0, 313), (291, 0, 320), (300, 0, 327), (310, 0, 332), (315, 0, 339), (323, 0, 344), (325, 0, 351), (335, 0, 356), (338, 0, 363), (343, 0, 370), (351, 0, 377), (362, 0, 384), (364, 0, 391), (369, 0, 396), (378, 0, 401), (380, 0, 408), (390, 0, 415), (395, 0, 422), (405, 0, 429), (411, 0, 436), (415, 0, 443), (420, 0, 450), (422, 0, 457), (433, 0, 462), (437, 0, 469), (439, 0, 474), (442, 0, 481), (445, 0, 488), (459, 0, 495), (471, 0, 500), (489, 0, 507), (504, 0, 514), (511, 0, 521), (532, 0, 528), (543, 0, 535), (562, 0, 542), (571, 0, 549), (578, 0, 554), (585, 0, 561), (594, 0, 568), (606, 0, 575), (611, 0, 582), (617, 0, 587), (638, 0, 594), (644, 0, 601), (665, 0, 608), (672, 0, 615), (678, 0, 620), (682, 0, 627), (693, 0, 632), (702, 0, 639), (718, 0, 646), (725, 0, 651), (727, 0, 656), (729, 0, 663), (731, 0, 670), (733, 0, 677), (737, 0, 684), (742, 0, 691), (751, 0, 698), (756, 0, 703), (761, 0, 710), (769, 0, 717), (775, 0, 724), (782, 0, 729), (784, 0, 736), (796, 0, 743), (799, 0, 750), (808, 0, 757), (818, 0, 764), (825, 0, 771), (848, 0, 778), (851, 0, 785), (856, 0, 792), (870, 0, 799), (884, 0, 806), (890, 0, 813), (902, 0, 820), (918, 0, 827), (921, 0, 834), (935, 0, 841), (940, 0, 848), (958, 0, 855), (966, 0, 860), (968, 0, 865), (970, 0, 872), (972, 0, 879), (987, 0, 886), (996, 0, 893), (1006, 0, 898), (1021, 0, 905), (1029, 0, 910), (1035, 0, 915), (1051, 0, 922), (1058, 0, 929), (1068, 0, 934), (1087, 0, 941), (1104, 0, 946), (1113, 0, 953), (1120, 0, 958), (1142, 0, 965), (1145, 0, 970), (1147, 0, 977), (1155, 0, 984), (1158, 0, 991), (1176, 0, 998), (1182, 0, 1005), (1187, 0, 1010), (1197, 0, 1015), (1216, 0, 1022), (1229, 0, 1027), (1231, 0, 1034), (1249, 0, 1041), (1257, 0, 1048), (1265, 0, 1055), (1270, 0, 1062), (1277, 0, 1069), (1287, 0, 1076), (1297, 0, 1083), (1311, 0, 1092), (1327, 0, 1099), (1337, 0, 1106), (1357, 0, 1120), (1369, 0, 1127), (1380, 0, 1134), (1387, 0, 1141), (1399, 0, 1148), (1401, 0, 1155), (1406, 0, 1160), (1413, 0, 1167), (1419, 0, 1174), (1424, 0, 1181), (1426, 0, 1188), (1428, 0, 1195), (1430, 0, 1202), (1434, 0, 1209), (1436, 0, 1216), (1438, 0, 1223), (1440, 0, 1230), (1442, 0, 1237), (1448, 0, 1244), (1455, 0, 1251), (1463, 0, 1258), (1467, 0, 1265), (1476, 0, 1272), (1481, 0, 1279), (1485, 0, 1286), (1495, 0, 1293), (1499, 0, 1298), (1502, 0, 1303), (1505, 0, 1308), (1507, 0, 1315), (1515, 0, 1320), (1517, 0, 1325), (1519, 0, 1332), (1524, 0, 1339), (1531, 0, 1346), (1533, 0, 1351), (1540, 0, 1356), (1554, 0, 1361), (1570, 0, 1366), (1572, 0, 1371), (1575, 0, 1378), (1580, 0, 1385), (1583, 0, 1392), (1591, 0, 1399), (1600, 0, 1404), (1602, 0, 1409), (1619, 0, 1416), (1624, 0, 1423), (1630, 0, 1430), (1641, 0, 1435), (1662, 0, 1442), (1678, 0, 1449), (1690, 0, 1454), (1692, 0, 1459), (1702, 0, 1466), (1708, 0, 1473), (1710, 0, 1480), (1718, 0, 1487), (1723, 0, 1494), (1735, 0, 1501), (1737, 0, 1508), (1743, 0, 1513), (1749, 0, 1518), (1759, 0, 1523), (1761, 0, 1530)],
  ⟨(.type "code"), none, (.fields ⟨[(.str "<module>" 182), (.str "<module>" 183), (.str "/claim/cut.py" 184), (.int 1 0), (.int 0 0), (.int 0 0), (.int 0 0), (.int 0 0), (.ref 11), (.bool false), (.int 181 0), (.ref 12), .none, .none, .none, .none, (.int 185 0), (.int 1 0), (.str "/claim/cut.py" 186)]⟩), ⟨[]⟩⟩,
  ⟨(.type "frame"), none, .plain, ⟨[(some (.ref 13)), (some (.ref 3)), (some (.ref 3)), none, (some (.str "__main__" 164)), none, (some (.ref 0))]⟩⟩,
  ⟨(.type "tuple"), none, (.seq ⟨[(.type "ValueError")]⟩ 0), ⟨[]⟩⟩,
  ⟨(.type "builtin_function_or_method"), none, (.fields ⟨[(.builtin "type.__prepare__"), (.type "type")]⟩), ⟨[]⟩⟩,
  oD P [en "__module__" 196 (.str "swornspire.errors" 187), en "__qualname__" 198 (.str "SpireError" 197), en "__firstlineno__" 200 (.int 2 199), er "__static_attributes__" 201 22] 4,
  ⟨(.type "tuple"), none, (.seq ⟨[]⟩ 0), ⟨[]⟩⟩,
  ⟨.none, none, (.fields ⟨[]⟩), ⟨[]⟩⟩,
  ⟨(.type "code"), none, (.fields ⟨[(.str "SpireError" 191), (.str "SpireError" 192), (.str "/claim/cut.py" 193), (.int 2 0), (.int 0 0), (.int 0 0), (.int 0 0), (.int 0 0), (.ref 18), (.bool false), (.int 181 0), (.ref 19), .none, .none, .none, .none, (.int 194 0), (.int 2 0), (.str "/claim/cut.py" 195)]⟩), ⟨[]⟩⟩,
  ⟨(.type "frame"), none, .plain, ⟨[(some (.ref 20)), (some (.ref 3)), (some (.ref 17)), none, (some (.str "swornspire.errors" 187)), none, (some (.ref 0))]⟩⟩,
  ⟨(.type "tuple"), none, (.seq ⟨[]⟩ 0), ⟨[]⟩⟩,
  oD P [en "__module__" 196 (.str "swornspire.errors" 187), en "__firstlineno__" 200 (.int 2 199), er "__static_attributes__" 201 22, er "__weakref__" 203 25, en "__doc__" 204 .none] 3,
  ⟨(.type "type"), none, (.cls { name := "SpireError", bases := [(.type "ValueError")], mro := [(.ref 24), (.type "ValueError"), (.type "Exception"), (.type "BaseException"), (.type "object")], ns := 23, qualname := "SpireError", hasDict := true, subclasses := [(.ref 46)] }), ⟨[(some (.ref 15)), none, (some (.str "SpireError" 189)), (some (.str "SpireError" 197)), (some (.builtin "ValueError.__new__")), (some (.bool true))]⟩⟩,
  ⟨(.type "getset_descriptor"), none, (.fields ⟨[(.str "__weakref__" 202), (.ref 24), (.builtin "ExceptionGroup.__weakref__"), .none]⟩), ⟨[]⟩⟩,
  ⟨(.type "super"), none, (.fields ⟨[(.ref 24), (.ref 24), (.ref 24)]⟩), ⟨[]⟩⟩,
  ⟨(.type "builtin_function_or_method"), none, (.fields ⟨[(.builtin "object.__init_subclass__"), (.ref 24)]⟩), ⟨[]⟩⟩,
  ⟨(.type "tuple"), none, (.seq ⟨[(.ref 24)]⟩ 0), ⟨[]⟩⟩,
  ⟨(.type "builtin_function_or_method"), none, (.fields ⟨[(.builtin "type.__prepare__"), (.type "type")]⟩), ⟨[]⟩⟩,
  oD P [en "__module__" 214 (.str "swornspire.errors" 187), en "__qualname__" 216 (.str "NotSo" 215), en "__firstlineno__" 218 (.int 4 217), er "__init__" 227 43, er "__static_attributes__" 229 44, er "__classcell__" 230 31] 6,
  ⟨(.type "cell"), none, (.cell (some (.ref 46))), ⟨[]⟩⟩,
  ⟨(.type "tuple"), none, (.seq ⟨[]⟩ 0), ⟨[]⟩⟩,
  ⟨.none, none, (.fields ⟨[(.int 6 0), (.int 4 0), (.ref 42)]⟩), ⟨[]⟩⟩,
  ⟨(.type "code"), none, (.fields ⟨[(.str "NotSo" 209), (.str "NotSo" 210), (.str "/claim/cut.py" 211), (.int 4 0), (.int 0 0), (.int 0 0), (.int 0 0), (.int 0 0), (.ref 32), (.bool false), (.int 181 0), (.ref 33), .none, .none, .none, .none, (.int 212 0), (.int 4 0), (.str "/claim/cut.py" 213)]⟩), ⟨[]⟩⟩,
  ⟨(.type "frame"), none, .plain, ⟨[(some (.ref 34)), (some (.ref 3)), (some (.ref 30)), none, (some (.str "swornspire.errors" 187)), none, (some (.ref 0))]⟩⟩,
  ⟨(.type "tuple"), none, (.seq ⟨[(.ref 31)]⟩ 0), ⟨[]⟩⟩,
  ⟨(.type "tuple"), none, (.seq ⟨[(.str "__class__" 222)]⟩ 0), ⟨[]⟩⟩,
  ⟨.none, none, (.fields ⟨[]⟩), ⟨[]⟩⟩,
  ⟨(.type "tuple"), none, (.seq ⟨[(.str "self" 223), (.str "rule" 224)]⟩ 0), ⟨[]⟩⟩,
  ⟨(.type "tuple"), none, (.seq ⟨[]⟩ 0), ⟨[]⟩⟩,
  ⟨.none, none, (.func { name := "__init__", qualname := "NotSo.__init__", params := defArgs (inClass (top 2) 0), body := .stmts (defBody (inClass (top 2) 0)), scope := defScope (inClass (top 2) 0), globals := 0, closure := [], defaults := .none, kwdefaults := .none, doc := .none, pyModule := .none, annotations := none, code := .none, closureTuple := .none, builtins := 0 }), ⟨[]⟩⟩,
  ⟨(.type "code"), none, (.fields ⟨[(.str "__init__" 219), (.str "NotSo.__init__" 220), (.str "/claim/cut.py" 221), (.int 6 0), (.int 2 0), (.int 0 0), (.int 0 0), (.int 3 0), (.ref 37), (.bool true), (.int 181 0), (.ref 38), .none, (.ref 39), (.ref 40), (.ref 41), (.int 225 0), (.int 6 0), (.str "/claim/cut.py" 226)]⟩), ⟨[]⟩⟩,
  ⟨(.type "function"), none, (.func { name := "__init__", qualname := "NotSo.__init__", params := defArgs (inClass (top 2) 0), body := .stmts (defBody (inClass (top 2) 0)), scope := defScope (inClass (top 2) 0), globals := 3, closure := [("__class__", 31)], defaults := .none, kwdefaults := .none, doc := .none, pyModule := (.str "swornspire.errors" 187), annotations := none, code := (.ref 42), closureTuple := (.ref 36), builtins := 0 }), ⟨[]⟩⟩,
  ⟨(.type "tuple"), none, (.seq ⟨[(.str "rule" 228)]⟩ 0), ⟨[]⟩⟩,
  oD P [en "__module__" 214 (.str "swornspire.errors" 187), en "__firstlineno__" 218 (.int 4 217), er "__init__" 227 43, er "__static_attributes__" 229 44, en "__doc__" 231 .none] 3,
  ⟨(.type "type"), none, (.cls { name := "NotSo", bases := [(.ref 24)], mro := [(.ref 46), (.ref 24), (.type "ValueError"), (.type "Exception"), (.type "BaseException"), (.type "object")], ns := 45, qualname := "NotSo", hasDict := true, subclasses := [] }), ⟨[(some (.ref 28)), none, (some (.str "NotSo" 207)), (some (.str "NotSo" 215)), (some (.builtin "ValueError.__new__")), (some (.bool true))]⟩⟩,
  ⟨(.type "super"), none, (.fields ⟨[(.ref 46), (.ref 46), (.ref 46)]⟩), ⟨[]⟩⟩,
  ⟨(.type "builtin_function_or_method"), none, (.fields ⟨[(.builtin "object.__init_subclass__"), (.ref 46)]⟩), ⟨[]⟩⟩] ++ (
  mkD (top 4) "is_whole" 10 1 3 49 236 (some ["value"]) (.str "swornspire.sizes" 234) ++ (
  mkD (top 5) "bits_of" 12 1 3 56 243 (some ["number"]) (.str "swornspire.sizes" 234) ++ (
  mkD (top 6) "words_of" 14 2 3 63 250 (some ["number", "bits", "rest", "base", "words"]) (.str "swornspire.sizes" 234) ++ (
  mkD (top 8) "is_word_prime" 23 1 3 70 263 (some ["number", "divisor"]) (.str "swornspire.points" 261) ++ (
  mkD (top 9) "weight_of" 34 1 3 77 271 (some ["point"]) (.str "swornspire.points" 261) ++ (
  mkD (top 10) "are_good_points" 36 2 3 84 278 (some ["points", "bits", "last", "point"]) (.str "swornspire.points" 261) ++ (
  mkD (top 11) "used_points" 45 2 3 91 288 (some ["points", "need", "weight", "used", "point"]) (.str "swornspire.points" 261) ++ (
  mkD (top 12) "need_of" 52 1 3 98 299 none (.str "swornspire.points" 261) ++ (
  mkD (top 14) "trimmed" 58 1 3 103 307 (some ["numbers", "end"]) (.str "swornspire.trimming" 305) ++ (
  mkD (top 16) "product_words" 64 3 3 110 317 (some ["left", "right", "bits", "xs", "ys", "base", "words", "low", "x", "high", "place", "y", "total"]) (.str "swornspire.judge" 315) ++ (
  [⟨(.type "tuple"), none, (.seq ⟨[]⟩ 0), ⟨[]⟩⟩,
  ⟨(.type "builtin_function_or_method"), none, (.fields ⟨[(.builtin "type.__prepare__"), (.type "type")]⟩), ⟨[]⟩⟩,
  oD P [en "__module__" 343 (.str "swornspire.judge" 315), en "__qualname__" 345 (.str "Judge" 344), en "__firstlineno__" 347 (.int 77 346), er "__init__" 356 130, er "rest_of" 368 137, er "leaves_none" 382 144, er "zero" 388 149, er "size_less" 399 156, er "less" 410 163, er "fraction_less" 421 170, er "most_of" 430 177, er "between" 439 184, er "equal" 445 189, er "__static_attributes__" 451 190] 14,
  ⟨(.type "tuple"), none, (.seq ⟨[]⟩ 0), ⟨[]⟩⟩,
  ⟨.none, none, (.fields ⟨[(.int 79 0), (.int 4 0), (.ref 129), (.int 86 0), (.int 4 0), (.ref 136), (.int 94 0), (.int 4 0), (.ref 143), (.int 103 0), (.int 4 0), (.ref 148), (.int 120 0), (.int 4 0), (.ref 155), (.int 128 0), (.int 4 0), (.ref 162), (.int 140 0), (.int 4 0), (.ref 169), (.int 152 0), (.int 4 0), (.ref 176), (.int 155 0), (.int 4 0), (.ref 183), (.int 158 0), (.int 4 0), (.ref 188)]⟩), ⟨[]⟩⟩,
  ⟨(.type "code"), none, (.fields ⟨[(.str "Judge" 338), (.str "Judge" 339), (.str "/claim/cut.py" 340), (.int 77 0), (.int 0 0), (.int 0 0), (.int 0 0), (.int 0 0), (.ref 120), (.bool false), (.int 181 0), (.ref 121), .none, .none, .none, .none, (.int 341 0), (.int 77 0), (.str "/claim/cut.py" 342)]⟩), ⟨[]⟩⟩,
  ⟨(.type "frame"), none, .plain, ⟨[(some (.ref 122)), (some (.ref 3)), (some (.ref 119)), none, (some (.str "swornspire.judge" 315)), none, (some (.ref 0))]⟩⟩] ++ (
  mkD (inClass (top 17) 0) "Judge.__init__" 79 3 3 124 348 (some ["self", "bits", "points"]) (.str "swornspire.judge" 315) ++ (
  mkD (inClass (top 17) 1) "Judge.rest_of" 86 4 3 131 357 (some ["self", "number", "words", "point", "rest", "word"]) (.str "swornspire.judge" 315) ++ (
  mkD (inClass (top 17) 2) "Judge.leaves_none" 94 3 3 138 369 (some ["self", "read", "point", "total", "term", "product", "number", "words"]) (.str "swornspire.judge" 315) ++ (
  mkD (inClass (top 17) 3) "Judge.zero" 103 2 3 145 383 none (.str "swornspire.judge" 315) ++ (
  mkD (inClass (top 17) 4) "Judge.size_less" 120 3 3 150 389 (some ["self", "left", "right", "word", "other"]) (.str "swornspire.judge" 315) ++ (
  mkD (inClass (top 17) 5) "Judge.less" 128 3 3 157 400 (some ["self", "left", "right", "left_words", "right_words"]) (.str "swornspire.judge" 315) ++ (
  mkD (inClass (top 17) 6) "Judge.fraction_less" 140 3 3 164 411 (some ["self", "left", "right", "first", "second"]) (.str "swornspire.judge" 315) ++ (
  mkD (inClass (top 17) 7) "Judge.most_of" 152 3 3 171 422 (some ["self", "left", "right"]) (.str "swornspire.judge" 315) ++ (
  mkD (inClass (top 17) 8) "Judge.between" 155 3 3 178 431 (some ["self", "number", "bound"]) (.str "swornspire.judge" 315) ++ (
  mkD (inClass (top 17) 9) "Judge.equal" 158 3 3 185 440 none (.str "swornspire.judge" 315) ++ (
  [⟨(.type "tuple"), none, (.seq ⟨[(.str "bits" 446), (.str "good" 447), (.str "most" 448), (.str "points" 449), (.str "steps" 450)]⟩ 0), ⟨[]⟩⟩,
  oD P [en "__module__" 343 (.str "swornspire.judge" 315), en "__firstlineno__" 347 (.int 77 346), er "__init__" 356 130, er "rest_of" 368 137, er "leaves_none" 382 144, er "zero" 388 149, er "size_less" 399 156, er "less" 410 163, er "fraction_less" 421 170, er "most_of" 430 177, er "between" 439 184, er "equal" 445 189, er "__static_attributes__" 451 190, er "__dict__" 453 193, er "__weakref__" 455 194, en "__doc__" 456 .none] 4,
  ⟨(.type "type"), none, (.cls { name := "Judge", bases := [(.type "object")], mro := [(.ref 192), (.type "object")], ns := 191, qualname := "Judge", hasDict := true, subclasses := [] }), ⟨[none, none, (some (.str "Judge" 336)), (some (.str "Judge" 344)), (some (.builtin "object.__new__")), (some (.bool true))]⟩⟩,
  ⟨(.type "getset_descriptor"), none, (.fields ⟨[(.str "__dict__" 452), (.ref 192), (.builtin "function.__dict__"), (.builtin "function.__dict__#set")]⟩), ⟨[]⟩⟩,
  ⟨(.type "getset_descriptor"), none, (.fields ⟨[(.str "__weakref__" 454), (.ref 192), (.builtin "ExceptionGroup.__weakref__"), .none]⟩), ⟨[]⟩⟩,
  ⟨(.type "super"), none, (.fields ⟨[(.ref 192), (.ref 192), (.ref 192)]⟩), ⟨[]⟩⟩,
  ⟨(.type "builtin_function_or_method"), none, (.fields ⟨[(.builtin "object.__init_subclass__"), (.ref 192)]⟩), ⟨[]⟩⟩] ++ (
  mkD (top 19) "is_parts" 161 2 3 197 461 (some ["value", "many"]) (.str "swornspire.shapes" 459) ++ (
  mkD (top 20) "is_numbers" 163 2 3 204 469 none (.str "swornspire.shapes" 459)))))))))))))))))))))))))
def s260_o1 (P : Params) : List Obj := mkD (top 21) "is_row" 165 1 3 209 475 none (.str "swornspire.shapes" 459) ++ (
  mkD (top 22) "is_rows" 167 3 3 214 481 none (.str "swornspire.shapes" 459) ++ (
  mkD (top 23) "are_rows" 169 1 3 219 487 none (.str "swornspire.shapes" 459) ++ (
  mkD (top 24) "is_poly_form" 171 1 3 224 493 (some ["value"]) (.str "swornspire.shapes" 459) ++ (
  mkD (top 25) "is_point" 173 1 3 231 500 (some ["value"]) (.str "swornspire.shapes" 459) ++ (
  mkD (top 26) "is_ascending" 175 2 3 238 507 (some ["value", "limit", "last", "number"]) (.str "swornspire.shapes" 459) ++ (
  mkD (top 28) "is_lowest" 185 3 3 245 519 (some ["judge", "value", "paper", "top", "bottom", "s", "t"]) (.str "swornspire.judgefraction" 517) ++ (
  mkD (top 29) "takes_sum" 189 5 3 252 532 (some ["judge", "op", "args", "value", "paper", "a", "b", "c", "d", "p", "q", "same"]) (.str "swornspire.judgefraction" 517) ++ (
  mkD (top 30) "takes_over" 203 4 3 259 550 (some ["judge", "args", "value", "paper", "x", "y"]) (.str "swornspire.judgefraction" 517) ++ (
  mkD (top 31) "takes_floor" 210 4 3 266 562 (some ["judge", "args", "value", "paper", "a", "b"]) (.str "swornspire.judgefraction" 517) ++ (
  mkD (top 32) "takes_order" 217 4 3 273 574 (some ["judge", "args", "value", "paper", "a", "b", "c", "d", "k", "l"]) (.str "swornspire.judgefraction" 517) ++ (
  mkD (top 33) "is_wide" 225 3 3 280 590 (some ["judge", "args", "product", "x", "y", "z", "w"]) (.str "swornspire.judgefraction" 517) ++ (
  mkD (top 34) "takes_again" 230 4 3 287 603 (some ["judge", "args", "value", "paper", "x", "y", "z", "w", "n", "k", "e", "m", "s", "t"]) (.str "swornspire.judgefraction" 517) ++ (
  mkD (top 35) "takes_fraction" 246 5 3 294 623 (some ["judge", "op", "args", "value", "paper", "x"]) (.str "swornspire.judgefraction" 517) ++ (
  mkD (top 36) "bars_rows" 269 3 3 301 635 (some ["judge", "args", "paper", "x", "y", "z", "w", "m", "u", "s", "k", "v", "t", "l", "side", "size"]) (.str "swornspire.judgefraction" 517) ++ (
  mkD (top 37) "bars_again" 284 3 3 308 657 (some ["judge", "args", "paper", "x", "y", "z", "w"]) (.str "swornspire.judgefraction" 517) ++ (
  mkD (top 38) "bars_fraction" 291 4 3 315 670 (some ["judge", "op", "args", "paper"]) (.str "swornspire.judgefraction" 517) ++ (
  mkD (top 40) "choices" 300 2 3 322 682 (some ["many", "size", "found", "step", "longer", "part", "start", "number"]) (.str "swornspire.choosing" 680) ++ (
  mkD (top 41) "subsets" 310 1 3 329 696 none (.str "swornspire.choosing" 680) ++ (
  mkD (top 42) "half_choices" 315 1 3 334 702 (some ["many", "told", "size", "chosen"]) (.str "swornspire.choosing" 680) ++ (
  mkD (top 44) "reduced_mod" 323 2 3 341 714 none (.str "swornspire.modpolys" 712) ++ (
  mkD (top 45) "inverse_mod" 325 2 3 346 720 (some ["number", "prime", "result", "base", "exponent"]) (.str "swornspire.modpolys" 712) ++ (
  mkD (top 46) "monic_mod" 335 2 3 353 731 none (.str "swornspire.modpolys" 712) ++ (
  mkD (top 47) "difference_mod" 338 3 3 358 737 (some ["x", "y", "prime", "numbers", "place", "number"]) (.str "swornspire.modpolys" 712) ++ (
  mkD (top 48) "product_mod" 343 3 3 365 749 (some ["x", "y", "prime", "numbers", "low", "a", "place", "b"]) (.str "swornspire.modpolys" 712)))))))))))))))))))))))))
def s260_o2 (P : Params) : List Obj := mkD (top 49) "division_mod" 351 3 3 372 763 (some ["x", "y", "prime", "inverse", "rest", "many", "quotient", "place", "factor", "low", "number"]) (.str "swornspire.modpolys" 712) ++ (
  mkD (top 50) "rest_mod" 362 3 3 379 780 (some ["x", "y", "prime"]) (.str "swornspire.modpolys" 712) ++ (
  mkD (top 51) "divisor_mod" 364 3 3 386 789 (some ["x", "y", "prime", "old", "new"]) (.str "swornspire.modpolys" 712) ++ (
  mkD (top 52) "bezout_mod" 369 3 3 393 800 none (.str "swornspire.modpolys" 712) ++ (
  mkD (top 53) "derivative_mod" 378 2 3 398 806 none (.str "swornspire.modpolys" 712) ++ (
  mkD (top 54) "power_mod" 380 4 3 403 812 (some ["x", "exponent", "modulus", "prime", "result", "base", "rest"]) (.str "swornspire.modpolys" 712) ++ (
  mkD (top 55) "is_squarefree_mod" 390 2 3 410 825 (some ["x", "prime", "slope"]) (.str "swornspire.modpolys" 712) ++ (
  mkD (top 56) "irreducible_mod" 395 2 3 417 834 (some ["poly", "prime", "degree", "power", "step", "test"]) (.str "swornspire.modpolys" 712) ++ (
  mkD (top 58) "product_terms" 405 4 3 424 848 (some ["x", "y", "place", "factors", "terms", "low", "a"]) (.str "swornspire.polyterms" 846) ++ (
  mkD (top 59) "own_terms" 411 3 3 431 861 (some ["x", "place", "factors"]) (.str "swornspire.polyterms" 846) ++ (
  mkD (top 60) "is_product" 415 5 3 438 870 (some ["judge", "x", "y", "value", "factors", "place"]) (.str "swornspire.polyterms" 846) ++ (
  mkD (top 61) "is_multiple" 420 5 3 445 882 (some ["judge", "factor", "x", "y", "value"]) (.str "swornspire.polyterms" 846) ++ (
  mkD (top 62) "is_poly_sum" 422 7 3 452 893 (some ["judge", "factor", "value", "s", "x", "t", "y", "place", "left", "right"]) (.str "swornspire.polyterms" 846) ++ (
  mkD (top 67) "is_mixed" 433 3 3 459 917 none (.str "swornspire.judgeirreducible" 909) ++ (
  mkD (top 68) "is_small_prime" 437 1 3 464 923 (some ["value"]) (.str "swornspire.judgeirreducible" 909) ++ (
  mkD (top 69) "rests_of" 439 3 3 471 930 none (.str "swornspire.judgeirreducible" 909) ++ (
  mkD (top 70) "is_irreducible_rest" 442 3 3 476 936 (some ["judge", "poly", "prime", "rests"]) (.str "swornspire.judgeirreducible" 909) ++ (
  mkD (top 71) "chain_end" 445 5 3 483 946 (some ["judge", "top", "factors", "power", "chain", "current", "factor", "pair", "more", "told", "place", "left"]) (.str "swornspire.judgeirreducible" 909) ++ (
  mkD (top 72) "takes_whole_chain" 459 5 3 490 964 (some ["judge", "poly", "factors", "power", "chain", "last", "end", "place", "right"]) (.str "swornspire.judgeirreducible" 909) ++ (
  mkD (top 73) "takes_refusal" 471 6 3 497 979 none (.str "swornspire.judgeirreducible" 909) ++ (
  mkD (top 74) "are_factors" 489 4 3 502 985 (some ["judge", "factors", "prime", "power", "seen", "factor", "number", "rests"]) (.str "swornspire.judgeirreducible" 909) ++ (
  mkD (top 75) "is_roomy" 504 5 3 509 999 (some ["judge", "poly", "power", "size", "room", "number", "degree", "bound"]) (.str "swornspire.judgeirreducible" 909) ++ (
  mkD (top 76) "takes_lifted" 511 3 3 516 1013 (some ["judge", "poly", "paper", "word", "mix", "prime", "power", "count", "factors", "chain", "size", "room", "refusals", "due", "chosen", "refusal"]) (.str "swornspire.judgeirreducible" 909) ++ (
  mkD (top 77) "takes_irreducible" 532 3 3 523 1035 (some ["judge", "poly", "paper"]) (.str "swornspire.judgeirreducible" 909) ++ (
  mkD (top 79) "takes_sums" 543 5 3 530 1046 (some ["judge", "op", "args", "value", "paper", "x", "other", "place", "left", "right", "same"]) (.str "swornspire.judgepoly" 1044)))))))))))))))))))))))))
def s260_o3 (P : Params) : List Obj := mkD (top 80) "takes_slope" 562 4 3 537 1063 (some ["judge", "args", "value", "paper", "x", "place", "terms"]) (.str "swornspire.judgepoly" 1044) ++ (
  mkD (top 81) "value_terms" 571 4 3 544 1076 (some ["x", "top", "bottom", "factors", "terms", "degree", "place", "number", "powers"]) (.str "swornspire.judgepoly" 1044) ++ (
  mkD (top 82) "takes_value" 578 4 3 551 1091 none (.str "swornspire.judgepoly" 1044) ++ (
  mkD (top 84) "takes_fraction_value" 585 4 3 556 1098 (some ["judge", "args", "value", "paper", "x", "point", "degree", "right"]) (.str "swornspire.judgepoly" 1044) ++ (
  mkD (top 85) "takes_common" 594 4 3 563 1112 (some ["judge", "args", "value", "paper", "x", "y", "mix", "c", "s", "t", "k", "u", "l", "w"]) (.str "swornspire.judgepoly" 1044) ++ (
  mkD (top 86) "are_in_order" 606 1 3 570 1132 (some ["polys", "poly", "other"]) (.str "swornspire.judgepoly" 1044) ++ (
  mkD (top 87) "unlike_polys" 611 1 3 577 1141 (some ["polys", "told", "poly"]) (.str "swornspire.judgepoly" 1044) ++ (
  mkD (top 88) "takes_factored" 617 3 3 584 1150 none (.str "swornspire.judgepoly" 1044) ++ (
  mkD (top 89) "takes_part" 638 6 3 589 1156 (some ["judge", "op", "extra", "args", "value", "paper"]) (.str "swornspire.judgepoly" 1044) ++ (
  mkD (top 90) "takes_poly" 644 6 3 596 1168 (some ["judge", "op", "extra", "args", "value", "paper", "rest"]) (.str "swornspire.judgepoly" 1044) ++ (
  mkD (top 91) "bars_poly" 665 5 3 603 1181 (some ["judge", "op", "extra", "args", "paper"]) (.str "swornspire.judgepoly" 1044) ++ (
  mkD (top 93) "sign_by" 672 2 3 610 1194 (some ["judge", "number"]) (.str "swornspire.judgechain" 1192) ++ (
  mkD (top 94) "changes_by" 678 2 3 617 1202 none (.str "swornspire.judgechain" 1192) ++ (
  mkD (top 95) "takes_step" 682 5 3 622 1208 (some ["judge", "before", "poly", "after", "step", "scale", "quotient", "factor", "place", "left"]) (.str "swornspire.judgechain" 1192) ++ (
  mkD (top 96) "is_chain_form" 693 2 3 629 1224 none (.str "swornspire.judgechain" 1192) ++ (
  mkD (top 97) "takes_chain" 702 3 3 634 1230 (some ["judge", "poly", "chain", "polys", "steps", "index", "step", "ends", "after"]) (.str "swornspire.judgechain" 1192) ++ (
  mkD (top 98) "are_values" 718 4 3 641 1245 (some ["judge", "chain", "point", "values", "poly", "value"]) (.str "swornspire.judgechain" 1192) ++ (
  mkD (top 99) "changes_low" 725 2 3 648 1257 none (.str "swornspire.judgechain" 1192) ++ (
  mkD (top 100) "changes_high" 727 2 3 653 1263 none (.str "swornspire.judgechain" 1192) ++ (
  mkD (top 101) "roots_by" 729 2 3 658 1269 (some ["judge", "chain"]) (.str "swornspire.judgechain" 1192) ++ (
  mkD (top 102) "counts_well" 731 3 3 665 1277 (some ["chain", "values", "values2"]) (.str "swornspire.judgechain" 1192) ++ (
  mkD (top 103) "is_span" 733 3 3 672 1286 (some ["judge", "low", "high"]) (.str "swornspire.judgechain" 1192) ++ (
  mkD (top 104) "has_one" 737 5 3 679 1295 (some ["judge", "chain", "values", "values2", "index", "first"]) (.str "swornspire.judgechain" 1192) ++ (
  mkD (top 105) "takes_place" 742 3 3 686 1307 (some ["judge", "root", "place", "low", "high", "chain", "values", "values2"]) (.str "swornspire.judgechain" 1192) ++ (
  mkD (top 106) "takes_ends" 751 7 3 693 1321 (some ["judge", "poly", "chain", "low", "high", "values", "values2"]) (.str "swornspire.judgechain" 1192)))))))))))))))))))))))))
def s260_o4 (P : Params) : List Obj := mkD (top 108) "binomial_row" 756 1 3 700 1336 none (.str "swornspire.judgesums" 1334) ++ (
  mkD (top 109) "combined_terms" 761 5 3 705 1342 (some ["op", "factor", "poly", "row", "column"]) (.str "swornspire.judgesums" 1334) ++ (
  mkD (top 110) "first_terms" 769 4 3 712 1353 (some ["table", "poly", "row", "column", "terms", "place", "line"]) (.str "swornspire.judgesums" 1334) ++ (
  mkD (top 111) "second_terms" 775 4 3 719 1366 (some ["table", "poly", "row", "column", "terms", "place", "number"]) (.str "swornspire.judgesums" 1334) ++ (
  mkD (top 112) "longest_line" 782 1 3 726 1379 none (.str "swornspire.judgesums" 1334) ++ (
  mkD (top 113) "is_member" 784 6 3 731 1385 (some ["judge", "op", "factor", "poly", "tables", "polys", "first", "second", "x", "y", "rows", "columns", "row", "column", "left", "right"]) (.str "swornspire.judgesums" 1334) ++ (
  mkD (top 114) "is_sum_of_ends" 796 4 3 738 1407 (some ["judge", "end", "x", "y", "left"]) (.str "swornspire.judgesums" 1334) ++ (
  mkD (top 115) "is_corner" 799 6 3 745 1418 (some ["judge", "pairs", "low", "high", "x", "y", "k", "l", "m", "n"]) (.str "swornspire.judgesums" 1334) ++ (
  mkD (top 116) "are_corners" 808 6 3 752 1434 (some ["judge", "place", "place2", "low", "high", "pairs", "at", "x", "y"]) (.str "swornspire.judgesums" 1334) ++ (
  mkD (top 117) "is_covered" 818 6 3 759 1449 (some ["judge", "op", "place", "place2", "place3", "pairs", "low", "high"]) (.str "swornspire.judgesums" 1334) ++ (
  mkD (top 118) "takes_combined" 825 5 3 766 1463 (some ["judge", "op", "args", "value", "paper", "x", "y", "place", "place2", "place3", "pairs", "poly", "factor", "first", "second", "k", "u", "chain", "values", "values2", "irreducible"]) (.str "swornspire.judgesums" 1334) ++ (
  mkD (top 119) "roots_ahead" 848 3 3 773 1490 (some ["judge", "chain", "values"]) (.str "swornspire.judgesums" 1334) ++ (
  mkD (top 121) "takes_count" 851 4 3 780 1501 (some ["judge", "args", "value", "paper", "x"]) (.str "swornspire.judgeroot" 1499) ++ (
  mkD (top 122) "takes_root" 856 5 3 787 1512 (some ["judge", "extra", "args", "value", "paper", "x", "k", "u", "place", "chain", "values", "values2", "irreducible"]) (.str "swornspire.judgeroot" 1499) ++ (
  mkD (top 123) "takes_negated" 870 4 3 794 1531 (some ["judge", "args", "value", "paper", "factor", "chain", "poly", "index", "place", "number", "term"]) (.str "swornspire.judgeroot" 1499) ++ (
  mkD (top 124) "is_order" 884 5 3 801 1548 (some ["judge", "place", "place2", "k", "l", "high", "low"]) (.str "swornspire.judgeroot" 1499) ++ (
  mkD (top 125) "takes_root_order" 890 4 3 808 1561 (some ["judge", "args", "value", "paper", "x", "y", "place", "place2", "k", "l"]) (.str "swornspire.judgeroot" 1499) ++ (
  mkD (top 126) "takes_sign" 902 4 3 815 1577 (some ["judge", "args", "value", "paper", "x", "root", "place", "chain", "values", "values2"]) (.str "swornspire.judgeroot" 1499) ++ (
  mkD (top 127) "roots_below" 918 3 3 822 1593 (some ["judge", "chain", "values", "many"]) (.str "swornspire.judgeroot" 1499) ++ (
  mkD (top 128) "takes_root_floor" 921 4 3 829 1603 (some ["judge", "args", "value", "paper", "poly", "index", "following", "chain", "values", "values2"]) (.str "swornspire.judgeroot" 1499) ++ (
  mkD (top 129) "takes_lifted_root" 935 4 3 836 1619 (some ["judge", "args", "value", "paper", "top", "bottom"]) (.str "swornspire.judgeroot" 1499) ++ (
  mkD (top 130) "takes_any_root" 940 6 3 843 1631 (some ["judge", "op", "extra", "args", "value", "paper"]) (.str "swornspire.judgeroot" 1499) ++ (
  mkD (top 131) "bars_root" 958 5 3 850 1643 (some ["judge", "op", "extra", "args", "paper", "x"]) (.str "swornspire.judgeroot" 1499) ++ (
  mkD (top 133) "entry_terms" 966 2 3 857 1657 none (.str "swornspire.judgetable" 1655) ++ (
  mkD (top 134) "column_at" 968 2 3 862 1663 none (.str "swornspire.judgetable" 1655)))))))))))))))))))))))))
def s260_o5 (P : Params) : List Obj := mkD (top 135) "has_sides" 970 3 3 867 1669 (some ["value", "rows", "columns"]) (.str "swornspire.judgetable" 1655) ++ (
  mkD (top 136) "takes_entries" 972 5 3 874 1678 (some ["judge", "op", "args", "value", "paper", "place", "row", "column", "entry", "x", "same"]) (.str "swornspire.judgetable" 1655) ++ (
  mkD (top 137) "takes_product" 987 4 3 881 1695 (some ["judge", "args", "value", "paper", "place", "row", "column", "entry", "terms"]) (.str "swornspire.judgetable" 1655) ++ (
  mkD (top 138) "minor_terms" 996 3 3 888 1710 (some ["line", "chosen", "known", "terms", "size", "place", "column", "others", "term"]) (.str "swornspire.judgetable" 1655) ++ (
  mkD (top 139) "takes_determinant" 1006 4 3 895 1725 none (.str "swornspire.judgetable" 1655) ++ (
  mkD (top 140) "is_diagonal" 1021 4 3 900 1731 (some ["judge", "left", "right", "number", "place", "row", "column", "terms", "due"]) (.str "swornspire.judgetable" 1655) ++ (
  mkD (top 141) "is_combination" 1029 5 3 907 1746 none (.str "swornspire.judgetable" 1655) ++ (
  mkD (top 142) "takes_rank" 1035 4 3 912 1752 none (.str "swornspire.judgetable" 1655) ++ (
  mkD (top 143) "is_solution" 1051 5 3 917 1758 (some ["judge", "table", "right", "numbers", "factor", "row", "other"]) (.str "swornspire.judgetable" 1655) ++ (
  mkD (top 144) "is_bar" 1058 4 3 924 1771 (some ["judge", "table", "right", "paper", "numbers", "value", "column"]) (.str "swornspire.judgetable" 1655) ++ (
  mkD (top 145) "are_pivots" 1068 6 3 931 1784 none (.str "swornspire.judgetable" 1655) ++ (
  mkD (top 146) "takes_solution" 1087 5 3 936 1790 (some ["judge", "args", "numbers", "scale", "rest", "table", "right", "mix", "pivots", "left", "factor", "sums", "column", "number"]) (.str "swornspire.judgetable" 1655) ++ (
  mkD (top 147) "takes_solve" 1104 5 3 943 1810 none (.str "swornspire.judgetable" 1655) ++ (
  mkD (top 148) "takes_solvable" 1113 4 3 948 1816 (some ["judge", "args", "value", "paper", "table", "right"]) (.str "swornspire.judgetable" 1655) ++ (
  mkD (top 149) "takes_table" 1120 6 3 955 1828 none (.str "swornspire.judgetable" 1655) ++ (
  mkD (top 150) "bars_table" 1142 3 3 960 1834 (some ["judge", "args", "paper"]) (.str "swornspire.judgetable" 1655) ++ (
  mkD (top 152) "digits_of" 1145 1 3 967 1845 none (.str "swornspire.powers" 1843) ++ (
  mkD (top 153) "power_steps" 1147 3 3 972 1851 (some ["x", "exponent", "modulus", "quotient", "rest", "steps", "digit", "product"]) (.str "swornspire.powers" 1843) ++ (
  mkD (top 154) "power_rest" 1155 3 3 979 1865 (some ["x", "exponent", "modulus"]) (.str "swornspire.powers" 1843) ++ (
  mkD (top 156) "takes_steps" 1158 5 3 986 1876 (some ["judge", "x", "exponent", "modulus", "steps", "digits", "last", "index", "step", "product"]) (.str "swornspire.judgeprime" 1874) ++ (
  mkD (top 157) "unlike_primes" 1176 1 3 993 1892 (some ["primes", "told", "prime"]) (.str "swornspire.judgeprime" 1874) ++ (
  mkD (top 158) "is_ascending_row" 1182 2 3 1000 1901 (some ["judge", "primes", "prime", "other"]) (.str "swornspire.judgeprime" 1874) ++ (
  mkD (top 159) "takes_factors" 1187 3 3 1007 1911 none (.str "swornspire.judgeprime" 1874) ++ (
  mkD (top 160) "takes_exponents" 1197 5 3 1012 1917 none (.str "swornspire.judgeprime" 1874) ++ (
  mkD (top 161) "takes_prime" 1216 3 3 1017 1923 (some ["judge", "prime", "paper", "generator", "primes", "papers", "powers", "unlike"]) (.str "swornspire.judgeprime" 1874)))))))))))))))))))))))))
def s260_o6 (P : Params) : List Obj := mkD (top 163) "repeated" 1229 2 3 1024 1939 none (.str "swornspire.judgewhole" 1937) ++ (
  mkD (top 164) "takes_ring" 1231 6 3 1029 1945 (some ["judge", "op", "extra", "args", "value", "paper", "x", "y"]) (.str "swornspire.judgewhole" 1937) ++ (
  mkD (top 165) "takes_division" 1249 5 3 1036 1959 (some ["judge", "op", "args", "value", "paper", "x", "y", "quotient", "rest"]) (.str "swornspire.judgewhole" 1937) ++ (
  mkD (top 166) "takes_divisor" 1257 4 3 1043 1974 (some ["judge", "args", "value", "paper", "x", "y", "s", "t", "k", "l"]) (.str "swornspire.judgewhole" 1937) ++ (
  mkD (top 167) "takes_power" 1265 4 3 1050 1990 (some ["judge", "args", "value", "paper", "x", "y", "z"]) (.str "swornspire.judgewhole" 1937) ++ (
  mkD (top 168) "takes_parts" 1270 6 3 1057 2003 (some ["judge", "op", "extra", "args", "value", "paper", "primes"]) (.str "swornspire.judgewhole" 1937) ++ (
  mkD (top 169) "takes_join" 1277 4 3 1064 2016 (some ["judge", "args", "value", "paper", "x", "y", "z", "w", "k", "l", "s", "t", "m"]) (.str "swornspire.judgewhole" 1937) ++ (
  mkD (top 170) "takes_primality" 1287 4 3 1071 2035 (some ["judge", "args", "value", "paper", "x", "k", "l"]) (.str "swornspire.judgewhole" 1937) ++ (
  mkD (top 171) "takes_truth" 1297 5 3 1078 2048 (some ["judge", "op", "args", "value", "paper"]) (.str "swornspire.judgewhole" 1937) ++ (
  [⟨(.type "tuple"), none, (.seq ⟨[(.str "number" 2059), (.str "add" 2060), (.str "sub" 2061), (.str "mul" 2062), (.str "neg" 2063), (.str "pow" 2064)]⟩ 0), ⟨[]⟩⟩,
  ⟨(.type "tuple"), none, (.seq ⟨[(.str "less" 2066), (.str "same" 2067), (.str "and" 2068), (.str "or" 2069), (.str "not" 2070)]⟩ 0), ⟨[]⟩⟩] ++ (
  mkD (top 174) "takes_whole" 1311 6 3 1087 2072 (some ["judge", "op", "extra", "args", "value", "paper"]) (.str "swornspire.judgewhole" 1937) ++ (
  mkD (top 175) "bars_join" 1327 3 3 1094 2084 (some ["judge", "args", "paper", "x", "y", "z", "w", "g", "k", "l"]) (.str "swornspire.judgewhole" 1937) ++ (
  mkD (top 176) "bars_whole" 1337 5 3 1101 2100 (some ["judge", "op", "extra", "args", "paper"]) (.str "swornspire.judgewhole" 1937) ++ (
  [⟨(.type "tuple"), none, (.seq ⟨[(.str "number" 2113), (.str "add" 2114), (.str "sub" 2115), (.str "mul" 2116), (.str "neg" 2117), (.str "pow" 2118), (.str "quotient" 2119), (.str "rest" 2120), (.str "gcd" 2121), (.str "power" 2122), (.str "factors" 2123), (.str "factor" 2124), (.str "join" 2125), (.str "prime" 2126), (.str "less" 2127), (.str "same" 2128), (.str "and" 2129), (.str "or" 2130), (.str "not" 2131)]⟩ 0), ⟨[]⟩⟩,
  ⟨(.type "tuple"), none, (.seq ⟨[(.str "lift" 2133), (.str "over" 2134), (.str "fadd" 2135), (.str "fsub" 2136), (.str "fmul" 2137), (.str "fdiv" 2138), (.str "fneg" 2139), (.str "num" 2140), (.str "den" 2141), (.str "ffloor" 2142), (.str "again" 2143), (.str "fless" 2144), (.str "fsame" 2145)]⟩ 0), ⟨[]⟩⟩,
  ⟨(.type "tuple"), none, (.seq ⟨[(.str "table" 2147), (.str "tadd" 2148), (.str "tsub" 2149), (.str "tneg" 2150), (.str "tmul" 2151), (.str "det" 2152), (.str "rank" 2153), (.str "entry" 2154), (.str "solve" 2155), (.str "scale" 2156), (.str "solvable" 2157), (.str "tsame" 2158)]⟩ 0), ⟨[]⟩⟩,
  ⟨(.type "tuple"), none, (.seq ⟨[(.str "poly" 2160), (.str "padd" 2161), (.str "psub" 2162), (.str "pmul" 2163), (.str "pneg" 2164), (.str "slope" 2165), (.str "at" 2166), (.str "fat" 2167), (.str "common" 2168), (.str "parts" 2169), (.str "part" 2170), (.str "psame" 2171)]⟩ 0), ⟨[]⟩⟩,
  ⟨(.type "tuple"), none, (.seq ⟨[(.str "rlift" 2173), (.str "roots" 2174), (.str "root" 2175), (.str "rneg" 2176), (.str "radd" 2177), (.str "rmul" 2178), (.str "rless" 2179), (.str "rsame" 2180), (.str "sign" 2181), (.str "rfloor" 2182)]⟩ 0), ⟨[]⟩⟩,
  ⟨(.type "tuple"), none, (.seq ⟨[(.str "quotient" 2184), (.str "rest" 2185), (.str "power" 2186), (.str "join" 2187), (.str "factors" 2188), (.str "factor" 2189)]⟩ 0), ⟨[]⟩⟩,
  ⟨(.type "tuple"), none, (.seq ⟨[(.str "over" 2191), (.str "fdiv" 2192), (.str "again" 2193)]⟩ 0), ⟨[]⟩⟩] ++ (
  mkD (top 185) "takes_value" 1357 3 3 1115 2195 (some ["judge", "claim", "paper", "word", "op", "extra", "args", "value"]) (.str "swornspire.judging" 2111) ++ (
  mkD (top 187) "takes_none" 1369 3 3 1122 2210 (some ["judge", "claim", "paper", "word", "op", "extra", "args"]) (.str "swornspire.judging" 2111) ++ (
  mkD (top 188) "takes" 1380 3 3 1129 2223 (some ["judge", "claim", "paper"]) (.str "swornspire.judging" 2111) ++ (
  mkD (top 190) "straight_sum" 1387 2 3 1136 2234 (some ["x", "y", "old", "new", "old_s", "new_s", "old_t", "new_t", "quotient"]) (.str "swornspire.divisors" 2232) ++ (
  mkD (top 191) "divisor_of" 1399 2 3 1143 2249 (some ["x", "y"]) (.str "swornspire.divisors" 2232) ++ (
  mkD (top 192) "divisor_of_all" 1401 1 3 1150 2257 (some ["numbers", "result", "number"]) (.str "swornspire.divisors" 2232) ++ (
  mkD (top 193) "mix_of" 1406 1 3 1157 2266 none (.str "swornspire.divisors" 2232) ++ (
  mkD (top 194) "divisor_paper" 1413 2 3 1162 2272 (some ["x", "y", "divisor", "s", "t"]) (.str "swornspire.divisors" 2232) ++ (
  mkD (top 196) "lowest" 1419 2 3 1169 2285 (some ["top", "bottom", "divisor"]) (.str "swornspire.fractions" 2283) ++ (
  mkD (top 197) "sum_of_fractions" 1424 2 3 1176 2294 (some ["x", "y"]) (.str "swornspire.fractions" 2283) ++ (
  mkD (top 198) "difference_of_fractions" 1426 2 3 1183 2302 (some ["x", "y"]) (.str "swornspire.fractions" 2283)))))))))))))))))))))))))
def s260_o7 (P : Params) : List Obj := mkD (top 199) "product_of_fractions" 1428 2 3 1190 2310 (some ["x", "y"]) (.str "swornspire.fractions" 2283) ++ (
  mkD (top 200) "quotient_of_fractions" 1430 2 3 1197 2318 (some ["x", "y"]) (.str "swornspire.fractions" 2283) ++ (
  mkD (top 201) "negative_of_fraction" 1434 1 3 1204 2326 (some ["x"]) (.str "swornspire.fractions" 2283) ++ (
  mkD (top 202) "is_below" 1436 2 3 1211 2333 (some ["x", "y"]) (.str "swornspire.fractions" 2283) ++ (
  mkD (top 203) "is_at_most" 1438 2 3 1218 2341 (some ["x", "y"]) (.str "swornspire.fractions" 2283) ++ (
  mkD (top 204) "floor_of_fraction" 1440 1 3 1225 2349 (some ["x"]) (.str "swornspire.fractions" 2283) ++ (
  mkD (top 205) "least_of" 1442 1 3 1232 2356 (some ["fractions", "best", "other"]) (.str "swornspire.fractions" 2283) ++ (
  mkD (top 206) "greatest_of" 1448 1 3 1239 2365 (some ["fractions", "best", "other"]) (.str "swornspire.fractions" 2283) ++ (
  mkD (top 208) "again_rows" 1455 3 3 1246 2376 (some ["number", "modulus", "bound", "old", "new", "old_t", "new_t", "quotient"]) (.str "swornspire.again" 2374) ++ (
  mkD (top 209) "is_searched" 1463 3 3 1253 2390 (some ["modulus", "bound", "most"]) (.str "swornspire.again" 2374) ++ (
  mkD (top 210) "found_pair" 1467 4 3 1260 2399 (some ["number", "modulus", "bound", "most", "rest", "factor"]) (.str "swornspire.again" 2374) ++ (
  mkD (top 211) "found_again" 1476 4 3 1267 2411 (some ["number", "modulus", "bound", "most", "pair"]) (.str "swornspire.again" 2374) ++ (
  mkD (top 212) "again_paper" 1481 5 3 1274 2422 (some ["number", "modulus", "bound", "most", "value", "rest", "factor", "one", "s", "t"]) (.str "swornspire.again" 2374) ++ (
  mkD (top 213) "barring_paper" 1485 4 3 1281 2438 (some ["number", "modulus", "bound", "most", "product", "u", "s", "v", "t", "side"]) (.str "swornspire.again" 2374) ++ (
  mkD (top 215) "coefficient" 1495 2 3 1288 2456 (some ["poly", "place"]) (.str "swornspire.polys" 2454) ++ (
  mkD (top 216) "sum_of_polys" 1499 2 3 1295 2464 none (.str "swornspire.polys" 2454) ++ (
  mkD (top 217) "difference_of_polys" 1502 2 3 1300 2470 none (.str "swornspire.polys" 2454) ++ (
  mkD (top 218) "negative_poly" 1505 1 3 1305 2476 none (.str "swornspire.polys" 2454) ++ (
  mkD (top 219) "product_of_polys" 1507 2 3 1310 2482 (some ["x", "y", "numbers", "low", "a", "place", "b"]) (.str "swornspire.polys" 2454) ++ (
  mkD (top 220) "scaled_poly" 1515 2 3 1317 2495 none (.str "swornspire.polys" 2454) ++ (
  mkD (top 221) "derivative" 1517 1 3 1322 2501 none (.str "swornspire.polys" 2454) ++ (
  mkD (top 222) "value_of" 1519 2 3 1327 2507 (some ["x", "point", "total", "number"]) (.str "swornspire.polys" 2454) ++ (
  mkD (top 223) "top_value" 1524 2 3 1334 2517 (some ["x", "point", "total", "power", "number"]) (.str "swornspire.polys" 2454) ++ (
  mkD (top 224) "content" 1531 1 3 1341 2528 (some ["x"]) (.str "swornspire.polys" 2454) ++ (
  mkD (top 225) "primitive" 1533 1 3 1348 2535 none (.str "swornspire.polys" 2454)))))))))))))))))))))))))
def s260_o8 (P : Params) : List Obj := mkD (top 226) "exact_quotient" 1540 2 3 1353 2541 none (.str "swornspire.polys" 2454) ++ (
  mkD (top 227) "pseudo_division" 1554 2 3 1358 2547 none (.str "swornspire.polys" 2454) ++ (
  mkD (top 228) "height" 1570 1 3 1363 2553 none (.str "swornspire.polys" 2454) ++ (
  mkD (top 229) "mirrored" 1572 1 3 1368 2559 none (.str "swornspire.polys" 2454) ++ (
  mkD (top 231) "product_of_all" 1575 1 3 1373 2567 (some ["polys", "result", "poly"]) (.str "swornspire.lifting" 2565) ++ (
  mkD (top 232) "lift_bound" 1580 1 3 1380 2576 (some ["poly", "degree"]) (.str "swornspire.lifting" 2565) ++ (
  mkD (top 233) "lift_count" 1583 2 3 1387 2584 (some ["poly", "prime", "bound", "count", "power"]) (.str "swornspire.lifting" 2565) ++ (
  mkD (top 234) "cofactor_inverses" 1591 3 3 1394 2595 (some ["poly", "factors", "prime", "inverses", "place", "factor", "others", "other_place", "other"]) (.str "swornspire.lifting" 2565) ++ (
  mkD (top 235) "raised" 1600 3 3 1401 2610 none (.str "swornspire.lifting" 2565) ++ (
  mkD (top 236) "lifted_factors" 1602 4 3 1406 2616 none (.str "swornspire.lifting" 2565) ++ (
  mkD (top 237) "centered" 1619 2 3 1411 2622 (some ["number", "power", "rest"]) (.str "swornspire.lifting" 2565) ++ (
  mkD (top 238) "power_number" 1624 2 3 1418 2631 (some ["prime", "count", "power", "step"]) (.str "swornspire.lifting" 2565) ++ (
  mkD (top 240) "power_table" 1630 2 3 1425 2643 (some ["poly", "prime", "degree", "step", "power", "rows", "place", "row"]) (.str "swornspire.modfactors" 2641) ++ (
  mkD (top 241) "kernel_rows" 1641 2 3 1432 2657 none (.str "swornspire.modfactors" 2641) ++ (
  mkD (top 242) "split_once" 1662 3 3 1437 2663 (some ["poly", "row", "prime", "parts", "rest", "constant", "test", "part"]) (.str "swornspire.modfactors" 2641) ++ (
  mkD (top 243) "factors_mod" 1678 2 3 1444 2677 (some ["poly", "prime", "kernel", "parts", "row", "finer", "part"]) (.str "swornspire.modfactors" 2641) ++ (
  mkD (top 245) "divided_by" 1690 2 3 1451 2692 none (.str "swornspire.polydivisors" 2690) ++ (
  mkD (top 246) "next_row" 1692 2 3 1456 2698 none (.str "swornspire.polydivisors" 2690) ++ (
  mkD (top 247) "straight_poly_sum" 1702 2 3 1461 2704 (some ["x", "y", "old", "new"]) (.str "swornspire.polydivisors" 2690) ++ (
  mkD (top 248) "common_divisor" 1708 2 3 1468 2714 (some ["x", "y"]) (.str "swornspire.polydivisors" 2690) ++ (
  mkD (top 249) "common_paper" 1710 2 3 1475 2722 (some ["x", "y", "row", "s", "t", "divisor", "factor", "mix"]) (.str "swornspire.polydivisors" 2690) ++ (
  mkD (top 250) "squarefree_part" 1718 1 3 1482 2736 (some ["x"]) (.str "swornspire.polydivisors" 2690) ++ (
  mkD (top 252) "prime_factors" 1723 1 3 1489 2745 (some ["number", "rest", "factors", "divisor"]) (.str "swornspire.primes" 2743) ++ (
  mkD (top 253) "is_prime" 1735 1 3 1496 2755 (some ["number"]) (.str "swornspire.primes" 2743) ++ (
  mkD (top 254) "unlike_ones" 1737 1 3 1503 2762 (some ["numbers", "told", "number"]) (.str "swornspire.primes" 2743)))))))))))))))))))))))))
def s260_o9 (P : Params) : List Obj := mkD (top 255) "generator_of" 1743 2 3 1510 2771 none (.str "swornspire.primes" 2743) ++ (
  mkD (top 256) "prime_paper" 1749 1 3 1515 2777 none (.str "swornspire.primes" 2743) ++ (
  mkD (top 257) "factor_papers" 1759 1 3 1520 2783 none (.str "swornspire.primes" 2743) ++ (
  mkD (top 258) "nontrivial_divisor" 1761 1 3 1525 2789 (some ["number"]) (.str "swornspire.primes" 2743))))
def s260_o (P : Params) : List Obj := s260_o0 P ++ (s260_o1 P ++ (s260_o2 P ++ (s260_o3 P ++ (s260_o4 P ++ (s260_o5 P ++ (s260_o6 P ++ (s260_o7 P ++ (s260_o8 P ++ (s260_o9 P)))))))))
def s260_e0 : List Ent := [en "__name__" 165 (.str "swornspire.polyfactors" 2796),
  en "__doc__" 166 .none,
  en "__package__" 167 .none,
  en "__loader__" 168 (.builtin "__main__.__loader__#opaque"),
  en "__spec__" 169 .none,
  er "__annotations__" 170 6,
  er "__builtins__" 171 4,
  en "__file__" 173 (.str "/claim/cut.py" 172),
  en "__cached__" 174 .none,
  er "SpireError" 206 24,
  er "NotSo" 233 46,
  er "is_whole" 242 55,
  er "bits_of" 249 62,
  er "words_of" 260 69,
  er "is_word_prime" 270 76,
  er "weight_of" 277 83,
  er "are_good_points" 287 90,
  er "used_points" 298 97,
  er "need_of" 304 102,
  er "trimmed" 314 109,
  er "product_words" 335 116,
  er "Judge" 458 192,
  er "is_parts" 468 203,
  er "is_numbers" 474 208,
  er "is_row" 480 213,
  er "is_rows" 486 218,
  er "are_rows" 492 223,
  er "is_poly_form" 499 230,
  er "is_point" 506 237,
  er "is_ascending" 516 244,
  er "is_lowest" 531 251,
  er "takes_sum" 549 258,
  er "takes_over" 561 265,
  er "takes_floor" 573 272,
  er "takes_order" 589 279,
  er "is_wide" 602 286,
  er "takes_again" 622 293,
  er "takes_fraction" 634 300,
  er "bars_rows" 656 307,
  er "bars_again" 669 314]
def s260_e1 : List Ent := [er "bars_fraction" 679 321,
  er "choices" 695 328,
  er "subsets" 701 333,
  er "half_choices" 711 340,
  er "reduced_mod" 719 345,
  er "inverse_mod" 730 352,
  er "monic_mod" 736 357,
  er "difference_mod" 748 364,
  er "product_mod" 762 371,
  er "division_mod" 779 378,
  er "rest_mod" 788 385,
  er "divisor_mod" 799 392,
  er "bezout_mod" 805 397,
  er "derivative_mod" 811 402,
  er "power_mod" 824 409,
  er "is_squarefree_mod" 833 416,
  er "irreducible_mod" 845 423,
  er "product_terms" 860 430,
  er "own_terms" 869 437,
  er "is_product" 881 444,
  er "is_multiple" 892 451,
  er "is_poly_sum" 908 458,
  en "MOST_PRIME" 912 (.int 65535 911),
  en "MOST_COUNT" 914 (.int 4000 913),
  en "MOST_FACTORS" 916 (.int 8 915),
  er "is_mixed" 922 463,
  er "is_small_prime" 929 470,
  er "rests_of" 935 475,
  er "is_irreducible_rest" 945 482,
  er "chain_end" 963 489,
  er "takes_whole_chain" 978 496,
  er "takes_refusal" 984 501,
  er "are_factors" 998 508,
  er "is_roomy" 1012 515,
  er "takes_lifted" 1034 522,
  er "takes_irreducible" 1043 529,
  er "takes_sums" 1062 536,
  er "takes_slope" 1075 543,
  er "value_terms" 1090 550,
  er "takes_value" 1096 1121]
def s260_e2 : List Ent := [er "takes_value_judgepoly" 1097 555,
  er "takes_fraction_value" 1111 562,
  er "takes_common" 1131 569,
  er "are_in_order" 1140 576,
  er "unlike_polys" 1149 583,
  er "takes_factored" 1155 588,
  er "takes_part" 1167 595,
  er "takes_poly" 1180 602,
  er "bars_poly" 1191 609,
  er "sign_by" 1201 616,
  er "changes_by" 1207 621,
  er "takes_step" 1223 628,
  er "is_chain_form" 1229 633,
  er "takes_chain" 1244 640,
  er "are_values" 1256 647,
  er "changes_low" 1262 652,
  er "changes_high" 1268 657,
  er "roots_by" 1276 664,
  er "counts_well" 1285 671,
  er "is_span" 1294 678,
  er "has_one" 1306 685,
  er "takes_place" 1320 692,
  er "takes_ends" 1333 699,
  er "binomial_row" 1341 704,
  er "combined_terms" 1352 711,
  er "first_terms" 1365 718,
  er "second_terms" 1378 725,
  er "longest_line" 1384 730,
  er "is_member" 1406 737,
  er "is_sum_of_ends" 1417 744,
  er "is_corner" 1433 751,
  er "are_corners" 1448 758,
  er "is_covered" 1462 765,
  er "takes_combined" 1489 772,
  er "roots_ahead" 1498 779,
  er "takes_count" 1511 786,
  er "takes_root" 1530 793,
  er "takes_negated" 1547 800,
  er "is_order" 1560 807,
  er "takes_root_order" 1576 814]
def s260_e3 : List Ent := [er "takes_sign" 1592 821,
  er "roots_below" 1602 828,
  er "takes_root_floor" 1618 835,
  er "takes_lifted_root" 1630 842,
  er "takes_any_root" 1642 849,
  er "bars_root" 1654 856,
  er "entry_terms" 1662 861,
  er "column_at" 1668 866,
  er "has_sides" 1677 873,
  er "takes_entries" 1694 880,
  er "takes_product" 1709 887,
  er "minor_terms" 1724 894,
  er "takes_determinant" 1730 899,
  er "is_diagonal" 1745 906,
  er "is_combination" 1751 911,
  er "takes_rank" 1757 916,
  er "is_solution" 1770 923,
  er "is_bar" 1783 930,
  er "are_pivots" 1789 935,
  er "takes_solution" 1809 942,
  er "takes_solve" 1815 947,
  er "takes_solvable" 1827 954,
  er "takes_table" 1833 959,
  er "bars_table" 1842 966,
  er "digits_of" 1850 971,
  er "power_steps" 1864 978,
  er "power_rest" 1873 985,
  er "takes_steps" 1891 992,
  er "unlike_primes" 1900 999,
  er "is_ascending_row" 1910 1006,
  er "takes_factors" 1916 1011,
  er "takes_exponents" 1922 1016,
  er "takes_prime" 1936 1023,
  er "repeated" 1944 1028,
  er "takes_ring" 1958 1035,
  er "takes_division" 1973 1042,
  er "takes_divisor" 1989 1049,
  er "takes_power" 2002 1056,
  er "takes_parts" 2015 1063,
  er "takes_join" 2034 1070]
def s260_e4 : List Ent := [er "takes_primality" 2047 1077,
  er "takes_truth" 2058 1084,
  er "RING" 2065 1085,
  er "TRUTHS" 2071 1086,
  er "takes_whole" 2083 1093,
  er "bars_join" 2099 1100,
  er "bars_whole" 2110 1107,
  er "WHOLE_RULES" 2132 1108,
  er "FRACTION_RULES" 2146 1109,
  er "TABLE_RULES" 2159 1110,
  er "POLY_RULES" 2172 1111,
  er "ROOT_RULES" 2183 1112,
  er "WHOLE_BARRED" 2190 1113,
  er "FRACTION_BARRED" 2194 1114,
  er "takes_value_judging" 2209 1121,
  er "takes_none" 2222 1128,
  er "takes" 2231 1135,
  er "straight_sum" 2248 1142,
  er "divisor_of" 2256 1149,
  er "divisor_of_all" 2265 1156,
  er "mix_of" 2271 1161,
  er "divisor_paper" 2282 1168,
  er "lowest" 2293 1175,
  er "sum_of_fractions" 2301 1182,
  er "difference_of_fractions" 2309 1189,
  er "product_of_fractions" 2317 1196,
  er "quotient_of_fractions" 2325 1203,
  er "negative_of_fraction" 2332 1210,
  er "is_below" 2340 1217,
  er "is_at_most" 2348 1224,
  er "floor_of_fraction" 2355 1231,
  er "least_of" 2364 1238,
  er "greatest_of" 2373 1245,
  er "again_rows" 2389 1252,
  er "is_searched" 2398 1259,
  er "found_pair" 2410 1266,
  er "found_again" 2421 1273,
  er "again_paper" 2437 1280,
  er "barring_paper" 2453 1287,
  er "coefficient" 2463 1294]
def s260_e5 : List Ent := [er "sum_of_polys" 2469 1299,
  er "difference_of_polys" 2475 1304,
  er "negative_poly" 2481 1309,
  er "product_of_polys" 2494 1316,
  er "scaled_poly" 2500 1321,
  er "derivative" 2506 1326,
  er "value_of" 2516 1333,
  er "top_value" 2527 1340,
  er "content" 2534 1347,
  er "primitive" 2540 1352,
  er "exact_quotient" 2546 1357,
  er "pseudo_division" 2552 1362,
  er "height" 2558 1367,
  er "mirrored" 2564 1372,
  er "product_of_all" 2575 1379,
  er "lift_bound" 2583 1386,
  er "lift_count" 2594 1393,
  er "cofactor_inverses" 2609 1400,
  er "raised" 2615 1405,
  er "lifted_factors" 2621 1410,
  er "centered" 2630 1417,
  er "power_number" 2640 1424,
  er "power_table" 2656 1431,
  er "kernel_rows" 2662 1436,
  er "split_once" 2676 1443,
  er "factors_mod" 2689 1450,
  er "divided_by" 2697 1455,
  er "next_row" 2703 1460,
  er "straight_poly_sum" 2713 1467,
  er "common_divisor" 2721 1474,
  er "common_paper" 2735 1481,
  er "squarefree_part" 2742 1488,
  er "prime_factors" 2754 1495,
  er "is_prime" 2761 1502,
  er "unlike_ones" 2770 1509,
  er "generator_of" 2776 1514,
  er "prime_paper" 2782 1519,
  er "factor_papers" 2788 1524,
  er "nontrivial_divisor" 2795 1531,
  en "TRIED_PRIMES" 2799 (.int 3 2798)]
def s260_m (P : Params) : Obj := oD P (s260_e0 ++ (s260_e1 ++ (s260_e2 ++ (s260_e3 ++ (s260_e4 ++ (s260_e5)))))) 240
noncomputable abbrev S260 (w : World) (os : OsState) : SharedT := stT (s260_o w.params) (some (s260_m w.params)) 1532 2800 w os
def s350_o0 (P : Params) : List Obj := [⟨(.type "tuple"), none, (.seq ⟨[]⟩ 0), ⟨[]⟩⟩,
  oK [(2, 0, 20), (4, 0, 34), (10, 0, 54), (12, 0, 61), (14, 0, 68), (23, 0, 75), (34, 0, 82), (36, 0, 89), (45, 0, 96), (52, 0, 101), (58, 0, 108), (64, 0, 115), (77, 0, 122), (161, 0, 202), (163, 0, 207), (165, 0, 212), (167, 0, 217), (169, 0, 222), (171, 0, 229), (173, 0, 236), (175, 0, 243), (185, 0, 250), (189, 0, 257), (203, 0, 264), (210, 0, 271), (217, 0, 278), (225, 0, 285), (230, 0, 292), (246, 0, 299), (269, 0, 306), (284, 0, 313), (291, 0, 320), (300, 0, 327), (310, 0, 332), (315, 0, 339), (323, 0, 344), (325, 0, 351), (335, 0, 356), (338, 0, 363), (343, 0, 370), (351, 0, 377), (362, 0, 384), (364, 0, 391), (369, 0, 396), (378, 0, 401), (380, 0, 408), (390, 0, 415), (395, 0, 422), (405, 0, 429), (411, 0, 436), (415, 0, 443), (420, 0, 450), (422, 0, 457), (433, 0, 462), (437, 0, 469), (439, 0, 474), (442, 0, 481), (445, 0, 488), (459, 0, 495), (471, 0, 500), (489, 0, 507), (504, 0, 514), (511, 0, 521), (532, 0, 528), (543, 0, 535), (562, 0, 542), (571, 0, 549), (578, 0, 554), (585, 0, 561), (594, 0, 568), (606, 0, 575), (611, 0, 582), (617, 0, 587), (638, 0, 594), (644, 0, 601), (665, 0, 608), (672, 0, 615), (678, 0, 620), (682, 0, 627), (693, 0, 632), (702, 0, 639), (718, 0, 646), (725, 0, 651), (727, 0, 656), (729, 0, 663), (731, 0, 670), (733, 0, 677), (737, 0, 684), (742, 0, 691), (751, 0, 698), (756, 0, 703), (761, 0, 710), (769, 0, 717), (775, 0, 724), (782, 0, 729), (784, 0, 736), (796, 0, 743), (799, 0, 750), (808, 0, 757), (818, 0, 764), (825, 0, 771), (848, 0, 778), (851, 0, 785), (856, 0, 792), (870, 0, 799), (884, 0, 806), (890, 0, 813), (902, 0, 820), (918, 0, 827), (921, 0, 834), (935, 0, 841), (940, 0, 848), (958, 0, 855), (966, 0, 860), (968, 0, 865), (970, 0, 872), (972, 0, 879), (987, 0, 886), (996, 0, 893), (1006, 0, 898), (1021, 0, 905), (1029, 0, 910), (1035, 0, 915), (1051, 0, 922), (1058, 0, 929), (1068, 0, 934), (1087, 0, 941), (1104, 0, 946), (1113, 0, 953), (1120, 0, 958), (1142, 0, 965), (1145, 0, 970), (1147, 0, 977), (1155, 0, 984), (1158, 0, 991), (1176, 0, 998), (1182, 0, 1005), (1187, 0, 1010), (1197, 0, 1015), (1216, 0, 1022), (1229, 0, 1027), (1231, 0, 1034), (1249, 0, 1041), (1257, 0, 1048), (1265, 0, 1055), (1270, 0, 1062), (1277, 0, 1069), (1287, 0, 1076), (1297, 0, 1083), (1311, 0, 1092), (1327, 0, 1099), (1337, 0, 1106), (1357, 0, 1120), (1369, 0, 1127), (1380, 0, 1134), (1387, 0, 1141), (1399, 0, 1148), (1401, 0, 1155), (1406, 0, 1160), (1413, 0, 1167), (1419, 0, 1174), (1424, 0, 1181), (1426, 0, 1188), (1428, 0, 1195), (1430, 0, 1202), (1434, 0, 1209), (1436, 0, 1216), (1438, 0, 1223), (1440, 0, 1230), (1442, 0, 1237), (1448, 0, 1244), (1455, 0, 1251), (1463, 0, 1258), (1467, 0, 1265), (1476, 0, 1272), (1481, 0, 1279), (1485, 0, 1286), (1495, 0, 1293), (1499, 0, 1298), (1502, 0, 1303), (1505, 0, 1308), (1507, 0, 1315), (1515, 0, 1320), (1517, 0, 1325), (1519, 0, 1332), (1524, 0, 1339), (1531, 0, 1346), (1533, 0, 1351), (1540, 0, 1356), (1554, 0, 1361), (1570, 0, 1366), (1572, 0, 1371), (1575, 0, 1378), (1580, 0, 1385), (1583, 0, 1392), (1591, 0, 1399), (1600, 0, 1404), (1602, 0, 1409), (1619, 0, 1416), (1624, 0, 1423), (1630, 0, 1430), (1641, 0, 1435), (1662, 0, 1442), (1678, 0, 1449), (1690, 0, 1454), (1692, 0, 1459), (1702, 0, 1466), (1708, 0, 1473), (1710, 0, 1480), (1718, 0, 1487), (1723, 0, 1494), (1735, 0, 1501), (1737, 0, 1508), (1743, 0, 1513), (1749, 0, 1518), (1759, 0, 1523), (1761, 0, 1530), (1765, 0, 1537), (1770, 0, 1544), (1772, 0, 1551), (1780, 0, 1558), (1789, 0, 1563), (1794, 0, 1570), (1800, 0, 1575), (1823, 0, 1582), (1825, 0, 1589), (1840, 0, 1594), (1846, 0, 1601), (1855, 0, 1606), (1860, 0, 1613), (1863, 0, 1618), (1878, 0, 1625), (1885, 0, 1632), (1889, 0, 1637), (1904, 0, 1644), (1913, 0, 1649), (1927, 0, 1656), (1933, 0, 1663), (1943, 0, 1668), (1945, 0, 1675), (1947, 0, 1680), (1949, 0, 1685), (1951, 0, 1692), (1953, 0, 1699), (1956, 0, 1706), (1958, 0, 1713), (1960, 0, 1720), (1974, 0, 1727), (1980, 0, 1734), (1984, 0, 1741), (1998, 0, 1746), (2003, 0, 1753), (2006, 0, 1760), (2012, 0, 1767), (2025, 0, 1774), (2030, 0, 1781), (2038, 0, 1788), (2040, 0, 1795), (2044, 0, 1802), (2047, 0, 1809), (2056, 0, 1816), (2059, 0, 1823), (2065, 0, 1830), (2067, 0, 1837), (2075, 0, 1844), (2080, 0, 1851), (2082, 0, 1858), (2085, 0, 1865), (2094, 0, 1872), (2105, 0, 1879), (2119, 0, 1884), (2129, 0, 1891), (2136, 0, 1898), (2143, 0, 1903), (2150, 0, 1910), (2152, 0, 1915), (2157, 0, 1922), (2173, 0, 1929), (2175, 0, 1936), (2178, 0, 1941), (2180, 0, 1946), (2182, 0, 1951), (2184, 0, 1956), (2186, 0, 1961), (2189, 0, 1966), (2191, 0, 1973), (2196, 0, 1978), (2199, 0, 1983), (2211, 0, 1990), (2222, 0, 1995), (2224, 0, 2000), (2226, 0, 2005), (2228, 0, 2010), (2230, 0, 2017), (2235, 0, 2024), (2256, 0, 2031), (2262, 0, 2036), (2264, 0, 2043)],
  ⟨(.type "code"), none, (.fields ⟨[(.str "<module>" 182), (.str "<module>" 183), (.str "/claim/cut.py" 184), (.int 1 0), (.int 0 0), (.int 0 0), (.int 0 0), (.int 0 0), (.ref 11), (.bool false), (.int 181 0), (.ref 12), .none, .none, .none, .none, (.int 185 0), (.int 1 0), (.str "/claim/cut.py" 186)]⟩), ⟨[]⟩⟩,
  ⟨(.type "frame"), none, .plain, ⟨[(some (.ref 13)), (some (.ref 3)), (some (.ref 3)), none, (some (.str "__main__" 164)), none, (some (.ref 0))]⟩⟩,
  ⟨(.type "tuple"), none, (.seq ⟨[(.type "ValueError")]⟩ 0), ⟨[]⟩⟩,
  ⟨(.type "builtin_function_or_method"), none, (.fields ⟨[(.builtin "type.__prepare__"), (.type "type")]⟩), ⟨[]⟩⟩,
  oD P [en "__module__" 196 (.str "swornspire.errors" 187), en "__qualname__" 198 (.str "SpireError" 197), en "__firstlineno__" 200 (.int 2 199), er "__static_attributes__" 201 22] 4,
  ⟨(.type "tuple"), none, (.seq ⟨[]⟩ 0), ⟨[]⟩⟩,
  ⟨.none, none, (.fields ⟨[]⟩), ⟨[]⟩⟩,
  ⟨(.type "code"), none, (.fields ⟨[(.str "SpireError" 191), (.str "SpireError" 192), (.str "/claim/cut.py" 193), (.int 2 0), (.int 0 0), (.int 0 0), (.int 0 0), (.int 0 0), (.ref 18), (.bool false), (.int 181 0), (.ref 19), .none, .none, .none, .none, (.int 194 0), (.int 2 0), (.str "/claim/cut.py" 195)]⟩), ⟨[]⟩⟩,
  ⟨(.type "frame"), none, .plain, ⟨[(some (.ref 20)), (some (.ref 3)), (some (.ref 17)), none, (some (.str "swornspire.errors" 187)), none, (some (.ref 0))]⟩⟩,
  ⟨(.type "tuple"), none, (.seq ⟨[]⟩ 0), ⟨[]⟩⟩,
  oD P [en "__module__" 196 (.str "swornspire.errors" 187), en "__firstlineno__" 200 (.int 2 199), er "__static_attributes__" 201 22, er "__weakref__" 203 25, en "__doc__" 204 .none] 3,
  ⟨(.type "type"), none, (.cls { name := "SpireError", bases := [(.type "ValueError")], mro := [(.ref 24), (.type "ValueError"), (.type "Exception"), (.type "BaseException"), (.type "object")], ns := 23, qualname := "SpireError", hasDict := true, subclasses := [(.ref 46)] }), ⟨[(some (.ref 15)), none, (some (.str "SpireError" 189)), (some (.str "SpireError" 197)), (some (.builtin "ValueError.__new__")), (some (.bool true))]⟩⟩,
  ⟨(.type "getset_descriptor"), none, (.fields ⟨[(.str "__weakref__" 202), (.ref 24), (.builtin "ExceptionGroup.__weakref__"), .none]⟩), ⟨[]⟩⟩,
  ⟨(.type "super"), none, (.fields ⟨[(.ref 24), (.ref 24), (.ref 24)]⟩), ⟨[]⟩⟩,
  ⟨(.type "builtin_function_or_method"), none, (.fields ⟨[(.builtin "object.__init_subclass__"), (.ref 24)]⟩), ⟨[]⟩⟩,
  ⟨(.type "tuple"), none, (.seq ⟨[(.ref 24)]⟩ 0), ⟨[]⟩⟩,
  ⟨(.type "builtin_function_or_method"), none, (.fields ⟨[(.builtin "type.__prepare__"), (.type "type")]⟩), ⟨[]⟩⟩,
  oD P [en "__module__" 214 (.str "swornspire.errors" 187), en "__qualname__" 216 (.str "NotSo" 215), en "__firstlineno__" 218 (.int 4 217), er "__init__" 227 43, er "__static_attributes__" 229 44, er "__classcell__" 230 31] 6,
  ⟨(.type "cell"), none, (.cell (some (.ref 46))), ⟨[]⟩⟩,
  ⟨(.type "tuple"), none, (.seq ⟨[]⟩ 0), ⟨[]⟩⟩,
  ⟨.none, none, (.fields ⟨[(.int 6 0), (.int 4 0), (.ref 42)]⟩), ⟨[]⟩⟩,
  ⟨(.type "code"), none, (.fields ⟨[(.str "NotSo" 209), (.str "NotSo" 210), (.str "/claim/cut.py" 211), (.int 4 0), (.int 0 0), (.int 0 0), (.int 0 0), (.int 0 0), (.ref 32), (.bool false), (.int 181 0), (.ref 33), .none, .none, .none, .none, (.int 212 0), (.int 4 0), (.str "/claim/cut.py" 213)]⟩), ⟨[]⟩⟩,
  ⟨(.type "frame"), none, .plain, ⟨[(some (.ref 34)), (some (.ref 3)), (some (.ref 30)), none, (some (.str "swornspire.errors" 187)), none, (some (.ref 0))]⟩⟩,
  ⟨(.type "tuple"), none, (.seq ⟨[(.ref 31)]⟩ 0), ⟨[]⟩⟩,
  ⟨(.type "tuple"), none, (.seq ⟨[(.str "__class__" 222)]⟩ 0), ⟨[]⟩⟩,
  ⟨.none, none, (.fields ⟨[]⟩), ⟨[]⟩⟩,
  ⟨(.type "tuple"), none, (.seq ⟨[(.str "self" 223), (.str "rule" 224)]⟩ 0), ⟨[]⟩⟩,
  ⟨(.type "tuple"), none, (.seq ⟨[]⟩ 0), ⟨[]⟩⟩,
  ⟨.none, none, (.func { name := "__init__", qualname := "NotSo.__init__", params := defArgs (inClass (top 2) 0), body := .stmts (defBody (inClass (top 2) 0)), scope := defScope (inClass (top 2) 0), globals := 0, closure := [], defaults := .none, kwdefaults := .none, doc := .none, pyModule := .none, annotations := none, code := .none, closureTuple := .none, builtins := 0 }), ⟨[]⟩⟩,
  ⟨(.type "code"), none, (.fields ⟨[(.str "__init__" 219), (.str "NotSo.__init__" 220), (.str "/claim/cut.py" 221), (.int 6 0), (.int 2 0), (.int 0 0), (.int 0 0), (.int 3 0), (.ref 37), (.bool true), (.int 181 0), (.ref 38), .none, (.ref 39), (.ref 40), (.ref 41), (.int 225 0), (.int 6 0), (.str "/claim/cut.py" 226)]⟩), ⟨[]⟩⟩,
  ⟨(.type "function"), none, (.func { name := "__init__", qualname := "NotSo.__init__", params := defArgs (inClass (top 2) 0), body := .stmts (defBody (inClass (top 2) 0)), scope := defScope (inClass (top 2) 0), globals := 3, closure := [("__class__", 31)], defaults := .none, kwdefaults := .none, doc := .none, pyModule := (.str "swornspire.errors" 187), annotations := none, code := (.ref 42), closureTuple := (.ref 36), builtins := 0 }), ⟨[]⟩⟩,
  ⟨(.type "tuple"), none, (.seq ⟨[(.str "rule" 228)]⟩ 0), ⟨[]⟩⟩,
  oD P [en "__module__" 214 (.str "swornspire.errors" 187), en "__firstlineno__" 218 (.int 4 217), er "__init__" 227 43, er "__static_attributes__" 229 44, en "__doc__" 231 .none] 3,
  ⟨(.type "type"), none, (.cls { name := "NotSo", bases := [(.ref 24)], mro := [(.ref 46), (.ref 24), (.type "ValueError"), (.type "Exception"), (.type "BaseException"), (.type "object")], ns := 45, qualname := "NotSo", hasDict := true, subclasses := [] }), ⟨[(some (.ref 28)), none, (some (.str "NotSo" 207)), (some (.str "NotSo" 215)), (some (.builtin "ValueError.__new__")), (some (.bool true))]⟩⟩,
  ⟨(.type "super"), none, (.fields ⟨[(.ref 46), (.ref 46), (.ref 46)]⟩), ⟨[]⟩⟩,
  ⟨(.type "builtin_function_or_method"), none, (.fields ⟨[(.builtin "object.__init_subclass__"), (.ref 46)]⟩), ⟨[]⟩⟩] ++ (
  mkD (top 4) "is_whole" 10 1 3 49 236 (some ["value"]) (.str "swornspire.sizes" 234) ++ (
  mkD (top 5) "bits_of" 12 1 3 56 243 (some ["number"]) (.str "swornspire.sizes" 234) ++ (
  mkD (top 6) "words_of" 14 2 3 63 250 (some ["number", "bits", "rest", "base", "words"]) (.str "swornspire.sizes" 234) ++ (
  mkD (top 8) "is_word_prime" 23 1 3 70 263 (some ["number", "divisor"]) (.str "swornspire.points" 261) ++ (
  mkD (top 9) "weight_of" 34 1 3 77 271 (some ["point"]) (.str "swornspire.points" 261) ++ (
  mkD (top 10) "are_good_points" 36 2 3 84 278 (some ["points", "bits", "last", "point"]) (.str "swornspire.points" 261) ++ (
  mkD (top 11) "used_points" 45 2 3 91 288 (some ["points", "need", "weight", "used", "point"]) (.str "swornspire.points" 261) ++ (
  mkD (top 12) "need_of" 52 1 3 98 299 none (.str "swornspire.points" 261) ++ (
  mkD (top 14) "trimmed" 58 1 3 103 307 (some ["numbers", "end"]) (.str "swornspire.trimming" 305) ++ (
  mkD (top 16) "product_words" 64 3 3 110 317 (some ["left", "right", "bits", "xs", "ys", "base", "words", "low", "x", "high", "place", "y", "total"]) (.str "swornspire.judge" 315) ++ (
  [⟨(.type "tuple"), none, (.seq ⟨[]⟩ 0), ⟨[]⟩⟩,
  ⟨(.type "builtin_function_or_method"), none, (.fields ⟨[(.builtin "type.__prepare__"), (.type "type")]⟩), ⟨[]⟩⟩,
  oD P [en "__module__" 343 (.str "swornspire.judge" 315), en "__qualname__" 345 (.str "Judge" 344), en "__firstlineno__" 347 (.int 77 346), er "__init__" 356 130, er "rest_of" 368 137, er "leaves_none" 382 144, er "zero" 388 149, er "size_less" 399 156, er "less" 410 163, er "fraction_less" 421 170, er "most_of" 430 177, er "between" 439 184, er "equal" 445 189, er "__static_attributes__" 451 190] 14,
  ⟨(.type "tuple"), none, (.seq ⟨[]⟩ 0), ⟨[]⟩⟩,
  ⟨.none, none, (.fields ⟨[(.int 79 0), (.int 4 0), (.ref 129), (.int 86 0), (.int 4 0), (.ref 136), (.int 94 0), (.int 4 0), (.ref 143), (.int 103 0), (.int 4 0), (.ref 148), (.int 120 0), (.int 4 0), (.ref 155), (.int 128 0), (.int 4 0), (.ref 162), (.int 140 0), (.int 4 0), (.ref 169), (.int 152 0), (.int 4 0), (.ref 176), (.int 155 0), (.int 4 0), (.ref 183), (.int 158 0), (.int 4 0), (.ref 188)]⟩), ⟨[]⟩⟩,
  ⟨(.type "code"), none, (.fields ⟨[(.str "Judge" 338), (.str "Judge" 339), (.str "/claim/cut.py" 340), (.int 77 0), (.int 0 0), (.int 0 0), (.int 0 0), (.int 0 0), (.ref 120), (.bool false), (.int 181 0), (.ref 121), .none, .none, .none, .none, (.int 341 0), (.int 77 0), (.str "/claim/cut.py" 342)]⟩), ⟨[]⟩⟩,
  ⟨(.type "frame"), none, .plain, ⟨[(some (.ref 122)), (some (.ref 3)), (some (.ref 119)), none, (some (.str "swornspire.judge" 315)), none, (some (.ref 0))]⟩⟩] ++ (
  mkD (inClass (top 17) 0) "Judge.__init__" 79 3 3 124 348 (some ["self", "bits", "points"]) (.str "swornspire.judge" 315) ++ (
  mkD (inClass (top 17) 1) "Judge.rest_of" 86 4 3 131 357 (some ["self", "number", "words", "point", "rest", "word"]) (.str "swornspire.judge" 315) ++ (
  mkD (inClass (top 17) 2) "Judge.leaves_none" 94 3 3 138 369 (some ["self", "read", "point", "total", "term", "product", "number", "words"]) (.str "swornspire.judge" 315) ++ (
  mkD (inClass (top 17) 3) "Judge.zero" 103 2 3 145 383 none (.str "swornspire.judge" 315) ++ (
  mkD (inClass (top 17) 4) "Judge.size_less" 120 3 3 150 389 (some ["self", "left", "right", "word", "other"]) (.str "swornspire.judge" 315) ++ (
  mkD (inClass (top 17) 5) "Judge.less" 128 3 3 157 400 (some ["self", "left", "right", "left_words", "right_words"]) (.str "swornspire.judge" 315) ++ (
  mkD (inClass (top 17) 6) "Judge.fraction_less" 140 3 3 164 411 (some ["self", "left", "right", "first", "second"]) (.str "swornspire.judge" 315) ++ (
  mkD (inClass (top 17) 7) "Judge.most_of" 152 3 3 171 422 (some ["self", "left", "right"]) (.str "swornspire.judge" 315) ++ (
  mkD (inClass (top 17) 8) "Judge.between" 155 3 3 178 431 (some ["self", "number", "bound"]) (.str "swornspire.judge" 315) ++ (
  mkD (inClass (top 17) 9) "Judge.equal" 158 3 3 185 440 none (.str "swornspire.judge" 315) ++ (
  [⟨(.type "tuple"), none, (.seq ⟨[(.str "bits" 446), (.str "good" 447), (.str "most" 448), (.str "points" 449), (.str "steps" 450)]⟩ 0), ⟨[]⟩⟩,
  oD P [en "__module__" 343 (.str "swornspire.judge" 315), en "__firstlineno__" 347 (.int 77 346), er "__init__" 356 130, er "rest_of" 368 137, er "leaves_none" 382 144, er "zero" 388 149, er "size_less" 399 156, er "less" 410 163, er "fraction_less" 421 170, er "most_of" 430 177, er "between" 439 184, er "equal" 445 189, er "__static_attributes__" 451 190, er "__dict__" 453 193, er "__weakref__" 455 194, en "__doc__" 456 .none] 4,
  ⟨(.type "type"), none, (.cls { name := "Judge", bases := [(.type "object")], mro := [(.ref 192), (.type "object")], ns := 191, qualname := "Judge", hasDict := true, subclasses := [] }), ⟨[none, none, (some (.str "Judge" 336)), (some (.str "Judge" 344)), (some (.builtin "object.__new__")), (some (.bool true))]⟩⟩,
  ⟨(.type "getset_descriptor"), none, (.fields ⟨[(.str "__dict__" 452), (.ref 192), (.builtin "function.__dict__"), (.builtin "function.__dict__#set")]⟩), ⟨[]⟩⟩,
  ⟨(.type "getset_descriptor"), none, (.fields ⟨[(.str "__weakref__" 454), (.ref 192), (.builtin "ExceptionGroup.__weakref__"), .none]⟩), ⟨[]⟩⟩,
  ⟨(.type "super"), none, (.fields ⟨[(.ref 192), (.ref 192), (.ref 192)]⟩), ⟨[]⟩⟩,
  ⟨(.type "builtin_function_or_method"), none, (.fields ⟨[(.builtin "object.__init_subclass__"), (.ref 192)]⟩), ⟨[]⟩⟩] ++ (
  mkD (top 19) "is_parts" 161 2 3 197 461 (some ["value", "many"]) (.str "swornspire.shapes" 459) ++ (
  mkD (top 20) "is_numbers" 163 2 3 204 469 none (.str "swornspire.shapes" 459)))))))))))))))))))))))))
def s350_o1 (P : Params) : List Obj := mkD (top 21) "is_row" 165 1 3 209 475 none (.str "swornspire.shapes" 459) ++ (
  mkD (top 22) "is_rows" 167 3 3 214 481 none (.str "swornspire.shapes" 459) ++ (
  mkD (top 23) "are_rows" 169 1 3 219 487 none (.str "swornspire.shapes" 459) ++ (
  mkD (top 24) "is_poly_form" 171 1 3 224 493 (some ["value"]) (.str "swornspire.shapes" 459) ++ (
  mkD (top 25) "is_point" 173 1 3 231 500 (some ["value"]) (.str "swornspire.shapes" 459) ++ (
  mkD (top 26) "is_ascending" 175 2 3 238 507 (some ["value", "limit", "last", "number"]) (.str "swornspire.shapes" 459) ++ (
  mkD (top 28) "is_lowest" 185 3 3 245 519 (some ["judge", "value", "paper", "top", "bottom", "s", "t"]) (.str "swornspire.judgefraction" 517) ++ (
  mkD (top 29) "takes_sum" 189 5 3 252 532 (some ["judge", "op", "args", "value", "paper", "a", "b", "c", "d", "p", "q", "same"]) (.str "swornspire.judgefraction" 517) ++ (
  mkD (top 30) "takes_over" 203 4 3 259 550 (some ["judge", "args", "value", "paper", "x", "y"]) (.str "swornspire.judgefraction" 517) ++ (
  mkD (top 31) "takes_floor" 210 4 3 266 562 (some ["judge", "args", "value", "paper", "a", "b"]) (.str "swornspire.judgefraction" 517) ++ (
  mkD (top 32) "takes_order" 217 4 3 273 574 (some ["judge", "args", "value", "paper", "a", "b", "c", "d", "k", "l"]) (.str "swornspire.judgefraction" 517) ++ (
  mkD (top 33) "is_wide" 225 3 3 280 590 (some ["judge", "args", "product", "x", "y", "z", "w"]) (.str "swornspire.judgefraction" 517) ++ (
  mkD (top 34) "takes_again" 230 4 3 287 603 (some ["judge", "args", "value", "paper", "x", "y", "z", "w", "n", "k", "e", "m", "s", "t"]) (.str "swornspire.judgefraction" 517) ++ (
  mkD (top 35) "takes_fraction" 246 5 3 294 623 (some ["judge", "op", "args", "value", "paper", "x"]) (.str "swornspire.judgefraction" 517) ++ (
  mkD (top 36) "bars_rows" 269 3 3 301 635 (some ["judge", "args", "paper", "x", "y", "z", "w", "m", "u", "s", "k", "v", "t", "l", "side", "size"]) (.str "swornspire.judgefraction" 517) ++ (
  mkD (top 37) "bars_again" 284 3 3 308 657 (some ["judge", "args", "paper", "x", "y", "z", "w"]) (.str "swornspire.judgefraction" 517) ++ (
  mkD (top 38) "bars_fraction" 291 4 3 315 670 (some ["judge", "op", "args", "paper"]) (.str "swornspire.judgefraction" 517) ++ (
  mkD (top 40) "choices" 300 2 3 322 682 (some ["many", "size", "found", "step", "longer", "part", "start", "number"]) (.str "swornspire.choosing" 680) ++ (
  mkD (top 41) "subsets" 310 1 3 329 696 none (.str "swornspire.choosing" 680) ++ (
  mkD (top 42) "half_choices" 315 1 3 334 702 (some ["many", "told", "size", "chosen"]) (.str "swornspire.choosing" 680) ++ (
  mkD (top 44) "reduced_mod" 323 2 3 341 714 none (.str "swornspire.modpolys" 712) ++ (
  mkD (top 45) "inverse_mod" 325 2 3 346 720 (some ["number", "prime", "result", "base", "exponent"]) (.str "swornspire.modpolys" 712) ++ (
  mkD (top 46) "monic_mod" 335 2 3 353 731 none (.str "swornspire.modpolys" 712) ++ (
  mkD (top 47) "difference_mod" 338 3 3 358 737 (some ["x", "y", "prime", "numbers", "place", "number"]) (.str "swornspire.modpolys" 712) ++ (
  mkD (top 48) "product_mod" 343 3 3 365 749 (some ["x", "y", "prime", "numbers", "low", "a", "place", "b"]) (.str "swornspire.modpolys" 712)))))))))))))))))))))))))
def s350_o2 (P : Params) : List Obj := mkD (top 49) "division_mod" 351 3 3 372 763 (some ["x", "y", "prime", "inverse", "rest", "many", "quotient", "place", "factor", "low", "number"]) (.str "swornspire.modpolys" 712) ++ (
  mkD (top 50) "rest_mod" 362 3 3 379 780 (some ["x", "y", "prime"]) (.str "swornspire.modpolys" 712) ++ (
  mkD (top 51) "divisor_mod" 364 3 3 386 789 (some ["x", "y", "prime", "old", "new"]) (.str "swornspire.modpolys" 712) ++ (
  mkD (top 52) "bezout_mod" 369 3 3 393 800 none (.str "swornspire.modpolys" 712) ++ (
  mkD (top 53) "derivative_mod" 378 2 3 398 806 none (.str "swornspire.modpolys" 712) ++ (
  mkD (top 54) "power_mod" 380 4 3 403 812 (some ["x", "exponent", "modulus", "prime", "result", "base", "rest"]) (.str "swornspire.modpolys" 712) ++ (
  mkD (top 55) "is_squarefree_mod" 390 2 3 410 825 (some ["x", "prime", "slope"]) (.str "swornspire.modpolys" 712) ++ (
  mkD (top 56) "irreducible_mod" 395 2 3 417 834 (some ["poly", "prime", "degree", "power", "step", "test"]) (.str "swornspire.modpolys" 712) ++ (
  mkD (top 58) "product_terms" 405 4 3 424 848 (some ["x", "y", "place", "factors", "terms", "low", "a"]) (.str "swornspire.polyterms" 846) ++ (
  mkD (top 59) "own_terms" 411 3 3 431 861 (some ["x", "place", "factors"]) (.str "swornspire.polyterms" 846) ++ (
  mkD (top 60) "is_product" 415 5 3 438 870 (some ["judge", "x", "y", "value", "factors", "place"]) (.str "swornspire.polyterms" 846) ++ (
  mkD (top 61) "is_multiple" 420 5 3 445 882 (some ["judge", "factor", "x", "y", "value"]) (.str "swornspire.polyterms" 846) ++ (
  mkD (top 62) "is_poly_sum" 422 7 3 452 893 (some ["judge", "factor", "value", "s", "x", "t", "y", "place", "left", "right"]) (.str "swornspire.polyterms" 846) ++ (
  mkD (top 67) "is_mixed" 433 3 3 459 917 none (.str "swornspire.judgeirreducible" 909) ++ (
  mkD (top 68) "is_small_prime" 437 1 3 464 923 (some ["value"]) (.str "swornspire.judgeirreducible" 909) ++ (
  mkD (top 69) "rests_of" 439 3 3 471 930 none (.str "swornspire.judgeirreducible" 909) ++ (
  mkD (top 70) "is_irreducible_rest" 442 3 3 476 936 (some ["judge", "poly", "prime", "rests"]) (.str "swornspire.judgeirreducible" 909) ++ (
  mkD (top 71) "chain_end" 445 5 3 483 946 (some ["judge", "top", "factors", "power", "chain", "current", "factor", "pair", "more", "told", "place", "left"]) (.str "swornspire.judgeirreducible" 909) ++ (
  mkD (top 72) "takes_whole_chain" 459 5 3 490 964 (some ["judge", "poly", "factors", "power", "chain", "last", "end", "place", "right"]) (.str "swornspire.judgeirreducible" 909) ++ (
  mkD (top 73) "takes_refusal" 471 6 3 497 979 none (.str "swornspire.judgeirreducible" 909) ++ (
  mkD (top 74) "are_factors" 489 4 3 502 985 (some ["judge", "factors", "prime", "power", "seen", "factor", "number", "rests"]) (.str "swornspire.judgeirreducible" 909) ++ (
  mkD (top 75) "is_roomy" 504 5 3 509 999 (some ["judge", "poly", "power", "size", "room", "number", "degree", "bound"]) (.str "swornspire.judgeirreducible" 909) ++ (
  mkD (top 76) "takes_lifted" 511 3 3 516 1013 (some ["judge", "poly", "paper", "word", "mix", "prime", "power", "count", "factors", "chain", "size", "room", "refusals", "due", "chosen", "refusal"]) (.str "swornspire.judgeirreducible" 909) ++ (
  mkD (top 77) "takes_irreducible" 532 3 3 523 1035 (some ["judge", "poly", "paper"]) (.str "swornspire.judgeirreducible" 909) ++ (
  mkD (top 79) "takes_sums" 543 5 3 530 1046 (some ["judge", "op", "args", "value", "paper", "x", "other", "place", "left", "right", "same"]) (.str "swornspire.judgepoly" 1044)))))))))))))))))))))))))
def s350_o3 (P : Params) : List Obj := mkD (top 80) "takes_slope" 562 4 3 537 1063 (some ["judge", "args", "value", "paper", "x", "place", "terms"]) (.str "swornspire.judgepoly" 1044) ++ (
  mkD (top 81) "value_terms" 571 4 3 544 1076 (some ["x", "top", "bottom", "factors", "terms", "degree", "place", "number", "powers"]) (.str "swornspire.judgepoly" 1044) ++ (
  mkD (top 82) "takes_value" 578 4 3 551 1091 none (.str "swornspire.judgepoly" 1044) ++ (
  mkD (top 84) "takes_fraction_value" 585 4 3 556 1098 (some ["judge", "args", "value", "paper", "x", "point", "degree", "right"]) (.str "swornspire.judgepoly" 1044) ++ (
  mkD (top 85) "takes_common" 594 4 3 563 1112 (some ["judge", "args", "value", "paper", "x", "y", "mix", "c", "s", "t", "k", "u", "l", "w"]) (.str "swornspire.judgepoly" 1044) ++ (
  mkD (top 86) "are_in_order" 606 1 3 570 1132 (some ["polys", "poly", "other"]) (.str "swornspire.judgepoly" 1044) ++ (
  mkD (top 87) "unlike_polys" 611 1 3 577 1141 (some ["polys", "told", "poly"]) (.str "swornspire.judgepoly" 1044) ++ (
  mkD (top 88) "takes_factored" 617 3 3 584 1150 none (.str "swornspire.judgepoly" 1044) ++ (
  mkD (top 89) "takes_part" 638 6 3 589 1156 (some ["judge", "op", "extra", "args", "value", "paper"]) (.str "swornspire.judgepoly" 1044) ++ (
  mkD (top 90) "takes_poly" 644 6 3 596 1168 (some ["judge", "op", "extra", "args", "value", "paper", "rest"]) (.str "swornspire.judgepoly" 1044) ++ (
  mkD (top 91) "bars_poly" 665 5 3 603 1181 (some ["judge", "op", "extra", "args", "paper"]) (.str "swornspire.judgepoly" 1044) ++ (
  mkD (top 93) "sign_by" 672 2 3 610 1194 (some ["judge", "number"]) (.str "swornspire.judgechain" 1192) ++ (
  mkD (top 94) "changes_by" 678 2 3 617 1202 none (.str "swornspire.judgechain" 1192) ++ (
  mkD (top 95) "takes_step" 682 5 3 622 1208 (some ["judge", "before", "poly", "after", "step", "scale", "quotient", "factor", "place", "left"]) (.str "swornspire.judgechain" 1192) ++ (
  mkD (top 96) "is_chain_form" 693 2 3 629 1224 none (.str "swornspire.judgechain" 1192) ++ (
  mkD (top 97) "takes_chain" 702 3 3 634 1230 (some ["judge", "poly", "chain", "polys", "steps", "index", "step", "ends", "after"]) (.str "swornspire.judgechain" 1192) ++ (
  mkD (top 98) "are_values" 718 4 3 641 1245 (some ["judge", "chain", "point", "values", "poly", "value"]) (.str "swornspire.judgechain" 1192) ++ (
  mkD (top 99) "changes_low" 725 2 3 648 1257 none (.str "swornspire.judgechain" 1192) ++ (
  mkD (top 100) "changes_high" 727 2 3 653 1263 none (.str "swornspire.judgechain" 1192) ++ (
  mkD (top 101) "roots_by" 729 2 3 658 1269 (some ["judge", "chain"]) (.str "swornspire.judgechain" 1192) ++ (
  mkD (top 102) "counts_well" 731 3 3 665 1277 (some ["chain", "values", "values2"]) (.str "swornspire.judgechain" 1192) ++ (
  mkD (top 103) "is_span" 733 3 3 672 1286 (some ["judge", "low", "high"]) (.str "swornspire.judgechain" 1192) ++ (
  mkD (top 104) "has_one" 737 5 3 679 1295 (some ["judge", "chain", "values", "values2", "index", "first"]) (.str "swornspire.judgechain" 1192) ++ (
  mkD (top 105) "takes_place" 742 3 3 686 1307 (some ["judge", "root", "place", "low", "high", "chain", "values", "values2"]) (.str "swornspire.judgechain" 1192) ++ (
  mkD (top 106) "takes_ends" 751 7 3 693 1321 (some ["judge", "poly", "chain", "low", "high", "values", "values2"]) (.str "swornspire.judgechain" 1192)))))))))))))))))))))))))
def s350_o4 (P : Params) : List Obj := mkD (top 108) "binomial_row" 756 1 3 700 1336 none (.str "swornspire.judgesums" 1334) ++ (
  mkD (top 109) "combined_terms" 761 5 3 705 1342 (some ["op", "factor", "poly", "row", "column"]) (.str "swornspire.judgesums" 1334) ++ (
  mkD (top 110) "first_terms" 769 4 3 712 1353 (some ["table", "poly", "row", "column", "terms", "place", "line"]) (.str "swornspire.judgesums" 1334) ++ (
  mkD (top 111) "second_terms" 775 4 3 719 1366 (some ["table", "poly", "row", "column", "terms", "place", "number"]) (.str "swornspire.judgesums" 1334) ++ (
  mkD (top 112) "longest_line" 782 1 3 726 1379 none (.str "swornspire.judgesums" 1334) ++ (
  mkD (top 113) "is_member" 784 6 3 731 1385 (some ["judge", "op", "factor", "poly", "tables", "polys", "first", "second", "x", "y", "rows", "columns", "row", "column", "left", "right"]) (.str "swornspire.judgesums" 1334) ++ (
  mkD (top 114) "is_sum_of_ends" 796 4 3 738 1407 (some ["judge", "end", "x", "y", "left"]) (.str "swornspire.judgesums" 1334) ++ (
  mkD (top 115) "is_corner" 799 6 3 745 1418 (some ["judge", "pairs", "low", "high", "x", "y", "k", "l", "m", "n"]) (.str "swornspire.judgesums" 1334) ++ (
  mkD (top 116) "are_corners" 808 6 3 752 1434 (some ["judge", "place", "place2", "low", "high", "pairs", "at", "x", "y"]) (.str "swornspire.judgesums" 1334) ++ (
  mkD (top 117) "is_covered" 818 6 3 759 1449 (some ["judge", "op", "place", "place2", "place3", "pairs", "low", "high"]) (.str "swornspire.judgesums" 1334) ++ (
  mkD (top 118) "takes_combined" 825 5 3 766 1463 (some ["judge", "op", "args", "value", "paper", "x", "y", "place", "place2", "place3", "pairs", "poly", "factor", "first", "second", "k", "u", "chain", "values", "values2", "irreducible"]) (.str "swornspire.judgesums" 1334) ++ (
  mkD (top 119) "roots_ahead" 848 3 3 773 1490 (some ["judge", "chain", "values"]) (.str "swornspire.judgesums" 1334) ++ (
  mkD (top 121) "takes_count" 851 4 3 780 1501 (some ["judge", "args", "value", "paper", "x"]) (.str "swornspire.judgeroot" 1499) ++ (
  mkD (top 122) "takes_root" 856 5 3 787 1512 (some ["judge", "extra", "args", "value", "paper", "x", "k", "u", "place", "chain", "values", "values2", "irreducible"]) (.str "swornspire.judgeroot" 1499) ++ (
  mkD (top 123) "takes_negated" 870 4 3 794 1531 (some ["judge", "args", "value", "paper", "factor", "chain", "poly", "index", "place", "number", "term"]) (.str "swornspire.judgeroot" 1499) ++ (
  mkD (top 124) "is_order" 884 5 3 801 1548 (some ["judge", "place", "place2", "k", "l", "high", "low"]) (.str "swornspire.judgeroot" 1499) ++ (
  mkD (top 125) "takes_root_order" 890 4 3 808 1561 (some ["judge", "args", "value", "paper", "x", "y", "place", "place2", "k", "l"]) (.str "swornspire.judgeroot" 1499) ++ (
  mkD (top 126) "takes_sign" 902 4 3 815 1577 (some ["judge", "args", "value", "paper", "x", "root", "place", "chain", "values", "values2"]) (.str "swornspire.judgeroot" 1499) ++ (
  mkD (top 127) "roots_below" 918 3 3 822 1593 (some ["judge", "chain", "values", "many"]) (.str "swornspire.judgeroot" 1499) ++ (
  mkD (top 128) "takes_root_floor" 921 4 3 829 1603 (some ["judge", "args", "value", "paper", "poly", "index", "following", "chain", "values", "values2"]) (.str "swornspire.judgeroot" 1499) ++ (
  mkD (top 129) "takes_lifted_root" 935 4 3 836 1619 (some ["judge", "args", "value", "paper", "top", "bottom"]) (.str "swornspire.judgeroot" 1499) ++ (
  mkD (top 130) "takes_any_root" 940 6 3 843 1631 (some ["judge", "op", "extra", "args", "value", "paper"]) (.str "swornspire.judgeroot" 1499) ++ (
  mkD (top 131) "bars_root" 958 5 3 850 1643 (some ["judge", "op", "extra", "args", "paper", "x"]) (.str "swornspire.judgeroot" 1499) ++ (
  mkD (top 133) "entry_terms" 966 2 3 857 1657 none (.str "swornspire.judgetable" 1655) ++ (
  mkD (top 134) "column_at" 968 2 3 862 1663 none (.str "swornspire.judgetable" 1655)))))))))))))))))))))))))
def s350_o5 (P : Params) : List Obj := mkD (top 135) "has_sides" 970 3 3 867 1669 (some ["value", "rows", "columns"]) (.str "swornspire.judgetable" 1655) ++ (
  mkD (top 136) "takes_entries" 972 5 3 874 1678 (some ["judge", "op", "args", "value", "paper", "place", "row", "column", "entry", "x", "same"]) (.str "swornspire.judgetable" 1655) ++ (
  mkD (top 137) "takes_product" 987 4 3 881 1695 (some ["judge", "args", "value", "paper", "place", "row", "column", "entry", "terms"]) (.str "swornspire.judgetable" 1655) ++ (
  mkD (top 138) "minor_terms" 996 3 3 888 1710 (some ["line", "chosen", "known", "terms", "size", "place", "column", "others", "term"]) (.str "swornspire.judgetable" 1655) ++ (
  mkD (top 139) "takes_determinant" 1006 4 3 895 1725 none (.str "swornspire.judgetable" 1655) ++ (
  mkD (top 140) "is_diagonal" 1021 4 3 900 1731 (some ["judge", "left", "right", "number", "place", "row", "column", "terms", "due"]) (.str "swornspire.judgetable" 1655) ++ (
  mkD (top 141) "is_combination" 1029 5 3 907 1746 none (.str "swornspire.judgetable" 1655) ++ (
  mkD (top 142) "takes_rank" 1035 4 3 912 1752 none (.str "swornspire.judgetable" 1655) ++ (
  mkD (top 143) "is_solution" 1051 5 3 917 1758 (some ["judge", "table", "right", "numbers", "factor", "row", "other"]) (.str "swornspire.judgetable" 1655) ++ (
  mkD (top 144) "is_bar" 1058 4 3 924 1771 (some ["judge", "table", "right", "paper", "numbers", "value", "column"]) (.str "swornspire.judgetable" 1655) ++ (
  mkD (top 145) "are_pivots" 1068 6 3 931 1784 none (.str "swornspire.judgetable" 1655) ++ (
  mkD (top 146) "takes_solution" 1087 5 3 936 1790 (some ["judge", "args", "numbers", "scale", "rest", "table", "right", "mix", "pivots", "left", "factor", "sums", "column", "number"]) (.str "swornspire.judgetable" 1655) ++ (
  mkD (top 147) "takes_solve" 1104 5 3 943 1810 none (.str "swornspire.judgetable" 1655) ++ (
  mkD (top 148) "takes_solvable" 1113 4 3 948 1816 (some ["judge", "args", "value", "paper", "table", "right"]) (.str "swornspire.judgetable" 1655) ++ (
  mkD (top 149) "takes_table" 1120 6 3 955 1828 none (.str "swornspire.judgetable" 1655) ++ (
  mkD (top 150) "bars_table" 1142 3 3 960 1834 (some ["judge", "args", "paper"]) (.str "swornspire.judgetable" 1655) ++ (
  mkD (top 152) "digits_of" 1145 1 3 967 1845 none (.str "swornspire.powers" 1843) ++ (
  mkD (top 153) "power_steps" 1147 3 3 972 1851 (some ["x", "exponent", "modulus", "quotient", "rest", "steps", "digit", "product"]) (.str "swornspire.powers" 1843) ++ (
  mkD (top 154) "power_rest" 1155 3 3 979 1865 (some ["x", "exponent", "modulus"]) (.str "swornspire.powers" 1843) ++ (
  mkD (top 156) "takes_steps" 1158 5 3 986 1876 (some ["judge", "x", "exponent", "modulus", "steps", "digits", "last", "index", "step", "product"]) (.str "swornspire.judgeprime" 1874) ++ (
  mkD (top 157) "unlike_primes" 1176 1 3 993 1892 (some ["primes", "told", "prime"]) (.str "swornspire.judgeprime" 1874) ++ (
  mkD (top 158) "is_ascending_row" 1182 2 3 1000 1901 (some ["judge", "primes", "prime", "other"]) (.str "swornspire.judgeprime" 1874) ++ (
  mkD (top 159) "takes_factors" 1187 3 3 1007 1911 none (.str "swornspire.judgeprime" 1874) ++ (
  mkD (top 160) "takes_exponents" 1197 5 3 1012 1917 none (.str "swornspire.judgeprime" 1874) ++ (
  mkD (top 161) "takes_prime" 1216 3 3 1017 1923 (some ["judge", "prime", "paper", "generator", "primes", "papers", "powers", "unlike"]) (.str "swornspire.judgeprime" 1874)))))))))))))))))))))))))
def s350_o6 (P : Params) : List Obj := mkD (top 163) "repeated" 1229 2 3 1024 1939 none (.str "swornspire.judgewhole" 1937) ++ (
  mkD (top 164) "takes_ring" 1231 6 3 1029 1945 (some ["judge", "op", "extra", "args", "value", "paper", "x", "y"]) (.str "swornspire.judgewhole" 1937) ++ (
  mkD (top 165) "takes_division" 1249 5 3 1036 1959 (some ["judge", "op", "args", "value", "paper", "x", "y", "quotient", "rest"]) (.str "swornspire.judgewhole" 1937) ++ (
  mkD (top 166) "takes_divisor" 1257 4 3 1043 1974 (some ["judge", "args", "value", "paper", "x", "y", "s", "t", "k", "l"]) (.str "swornspire.judgewhole" 1937) ++ (
  mkD (top 167) "takes_power" 1265 4 3 1050 1990 (some ["judge", "args", "value", "paper", "x", "y", "z"]) (.str "swornspire.judgewhole" 1937) ++ (
  mkD (top 168) "takes_parts" 1270 6 3 1057 2003 (some ["judge", "op", "extra", "args", "value", "paper", "primes"]) (.str "swornspire.judgewhole" 1937) ++ (
  mkD (top 169) "takes_join" 1277 4 3 1064 2016 (some ["judge", "args", "value", "paper", "x", "y", "z", "w", "k", "l", "s", "t", "m"]) (.str "swornspire.judgewhole" 1937) ++ (
  mkD (top 170) "takes_primality" 1287 4 3 1071 2035 (some ["judge", "args", "value", "paper", "x", "k", "l"]) (.str "swornspire.judgewhole" 1937) ++ (
  mkD (top 171) "takes_truth" 1297 5 3 1078 2048 (some ["judge", "op", "args", "value", "paper"]) (.str "swornspire.judgewhole" 1937) ++ (
  [⟨(.type "tuple"), none, (.seq ⟨[(.str "number" 2059), (.str "add" 2060), (.str "sub" 2061), (.str "mul" 2062), (.str "neg" 2063), (.str "pow" 2064)]⟩ 0), ⟨[]⟩⟩,
  ⟨(.type "tuple"), none, (.seq ⟨[(.str "less" 2066), (.str "same" 2067), (.str "and" 2068), (.str "or" 2069), (.str "not" 2070)]⟩ 0), ⟨[]⟩⟩] ++ (
  mkD (top 174) "takes_whole" 1311 6 3 1087 2072 (some ["judge", "op", "extra", "args", "value", "paper"]) (.str "swornspire.judgewhole" 1937) ++ (
  mkD (top 175) "bars_join" 1327 3 3 1094 2084 (some ["judge", "args", "paper", "x", "y", "z", "w", "g", "k", "l"]) (.str "swornspire.judgewhole" 1937) ++ (
  mkD (top 176) "bars_whole" 1337 5 3 1101 2100 (some ["judge", "op", "extra", "args", "paper"]) (.str "swornspire.judgewhole" 1937) ++ (
  [⟨(.type "tuple"), none, (.seq ⟨[(.str "number" 2113), (.str "add" 2114), (.str "sub" 2115), (.str "mul" 2116), (.str "neg" 2117), (.str "pow" 2118), (.str "quotient" 2119), (.str "rest" 2120), (.str "gcd" 2121), (.str "power" 2122), (.str "factors" 2123), (.str "factor" 2124), (.str "join" 2125), (.str "prime" 2126), (.str "less" 2127), (.str "same" 2128), (.str "and" 2129), (.str "or" 2130), (.str "not" 2131)]⟩ 0), ⟨[]⟩⟩,
  ⟨(.type "tuple"), none, (.seq ⟨[(.str "lift" 2133), (.str "over" 2134), (.str "fadd" 2135), (.str "fsub" 2136), (.str "fmul" 2137), (.str "fdiv" 2138), (.str "fneg" 2139), (.str "num" 2140), (.str "den" 2141), (.str "ffloor" 2142), (.str "again" 2143), (.str "fless" 2144), (.str "fsame" 2145)]⟩ 0), ⟨[]⟩⟩,
  ⟨(.type "tuple"), none, (.seq ⟨[(.str "table" 2147), (.str "tadd" 2148), (.str "tsub" 2149), (.str "tneg" 2150), (.str "tmul" 2151), (.str "det" 2152), (.str "rank" 2153), (.str "entry" 2154), (.str "solve" 2155), (.str "scale" 2156), (.str "solvable" 2157), (.str "tsame" 2158)]⟩ 0), ⟨[]⟩⟩,
  ⟨(.type "tuple"), none, (.seq ⟨[(.str "poly" 2160), (.str "padd" 2161), (.str "psub" 2162), (.str "pmul" 2163), (.str "pneg" 2164), (.str "slope" 2165), (.str "at" 2166), (.str "fat" 2167), (.str "common" 2168), (.str "parts" 2169), (.str "part" 2170), (.str "psame" 2171)]⟩ 0), ⟨[]⟩⟩,
  ⟨(.type "tuple"), none, (.seq ⟨[(.str "rlift" 2173), (.str "roots" 2174), (.str "root" 2175), (.str "rneg" 2176), (.str "radd" 2177), (.str "rmul" 2178), (.str "rless" 2179), (.str "rsame" 2180), (.str "sign" 2181), (.str "rfloor" 2182)]⟩ 0), ⟨[]⟩⟩,
  ⟨(.type "tuple"), none, (.seq ⟨[(.str "quotient" 2184), (.str "rest" 2185), (.str "power" 2186), (.str "join" 2187), (.str "factors" 2188), (.str "factor" 2189)]⟩ 0), ⟨[]⟩⟩,
  ⟨(.type "tuple"), none, (.seq ⟨[(.str "over" 2191), (.str "fdiv" 2192), (.str "again" 2193)]⟩ 0), ⟨[]⟩⟩] ++ (
  mkD (top 185) "takes_value" 1357 3 3 1115 2195 (some ["judge", "claim", "paper", "word", "op", "extra", "args", "value"]) (.str "swornspire.judging" 2111) ++ (
  mkD (top 187) "takes_none" 1369 3 3 1122 2210 (some ["judge", "claim", "paper", "word", "op", "extra", "args"]) (.str "swornspire.judging" 2111) ++ (
  mkD (top 188) "takes" 1380 3 3 1129 2223 (some ["judge", "claim", "paper"]) (.str "swornspire.judging" 2111) ++ (
  mkD (top 190) "straight_sum" 1387 2 3 1136 2234 (some ["x", "y", "old", "new", "old_s", "new_s", "old_t", "new_t", "quotient"]) (.str "swornspire.divisors" 2232) ++ (
  mkD (top 191) "divisor_of" 1399 2 3 1143 2249 (some ["x", "y"]) (.str "swornspire.divisors" 2232) ++ (
  mkD (top 192) "divisor_of_all" 1401 1 3 1150 2257 (some ["numbers", "result", "number"]) (.str "swornspire.divisors" 2232) ++ (
  mkD (top 193) "mix_of" 1406 1 3 1157 2266 none (.str "swornspire.divisors" 2232) ++ (
  mkD (top 194) "divisor_paper" 1413 2 3 1162 2272 (some ["x", "y", "divisor", "s", "t"]) (.str "swornspire.divisors" 2232) ++ (
  mkD (top 196) "lowest" 1419 2 3 1169 2285 (some ["top", "bottom", "divisor"]) (.str "swornspire.fractions" 2283) ++ (
  mkD (top 197) "sum_of_fractions" 1424 2 3 1176 2294 (some ["x", "y"]) (.str "swornspire.fractions" 2283) ++ (
  mkD (top 198) "difference_of_fractions" 1426 2 3 1183 2302 (some ["x", "y"]) (.str "swornspire.fractions" 2283)))))))))))))))))))))))))
def s350_o7 (P : Params) : List Obj := mkD (top 199) "product_of_fractions" 1428 2 3 1190 2310 (some ["x", "y"]) (.str "swornspire.fractions" 2283) ++ (
  mkD (top 200) "quotient_of_fractions" 1430 2 3 1197 2318 (some ["x", "y"]) (.str "swornspire.fractions" 2283) ++ (
  mkD (top 201) "negative_of_fraction" 1434 1 3 1204 2326 (some ["x"]) (.str "swornspire.fractions" 2283) ++ (
  mkD (top 202) "is_below" 1436 2 3 1211 2333 (some ["x", "y"]) (.str "swornspire.fractions" 2283) ++ (
  mkD (top 203) "is_at_most" 1438 2 3 1218 2341 (some ["x", "y"]) (.str "swornspire.fractions" 2283) ++ (
  mkD (top 204) "floor_of_fraction" 1440 1 3 1225 2349 (some ["x"]) (.str "swornspire.fractions" 2283) ++ (
  mkD (top 205) "least_of" 1442 1 3 1232 2356 (some ["fractions", "best", "other"]) (.str "swornspire.fractions" 2283) ++ (
  mkD (top 206) "greatest_of" 1448 1 3 1239 2365 (some ["fractions", "best", "other"]) (.str "swornspire.fractions" 2283) ++ (
  mkD (top 208) "again_rows" 1455 3 3 1246 2376 (some ["number", "modulus", "bound", "old", "new", "old_t", "new_t", "quotient"]) (.str "swornspire.again" 2374) ++ (
  mkD (top 209) "is_searched" 1463 3 3 1253 2390 (some ["modulus", "bound", "most"]) (.str "swornspire.again" 2374) ++ (
  mkD (top 210) "found_pair" 1467 4 3 1260 2399 (some ["number", "modulus", "bound", "most", "rest", "factor"]) (.str "swornspire.again" 2374) ++ (
  mkD (top 211) "found_again" 1476 4 3 1267 2411 (some ["number", "modulus", "bound", "most", "pair"]) (.str "swornspire.again" 2374) ++ (
  mkD (top 212) "again_paper" 1481 5 3 1274 2422 (some ["number", "modulus", "bound", "most", "value", "rest", "factor", "one", "s", "t"]) (.str "swornspire.again" 2374) ++ (
  mkD (top 213) "barring_paper" 1485 4 3 1281 2438 (some ["number", "modulus", "bound", "most", "product", "u", "s", "v", "t", "side"]) (.str "swornspire.again" 2374) ++ (
  mkD (top 215) "coefficient" 1495 2 3 1288 2456 (some ["poly", "place"]) (.str "swornspire.polys" 2454) ++ (
  mkD (top 216) "sum_of_polys" 1499 2 3 1295 2464 none (.str "swornspire.polys" 2454) ++ (
  mkD (top 217) "difference_of_polys" 1502 2 3 1300 2470 none (.str "swornspire.polys" 2454) ++ (
  mkD (top 218) "negative_poly" 1505 1 3 1305 2476 none (.str "swornspire.polys" 2454) ++ (
  mkD (top 219) "product_of_polys" 1507 2 3 1310 2482 (some ["x", "y", "numbers", "low", "a", "place", "b"]) (.str "swornspire.polys" 2454) ++ (
  mkD (top 220) "scaled_poly" 1515 2 3 1317 2495 none (.str "swornspire.polys" 2454) ++ (
  mkD (top 221) "derivative" 1517 1 3 1322 2501 none (.str "swornspire.polys" 2454) ++ (
  mkD (top 222) "value_of" 1519 2 3 1327 2507 (some ["x", "point", "total", "number"]) (.str "swornspire.polys" 2454) ++ (
  mkD (top 223) "top_value" 1524 2 3 1334 2517 (some ["x", "point", "total", "power", "number"]) (.str "swornspire.polys" 2454) ++ (
  mkD (top 224) "content" 1531 1 3 1341 2528 (some ["x"]) (.str "swornspire.polys" 2454) ++ (
  mkD (top 225) "primitive" 1533 1 3 1348 2535 none (.str "swornspire.polys" 2454)))))))))))))))))))))))))
def s350_o8 (P : Params) : List Obj := mkD (top 226) "exact_quotient" 1540 2 3 1353 2541 none (.str "swornspire.polys" 2454) ++ (
  mkD (top 227) "pseudo_division" 1554 2 3 1358 2547 none (.str "swornspire.polys" 2454) ++ (
  mkD (top 228) "height" 1570 1 3 1363 2553 none (.str "swornspire.polys" 2454) ++ (
  mkD (top 229) "mirrored" 1572 1 3 1368 2559 none (.str "swornspire.polys" 2454) ++ (
  mkD (top 231) "product_of_all" 1575 1 3 1373 2567 (some ["polys", "result", "poly"]) (.str "swornspire.lifting" 2565) ++ (
  mkD (top 232) "lift_bound" 1580 1 3 1380 2576 (some ["poly", "degree"]) (.str "swornspire.lifting" 2565) ++ (
  mkD (top 233) "lift_count" 1583 2 3 1387 2584 (some ["poly", "prime", "bound", "count", "power"]) (.str "swornspire.lifting" 2565) ++ (
  mkD (top 234) "cofactor_inverses" 1591 3 3 1394 2595 (some ["poly", "factors", "prime", "inverses", "place", "factor", "others", "other_place", "other"]) (.str "swornspire.lifting" 2565) ++ (
  mkD (top 235) "raised" 1600 3 3 1401 2610 none (.str "swornspire.lifting" 2565) ++ (
  mkD (top 236) "lifted_factors" 1602 4 3 1406 2616 none (.str "swornspire.lifting" 2565) ++ (
  mkD (top 237) "centered" 1619 2 3 1411 2622 (some ["number", "power", "rest"]) (.str "swornspire.lifting" 2565) ++ (
  mkD (top 238) "power_number" 1624 2 3 1418 2631 (some ["prime", "count", "power", "step"]) (.str "swornspire.lifting" 2565) ++ (
  mkD (top 240) "power_table" 1630 2 3 1425 2643 (some ["poly", "prime", "degree", "step", "power", "rows", "place", "row"]) (.str "swornspire.modfactors" 2641) ++ (
  mkD (top 241) "kernel_rows" 1641 2 3 1432 2657 none (.str "swornspire.modfactors" 2641) ++ (
  mkD (top 242) "split_once" 1662 3 3 1437 2663 (some ["poly", "row", "prime", "parts", "rest", "constant", "test", "part"]) (.str "swornspire.modfactors" 2641) ++ (
  mkD (top 243) "factors_mod" 1678 2 3 1444 2677 (some ["poly", "prime", "kernel", "parts", "row", "finer", "part"]) (.str "swornspire.modfactors" 2641) ++ (
  mkD (top 245) "divided_by" 1690 2 3 1451 2692 none (.str "swornspire.polydivisors" 2690) ++ (
  mkD (top 246) "next_row" 1692 2 3 1456 2698 none (.str "swornspire.polydivisors" 2690) ++ (
  mkD (top 247) "straight_poly_sum" 1702 2 3 1461 2704 (some ["x", "y", "old", "new"]) (.str "swornspire.polydivisors" 2690) ++ (
  mkD (top 248) "common_divisor" 1708 2 3 1468 2714 (some ["x", "y"]) (.str "swornspire.polydivisors" 2690) ++ (
  mkD (top 249) "common_paper" 1710 2 3 1475 2722 (some ["x", "y", "row", "s", "t", "divisor", "factor", "mix"]) (.str "swornspire.polydivisors" 2690) ++ (
  mkD (top 250) "squarefree_part" 1718 1 3 1482 2736 (some ["x"]) (.str "swornspire.polydivisors" 2690) ++ (
  mkD (top 252) "prime_factors" 1723 1 3 1489 2745 (some ["number", "rest", "factors", "divisor"]) (.str "swornspire.primes" 2743) ++ (
  mkD (top 253) "is_prime" 1735 1 3 1496 2755 (some ["number"]) (.str "swornspire.primes" 2743) ++ (
  mkD (top 254) "unlike_ones" 1737 1 3 1503 2762 (some ["numbers", "told", "number"]) (.str "swornspire.primes" 2743)))))))))))))))))))))))))
def s350_o9 (P : Params) : List Obj := mkD (top 255) "generator_of" 1743 2 3 1510 2771 none (.str "swornspire.primes" 2743) ++ (
  mkD (top 256) "prime_paper" 1749 1 3 1515 2777 none (.str "swornspire.primes" 2743) ++ (
  mkD (top 257) "factor_papers" 1759 1 3 1520 2783 none (.str "swornspire.primes" 2743) ++ (
  mkD (top 258) "nontrivial_divisor" 1761 1 3 1525 2789 (some ["number"]) (.str "swornspire.primes" 2743) ++ (
  mkD (top 261) "next_prime" 1765 1 3 1532 2800 (some ["number", "candidate"]) (.str "swornspire.polyfactors" 2796) ++ (
  mkD (top 262) "is_good_prime" 1770 2 3 1539 2808 (some ["poly", "prime"]) (.str "swornspire.polyfactors" 2796) ++ (
  mkD (top 263) "good_primes" 1772 1 3 1546 2816 (some ["poly", "found", "prime"]) (.str "swornspire.polyfactors" 2796) ++ (
  mkD (top 264) "best_split" 1780 1 3 1553 2825 (some ["poly", "best", "prime", "factors"]) (.str "swornspire.polyfactors" 2796) ++ (
  mkD (top 265) "candidate_of" 1789 4 3 1560 2835 none (.str "swornspire.polyfactors" 2796) ++ (
  mkD (top 266) "found_factor" 1794 4 3 1565 2841 (some ["poly", "factors", "power", "size", "chosen", "factor"]) (.str "swornspire.polyfactors" 2796) ++ (
  mkD (top 267) "irreducible_factors" 1800 1 3 1572 2853 none (.str "swornspire.polyfactors" 2796) ++ (
  mkD (top 268) "part_order" 1823 1 3 1577 2859 (some ["poly"]) (.str "swornspire.polyfactors" 2796) ++ (
  mkD (top 269) "factor_poly" 1825 1 3 1584 2866 (some ["poly", "factor", "rest", "parts", "part", "quotient"]) (.str "swornspire.polyfactors" 2796) ++ (
  mkD (top 271) "reduced_pair" 1840 3 3 1591 2880 none (.str "swornspire.irreducible" 2878) ++ (
  mkD (top 272) "product_chain" 1846 5 3 1596 2886 (some ["top", "factors", "chosen", "power", "center", "chain", "current", "index", "place", "last", "pair"]) (.str "swornspire.irreducible" 2878) ++ (
  mkD (top 273) "whole_chain" 1855 3 3 1603 2903 none (.str "swornspire.irreducible" 2878) ++ (
  mkD (top 274) "refusal" 1860 4 3 1608 2909 (some ["poly", "factors", "chosen", "power", "chain"]) (.str "swornspire.irreducible" 2878) ++ (
  mkD (top 275) "irreducible_paper" 1863 1 3 1615 2920 none (.str "swornspire.irreducible" 2878) ++ (
  mkD (top 277) "join_two" 1878 4 3 1620 2928 (some ["rest", "modulus", "other", "other_modulus", "divisor", "s", "t"]) (.str "swornspire.joining" 2926) ++ (
  mkD (top 278) "join_paper" 1885 5 3 1627 2941 (some ["x", "y", "z", "w", "value", "divisor", "s", "t"]) (.str "swornspire.joining" 2926) ++ (
  mkD (top 280) "minors_by_columns" 1889 1 3 1634 2957 none (.str "swornspire.minors" 2955) ++ (
  mkD (top 281) "minors_of" 1904 1 3 1639 2963 (some ["table", "side", "levels", "told", "size", "chosen"]) (.str "swornspire.minors" 2955) ++ (
  mkD (top 283) "chain_of" 1913 1 3 1646 2977 none (.str "swornspire.chains" 2975) ++ (
  mkD (top 284) "sign_of_number" 1927 1 3 1651 2983 (some ["number"]) (.str "swornspire.chains" 2975) ++ (
  mkD (top 285) "changes_in" 1933 1 3 1658 2990 (some ["numbers", "changes", "last", "number", "sign"]) (.str "swornspire.chains" 2975)))))))))))))))))))))))))
def s350_o10 (P : Params) : List Obj := mkD (top 286) "chain_values" 1943 2 3 1665 3001 none (.str "swornspire.chains" 2975) ++ (
  mkD (top 287) "changes_at" 1945 2 3 1670 3007 (some ["chain", "point"]) (.str "swornspire.chains" 2975) ++ (
  mkD (top 288) "changes_above" 1947 1 3 1677 3015 none (.str "swornspire.chains" 2975) ++ (
  mkD (top 289) "changes_below" 1949 1 3 1682 3021 none (.str "swornspire.chains" 2975) ++ (
  mkD (top 290) "count_all" 1951 1 3 1687 3027 (some ["chain"]) (.str "swornspire.chains" 2975) ++ (
  mkD (top 291) "count_between" 1953 3 3 1694 3034 (some ["chain", "low", "high"]) (.str "swornspire.chains" 2975) ++ (
  mkD (top 293) "root_bound" 1956 1 3 1701 3045 (some ["poly"]) (.str "swornspire.spans" 3043) ++ (
  mkD (top 294) "middle" 1958 2 3 1708 3052 (some ["low", "high"]) (.str "swornspire.spans" 3043) ++ (
  mkD (top 295) "spans_by" 1960 2 3 1715 3060 (some ["chain", "bound", "low", "high", "waiting", "told", "first", "last", "point", "changes"]) (.str "swornspire.spans" 3043) ++ (
  mkD (top 296) "halved_by" 1974 2 3 1722 3076 (some ["chain", "span", "low", "high", "point"]) (.str "swornspire.spans" 3043) ++ (
  mkD (top 297) "above" 1980 3 3 1729 3087 (some ["chain", "span", "bound"]) (.str "swornspire.spans" 3043) ++ (
  mkD (top 298) "clear_span" 1984 3 3 1736 3096 (some ["poly", "part", "index", "chain", "spans", "low", "high"]) (.str "swornspire.spans" 3043) ++ (
  mkD (top 299) "place_by" 1998 2 3 1743 3109 none (.str "swornspire.spans" 3043) ++ (
  mkD (top 300) "place_of" 2003 2 3 1748 3115 (some ["root", "span"]) (.str "swornspire.spans" 3043) ++ (
  mkD (top 302) "parted" 2006 2 3 1755 3125 (some ["span", "other"]) (.str "swornspire.comparing" 3123) ++ (
  mkD (top 303) "parted_spans" 2012 2 3 1762 3133 (some ["x", "y", "chain", "chain2", "span", "span2", "halvings"]) (.str "swornspire.comparing" 3123) ++ (
  mkD (top 304) "compare" 2025 2 3 1769 3146 (some ["x", "y", "span", "span2", "halvings"]) (.str "swornspire.comparing" 3123) ++ (
  mkD (top 305) "sign_span" 2030 2 3 1776 3157 (some ["poly", "root", "part", "chain", "own", "span"]) (.str "swornspire.comparing" 3123) ++ (
  mkD (top 306) "is_zero_at" 2038 2 3 1783 3169 (some ["poly", "root"]) (.str "swornspire.comparing" 3123) ++ (
  mkD (top 307) "sign_of" 2040 2 3 1790 3177 (some ["poly", "root"]) (.str "swornspire.comparing" 3123) ++ (
  mkD (top 308) "is_floor" 2044 2 3 1797 3185 (some ["number", "span", "low", "high"]) (.str "swornspire.comparing" 3123) ++ (
  mkD (top 309) "floor_of" 2047 1 3 1804 3195 (some ["root", "poly", "chain", "span"]) (.str "swornspire.comparing" 3123) ++ (
  mkD (top 310) "is_less" 2056 2 3 1811 3205 (some ["x", "y"]) (.str "swornspire.comparing" 3123) ++ (
  mkD (top 312) "part_with_root" 2059 2 3 1818 3215 (some ["parts", "span", "part", "chain"]) (.str "swornspire.rooting" 3213) ++ (
  mkD (top 313) "root_count" 2065 1 3 1825 3225 (some ["poly"]) (.str "swornspire.rooting" 3213)))))))))))))))))))))))))
def s350_o11 (P : Params) : List Obj := mkD (top 314) "root_with_span" 2067 2 3 1832 3232 (some ["poly", "index", "part", "span"]) (.str "swornspire.rooting" 3213) ++ (
  mkD (top 315) "root_of" 2075 2 3 1839 3242 (some ["poly", "index", "told"]) (.str "swornspire.rooting" 3213) ++ (
  mkD (top 316) "root_of_fraction" 2080 1 3 1846 3251 (some ["fraction"]) (.str "swornspire.rooting" 3213) ++ (
  mkD (top 317) "negated" 2082 1 3 1853 3258 (some ["root", "many"]) (.str "swornspire.rooting" 3213) ++ (
  mkD (top 318) "monic_scaled" 2085 2 3 1860 3266 (some ["poly", "scale", "degree", "factor", "told", "power", "place"]) (.str "swornspire.rooting" 3213) ++ (
  mkD (top 319) "power_sums" 2094 2 3 1867 3279 (some ["numbers", "many", "degree", "sums", "power", "total", "back"]) (.str "swornspire.rooting" 3213) ++ (
  mkD (top 320) "from_power_sums" 2105 2 3 1874 3292 (some ["sums", "degree", "symmetric", "size", "total", "sign", "power", "told", "place"]) (.str "swornspire.rooting" 3213) ++ (
  mkD (top 321) "sums_of_sums" 2119 3 3 1881 3307 none (.str "swornspire.rooting" 3213) ++ (
  mkD (top 322) "unscaled" 2129 2 3 1886 3313 (some ["numbers", "scale", "told", "power", "number"]) (.str "swornspire.rooting" 3213) ++ (
  mkD (top 323) "sum_poly" 2136 2 3 1893 3324 (some ["x", "y", "degree", "scale", "first", "second", "numbers"]) (.str "swornspire.rooting" 3213) ++ (
  mkD (top 324) "product_poly" 2143 2 3 1900 3337 none (.str "swornspire.rooting" 3213) ++ (
  mkD (top 325) "sum_span" 2150 2 3 1905 3343 (some ["span", "span2"]) (.str "swornspire.rooting" 3213) ++ (
  mkD (top 326) "product_span" 2152 3 3 1912 3351 none (.str "swornspire.rooting" 3213) ++ (
  mkD (top 327) "combined_roots" 2157 3 3 1917 3357 (some ["op", "x", "y", "poly", "whole", "chain", "chain2", "span", "span2", "fine", "span3", "root"]) (.str "swornspire.rooting" 3213) ++ (
  mkD (top 328) "sum_of" 2173 2 3 1924 3375 (some ["x", "y"]) (.str "swornspire.rooting" 3213) ++ (
  mkD (top 329) "product_of" 2175 2 3 1931 3383 (some ["x", "y"]) (.str "swornspire.rooting" 3213) ++ (
  mkD (top 331) "column_of" 2178 2 3 1938 3393 none (.str "swornspire.tables" 3391) ++ (
  mkD (top 332) "turned" 2180 1 3 1943 3399 none (.str "swornspire.tables" 3391) ++ (
  mkD (top 333) "part_of" 2182 3 3 1948 3405 none (.str "swornspire.tables" 3391) ++ (
  mkD (top 334) "table_of" 2184 3 3 1953 3411 none (.str "swornspire.tables" 3391) ++ (
  mkD (top 335) "combined" 2186 3 3 1958 3417 none (.str "swornspire.tables" 3391) ++ (
  mkD (top 336) "negative_table" 2189 1 3 1963 3423 none (.str "swornspire.tables" 3391) ++ (
  mkD (top 337) "dot" 2191 2 3 1968 3429 (some ["xs", "ys", "total", "x", "y"]) (.str "swornspire.tables" 3391) ++ (
  mkD (top 338) "product_of_tables" 2196 2 3 1975 3440 none (.str "swornspire.tables" 3391) ++ (
  mkD (top 339) "determinant" 2199 1 3 1980 3446 none (.str "swornspire.tables" 3391)))))))))))))))))))))))))
def s350_o12 (P : Params) : List Obj := mkD (top 340) "plain_rank" 2211 1 3 1985 3452 (some ["table", "rows", "columns", "best", "chosen", "picked"]) (.str "swornspire.tables" 3391) ++ (
  mkD (top 342) "fraction_rows" 2222 1 3 1992 3466 none (.str "swornspire.solving" 3464) ++ (
  mkD (top 343) "unit_rows" 2224 1 3 1997 3472 none (.str "swornspire.solving" 3464) ++ (
  mkD (top 344) "scaled" 2226 2 3 2002 3478 none (.str "swornspire.solving" 3464) ++ (
  mkD (top 345) "reduced" 2228 3 3 2007 3484 none (.str "swornspire.solving" 3464) ++ (
  mkD (top 346) "pivot_row" 2230 3 3 2012 3490 (some ["rows", "start", "column", "row"]) (.str "swornspire.solving" 3464) ++ (
  mkD (top 347) "echelon" 2235 1 3 2019 3500 (some ["table", "rows", "transform", "pivots", "column", "done", "row", "factor", "other"]) (.str "swornspire.solving" 3464) ++ (
  mkD (top 348) "common_scale" 2256 1 3 2026 3515 (some ["fractions", "scale", "top", "bottom", "divisor"]) (.str "swornspire.solving" 3464) ++ (
  mkD (top 349) "whole_row" 2262 2 3 2033 3526 none (.str "swornspire.solving" 3464) ++ (
  mkD (top 350) "dot_fraction" 2264 2 3 2038 3532 (some ["fractions", "numbers", "scale"]) (.str "swornspire.solving" 3464))))))))))
def s350_o (P : Params) : List Obj := s350_o0 P ++ (s350_o1 P ++ (s350_o2 P ++ (s350_o3 P ++ (s350_o4 P ++ (s350_o5 P ++ (s350_o6 P ++ (s350_o7 P ++ (s350_o8 P ++ (s350_o9 P ++ (s350_o10 P ++ (s350_o11 P ++ (s350_o12 P))))))))))))
def s350_e0 : List Ent := [en "__name__" 165 (.str "swornspire.solving" 3464),
  en "__doc__" 166 .none,
  en "__package__" 167 .none,
  en "__loader__" 168 (.builtin "__main__.__loader__#opaque"),
  en "__spec__" 169 .none,
  er "__annotations__" 170 6,
  er "__builtins__" 171 4,
  en "__file__" 173 (.str "/claim/cut.py" 172),
  en "__cached__" 174 .none,
  er "SpireError" 206 24,
  er "NotSo" 233 46,
  er "is_whole" 242 55,
  er "bits_of" 249 62,
  er "words_of" 260 69,
  er "is_word_prime" 270 76,
  er "weight_of" 277 83,
  er "are_good_points" 287 90,
  er "used_points" 298 97,
  er "need_of" 304 102,
  er "trimmed" 314 109,
  er "product_words" 335 116,
  er "Judge" 458 192,
  er "is_parts" 468 203,
  er "is_numbers" 474 208,
  er "is_row" 480 213,
  er "is_rows" 486 218,
  er "are_rows" 492 223,
  er "is_poly_form" 499 230,
  er "is_point" 506 237,
  er "is_ascending" 516 244,
  er "is_lowest" 531 251,
  er "takes_sum" 549 258,
  er "takes_over" 561 265,
  er "takes_floor" 573 272,
  er "takes_order" 589 279,
  er "is_wide" 602 286,
  er "takes_again" 622 293,
  er "takes_fraction" 634 300,
  er "bars_rows" 656 307,
  er "bars_again" 669 314]
def s350_e1 : List Ent := [er "bars_fraction" 679 321,
  er "choices" 695 328,
  er "subsets" 701 333,
  er "half_choices" 711 340,
  er "reduced_mod" 719 345,
  er "inverse_mod" 730 352,
  er "monic_mod" 736 357,
  er "difference_mod" 748 364,
  er "product_mod" 762 371,
  er "division_mod" 779 378,
  er "rest_mod" 788 385,
  er "divisor_mod" 799 392,
  er "bezout_mod" 805 397,
  er "derivative_mod" 811 402,
  er "power_mod" 824 409,
  er "is_squarefree_mod" 833 416,
  er "irreducible_mod" 845 423,
  er "product_terms" 860 430,
  er "own_terms" 869 437,
  er "is_product" 881 444,
  er "is_multiple" 892 451,
  er "is_poly_sum" 908 458,
  en "MOST_PRIME" 912 (.int 65535 911),
  en "MOST_COUNT" 914 (.int 4000 913),
  en "MOST_FACTORS" 916 (.int 8 915),
  er "is_mixed" 922 463,
  er "is_small_prime" 929 470,
  er "rests_of" 935 475,
  er "is_irreducible_rest" 945 482,
  er "chain_end" 963 489,
  er "takes_whole_chain" 978 496,
  er "takes_refusal" 984 501,
  er "are_factors" 998 508,
  er "is_roomy" 1012 515,
  er "takes_lifted" 1034 522,
  er "takes_irreducible" 1043 529,
  er "takes_sums" 1062 536,
  er "takes_slope" 1075 543,
  er "value_terms" 1090 550,
  er "takes_value" 1096 1121]
def s350_e2 : List Ent := [er "takes_value_judgepoly" 1097 555,
  er "takes_fraction_value" 1111 562,
  er "takes_common" 1131 569,
  er "are_in_order" 1140 576,
  er "unlike_polys" 1149 583,
  er "takes_factored" 1155 588,
  er "takes_part" 1167 595,
  er "takes_poly" 1180 602,
  er "bars_poly" 1191 609,
  er "sign_by" 1201 616,
  er "changes_by" 1207 621,
  er "takes_step" 1223 628,
  er "is_chain_form" 1229 633,
  er "takes_chain" 1244 640,
  er "are_values" 1256 647,
  er "changes_low" 1262 652,
  er "changes_high" 1268 657,
  er "roots_by" 1276 664,
  er "counts_well" 1285 671,
  er "is_span" 1294 678,
  er "has_one" 1306 685,
  er "takes_place" 1320 692,
  er "takes_ends" 1333 699,
  er "binomial_row" 1341 704,
  er "combined_terms" 1352 711,
  er "first_terms" 1365 718,
  er "second_terms" 1378 725,
  er "longest_line" 1384 730,
  er "is_member" 1406 737,
  er "is_sum_of_ends" 1417 744,
  er "is_corner" 1433 751,
  er "are_corners" 1448 758,
  er "is_covered" 1462 765,
  er "takes_combined" 1489 772,
  er "roots_ahead" 1498 779,
  er "takes_count" 1511 786,
  er "takes_root" 1530 793,
  er "takes_negated" 1547 800,
  er "is_order" 1560 807,
  er "takes_root_order" 1576 814]
def s350_e3 : List Ent := [er "takes_sign" 1592 821,
  er "roots_below" 1602 828,
  er "takes_root_floor" 1618 835,
  er "takes_lifted_root" 1630 842,
  er "takes_any_root" 1642 849,
  er "bars_root" 1654 856,
  er "entry_terms" 1662 861,
  er "column_at" 1668 866,
  er "has_sides" 1677 873,
  er "takes_entries" 1694 880,
  er "takes_product" 1709 887,
  er "minor_terms" 1724 894,
  er "takes_determinant" 1730 899,
  er "is_diagonal" 1745 906,
  er "is_combination" 1751 911,
  er "takes_rank" 1757 916,
  er "is_solution" 1770 923,
  er "is_bar" 1783 930,
  er "are_pivots" 1789 935,
  er "takes_solution" 1809 942,
  er "takes_solve" 1815 947,
  er "takes_solvable" 1827 954,
  er "takes_table" 1833 959,
  er "bars_table" 1842 966,
  er "digits_of" 1850 971,
  er "power_steps" 1864 978,
  er "power_rest" 1873 985,
  er "takes_steps" 1891 992,
  er "unlike_primes" 1900 999,
  er "is_ascending_row" 1910 1006,
  er "takes_factors" 1916 1011,
  er "takes_exponents" 1922 1016,
  er "takes_prime" 1936 1023,
  er "repeated" 1944 1028,
  er "takes_ring" 1958 1035,
  er "takes_division" 1973 1042,
  er "takes_divisor" 1989 1049,
  er "takes_power" 2002 1056,
  er "takes_parts" 2015 1063,
  er "takes_join" 2034 1070]
def s350_e4 : List Ent := [er "takes_primality" 2047 1077,
  er "takes_truth" 2058 1084,
  er "RING" 2065 1085,
  er "TRUTHS" 2071 1086,
  er "takes_whole" 2083 1093,
  er "bars_join" 2099 1100,
  er "bars_whole" 2110 1107,
  er "WHOLE_RULES" 2132 1108,
  er "FRACTION_RULES" 2146 1109,
  er "TABLE_RULES" 2159 1110,
  er "POLY_RULES" 2172 1111,
  er "ROOT_RULES" 2183 1112,
  er "WHOLE_BARRED" 2190 1113,
  er "FRACTION_BARRED" 2194 1114,
  er "takes_value_judging" 2209 1121,
  er "takes_none" 2222 1128,
  er "takes" 2231 1135,
  er "straight_sum" 2248 1142,
  er "divisor_of" 2256 1149,
  er "divisor_of_all" 2265 1156,
  er "mix_of" 2271 1161,
  er "divisor_paper" 2282 1168,
  er "lowest" 2293 1175,
  er "sum_of_fractions" 2301 1182,
  er "difference_of_fractions" 2309 1189,
  er "product_of_fractions" 2317 1196,
  er "quotient_of_fractions" 2325 1203,
  er "negative_of_fraction" 2332 1210,
  er "is_below" 2340 1217,
  er "is_at_most" 2348 1224,
  er "floor_of_fraction" 2355 1231,
  er "least_of" 2364 1238,
  er "greatest_of" 2373 1245,
  er "again_rows" 2389 1252,
  er "is_searched" 2398 1259,
  er "found_pair" 2410 1266,
  er "found_again" 2421 1273,
  er "again_paper" 2437 1280,
  er "barring_paper" 2453 1287,
  er "coefficient" 2463 1294]
def s350_e5 : List Ent := [er "sum_of_polys" 2469 1299,
  er "difference_of_polys" 2475 1304,
  er "negative_poly" 2481 1309,
  er "product_of_polys" 2494 1316,
  er "scaled_poly" 2500 1321,
  er "derivative" 2506 1326,
  er "value_of" 2516 1333,
  er "top_value" 2527 1340,
  er "content" 2534 1347,
  er "primitive" 2540 1352,
  er "exact_quotient" 2546 1357,
  er "pseudo_division" 2552 1362,
  er "height" 2558 1367,
  er "mirrored" 2564 1372,
  er "product_of_all" 2575 1379,
  er "lift_bound" 2583 1386,
  er "lift_count" 2594 1393,
  er "cofactor_inverses" 2609 1400,
  er "raised" 2615 1405,
  er "lifted_factors" 2621 1410,
  er "centered" 2630 1417,
  er "power_number" 2640 1424,
  er "power_table" 2656 1431,
  er "kernel_rows" 2662 1436,
  er "split_once" 2676 1443,
  er "factors_mod" 2689 1450,
  er "divided_by" 2697 1455,
  er "next_row" 2703 1460,
  er "straight_poly_sum" 2713 1467,
  er "common_divisor" 2721 1474,
  er "common_paper" 2735 1481,
  er "squarefree_part" 2742 1488,
  er "prime_factors" 2754 1495,
  er "is_prime" 2761 1502,
  er "unlike_ones" 2770 1509,
  er "generator_of" 2776 1514,
  er "prime_paper" 2782 1519,
  er "factor_papers" 2788 1524,
  er "nontrivial_divisor" 2795 1531,
  en "TRIED_PRIMES" 2799 (.int 3 2798)]
def s350_e6 : List Ent := [er "next_prime" 2807 1538,
  er "is_good_prime" 2815 1545,
  er "good_primes" 2824 1552,
  er "best_split" 2834 1559,
  er "candidate_of" 2840 1564,
  er "found_factor" 2852 1571,
  er "irreducible_factors" 2858 1576,
  er "part_order" 2865 1583,
  er "factor_poly" 2877 1590,
  er "reduced_pair" 2885 1595,
  er "product_chain" 2902 1602,
  er "whole_chain" 2908 1607,
  er "refusal" 2919 1614,
  er "irreducible_paper" 2925 1619,
  er "join_two" 2940 1626,
  er "join_paper" 2954 1633,
  er "minors_by_columns" 2962 1638,
  er "minors_of" 2974 1645,
  er "chain_of" 2982 1650,
  er "sign_of_number" 2989 1657,
  er "changes_in" 3000 1664,
  er "chain_values" 3006 1669,
  er "changes_at" 3014 1676,
  er "changes_above" 3020 1681,
  er "changes_below" 3026 1686,
  er "count_all" 3033 1693,
  er "count_between" 3042 1700,
  er "root_bound" 3051 1707,
  er "middle" 3059 1714,
  er "spans_by" 3075 1721,
  er "halved_by" 3086 1728,
  er "above" 3095 1735,
  er "clear_span" 3108 1742,
  er "place_by" 3114 1747,
  er "place_of" 3122 1754,
  er "parted" 3132 1761,
  er "parted_spans" 3145 1768,
  er "compare" 3156 1775,
  er "sign_span" 3168 1782,
  er "is_zero_at" 3176 1789]
def s350_e7 : List Ent := [er "sign_of" 3184 1796,
  er "is_floor" 3194 1803,
  er "floor_of" 3204 1810,
  er "is_less" 3212 1817,
  er "part_with_root" 3224 1824,
  er "root_count" 3231 1831,
  er "root_with_span" 3241 1838,
  er "root_of" 3250 1845,
  er "root_of_fraction" 3257 1852,
  er "negated" 3265 1859,
  er "monic_scaled" 3278 1866,
  er "power_sums" 3291 1873,
  er "from_power_sums" 3306 1880,
  er "sums_of_sums" 3312 1885,
  er "unscaled" 3323 1892,
  er "sum_poly" 3336 1899,
  er "product_poly" 3342 1904,
  er "sum_span" 3350 1911,
  er "product_span" 3356 1916,
  er "combined_roots" 3374 1923,
  er "sum_of" 3382 1930,
  er "product_of" 3390 1937,
  er "column_of" 3398 1942,
  er "turned" 3404 1947,
  er "part_of" 3410 1952,
  er "table_of" 3416 1957,
  er "combined" 3422 1962,
  er "negative_table" 3428 1967,
  er "dot" 3439 1974,
  er "product_of_tables" 3445 1979,
  er "determinant" 3451 1984,
  er "plain_rank" 3463 1991,
  er "fraction_rows" 3471 1996,
  er "unit_rows" 3477 2001,
  er "scaled" 3483 2006,
  er "reduced" 3489 2011,
  er "pivot_row" 3499 2018,
  er "echelon" 3514 2025,
  er "common_scale" 3525 2032,
  er "whole_row" 3531 2037]
def s350_e8 : List Ent := [er "dot_fraction" 3540 2044]
def s350_m (P : Params) : Obj := oD P (s350_e0 ++ (s350_e1 ++ (s350_e2 ++ (s350_e3 ++ (s350_e4 ++ (s350_e5 ++ (s350_e6 ++ (s350_e7 ++ (s350_e8))))))))) 321
noncomputable abbrev S350 (w : World) (os : OsState) : SharedT := stT (s350_o w.params) (some (s350_m w.params)) 2045 3541 w os
def s441_o0 (P : Params) : List Obj := [⟨(.type "tuple"), none, (.seq ⟨[]⟩ 0), ⟨[]⟩⟩,
  oK [(2, 0, 20), (4, 0, 34), (10, 0, 54), (12, 0, 61), (14, 0, 68), (23, 0, 75), (34, 0, 82), (36, 0, 89), (45, 0, 96), (52, 0, 101), (58, 0, 108), (64, 0, 115), (77, 0, 122), (161, 0, 202), (163, 0, 207), (165, 0, 212), (167, 0, 217), (169, 0, 222), (171, 0, 229), (173, 0, 236), (175, 0, 243), (185, 0, 250), (189, 0, 257), (203, 0, 264), (210, 0, 271), (217, 0, 278), (225, 0, 285), (230, 0, 292), (246, 0, 299), (269, 0, 306), (284, 0, 313), (291, 0, 320), (300, 0, 327), (310, 0, 332), (315, 0, 339), (323, 0, 344), (325, 0, 351), (335, 0, 356), (338, 0, 363), (343, 0, 370), (351, 0, 377), (362, 0, 384), (364, 0, 391), (369, 0, 396), (378, 0, 401), (380, 0, 408), (390, 0, 415), (395, 0, 422), (405, 0, 429), (411, 0, 436), (415, 0, 443), (420, 0, 450), (422, 0, 457), (433, 0, 462), (437, 0, 469), (439, 0, 474), (442, 0, 481), (445, 0, 488), (459, 0, 495), (471, 0, 500), (489, 0, 507), (504, 0, 514), (511, 0, 521), (532, 0, 528), (543, 0, 535), (562, 0, 542), (571, 0, 549), (578, 0, 554), (585, 0, 561), (594, 0, 568), (606, 0, 575), (611, 0, 582), (617, 0, 587), (638, 0, 594), (644, 0, 601), (665, 0, 608), (672, 0, 615), (678, 0, 620), (682, 0, 627), (693, 0, 632), (702, 0, 639), (718, 0, 646), (725, 0, 651), (727, 0, 656), (729, 0, 663), (731, 0, 670), (733, 0, 677), (737, 0, 684), (742, 0, 691), (751, 0, 698), (756, 0, 703), (761, 0, 710), (769, 0, 717), (775, 0, 724), (782, 0, 729), (784, 0, 736), (796, 0, 743), (799, 0, 750), (808, 0, 757), (818, 0, 764), (825, 0, 771), (848, 0, 778), (851, 0, 785), (856, 0, 792), (870, 0, 799), (884, 0, 806), (890, 0, 813), (902, 0, 820), (918, 0, 827), (921, 0, 834), (935, 0, 841), (940, 0, 848), (958, 0, 855), (966, 0, 860), (968, 0, 865), (970, 0, 872), (972, 0, 879), (987, 0, 886), (996, 0, 893), (1006, 0, 898), (1021, 0, 905), (1029, 0, 910), (1035, 0, 915), (1051, 0, 922), (1058, 0, 929), (1068, 0, 934), (1087, 0, 941), (1104, 0, 946), (1113, 0, 953), (1120, 0, 958), (1142, 0, 965), (1145, 0, 970), (1147, 0, 977), (1155, 0, 984), (1158, 0, 991), (1176, 0, 998), (1182, 0, 1005), (1187, 0, 1010), (1197, 0, 1015), (1216, 0, 1022), (1229, 0, 1027), (1231, 0, 1034), (1249, 0, 1041), (1257, 0, 1048), (1265, 0, 1055), (1270, 0, 1062), (1277, 0, 1069), (1287, 0, 1076), (1297, 0, 1083), (1311, 0, 1092), (1327, 0, 1099), (1337, 0, 1106), (1357, 0, 1120), (1369, 0, 1127), (1380, 0, 1134), (1387, 0, 1141), (1399, 0, 1148), (1401, 0, 1155), (1406, 0, 1160), (1413, 0, 1167), (1419, 0, 1174), (1424, 0, 1181), (1426, 0, 1188), (1428, 0, 1195), (1430, 0, 1202), (1434, 0, 1209), (1436, 0, 1216), (1438, 0, 1223), (1440, 0, 1230), (1442, 0, 1237), (1448, 0, 1244), (1455, 0, 1251), (1463, 0, 1258), (1467, 0, 1265), (1476, 0, 1272), (1481, 0, 1279), (1485, 0, 1286), (1495, 0, 1293), (1499, 0, 1298), (1502, 0, 1303), (1505, 0, 1308), (1507, 0, 1315), (1515, 0, 1320), (1517, 0, 1325), (1519, 0, 1332), (1524, 0, 1339), (1531, 0, 1346), (1533, 0, 1351), (1540, 0, 1356), (1554, 0, 1361), (1570, 0, 1366), (1572, 0, 1371), (1575, 0, 1378), (1580, 0, 1385), (1583, 0, 1392), (1591, 0, 1399), (1600, 0, 1404), (1602, 0, 1409), (1619, 0, 1416), (1624, 0, 1423), (1630, 0, 1430), (1641, 0, 1435), (1662, 0, 1442), (1678, 0, 1449), (1690, 0, 1454), (1692, 0, 1459), (1702, 0, 1466), (1708, 0, 1473), (1710, 0, 1480), (1718, 0, 1487), (1723, 0, 1494), (1735, 0, 1501), (1737, 0, 1508), (1743, 0, 1513), (1749, 0, 1518), (1759, 0, 1523), (1761, 0, 1530), (1765, 0, 1537), (1770, 0, 1544), (1772, 0, 1551), (1780, 0, 1558), (1789, 0, 1563), (1794, 0, 1570), (1800, 0, 1575), (1823, 0, 1582), (1825, 0, 1589), (1840, 0, 1594), (1846, 0, 1601), (1855, 0, 1606), (1860, 0, 1613), (1863, 0, 1618), (1878, 0, 1625), (1885, 0, 1632), (1889, 0, 1637), (1904, 0, 1644), (1913, 0, 1649), (1927, 0, 1656), (1933, 0, 1663), (1943, 0, 1668), (1945, 0, 1675), (1947, 0, 1680), (1949, 0, 1685), (1951, 0, 1692), (1953, 0, 1699), (1956, 0, 1706), (1958, 0, 1713), (1960, 0, 1720), (1974, 0, 1727), (1980, 0, 1734), (1984, 0, 1741), (1998, 0, 1746), (2003, 0, 1753), (2006, 0, 1760), (2012, 0, 1767), (2025, 0, 1774), (2030, 0, 1781), (2038, 0, 1788), (2040, 0, 1795), (2044, 0, 1802), (2047, 0, 1809), (2056, 0, 1816), (2059, 0, 1823), (2065, 0, 1830), (2067, 0, 1837), (2075, 0, 1844), (2080, 0, 1851), (2082, 0, 1858), (2085, 0, 1865), (2094, 0, 1872), (2105, 0, 1879), (2119, 0, 1884), (2129, 0, 1891), (2136, 0, 1898), (2143, 0, 1903), (2150, 0, 1910), (2152, 0, 1915), (2157, 0, 1922), (2173, 0, 1929), (2175, 0, 1936), (2178, 0, 1941), (2180, 0, 1946), (2182, 0, 1951), (2184, 0, 1956), (2186, 0, 1961), (2189, 0, 1966), (2191, 0, 1973), (2196, 0, 1978), (2199, 0, 1983), (2211, 0, 1990), (2222, 0, 1995), (2224, 0, 2000), (2226, 0, 2005), (2228, 0, 2010), (2230, 0, 2017), (2235, 0, 2024), (2256, 0, 2031), (2262, 0, 2036), (2264, 0, 2043), (2267, 0, 2050), (2277, 0, 2055), (2287, 0, 2060), (2301, 0, 2067), (2303, 0, 2072), (2317, 0, 2079), (2320, 0, 2086), (2340, 0, 2093), (2365, 0, 2100), (2370, 0, 2105), (2381, 0, 2112), (2397, 0, 2119), (2418, 0, 2130), (2429, 0, 2137), (2434, 0, 2144), (2439, 0, 2151), (2467, 0, 2158), (2483, 0, 2165), (2499, 0, 2172), (2508, 0, 2179), (2513, 0, 2186), (2528, 0, 2196), (2545, 0, 2203), (2553, 0, 2210), (2556, 0, 2217), (2567, 0, 2224), (2575, 0, 2231), (2579, 0, 2236), (2584, 0, 2241), (2594, 0, 2246), (2596, 0, 2251), (2612, 0, 2256), (2614, 0, 2261), (2616, 0, 2266), (2625, 0, 2273), (2633, 0, 2280), (2643, 0, 2287), (2646, 0, 2294), (2649, 0, 2301), (2656, 0, 2308), (2672, 0, 2315), (2680, 0, 2322), (2692, 0, 2327), (2701, 0, 2334), (2720, 0, 2345), (2734, 0, 2352), (2739, 0, 2359), (2753, 0, 2366), (2758, 0, 2373), (2765, 0, 2380), (2772, 0, 2387), (2788, 0, 2394), (2790, 0, 2401), (2799, 0, 2408), (2807, 0, 2413), (2818, 0, 2420), (2831, 0, 2427), (2833, 0, 2432), (2838, 0, 2439), (2846, 0, 2446), (2853, 0, 2451), (2864, 0, 2456), (2877, 0, 2461), (2886, 0, 2468), (2893, 0, 2473), (2903, 0, 2480), (2907, 0, 2487), (2918, 0, 2494), (2920, 0, 2499), (2941, 0, 2506), (2948, 0, 2511), (2967, 0, 2518), (2984, 0, 2525), (2989, 0, 2532), (3007, 0, 2539)],
  ⟨(.type "code"), none, (.fields ⟨[(.str "<module>" 182), (.str "<module>" 183), (.str "/claim/cut.py" 184), (.int 1 0), (.int 0 0), (.int 0 0), (.int 0 0), (.int 0 0), (.ref 11), (.bool false), (.int 181 0), (.ref 12), .none, .none, .none, .none, (.int 185 0), (.int 1 0), (.str "/claim/cut.py" 186)]⟩), ⟨[]⟩⟩,
  ⟨(.type "frame"), none, .plain, ⟨[(some (.ref 13)), (some (.ref 3)), (some (.ref 3)), none, (some (.str "__main__" 164)), none, (some (.ref 0))]⟩⟩,
  ⟨(.type "tuple"), none, (.seq ⟨[(.type "ValueError")]⟩ 0), ⟨[]⟩⟩,
  ⟨(.type "builtin_function_or_method"), none, (.fields ⟨[(.builtin "type.__prepare__"), (.type "type")]⟩), ⟨[]⟩⟩,
  oD P [en "__module__" 196 (.str "swornspire.errors" 187), en "__qualname__" 198 (.str "SpireError" 197), en "__firstlineno__" 200 (.int 2 199), er "__static_attributes__" 201 22] 4,
  ⟨(.type "tuple"), none, (.seq ⟨[]⟩ 0), ⟨[]⟩⟩,
  ⟨.none, none, (.fields ⟨[]⟩), ⟨[]⟩⟩,
  ⟨(.type "code"), none, (.fields ⟨[(.str "SpireError" 191), (.str "SpireError" 192), (.str "/claim/cut.py" 193), (.int 2 0), (.int 0 0), (.int 0 0), (.int 0 0), (.int 0 0), (.ref 18), (.bool false), (.int 181 0), (.ref 19), .none, .none, .none, .none, (.int 194 0), (.int 2 0), (.str "/claim/cut.py" 195)]⟩), ⟨[]⟩⟩,
  ⟨(.type "frame"), none, .plain, ⟨[(some (.ref 20)), (some (.ref 3)), (some (.ref 17)), none, (some (.str "swornspire.errors" 187)), none, (some (.ref 0))]⟩⟩,
  ⟨(.type "tuple"), none, (.seq ⟨[]⟩ 0), ⟨[]⟩⟩,
  oD P [en "__module__" 196 (.str "swornspire.errors" 187), en "__firstlineno__" 200 (.int 2 199), er "__static_attributes__" 201 22, er "__weakref__" 203 25, en "__doc__" 204 .none] 3,
  ⟨(.type "type"), none, (.cls { name := "SpireError", bases := [(.type "ValueError")], mro := [(.ref 24), (.type "ValueError"), (.type "Exception"), (.type "BaseException"), (.type "object")], ns := 23, qualname := "SpireError", hasDict := true, subclasses := [(.ref 46)] }), ⟨[(some (.ref 15)), none, (some (.str "SpireError" 189)), (some (.str "SpireError" 197)), (some (.builtin "ValueError.__new__")), (some (.bool true))]⟩⟩,
  ⟨(.type "getset_descriptor"), none, (.fields ⟨[(.str "__weakref__" 202), (.ref 24), (.builtin "ExceptionGroup.__weakref__"), .none]⟩), ⟨[]⟩⟩,
  ⟨(.type "super"), none, (.fields ⟨[(.ref 24), (.ref 24), (.ref 24)]⟩), ⟨[]⟩⟩,
  ⟨(.type "builtin_function_or_method"), none, (.fields ⟨[(.builtin "object.__init_subclass__"), (.ref 24)]⟩), ⟨[]⟩⟩,
  ⟨(.type "tuple"), none, (.seq ⟨[(.ref 24)]⟩ 0), ⟨[]⟩⟩,
  ⟨(.type "builtin_function_or_method"), none, (.fields ⟨[(.builtin "type.__prepare__"), (.type "type")]⟩), ⟨[]⟩⟩,
  oD P [en "__module__" 214 (.str "swornspire.errors" 187), en "__qualname__" 216 (.str "NotSo" 215), en "__firstlineno__" 218 (.int 4 217), er "__init__" 227 43, er "__static_attributes__" 229 44, er "__classcell__" 230 31] 6,
  ⟨(.type "cell"), none, (.cell (some (.ref 46))), ⟨[]⟩⟩,
  ⟨(.type "tuple"), none, (.seq ⟨[]⟩ 0), ⟨[]⟩⟩,
  ⟨.none, none, (.fields ⟨[(.int 6 0), (.int 4 0), (.ref 42)]⟩), ⟨[]⟩⟩,
  ⟨(.type "code"), none, (.fields ⟨[(.str "NotSo" 209), (.str "NotSo" 210), (.str "/claim/cut.py" 211), (.int 4 0), (.int 0 0), (.int 0 0), (.int 0 0), (.int 0 0), (.ref 32), (.bool false), (.int 181 0), (.ref 33), .none, .none, .none, .none, (.int 212 0), (.int 4 0), (.str "/claim/cut.py" 213)]⟩), ⟨[]⟩⟩,
  ⟨(.type "frame"), none, .plain, ⟨[(some (.ref 34)), (some (.ref 3)), (some (.ref 30)), none, (some (.str "swornspire.errors" 187)), none, (some (.ref 0))]⟩⟩,
  ⟨(.type "tuple"), none, (.seq ⟨[(.ref 31)]⟩ 0), ⟨[]⟩⟩,
  ⟨(.type "tuple"), none, (.seq ⟨[(.str "__class__" 222)]⟩ 0), ⟨[]⟩⟩,
  ⟨.none, none, (.fields ⟨[]⟩), ⟨[]⟩⟩,
  ⟨(.type "tuple"), none, (.seq ⟨[(.str "self" 223), (.str "rule" 224)]⟩ 0), ⟨[]⟩⟩,
  ⟨(.type "tuple"), none, (.seq ⟨[]⟩ 0), ⟨[]⟩⟩,
  ⟨.none, none, (.func { name := "__init__", qualname := "NotSo.__init__", params := defArgs (inClass (top 2) 0), body := .stmts (defBody (inClass (top 2) 0)), scope := defScope (inClass (top 2) 0), globals := 0, closure := [], defaults := .none, kwdefaults := .none, doc := .none, pyModule := .none, annotations := none, code := .none, closureTuple := .none, builtins := 0 }), ⟨[]⟩⟩,
  ⟨(.type "code"), none, (.fields ⟨[(.str "__init__" 219), (.str "NotSo.__init__" 220), (.str "/claim/cut.py" 221), (.int 6 0), (.int 2 0), (.int 0 0), (.int 0 0), (.int 3 0), (.ref 37), (.bool true), (.int 181 0), (.ref 38), .none, (.ref 39), (.ref 40), (.ref 41), (.int 225 0), (.int 6 0), (.str "/claim/cut.py" 226)]⟩), ⟨[]⟩⟩,
  ⟨(.type "function"), none, (.func { name := "__init__", qualname := "NotSo.__init__", params := defArgs (inClass (top 2) 0), body := .stmts (defBody (inClass (top 2) 0)), scope := defScope (inClass (top 2) 0), globals := 3, closure := [("__class__", 31)], defaults := .none, kwdefaults := .none, doc := .none, pyModule := (.str "swornspire.errors" 187), annotations := none, code := (.ref 42), closureTuple := (.ref 36), builtins := 0 }), ⟨[]⟩⟩,
  ⟨(.type "tuple"), none, (.seq ⟨[(.str "rule" 228)]⟩ 0), ⟨[]⟩⟩,
  oD P [en "__module__" 214 (.str "swornspire.errors" 187), en "__firstlineno__" 218 (.int 4 217), er "__init__" 227 43, er "__static_attributes__" 229 44, en "__doc__" 231 .none] 3,
  ⟨(.type "type"), none, (.cls { name := "NotSo", bases := [(.ref 24)], mro := [(.ref 46), (.ref 24), (.type "ValueError"), (.type "Exception"), (.type "BaseException"), (.type "object")], ns := 45, qualname := "NotSo", hasDict := true, subclasses := [] }), ⟨[(some (.ref 28)), none, (some (.str "NotSo" 207)), (some (.str "NotSo" 215)), (some (.builtin "ValueError.__new__")), (some (.bool true))]⟩⟩,
  ⟨(.type "super"), none, (.fields ⟨[(.ref 46), (.ref 46), (.ref 46)]⟩), ⟨[]⟩⟩,
  ⟨(.type "builtin_function_or_method"), none, (.fields ⟨[(.builtin "object.__init_subclass__"), (.ref 46)]⟩), ⟨[]⟩⟩] ++ (
  mkD (top 4) "is_whole" 10 1 3 49 236 (some ["value"]) (.str "swornspire.sizes" 234) ++ (
  mkD (top 5) "bits_of" 12 1 3 56 243 (some ["number"]) (.str "swornspire.sizes" 234) ++ (
  mkD (top 6) "words_of" 14 2 3 63 250 (some ["number", "bits", "rest", "base", "words"]) (.str "swornspire.sizes" 234) ++ (
  mkD (top 8) "is_word_prime" 23 1 3 70 263 (some ["number", "divisor"]) (.str "swornspire.points" 261) ++ (
  mkD (top 9) "weight_of" 34 1 3 77 271 (some ["point"]) (.str "swornspire.points" 261) ++ (
  mkD (top 10) "are_good_points" 36 2 3 84 278 (some ["points", "bits", "last", "point"]) (.str "swornspire.points" 261) ++ (
  mkD (top 11) "used_points" 45 2 3 91 288 (some ["points", "need", "weight", "used", "point"]) (.str "swornspire.points" 261) ++ (
  mkD (top 12) "need_of" 52 1 3 98 299 none (.str "swornspire.points" 261) ++ (
  mkD (top 14) "trimmed" 58 1 3 103 307 (some ["numbers", "end"]) (.str "swornspire.trimming" 305) ++ (
  mkD (top 16) "product_words" 64 3 3 110 317 (some ["left", "right", "bits", "xs", "ys", "base", "words", "low", "x", "high", "place", "y", "total"]) (.str "swornspire.judge" 315) ++ (
  [⟨(.type "tuple"), none, (.seq ⟨[]⟩ 0), ⟨[]⟩⟩,
  ⟨(.type "builtin_function_or_method"), none, (.fields ⟨[(.builtin "type.__prepare__"), (.type "type")]⟩), ⟨[]⟩⟩,
  oD P [en "__module__" 343 (.str "swornspire.judge" 315), en "__qualname__" 345 (.str "Judge" 344), en "__firstlineno__" 347 (.int 77 346), er "__init__" 356 130, er "rest_of" 368 137, er "leaves_none" 382 144, er "zero" 388 149, er "size_less" 399 156, er "less" 410 163, er "fraction_less" 421 170, er "most_of" 430 177, er "between" 439 184, er "equal" 445 189, er "__static_attributes__" 451 190] 14,
  ⟨(.type "tuple"), none, (.seq ⟨[]⟩ 0), ⟨[]⟩⟩,
  ⟨.none, none, (.fields ⟨[(.int 79 0), (.int 4 0), (.ref 129), (.int 86 0), (.int 4 0), (.ref 136), (.int 94 0), (.int 4 0), (.ref 143), (.int 103 0), (.int 4 0), (.ref 148), (.int 120 0), (.int 4 0), (.ref 155), (.int 128 0), (.int 4 0), (.ref 162), (.int 140 0), (.int 4 0), (.ref 169), (.int 152 0), (.int 4 0), (.ref 176), (.int 155 0), (.int 4 0), (.ref 183), (.int 158 0), (.int 4 0), (.ref 188)]⟩), ⟨[]⟩⟩,
  ⟨(.type "code"), none, (.fields ⟨[(.str "Judge" 338), (.str "Judge" 339), (.str "/claim/cut.py" 340), (.int 77 0), (.int 0 0), (.int 0 0), (.int 0 0), (.int 0 0), (.ref 120), (.bool false), (.int 181 0), (.ref 121), .none, .none, .none, .none, (.int 341 0), (.int 77 0), (.str "/claim/cut.py" 342)]⟩), ⟨[]⟩⟩,
  ⟨(.type "frame"), none, .plain, ⟨[(some (.ref 122)), (some (.ref 3)), (some (.ref 119)), none, (some (.str "swornspire.judge" 315)), none, (some (.ref 0))]⟩⟩] ++ (
  mkD (inClass (top 17) 0) "Judge.__init__" 79 3 3 124 348 (some ["self", "bits", "points"]) (.str "swornspire.judge" 315) ++ (
  mkD (inClass (top 17) 1) "Judge.rest_of" 86 4 3 131 357 (some ["self", "number", "words", "point", "rest", "word"]) (.str "swornspire.judge" 315) ++ (
  mkD (inClass (top 17) 2) "Judge.leaves_none" 94 3 3 138 369 (some ["self", "read", "point", "total", "term", "product", "number", "words"]) (.str "swornspire.judge" 315) ++ (
  mkD (inClass (top 17) 3) "Judge.zero" 103 2 3 145 383 none (.str "swornspire.judge" 315) ++ (
  mkD (inClass (top 17) 4) "Judge.size_less" 120 3 3 150 389 (some ["self", "left", "right", "word", "other"]) (.str "swornspire.judge" 315) ++ (
  mkD (inClass (top 17) 5) "Judge.less" 128 3 3 157 400 (some ["self", "left", "right", "left_words", "right_words"]) (.str "swornspire.judge" 315) ++ (
  mkD (inClass (top 17) 6) "Judge.fraction_less" 140 3 3 164 411 (some ["self", "left", "right", "first", "second"]) (.str "swornspire.judge" 315) ++ (
  mkD (inClass (top 17) 7) "Judge.most_of" 152 3 3 171 422 (some ["self", "left", "right"]) (.str "swornspire.judge" 315) ++ (
  mkD (inClass (top 17) 8) "Judge.between" 155 3 3 178 431 (some ["self", "number", "bound"]) (.str "swornspire.judge" 315) ++ (
  mkD (inClass (top 17) 9) "Judge.equal" 158 3 3 185 440 none (.str "swornspire.judge" 315) ++ (
  [⟨(.type "tuple"), none, (.seq ⟨[(.str "bits" 446), (.str "good" 447), (.str "most" 448), (.str "points" 449), (.str "steps" 450)]⟩ 0), ⟨[]⟩⟩,
  oD P [en "__module__" 343 (.str "swornspire.judge" 315), en "__firstlineno__" 347 (.int 77 346), er "__init__" 356 130, er "rest_of" 368 137, er "leaves_none" 382 144, er "zero" 388 149, er "size_less" 399 156, er "less" 410 163, er "fraction_less" 421 170, er "most_of" 430 177, er "between" 439 184, er "equal" 445 189, er "__static_attributes__" 451 190, er "__dict__" 453 193, er "__weakref__" 455 194, en "__doc__" 456 .none] 4,
  ⟨(.type "type"), none, (.cls { name := "Judge", bases := [(.type "object")], mro := [(.ref 192), (.type "object")], ns := 191, qualname := "Judge", hasDict := true, subclasses := [] }), ⟨[none, none, (some (.str "Judge" 336)), (some (.str "Judge" 344)), (some (.builtin "object.__new__")), (some (.bool true))]⟩⟩,
  ⟨(.type "getset_descriptor"), none, (.fields ⟨[(.str "__dict__" 452), (.ref 192), (.builtin "function.__dict__"), (.builtin "function.__dict__#set")]⟩), ⟨[]⟩⟩,
  ⟨(.type "getset_descriptor"), none, (.fields ⟨[(.str "__weakref__" 454), (.ref 192), (.builtin "ExceptionGroup.__weakref__"), .none]⟩), ⟨[]⟩⟩,
  ⟨(.type "super"), none, (.fields ⟨[(.ref 192), (.ref 192), (.ref 192)]⟩), ⟨[]⟩⟩,
  ⟨(.type "builtin_function_or_method"), none, (.fields ⟨[(.builtin "object.__init_subclass__"), (.ref 192)]⟩), ⟨[]⟩⟩] ++ (
  mkD (top 19) "is_parts" 161 2 3 197 461 (some ["value", "many"]) (.str "swornspire.shapes" 459) ++ (
  mkD (top 20) "is_numbers" 163 2 3 204 469 none (.str "swornspire.shapes" 459)))))))))))))))))))))))))
def s441_o1 (P : Params) : List Obj := mkD (top 21) "is_row" 165 1 3 209 475 none (.str "swornspire.shapes" 459) ++ (
  mkD (top 22) "is_rows" 167 3 3 214 481 none (.str "swornspire.shapes" 459) ++ (
  mkD (top 23) "are_rows" 169 1 3 219 487 none (.str "swornspire.shapes" 459) ++ (
  mkD (top 24) "is_poly_form" 171 1 3 224 493 (some ["value"]) (.str "swornspire.shapes" 459) ++ (
  mkD (top 25) "is_point" 173 1 3 231 500 (some ["value"]) (.str "swornspire.shapes" 459) ++ (
  mkD (top 26) "is_ascending" 175 2 3 238 507 (some ["value", "limit", "last", "number"]) (.str "swornspire.shapes" 459) ++ (
  mkD (top 28) "is_lowest" 185 3 3 245 519 (some ["judge", "value", "paper", "top", "bottom", "s", "t"]) (.str "swornspire.judgefraction" 517) ++ (
  mkD (top 29) "takes_sum" 189 5 3 252 532 (some ["judge", "op", "args", "value", "paper", "a", "b", "c", "d", "p", "q", "same"]) (.str "swornspire.judgefraction" 517) ++ (
  mkD (top 30) "takes_over" 203 4 3 259 550 (some ["judge", "args", "value", "paper", "x", "y"]) (.str "swornspire.judgefraction" 517) ++ (
  mkD (top 31) "takes_floor" 210 4 3 266 562 (some ["judge", "args", "value", "paper", "a", "b"]) (.str "swornspire.judgefraction" 517) ++ (
  mkD (top 32) "takes_order" 217 4 3 273 574 (some ["judge", "args", "value", "paper", "a", "b", "c", "d", "k", "l"]) (.str "swornspire.judgefraction" 517) ++ (
  mkD (top 33) "is_wide" 225 3 3 280 590 (some ["judge", "args", "product", "x", "y", "z", "w"]) (.str "swornspire.judgefraction" 517) ++ (
  mkD (top 34) "takes_again" 230 4 3 287 603 (some ["judge", "args", "value", "paper", "x", "y", "z", "w", "n", "k", "e", "m", "s", "t"]) (.str "swornspire.judgefraction" 517) ++ (
  mkD (top 35) "takes_fraction" 246 5 3 294 623 (some ["judge", "op", "args", "value", "paper", "x"]) (.str "swornspire.judgefraction" 517) ++ (
  mkD (top 36) "bars_rows" 269 3 3 301 635 (some ["judge", "args", "paper", "x", "y", "z", "w", "m", "u", "s", "k", "v", "t", "l", "side", "size"]) (.str "swornspire.judgefraction" 517) ++ (
  mkD (top 37) "bars_again" 284 3 3 308 657 (some ["judge", "args", "paper", "x", "y", "z", "w"]) (.str "swornspire.judgefraction" 517) ++ (
  mkD (top 38) "bars_fraction" 291 4 3 315 670 (some ["judge", "op", "args", "paper"]) (.str "swornspire.judgefraction" 517) ++ (
  mkD (top 40) "choices" 300 2 3 322 682 (some ["many", "size", "found", "step", "longer", "part", "start", "number"]) (.str "swornspire.choosing" 680) ++ (
  mkD (top 41) "subsets" 310 1 3 329 696 none (.str "swornspire.choosing" 680) ++ (
  mkD (top 42) "half_choices" 315 1 3 334 702 (some ["many", "told", "size", "chosen"]) (.str "swornspire.choosing" 680) ++ (
  mkD (top 44) "reduced_mod" 323 2 3 341 714 none (.str "swornspire.modpolys" 712) ++ (
  mkD (top 45) "inverse_mod" 325 2 3 346 720 (some ["number", "prime", "result", "base", "exponent"]) (.str "swornspire.modpolys" 712) ++ (
  mkD (top 46) "monic_mod" 335 2 3 353 731 none (.str "swornspire.modpolys" 712) ++ (
  mkD (top 47) "difference_mod" 338 3 3 358 737 (some ["x", "y", "prime", "numbers", "place", "number"]) (.str "swornspire.modpolys" 712) ++ (
  mkD (top 48) "product_mod" 343 3 3 365 749 (some ["x", "y", "prime", "numbers", "low", "a", "place", "b"]) (.str "swornspire.modpolys" 712)))))))))))))))))))))))))
def s441_o2 (P : Params) : List Obj := mkD (top 49) "division_mod" 351 3 3 372 763 (some ["x", "y", "prime", "inverse", "rest", "many", "quotient", "place", "factor", "low", "number"]) (.str "swornspire.modpolys" 712) ++ (
  mkD (top 50) "rest_mod" 362 3 3 379 780 (some ["x", "y", "prime"]) (.str "swornspire.modpolys" 712) ++ (
  mkD (top 51) "divisor_mod" 364 3 3 386 789 (some ["x", "y", "prime", "old", "new"]) (.str "swornspire.modpolys" 712) ++ (
  mkD (top 52) "bezout_mod" 369 3 3 393 800 none (.str "swornspire.modpolys" 712) ++ (
  mkD (top 53) "derivative_mod" 378 2 3 398 806 none (.str "swornspire.modpolys" 712) ++ (
  mkD (top 54) "power_mod" 380 4 3 403 812 (some ["x", "exponent", "modulus", "prime", "result", "base", "rest"]) (.str "swornspire.modpolys" 712) ++ (
  mkD (top 55) "is_squarefree_mod" 390 2 3 410 825 (some ["x", "prime", "slope"]) (.str "swornspire.modpolys" 712) ++ (
  mkD (top 56) "irreducible_mod" 395 2 3 417 834 (some ["poly", "prime", "degree", "power", "step", "test"]) (.str "swornspire.modpolys" 712) ++ (
  mkD (top 58) "product_terms" 405 4 3 424 848 (some ["x", "y", "place", "factors", "terms", "low", "a"]) (.str "swornspire.polyterms" 846) ++ (
  mkD (top 59) "own_terms" 411 3 3 431 861 (some ["x", "place", "factors"]) (.str "swornspire.polyterms" 846) ++ (
  mkD (top 60) "is_product" 415 5 3 438 870 (some ["judge", "x", "y", "value", "factors", "place"]) (.str "swornspire.polyterms" 846) ++ (
  mkD (top 61) "is_multiple" 420 5 3 445 882 (some ["judge", "factor", "x", "y", "value"]) (.str "swornspire.polyterms" 846) ++ (
  mkD (top 62) "is_poly_sum" 422 7 3 452 893 (some ["judge", "factor", "value", "s", "x", "t", "y", "place", "left", "right"]) (.str "swornspire.polyterms" 846) ++ (
  mkD (top 67) "is_mixed" 433 3 3 459 917 none (.str "swornspire.judgeirreducible" 909) ++ (
  mkD (top 68) "is_small_prime" 437 1 3 464 923 (some ["value"]) (.str "swornspire.judgeirreducible" 909) ++ (
  mkD (top 69) "rests_of" 439 3 3 471 930 none (.str "swornspire.judgeirreducible" 909) ++ (
  mkD (top 70) "is_irreducible_rest" 442 3 3 476 936 (some ["judge", "poly", "prime", "rests"]) (.str "swornspire.judgeirreducible" 909) ++ (
  mkD (top 71) "chain_end" 445 5 3 483 946 (some ["judge", "top", "factors", "power", "chain", "current", "factor", "pair", "more", "told", "place", "left"]) (.str "swornspire.judgeirreducible" 909) ++ (
  mkD (top 72) "takes_whole_chain" 459 5 3 490 964 (some ["judge", "poly", "factors", "power", "chain", "last", "end", "place", "right"]) (.str "swornspire.judgeirreducible" 909) ++ (
  mkD (top 73) "takes_refusal" 471 6 3 497 979 none (.str "swornspire.judgeirreducible" 909) ++ (
  mkD (top 74) "are_factors" 489 4 3 502 985 (some ["judge", "factors", "prime", "power", "seen", "factor", "number", "rests"]) (.str "swornspire.judgeirreducible" 909) ++ (
  mkD (top 75) "is_roomy" 504 5 3 509 999 (some ["judge", "poly", "power", "size", "room", "number", "degree", "bound"]) (.str "swornspire.judgeirreducible" 909) ++ (
  mkD (top 76) "takes_lifted" 511 3 3 516 1013 (some ["judge", "poly", "paper", "word", "mix", "prime", "power", "count", "factors", "chain", "size", "room", "refusals", "due", "chosen", "refusal"]) (.str "swornspire.judgeirreducible" 909) ++ (
  mkD (top 77) "takes_irreducible" 532 3 3 523 1035 (some ["judge", "poly", "paper"]) (.str "swornspire.judgeirreducible" 909) ++ (
  mkD (top 79) "takes_sums" 543 5 3 530 1046 (some ["judge", "op", "args", "value", "paper", "x", "other", "place", "left", "right", "same"]) (.str "swornspire.judgepoly" 1044)))))))))))))))))))))))))
def s441_o3 (P : Params) : List Obj := mkD (top 80) "takes_slope" 562 4 3 537 1063 (some ["judge", "args", "value", "paper", "x", "place", "terms"]) (.str "swornspire.judgepoly" 1044) ++ (
  mkD (top 81) "value_terms" 571 4 3 544 1076 (some ["x", "top", "bottom", "factors", "terms", "degree", "place", "number", "powers"]) (.str "swornspire.judgepoly" 1044) ++ (
  mkD (top 82) "takes_value" 578 4 3 551 1091 none (.str "swornspire.judgepoly" 1044) ++ (
  mkD (top 84) "takes_fraction_value" 585 4 3 556 1098 (some ["judge", "args", "value", "paper", "x", "point", "degree", "right"]) (.str "swornspire.judgepoly" 1044) ++ (
  mkD (top 85) "takes_common" 594 4 3 563 1112 (some ["judge", "args", "value", "paper", "x", "y", "mix", "c", "s", "t", "k", "u", "l", "w"]) (.str "swornspire.judgepoly" 1044) ++ (
  mkD (top 86) "are_in_order" 606 1 3 570 1132 (some ["polys", "poly", "other"]) (.str "swornspire.judgepoly" 1044) ++ (
  mkD (top 87) "unlike_polys" 611 1 3 577 1141 (some ["polys", "told", "poly"]) (.str "swornspire.judgepoly" 1044) ++ (
  mkD (top 88) "takes_factored" 617 3 3 584 1150 none (.str "swornspire.judgepoly" 1044) ++ (
  mkD (top 89) "takes_part" 638 6 3 589 1156 (some ["judge", "op", "extra", "args", "value", "paper"]) (.str "swornspire.judgepoly" 1044) ++ (
  mkD (top 90) "takes_poly" 644 6 3 596 1168 (some ["judge", "op", "extra", "args", "value", "paper", "rest"]) (.str "swornspire.judgepoly" 1044) ++ (
  mkD (top 91) "bars_poly" 665 5 3 603 1181 (some ["judge", "op", "extra", "args", "paper"]) (.str "swornspire.judgepoly" 1044) ++ (
  mkD (top 93) "sign_by" 672 2 3 610 1194 (some ["judge", "number"]) (.str "swornspire.judgechain" 1192) ++ (
  mkD (top 94) "changes_by" 678 2 3 617 1202 none (.str "swornspire.judgechain" 1192) ++ (
  mkD (top 95) "takes_step" 682 5 3 622 1208 (some ["judge", "before", "poly", "after", "step", "scale", "quotient", "factor", "place", "left"]) (.str "swornspire.judgechain" 1192) ++ (
  mkD (top 96) "is_chain_form" 693 2 3 629 1224 none (.str "swornspire.judgechain" 1192) ++ (
  mkD (top 97) "takes_chain" 702 3 3 634 1230 (some ["judge", "poly", "chain", "polys", "steps", "index", "step", "ends", "after"]) (.str "swornspire.judgechain" 1192) ++ (
  mkD (top 98) "are_values" 718 4 3 641 1245 (some ["judge", "chain", "point", "values", "poly", "value"]) (.str "swornspire.judgechain" 1192) ++ (
  mkD (top 99) "changes_low" 725 2 3 648 1257 none (.str "swornspire.judgechain" 1192) ++ (
  mkD (top 100) "changes_high" 727 2 3 653 1263 none (.str "swornspire.judgechain" 1192) ++ (
  mkD (top 101) "roots_by" 729 2 3 658 1269 (some ["judge", "chain"]) (.str "swornspire.judgechain" 1192) ++ (
  mkD (top 102) "counts_well" 731 3 3 665 1277 (some ["chain", "values", "values2"]) (.str "swornspire.judgechain" 1192) ++ (
  mkD (top 103) "is_span" 733 3 3 672 1286 (some ["judge", "low", "high"]) (.str "swornspire.judgechain" 1192) ++ (
  mkD (top 104) "has_one" 737 5 3 679 1295 (some ["judge", "chain", "values", "values2", "index", "first"]) (.str "swornspire.judgechain" 1192) ++ (
  mkD (top 105) "takes_place" 742 3 3 686 1307 (some ["judge", "root", "place", "low", "high", "chain", "values", "values2"]) (.str "swornspire.judgechain" 1192) ++ (
  mkD (top 106) "takes_ends" 751 7 3 693 1321 (some ["judge", "poly", "chain", "low", "high", "values", "values2"]) (.str "swornspire.judgechain" 1192)))))))))))))))))))))))))
def s441_o4 (P : Params) : List Obj := mkD (top 108) "binomial_row" 756 1 3 700 1336 none (.str "swornspire.judgesums" 1334) ++ (
  mkD (top 109) "combined_terms" 761 5 3 705 1342 (some ["op", "factor", "poly", "row", "column"]) (.str "swornspire.judgesums" 1334) ++ (
  mkD (top 110) "first_terms" 769 4 3 712 1353 (some ["table", "poly", "row", "column", "terms", "place", "line"]) (.str "swornspire.judgesums" 1334) ++ (
  mkD (top 111) "second_terms" 775 4 3 719 1366 (some ["table", "poly", "row", "column", "terms", "place", "number"]) (.str "swornspire.judgesums" 1334) ++ (
  mkD (top 112) "longest_line" 782 1 3 726 1379 none (.str "swornspire.judgesums" 1334) ++ (
  mkD (top 113) "is_member" 784 6 3 731 1385 (some ["judge", "op", "factor", "poly", "tables", "polys", "first", "second", "x", "y", "rows", "columns", "row", "column", "left", "right"]) (.str "swornspire.judgesums" 1334) ++ (
  mkD (top 114) "is_sum_of_ends" 796 4 3 738 1407 (some ["judge", "end", "x", "y", "left"]) (.str "swornspire.judgesums" 1334) ++ (
  mkD (top 115) "is_corner" 799 6 3 745 1418 (some ["judge", "pairs", "low", "high", "x", "y", "k", "l", "m", "n"]) (.str "swornspire.judgesums" 1334) ++ (
  mkD (top 116) "are_corners" 808 6 3 752 1434 (some ["judge", "place", "place2", "low", "high", "pairs", "at", "x", "y"]) (.str "swornspire.judgesums" 1334) ++ (
  mkD (top 117) "is_covered" 818 6 3 759 1449 (some ["judge", "op", "place", "place2", "place3", "pairs", "low", "high"]) (.str "swornspire.judgesums" 1334) ++ (
  mkD (top 118) "takes_combined" 825 5 3 766 1463 (some ["judge", "op", "args", "value", "paper", "x", "y", "place", "place2", "place3", "pairs", "poly", "factor", "first", "second", "k", "u", "chain", "values", "values2", "irreducible"]) (.str "swornspire.judgesums" 1334) ++ (
  mkD (top 119) "roots_ahead" 848 3 3 773 1490 (some ["judge", "chain", "values"]) (.str "swornspire.judgesums" 1334) ++ (
  mkD (top 121) "takes_count" 851 4 3 780 1501 (some ["judge", "args", "value", "paper", "x"]) (.str "swornspire.judgeroot" 1499) ++ (
  mkD (top 122) "takes_root" 856 5 3 787 1512 (some ["judge", "extra", "args", "value", "paper", "x", "k", "u", "place", "chain", "values", "values2", "irreducible"]) (.str "swornspire.judgeroot" 1499) ++ (
  mkD (top 123) "takes_negated" 870 4 3 794 1531 (some ["judge", "args", "value", "paper", "factor", "chain", "poly", "index", "place", "number", "term"]) (.str "swornspire.judgeroot" 1499) ++ (
  mkD (top 124) "is_order" 884 5 3 801 1548 (some ["judge", "place", "place2", "k", "l", "high", "low"]) (.str "swornspire.judgeroot" 1499) ++ (
  mkD (top 125) "takes_root_order" 890 4 3 808 1561 (some ["judge", "args", "value", "paper", "x", "y", "place", "place2", "k", "l"]) (.str "swornspire.judgeroot" 1499) ++ (
  mkD (top 126) "takes_sign" 902 4 3 815 1577 (some ["judge", "args", "value", "paper", "x", "root", "place", "chain", "values", "values2"]) (.str "swornspire.judgeroot" 1499) ++ (
  mkD (top 127) "roots_below" 918 3 3 822 1593 (some ["judge", "chain", "values", "many"]) (.str "swornspire.judgeroot" 1499) ++ (
  mkD (top 128) "takes_root_floor" 921 4 3 829 1603 (some ["judge", "args", "value", "paper", "poly", "index", "following", "chain", "values", "values2"]) (.str "swornspire.judgeroot" 1499) ++ (
  mkD (top 129) "takes_lifted_root" 935 4 3 836 1619 (some ["judge", "args", "value", "paper", "top", "bottom"]) (.str "swornspire.judgeroot" 1499) ++ (
  mkD (top 130) "takes_any_root" 940 6 3 843 1631 (some ["judge", "op", "extra", "args", "value", "paper"]) (.str "swornspire.judgeroot" 1499) ++ (
  mkD (top 131) "bars_root" 958 5 3 850 1643 (some ["judge", "op", "extra", "args", "paper", "x"]) (.str "swornspire.judgeroot" 1499) ++ (
  mkD (top 133) "entry_terms" 966 2 3 857 1657 none (.str "swornspire.judgetable" 1655) ++ (
  mkD (top 134) "column_at" 968 2 3 862 1663 none (.str "swornspire.judgetable" 1655)))))))))))))))))))))))))
def s441_o5 (P : Params) : List Obj := mkD (top 135) "has_sides" 970 3 3 867 1669 (some ["value", "rows", "columns"]) (.str "swornspire.judgetable" 1655) ++ (
  mkD (top 136) "takes_entries" 972 5 3 874 1678 (some ["judge", "op", "args", "value", "paper", "place", "row", "column", "entry", "x", "same"]) (.str "swornspire.judgetable" 1655) ++ (
  mkD (top 137) "takes_product" 987 4 3 881 1695 (some ["judge", "args", "value", "paper", "place", "row", "column", "entry", "terms"]) (.str "swornspire.judgetable" 1655) ++ (
  mkD (top 138) "minor_terms" 996 3 3 888 1710 (some ["line", "chosen", "known", "terms", "size", "place", "column", "others", "term"]) (.str "swornspire.judgetable" 1655) ++ (
  mkD (top 139) "takes_determinant" 1006 4 3 895 1725 none (.str "swornspire.judgetable" 1655) ++ (
  mkD (top 140) "is_diagonal" 1021 4 3 900 1731 (some ["judge", "left", "right", "number", "place", "row", "column", "terms", "due"]) (.str "swornspire.judgetable" 1655) ++ (
  mkD (top 141) "is_combination" 1029 5 3 907 1746 none (.str "swornspire.judgetable" 1655) ++ (
  mkD (top 142) "takes_rank" 1035 4 3 912 1752 none (.str "swornspire.judgetable" 1655) ++ (
  mkD (top 143) "is_solution" 1051 5 3 917 1758 (some ["judge", "table", "right", "numbers", "factor", "row", "other"]) (.str "swornspire.judgetable" 1655) ++ (
  mkD (top 144) "is_bar" 1058 4 3 924 1771 (some ["judge", "table", "right", "paper", "numbers", "value", "column"]) (.str "swornspire.judgetable" 1655) ++ (
  mkD (top 145) "are_pivots" 1068 6 3 931 1784 none (.str "swornspire.judgetable" 1655) ++ (
  mkD (top 146) "takes_solution" 1087 5 3 936 1790 (some ["judge", "args", "numbers", "scale", "rest", "table", "right", "mix", "pivots", "left", "factor", "sums", "column", "number"]) (.str "swornspire.judgetable" 1655) ++ (
  mkD (top 147) "takes_solve" 1104 5 3 943 1810 none (.str "swornspire.judgetable" 1655) ++ (
  mkD (top 148) "takes_solvable" 1113 4 3 948 1816 (some ["judge", "args", "value", "paper", "table", "right"]) (.str "swornspire.judgetable" 1655) ++ (
  mkD (top 149) "takes_table" 1120 6 3 955 1828 none (.str "swornspire.judgetable" 1655) ++ (
  mkD (top 150) "bars_table" 1142 3 3 960 1834 (some ["judge", "args", "paper"]) (.str "swornspire.judgetable" 1655) ++ (
  mkD (top 152) "digits_of" 1145 1 3 967 1845 none (.str "swornspire.powers" 1843) ++ (
  mkD (top 153) "power_steps" 1147 3 3 972 1851 (some ["x", "exponent", "modulus", "quotient", "rest", "steps", "digit", "product"]) (.str "swornspire.powers" 1843) ++ (
  mkD (top 154) "power_rest" 1155 3 3 979 1865 (some ["x", "exponent", "modulus"]) (.str "swornspire.powers" 1843) ++ (
  mkD (top 156) "takes_steps" 1158 5 3 986 1876 (some ["judge", "x", "exponent", "modulus", "steps", "digits", "last", "index", "step", "product"]) (.str "swornspire.judgeprime" 1874) ++ (
  mkD (top 157) "unlike_primes" 1176 1 3 993 1892 (some ["primes", "told", "prime"]) (.str "swornspire.judgeprime" 1874) ++ (
  mkD (top 158) "is_ascending_row" 1182 2 3 1000 1901 (some ["judge", "primes", "prime", "other"]) (.str "swornspire.judgeprime" 1874) ++ (
  mkD (top 159) "takes_factors" 1187 3 3 1007 1911 none (.str "swornspire.judgeprime" 1874) ++ (
  mkD (top 160) "takes_exponents" 1197 5 3 1012 1917 none (.str "swornspire.judgeprime" 1874) ++ (
  mkD (top 161) "takes_prime" 1216 3 3 1017 1923 (some ["judge", "prime", "paper", "generator", "primes", "papers", "powers", "unlike"]) (.str "swornspire.judgeprime" 1874)))))))))))))))))))))))))
def s441_o6 (P : Params) : List Obj := mkD (top 163) "repeated" 1229 2 3 1024 1939 none (.str "swornspire.judgewhole" 1937) ++ (
  mkD (top 164) "takes_ring" 1231 6 3 1029 1945 (some ["judge", "op", "extra", "args", "value", "paper", "x", "y"]) (.str "swornspire.judgewhole" 1937) ++ (
  mkD (top 165) "takes_division" 1249 5 3 1036 1959 (some ["judge", "op", "args", "value", "paper", "x", "y", "quotient", "rest"]) (.str "swornspire.judgewhole" 1937) ++ (
  mkD (top 166) "takes_divisor" 1257 4 3 1043 1974 (some ["judge", "args", "value", "paper", "x", "y", "s", "t", "k", "l"]) (.str "swornspire.judgewhole" 1937) ++ (
  mkD (top 167) "takes_power" 1265 4 3 1050 1990 (some ["judge", "args", "value", "paper", "x", "y", "z"]) (.str "swornspire.judgewhole" 1937) ++ (
  mkD (top 168) "takes_parts" 1270 6 3 1057 2003 (some ["judge", "op", "extra", "args", "value", "paper", "primes"]) (.str "swornspire.judgewhole" 1937) ++ (
  mkD (top 169) "takes_join" 1277 4 3 1064 2016 (some ["judge", "args", "value", "paper", "x", "y", "z", "w", "k", "l", "s", "t", "m"]) (.str "swornspire.judgewhole" 1937) ++ (
  mkD (top 170) "takes_primality" 1287 4 3 1071 2035 (some ["judge", "args", "value", "paper", "x", "k", "l"]) (.str "swornspire.judgewhole" 1937) ++ (
  mkD (top 171) "takes_truth" 1297 5 3 1078 2048 (some ["judge", "op", "args", "value", "paper"]) (.str "swornspire.judgewhole" 1937) ++ (
  [⟨(.type "tuple"), none, (.seq ⟨[(.str "number" 2059), (.str "add" 2060), (.str "sub" 2061), (.str "mul" 2062), (.str "neg" 2063), (.str "pow" 2064)]⟩ 0), ⟨[]⟩⟩,
  ⟨(.type "tuple"), none, (.seq ⟨[(.str "less" 2066), (.str "same" 2067), (.str "and" 2068), (.str "or" 2069), (.str "not" 2070)]⟩ 0), ⟨[]⟩⟩] ++ (
  mkD (top 174) "takes_whole" 1311 6 3 1087 2072 (some ["judge", "op", "extra", "args", "value", "paper"]) (.str "swornspire.judgewhole" 1937) ++ (
  mkD (top 175) "bars_join" 1327 3 3 1094 2084 (some ["judge", "args", "paper", "x", "y", "z", "w", "g", "k", "l"]) (.str "swornspire.judgewhole" 1937) ++ (
  mkD (top 176) "bars_whole" 1337 5 3 1101 2100 (some ["judge", "op", "extra", "args", "paper"]) (.str "swornspire.judgewhole" 1937) ++ (
  [⟨(.type "tuple"), none, (.seq ⟨[(.str "number" 2113), (.str "add" 2114), (.str "sub" 2115), (.str "mul" 2116), (.str "neg" 2117), (.str "pow" 2118), (.str "quotient" 2119), (.str "rest" 2120), (.str "gcd" 2121), (.str "power" 2122), (.str "factors" 2123), (.str "factor" 2124), (.str "join" 2125), (.str "prime" 2126), (.str "less" 2127), (.str "same" 2128), (.str "and" 2129), (.str "or" 2130), (.str "not" 2131)]⟩ 0), ⟨[]⟩⟩,
  ⟨(.type "tuple"), none, (.seq ⟨[(.str "lift" 2133), (.str "over" 2134), (.str "fadd" 2135), (.str "fsub" 2136), (.str "fmul" 2137), (.str "fdiv" 2138), (.str "fneg" 2139), (.str "num" 2140), (.str "den" 2141), (.str "ffloor" 2142), (.str "again" 2143), (.str "fless" 2144), (.str "fsame" 2145)]⟩ 0), ⟨[]⟩⟩,
  ⟨(.type "tuple"), none, (.seq ⟨[(.str "table" 2147), (.str "tadd" 2148), (.str "tsub" 2149), (.str "tneg" 2150), (.str "tmul" 2151), (.str "det" 2152), (.str "rank" 2153), (.str "entry" 2154), (.str "solve" 2155), (.str "scale" 2156), (.str "solvable" 2157), (.str "tsame" 2158)]⟩ 0), ⟨[]⟩⟩,
  ⟨(.type "tuple"), none, (.seq ⟨[(.str "poly" 2160), (.str "padd" 2161), (.str "psub" 2162), (.str "pmul" 2163), (.str "pneg" 2164), (.str "slope" 2165), (.str "at" 2166), (.str "fat" 2167), (.str "common" 2168), (.str "parts" 2169), (.str "part" 2170), (.str "psame" 2171)]⟩ 0), ⟨[]⟩⟩,
  ⟨(.type "tuple"), none, (.seq ⟨[(.str "rlift" 2173), (.str "roots" 2174), (.str "root" 2175), (.str "rneg" 2176), (.str "radd" 2177), (.str "rmul" 2178), (.str "rless" 2179), (.str "rsame" 2180), (.str "sign" 2181), (.str "rfloor" 2182)]⟩ 0), ⟨[]⟩⟩,
  ⟨(.type "tuple"), none, (.seq ⟨[(.str "quotient" 2184), (.str "rest" 2185), (.str "power" 2186), (.str "join" 2187), (.str "factors" 2188), (.str "factor" 2189)]⟩ 0), ⟨[]⟩⟩,
  ⟨(.type "tuple"), none, (.seq ⟨[(.str "over" 2191), (.str "fdiv" 2192), (.str "again" 2193)]⟩ 0), ⟨[]⟩⟩] ++ (
  mkD (top 185) "takes_value" 1357 3 3 1115 2195 (some ["judge", "claim", "paper", "word", "op", "extra", "args", "value"]) (.str "swornspire.judging" 2111) ++ (
  mkD (top 187) "takes_none" 1369 3 3 1122 2210 (some ["judge", "claim", "paper", "word", "op", "extra", "args"]) (.str "swornspire.judging" 2111) ++ (
  mkD (top 188) "takes" 1380 3 3 1129 2223 (some ["judge", "claim", "paper"]) (.str "swornspire.judging" 2111) ++ (
  mkD (top 190) "straight_sum" 1387 2 3 1136 2234 (some ["x", "y", "old", "new", "old_s", "new_s", "old_t", "new_t", "quotient"]) (.str "swornspire.divisors" 2232) ++ (
  mkD (top 191) "divisor_of" 1399 2 3 1143 2249 (some ["x", "y"]) (.str "swornspire.divisors" 2232) ++ (
  mkD (top 192) "divisor_of_all" 1401 1 3 1150 2257 (some ["numbers", "result", "number"]) (.str "swornspire.divisors" 2232) ++ (
  mkD (top 193) "mix_of" 1406 1 3 1157 2266 none (.str "swornspire.divisors" 2232) ++ (
  mkD (top 194) "divisor_paper" 1413 2 3 1162 2272 (some ["x", "y", "divisor", "s", "t"]) (.str "swornspire.divisors" 2232) ++ (
  mkD (top 196) "lowest" 1419 2 3 1169 2285 (some ["top", "bottom", "divisor"]) (.str "swornspire.fractions" 2283) ++ (
  mkD (top 197) "sum_of_fractions" 1424 2 3 1176 2294 (some ["x", "y"]) (.str "swornspire.fractions" 2283) ++ (
  mkD (top 198) "difference_of_fractions" 1426 2 3 1183 2302 (some ["x", "y"]) (.str "swornspire.fractions" 2283)))))))))))))))))))))))))
def s441_o7 (P : Params) : List Obj := mkD (top 199) "product_of_fractions" 1428 2 3 1190 2310 (some ["x", "y"]) (.str "swornspire.fractions" 2283) ++ (
  mkD (top 200) "quotient_of_fractions" 1430 2 3 1197 2318 (some ["x", "y"]) (.str "swornspire.fractions" 2283) ++ (
  mkD (top 201) "negative_of_fraction" 1434 1 3 1204 2326 (some ["x"]) (.str "swornspire.fractions" 2283) ++ (
  mkD (top 202) "is_below" 1436 2 3 1211 2333 (some ["x", "y"]) (.str "swornspire.fractions" 2283) ++ (
  mkD (top 203) "is_at_most" 1438 2 3 1218 2341 (some ["x", "y"]) (.str "swornspire.fractions" 2283) ++ (
  mkD (top 204) "floor_of_fraction" 1440 1 3 1225 2349 (some ["x"]) (.str "swornspire.fractions" 2283) ++ (
  mkD (top 205) "least_of" 1442 1 3 1232 2356 (some ["fractions", "best", "other"]) (.str "swornspire.fractions" 2283) ++ (
  mkD (top 206) "greatest_of" 1448 1 3 1239 2365 (some ["fractions", "best", "other"]) (.str "swornspire.fractions" 2283) ++ (
  mkD (top 208) "again_rows" 1455 3 3 1246 2376 (some ["number", "modulus", "bound", "old", "new", "old_t", "new_t", "quotient"]) (.str "swornspire.again" 2374) ++ (
  mkD (top 209) "is_searched" 1463 3 3 1253 2390 (some ["modulus", "bound", "most"]) (.str "swornspire.again" 2374) ++ (
  mkD (top 210) "found_pair" 1467 4 3 1260 2399 (some ["number", "modulus", "bound", "most", "rest", "factor"]) (.str "swornspire.again" 2374) ++ (
  mkD (top 211) "found_again" 1476 4 3 1267 2411 (some ["number", "modulus", "bound", "most", "pair"]) (.str "swornspire.again" 2374) ++ (
  mkD (top 212) "again_paper" 1481 5 3 1274 2422 (some ["number", "modulus", "bound", "most", "value", "rest", "factor", "one", "s", "t"]) (.str "swornspire.again" 2374) ++ (
  mkD (top 213) "barring_paper" 1485 4 3 1281 2438 (some ["number", "modulus", "bound", "most", "product", "u", "s", "v", "t", "side"]) (.str "swornspire.again" 2374) ++ (
  mkD (top 215) "coefficient" 1495 2 3 1288 2456 (some ["poly", "place"]) (.str "swornspire.polys" 2454) ++ (
  mkD (top 216) "sum_of_polys" 1499 2 3 1295 2464 none (.str "swornspire.polys" 2454) ++ (
  mkD (top 217) "difference_of_polys" 1502 2 3 1300 2470 none (.str "swornspire.polys" 2454) ++ (
  mkD (top 218) "negative_poly" 1505 1 3 1305 2476 none (.str "swornspire.polys" 2454) ++ (
  mkD (top 219) "product_of_polys" 1507 2 3 1310 2482 (some ["x", "y", "numbers", "low", "a", "place", "b"]) (.str "swornspire.polys" 2454) ++ (
  mkD (top 220) "scaled_poly" 1515 2 3 1317 2495 none (.str "swornspire.polys" 2454) ++ (
  mkD (top 221) "derivative" 1517 1 3 1322 2501 none (.str "swornspire.polys" 2454) ++ (
  mkD (top 222) "value_of" 1519 2 3 1327 2507 (some ["x", "point", "total", "number"]) (.str "swornspire.polys" 2454) ++ (
  mkD (top 223) "top_value" 1524 2 3 1334 2517 (some ["x", "point", "total", "power", "number"]) (.str "swornspire.polys" 2454) ++ (
  mkD (top 224) "content" 1531 1 3 1341 2528 (some ["x"]) (.str "swornspire.polys" 2454) ++ (
  mkD (top 225) "primitive" 1533 1 3 1348 2535 none (.str "swornspire.polys" 2454)))))))))))))))))))))))))
def s441_o8 (P : Params) : List Obj := mkD (top 226) "exact_quotient" 1540 2 3 1353 2541 none (.str "swornspire.polys" 2454) ++ (
  mkD (top 227) "pseudo_division" 1554 2 3 1358 2547 none (.str "swornspire.polys" 2454) ++ (
  mkD (top 228) "height" 1570 1 3 1363 2553 none (.str "swornspire.polys" 2454) ++ (
  mkD (top 229) "mirrored" 1572 1 3 1368 2559 none (.str "swornspire.polys" 2454) ++ (
  mkD (top 231) "product_of_all" 1575 1 3 1373 2567 (some ["polys", "result", "poly"]) (.str "swornspire.lifting" 2565) ++ (
  mkD (top 232) "lift_bound" 1580 1 3 1380 2576 (some ["poly", "degree"]) (.str "swornspire.lifting" 2565) ++ (
  mkD (top 233) "lift_count" 1583 2 3 1387 2584 (some ["poly", "prime", "bound", "count", "power"]) (.str "swornspire.lifting" 2565) ++ (
  mkD (top 234) "cofactor_inverses" 1591 3 3 1394 2595 (some ["poly", "factors", "prime", "inverses", "place", "factor", "others", "other_place", "other"]) (.str "swornspire.lifting" 2565) ++ (
  mkD (top 235) "raised" 1600 3 3 1401 2610 none (.str "swornspire.lifting" 2565) ++ (
  mkD (top 236) "lifted_factors" 1602 4 3 1406 2616 none (.str "swornspire.lifting" 2565) ++ (
  mkD (top 237) "centered" 1619 2 3 1411 2622 (some ["number", "power", "rest"]) (.str "swornspire.lifting" 2565) ++ (
  mkD (top 238) "power_number" 1624 2 3 1418 2631 (some ["prime", "count", "power", "step"]) (.str "swornspire.lifting" 2565) ++ (
  mkD (top 240) "power_table" 1630 2 3 1425 2643 (some ["poly", "prime", "degree", "step", "power", "rows", "place", "row"]) (.str "swornspire.modfactors" 2641) ++ (
  mkD (top 241) "kernel_rows" 1641 2 3 1432 2657 none (.str "swornspire.modfactors" 2641) ++ (
  mkD (top 242) "split_once" 1662 3 3 1437 2663 (some ["poly", "row", "prime", "parts", "rest", "constant", "test", "part"]) (.str "swornspire.modfactors" 2641) ++ (
  mkD (top 243) "factors_mod" 1678 2 3 1444 2677 (some ["poly", "prime", "kernel", "parts", "row", "finer", "part"]) (.str "swornspire.modfactors" 2641) ++ (
  mkD (top 245) "divided_by" 1690 2 3 1451 2692 none (.str "swornspire.polydivisors" 2690) ++ (
  mkD (top 246) "next_row" 1692 2 3 1456 2698 none (.str "swornspire.polydivisors" 2690) ++ (
  mkD (top 247) "straight_poly_sum" 1702 2 3 1461 2704 (some ["x", "y", "old", "new"]) (.str "swornspire.polydivisors" 2690) ++ (
  mkD (top 248) "common_divisor" 1708 2 3 1468 2714 (some ["x", "y"]) (.str "swornspire.polydivisors" 2690) ++ (
  mkD (top 249) "common_paper" 1710 2 3 1475 2722 (some ["x", "y", "row", "s", "t", "divisor", "factor", "mix"]) (.str "swornspire.polydivisors" 2690) ++ (
  mkD (top 250) "squarefree_part" 1718 1 3 1482 2736 (some ["x"]) (.str "swornspire.polydivisors" 2690) ++ (
  mkD (top 252) "prime_factors" 1723 1 3 1489 2745 (some ["number", "rest", "factors", "divisor"]) (.str "swornspire.primes" 2743) ++ (
  mkD (top 253) "is_prime" 1735 1 3 1496 2755 (some ["number"]) (.str "swornspire.primes" 2743) ++ (
  mkD (top 254) "unlike_ones" 1737 1 3 1503 2762 (some ["numbers", "told", "number"]) (.str "swornspire.primes" 2743)))))))))))))))))))))))))
def s441_o9 (P : Params) : List Obj := mkD (top 255) "generator_of" 1743 2 3 1510 2771 none (.str "swornspire.primes" 2743) ++ (
  mkD (top 256) "prime_paper" 1749 1 3 1515 2777 none (.str "swornspire.primes" 2743) ++ (
  mkD (top 257) "factor_papers" 1759 1 3 1520 2783 none (.str "swornspire.primes" 2743) ++ (
  mkD (top 258) "nontrivial_divisor" 1761 1 3 1525 2789 (some ["number"]) (.str "swornspire.primes" 2743) ++ (
  mkD (top 261) "next_prime" 1765 1 3 1532 2800 (some ["number", "candidate"]) (.str "swornspire.polyfactors" 2796) ++ (
  mkD (top 262) "is_good_prime" 1770 2 3 1539 2808 (some ["poly", "prime"]) (.str "swornspire.polyfactors" 2796) ++ (
  mkD (top 263) "good_primes" 1772 1 3 1546 2816 (some ["poly", "found", "prime"]) (.str "swornspire.polyfactors" 2796) ++ (
  mkD (top 264) "best_split" 1780 1 3 1553 2825 (some ["poly", "best", "prime", "factors"]) (.str "swornspire.polyfactors" 2796) ++ (
  mkD (top 265) "candidate_of" 1789 4 3 1560 2835 none (.str "swornspire.polyfactors" 2796) ++ (
  mkD (top 266) "found_factor" 1794 4 3 1565 2841 (some ["poly", "factors", "power", "size", "chosen", "factor"]) (.str "swornspire.polyfactors" 2796) ++ (
  mkD (top 267) "irreducible_factors" 1800 1 3 1572 2853 none (.str "swornspire.polyfactors" 2796) ++ (
  mkD (top 268) "part_order" 1823 1 3 1577 2859 (some ["poly"]) (.str "swornspire.polyfactors" 2796) ++ (
  mkD (top 269) "factor_poly" 1825 1 3 1584 2866 (some ["poly", "factor", "rest", "parts", "part", "quotient"]) (.str "swornspire.polyfactors" 2796) ++ (
  mkD (top 271) "reduced_pair" 1840 3 3 1591 2880 none (.str "swornspire.irreducible" 2878) ++ (
  mkD (top 272) "product_chain" 1846 5 3 1596 2886 (some ["top", "factors", "chosen", "power", "center", "chain", "current", "index", "place", "last", "pair"]) (.str "swornspire.irreducible" 2878) ++ (
  mkD (top 273) "whole_chain" 1855 3 3 1603 2903 none (.str "swornspire.irreducible" 2878) ++ (
  mkD (top 274) "refusal" 1860 4 3 1608 2909 (some ["poly", "factors", "chosen", "power", "chain"]) (.str "swornspire.irreducible" 2878) ++ (
  mkD (top 275) "irreducible_paper" 1863 1 3 1615 2920 none (.str "swornspire.irreducible" 2878) ++ (
  mkD (top 277) "join_two" 1878 4 3 1620 2928 (some ["rest", "modulus", "other", "other_modulus", "divisor", "s", "t"]) (.str "swornspire.joining" 2926) ++ (
  mkD (top 278) "join_paper" 1885 5 3 1627 2941 (some ["x", "y", "z", "w", "value", "divisor", "s", "t"]) (.str "swornspire.joining" 2926) ++ (
  mkD (top 280) "minors_by_columns" 1889 1 3 1634 2957 none (.str "swornspire.minors" 2955) ++ (
  mkD (top 281) "minors_of" 1904 1 3 1639 2963 (some ["table", "side", "levels", "told", "size", "chosen"]) (.str "swornspire.minors" 2955) ++ (
  mkD (top 283) "chain_of" 1913 1 3 1646 2977 none (.str "swornspire.chains" 2975) ++ (
  mkD (top 284) "sign_of_number" 1927 1 3 1651 2983 (some ["number"]) (.str "swornspire.chains" 2975) ++ (
  mkD (top 285) "changes_in" 1933 1 3 1658 2990 (some ["numbers", "changes", "last", "number", "sign"]) (.str "swornspire.chains" 2975)))))))))))))))))))))))))
def s441_o10 (P : Params) : List Obj := mkD (top 286) "chain_values" 1943 2 3 1665 3001 none (.str "swornspire.chains" 2975) ++ (
  mkD (top 287) "changes_at" 1945 2 3 1670 3007 (some ["chain", "point"]) (.str "swornspire.chains" 2975) ++ (
  mkD (top 288) "changes_above" 1947 1 3 1677 3015 none (.str "swornspire.chains" 2975) ++ (
  mkD (top 289) "changes_below" 1949 1 3 1682 3021 none (.str "swornspire.chains" 2975) ++ (
  mkD (top 290) "count_all" 1951 1 3 1687 3027 (some ["chain"]) (.str "swornspire.chains" 2975) ++ (
  mkD (top 291) "count_between" 1953 3 3 1694 3034 (some ["chain", "low", "high"]) (.str "swornspire.chains" 2975) ++ (
  mkD (top 293) "root_bound" 1956 1 3 1701 3045 (some ["poly"]) (.str "swornspire.spans" 3043) ++ (
  mkD (top 294) "middle" 1958 2 3 1708 3052 (some ["low", "high"]) (.str "swornspire.spans" 3043) ++ (
  mkD (top 295) "spans_by" 1960 2 3 1715 3060 (some ["chain", "bound", "low", "high", "waiting", "told", "first", "last", "point", "changes"]) (.str "swornspire.spans" 3043) ++ (
  mkD (top 296) "halved_by" 1974 2 3 1722 3076 (some ["chain", "span", "low", "high", "point"]) (.str "swornspire.spans" 3043) ++ (
  mkD (top 297) "above" 1980 3 3 1729 3087 (some ["chain", "span", "bound"]) (.str "swornspire.spans" 3043) ++ (
  mkD (top 298) "clear_span" 1984 3 3 1736 3096 (some ["poly", "part", "index", "chain", "spans", "low", "high"]) (.str "swornspire.spans" 3043) ++ (
  mkD (top 299) "place_by" 1998 2 3 1743 3109 none (.str "swornspire.spans" 3043) ++ (
  mkD (top 300) "place_of" 2003 2 3 1748 3115 (some ["root", "span"]) (.str "swornspire.spans" 3043) ++ (
  mkD (top 302) "parted" 2006 2 3 1755 3125 (some ["span", "other"]) (.str "swornspire.comparing" 3123) ++ (
  mkD (top 303) "parted_spans" 2012 2 3 1762 3133 (some ["x", "y", "chain", "chain2", "span", "span2", "halvings"]) (.str "swornspire.comparing" 3123) ++ (
  mkD (top 304) "compare" 2025 2 3 1769 3146 (some ["x", "y", "span", "span2", "halvings"]) (.str "swornspire.comparing" 3123) ++ (
  mkD (top 305) "sign_span" 2030 2 3 1776 3157 (some ["poly", "root", "part", "chain", "own", "span"]) (.str "swornspire.comparing" 3123) ++ (
  mkD (top 306) "is_zero_at" 2038 2 3 1783 3169 (some ["poly", "root"]) (.str "swornspire.comparing" 3123) ++ (
  mkD (top 307) "sign_of" 2040 2 3 1790 3177 (some ["poly", "root"]) (.str "swornspire.comparing" 3123) ++ (
  mkD (top 308) "is_floor" 2044 2 3 1797 3185 (some ["number", "span", "low", "high"]) (.str "swornspire.comparing" 3123) ++ (
  mkD (top 309) "floor_of" 2047 1 3 1804 3195 (some ["root", "poly", "chain", "span"]) (.str "swornspire.comparing" 3123) ++ (
  mkD (top 310) "is_less" 2056 2 3 1811 3205 (some ["x", "y"]) (.str "swornspire.comparing" 3123) ++ (
  mkD (top 312) "part_with_root" 2059 2 3 1818 3215 (some ["parts", "span", "part", "chain"]) (.str "swornspire.rooting" 3213) ++ (
  mkD (top 313) "root_count" 2065 1 3 1825 3225 (some ["poly"]) (.str "swornspire.rooting" 3213)))))))))))))))))))))))))
def s441_o11 (P : Params) : List Obj := mkD (top 314) "root_with_span" 2067 2 3 1832 3232 (some ["poly", "index", "part", "span"]) (.str "swornspire.rooting" 3213) ++ (
  mkD (top 315) "root_of" 2075 2 3 1839 3242 (some ["poly", "index", "told"]) (.str "swornspire.rooting" 3213) ++ (
  mkD (top 316) "root_of_fraction" 2080 1 3 1846 3251 (some ["fraction"]) (.str "swornspire.rooting" 3213) ++ (
  mkD (top 317) "negated" 2082 1 3 1853 3258 (some ["root", "many"]) (.str "swornspire.rooting" 3213) ++ (
  mkD (top 318) "monic_scaled" 2085 2 3 1860 3266 (some ["poly", "scale", "degree", "factor", "told", "power", "place"]) (.str "swornspire.rooting" 3213) ++ (
  mkD (top 319) "power_sums" 2094 2 3 1867 3279 (some ["numbers", "many", "degree", "sums", "power", "total", "back"]) (.str "swornspire.rooting" 3213) ++ (
  mkD (top 320) "from_power_sums" 2105 2 3 1874 3292 (some ["sums", "degree", "symmetric", "size", "total", "sign", "power", "told", "place"]) (.str "swornspire.rooting" 3213) ++ (
  mkD (top 321) "sums_of_sums" 2119 3 3 1881 3307 none (.str "swornspire.rooting" 3213) ++ (
  mkD (top 322) "unscaled" 2129 2 3 1886 3313 (some ["numbers", "scale", "told", "power", "number"]) (.str "swornspire.rooting" 3213) ++ (
  mkD (top 323) "sum_poly" 2136 2 3 1893 3324 (some ["x", "y", "degree", "scale", "first", "second", "numbers"]) (.str "swornspire.rooting" 3213) ++ (
  mkD (top 324) "product_poly" 2143 2 3 1900 3337 none (.str "swornspire.rooting" 3213) ++ (
  mkD (top 325) "sum_span" 2150 2 3 1905 3343 (some ["span", "span2"]) (.str "swornspire.rooting" 3213) ++ (
  mkD (top 326) "product_span" 2152 3 3 1912 3351 none (.str "swornspire.rooting" 3213) ++ (
  mkD (top 327) "combined_roots" 2157 3 3 1917 3357 (some ["op", "x", "y", "poly", "whole", "chain", "chain2", "span", "span2", "fine", "span3", "root"]) (.str "swornspire.rooting" 3213) ++ (
  mkD (top 328) "sum_of" 2173 2 3 1924 3375 (some ["x", "y"]) (.str "swornspire.rooting" 3213) ++ (
  mkD (top 329) "product_of" 2175 2 3 1931 3383 (some ["x", "y"]) (.str "swornspire.rooting" 3213) ++ (
  mkD (top 331) "column_of" 2178 2 3 1938 3393 none (.str "swornspire.tables" 3391) ++ (
  mkD (top 332) "turned" 2180 1 3 1943 3399 none (.str "swornspire.tables" 3391) ++ (
  mkD (top 333) "part_of" 2182 3 3 1948 3405 none (.str "swornspire.tables" 3391) ++ (
  mkD (top 334) "table_of" 2184 3 3 1953 3411 none (.str "swornspire.tables" 3391) ++ (
  mkD (top 335) "combined" 2186 3 3 1958 3417 none (.str "swornspire.tables" 3391) ++ (
  mkD (top 336) "negative_table" 2189 1 3 1963 3423 none (.str "swornspire.tables" 3391) ++ (
  mkD (top 337) "dot" 2191 2 3 1968 3429 (some ["xs", "ys", "total", "x", "y"]) (.str "swornspire.tables" 3391) ++ (
  mkD (top 338) "product_of_tables" 2196 2 3 1975 3440 none (.str "swornspire.tables" 3391) ++ (
  mkD (top 339) "determinant" 2199 1 3 1980 3446 none (.str "swornspire.tables" 3391)))))))))))))))))))))))))
def s441_o12 (P : Params) : List Obj := mkD (top 340) "plain_rank" 2211 1 3 1985 3452 (some ["table", "rows", "columns", "best", "chosen", "picked"]) (.str "swornspire.tables" 3391) ++ (
  mkD (top 342) "fraction_rows" 2222 1 3 1992 3466 none (.str "swornspire.solving" 3464) ++ (
  mkD (top 343) "unit_rows" 2224 1 3 1997 3472 none (.str "swornspire.solving" 3464) ++ (
  mkD (top 344) "scaled" 2226 2 3 2002 3478 none (.str "swornspire.solving" 3464) ++ (
  mkD (top 345) "reduced" 2228 3 3 2007 3484 none (.str "swornspire.solving" 3464) ++ (
  mkD (top 346) "pivot_row" 2230 3 3 2012 3490 (some ["rows", "start", "column", "row"]) (.str "swornspire.solving" 3464) ++ (
  mkD (top 347) "echelon" 2235 1 3 2019 3500 (some ["table", "rows", "transform", "pivots", "column", "done", "row", "factor", "other"]) (.str "swornspire.solving" 3464) ++ (
  mkD (top 348) "common_scale" 2256 1 3 2026 3515 (some ["fractions", "scale", "top", "bottom", "divisor"]) (.str "swornspire.solving" 3464) ++ (
  mkD (top 349) "whole_row" 2262 2 3 2033 3526 none (.str "swornspire.solving" 3464) ++ (
  mkD (top 350) "dot_fraction" 2264 2 3 2038 3532 (some ["fractions", "numbers", "scale"]) (.str "swornspire.solving" 3464) ++ (
  mkD (top 351) "barring_row" 2267 2 3 2045 3541 (some ["table", "right", "pivots", "rows", "transform", "numbers", "line", "scale", "row", "value"]) (.str "swornspire.solving" 3464) ++ (
  mkD (top 352) "solution" 2277 2 3 2052 3557 none (.str "swornspire.solving" 3464) ++ (
  mkD (top 353) "column_sums" 2287 1 3 2057 3563 none (.str "swornspire.solving" 3464) ++ (
  mkD (top 354) "solution_mix" 2301 2 3 2062 3569 (some ["numbers", "scale"]) (.str "swornspire.solving" 3464) ++ (
  mkD (top 355) "rank_paper" 2303 1 3 2069 3577 none (.str "swornspire.solving" 3464) ++ (
  mkD (top 356) "rank_of" 2317 1 3 2074 3583 (some ["table"]) (.str "swornspire.solving" 3464) ++ (
  mkD (top 358) "found_whole" 2320 3 3 2081 3592 (some ["op", "extra", "args", "x", "factors"]) (.str "swornspire.finding" 3590) ++ (
  mkD (top 359) "found_fraction" 2340 2 3 2088 3603 (some ["op", "args", "x"]) (.str "swornspire.finding" 3590) ++ (
  mkD (top 360) "fraction_value" 2365 2 3 2095 3612 (some ["poly", "point", "bottom", "step"]) (.str "swornspire.finding" 3590) ++ (
  mkD (top 361) "found_table" 2370 2 3 2102 3622 none (.str "swornspire.finding" 3590) ++ (
  mkD (top 362) "found_poly" 2381 3 3 2107 3628 (some ["op", "extra", "args", "x", "parts"]) (.str "swornspire.finding" 3590) ++ (
  mkD (top 363) "found_root" 2397 2 3 2114 3639 (some ["op", "args", "x"]) (.str "swornspire.finding" 3590) ++ (
  [⟨(.type "tuple"), none, (.seq ⟨[(.str "gcd" 3648), (.str "power" 3649), (.str "join" 3650), (.str "again" 3651), (.str "prime" 3652), (.str "factors" 3653), (.str "factor" 3654)]⟩ 0), ⟨[]⟩⟩,
  ⟨(.type "tuple"), none, (.seq ⟨[(.str "rank" 3656), (.str "solvable" 3657), (.str "solve" 3658), (.str "scale" 3659)]⟩ 0), ⟨[]⟩⟩,
  ⟨(.type "tuple"), none, (.seq ⟨[(.str "fat" 3661), (.str "common" 3662), (.str "roots" 3663), (.str "root" 3664), (.str "parts" 3665), (.str "part" 3666)]⟩ 0), ⟨[]⟩⟩,
  ⟨(.type "tuple"), none, (.seq ⟨[(.str "rlift" 3668), (.str "radd" 3669), (.str "rmul" 3670), (.str "rneg" 3671), (.str "sign" 3672), (.str "rfloor" 3673), (.str "rless" 3674), (.str "rsame" 3675)]⟩ 0), ⟨[]⟩⟩] ++ (
  mkD (top 368) "found" 2418 3 3 2125 3677 (some ["op", "extra", "args"]) (.str "swornspire.finding" 3590) ++ (
  mkD (top 370) "plain_divisor" 2429 2 3 2132 3688 (some ["x", "y", "old", "new"]) (.str "swornspire.plainops" 3686)))))))))))))))))))))))))
def s441_o13 (P : Params) : List Obj := mkD (top 371) "plain_power" 2434 2 3 2139 3698 (some ["base", "exponent", "result", "step"]) (.str "swornspire.plainops" 3686) ++ (
  mkD (top 372) "plain_whole" 2439 3 3 2146 3708 (some ["op", "extra", "args", "x", "y"]) (.str "swornspire.plainops" 3686) ++ (
  mkD (top 373) "plain_table" 2467 3 3 2153 3719 (some ["op", "extra", "args"]) (.str "swornspire.plainops" 3686) ++ (
  mkD (top 374) "plain_poly" 2483 2 3 2160 3728 (some ["op", "args"]) (.str "swornspire.plainops" 3686) ++ (
  mkD (top 375) "plain_prime" 2499 1 3 2167 3736 (some ["number", "divisor"]) (.str "swornspire.plainops" 3686) ++ (
  mkD (top 376) "plain_join" 2508 4 3 2174 3744 (some ["x", "y", "z", "w", "one", "s", "t"]) (.str "swornspire.plainops" 3686) ++ (
  mkD (top 377) "plain_rest_power" 2513 3 3 2181 3757 (some ["x", "y", "z", "result", "base", "rest"]) (.str "swornspire.plainops" 3686) ++ (
  [⟨(.type "tuple"), none, (.seq ⟨[(.str "number" 3769), (.str "add" 3770), (.str "sub" 3771), (.str "mul" 3772), (.str "neg" 3773), (.str "pow" 3774), (.str "quotient" 3775), (.str "rest" 3776), (.str "less" 3777), (.str "same" 3778), (.str "and" 3779), (.str "or" 3780), (.str "not" 3781)]⟩ 0), ⟨[]⟩⟩,
  ⟨(.type "tuple"), none, (.seq ⟨[(.str "table" 3783), (.str "tadd" 3784), (.str "tsub" 3785), (.str "tneg" 3786), (.str "tmul" 3787), (.str "det" 3788), (.str "rank" 3789), (.str "entry" 3790), (.str "tsame" 3791)]⟩ 0), ⟨[]⟩⟩,
  ⟨(.type "tuple"), none, (.seq ⟨[(.str "poly" 3793), (.str "padd" 3794), (.str "psub" 3795), (.str "pmul" 3796), (.str "pneg" 3797), (.str "slope" 3798), (.str "at" 3799), (.str "psame" 3800)]⟩ 0), ⟨[]⟩⟩] ++ (
  mkD (top 381) "plain_value" 2528 3 3 2191 3802 (some ["op", "extra", "args"]) (.str "swornspire.plainops" 3686) ++ (
  mkD (top 383) "root_paper" 2545 2 3 2198 3813 (some ["poly", "index", "root", "span", "chain", "low", "high", "place", "values", "values2"]) (.str "swornspire.rootpapers" 3811) ++ (
  mkD (top 384) "negated_paper" 2553 1 3 2205 3829 (some ["root", "factor"]) (.str "swornspire.rootpapers" 3811) ++ (
  mkD (top 385) "order_paper" 2556 2 3 2212 3837 (some ["x", "y", "span", "span2", "halvings", "place", "place2", "first", "second", "high", "low"]) (.str "swornspire.rootpapers" 3811) ++ (
  mkD (top 386) "sign_paper" 2567 2 3 2219 3854 (some ["poly", "root", "span", "chain"]) (.str "swornspire.rootpapers" 3811) ++ (
  mkD (top 387) "floor_paper" 2575 2 3 2226 3864 (some ["root", "value", "chain", "following"]) (.str "swornspire.rootpapers" 3811) ++ (
  mkD (top 388) "binomials" 2579 1 3 2233 3874 none (.str "swornspire.rootpapers" 3811) ++ (
  mkD (top 389) "expanded" 2584 2 3 2238 3880 none (.str "swornspire.rootpapers" 3811) ++ (
  mkD (top 390) "scale_table" 2594 2 3 2243 3886 none (.str "swornspire.rootpapers" 3811) ++ (
  mkD (top 391) "divided_rows" 2596 2 3 2248 3892 none (.str "swornspire.rootpapers" 3811) ++ (
  mkD (top 392) "turned_table" 2612 1 3 2253 3898 none (.str "swornspire.rootpapers" 3811) ++ (
  mkD (top 393) "frozen" 2614 2 3 2258 3904 none (.str "swornspire.rootpapers" 3811) ++ (
  mkD (top 394) "member_paper" 2616 4 3 2263 3910 none (.str "swornspire.rootpapers" 3811) ++ (
  mkD (top 395) "corner_pairs" 2625 3 3 2268 3916 (some ["span", "span2", "span3", "low", "high", "told", "x", "y"]) (.str "swornspire.rootpapers" 3811) ++ (
  mkD (top 396) "combined_paper" 2633 3 3 2275 3930 (some ["op", "x", "y", "root", "poly", "span", "span2", "span3", "pairs", "factor", "first", "second", "chain", "values", "values2", "head", "body"]) (.str "swornspire.rootpapers" 3811) ++ (
  mkD (top 397) "count_paper" 2643 1 3 2282 3953 (some ["poly"]) (.str "swornspire.rootpapers" 3811) ++ (
  mkD (top 399) "factored_paper" 2646 1 3 2289 3962 (some ["number", "factors"]) (.str "swornspire.papers" 3960)))))))))))))))))))))))))
def s441_o14 (P : Params) : List Obj := mkD (top 400) "primality_paper" 2649 2 3 2296 3970 (some ["number", "value", "divisor"]) (.str "swornspire.papers" 3960) ++ (
  mkD (top 401) "whole_paper" 2656 3 3 2303 3979 (some ["op", "args", "value"]) (.str "swornspire.papers" 3960) ++ (
  mkD (top 402) "fraction_paper" 2672 3 3 2310 3988 (some ["op", "args", "value", "x", "y", "one", "s", "t"]) (.str "swornspire.papers" 3960) ++ (
  mkD (top 403) "table_paper" 2680 3 3 2317 4002 (some ["op", "args", "value", "told", "numbers", "scale", "pivots", "left", "factor", "sums", "rest"]) (.str "swornspire.papers" 3960) ++ (
  mkD (top 404) "parts_paper" 2692 1 3 2324 4019 none (.str "swornspire.papers" 3960) ++ (
  mkD (top 405) "root_claim_paper" 2701 4 3 2329 4025 (some ["op", "extra", "args", "value", "x"]) (.str "swornspire.papers" 3960) ++ (
  [⟨(.type "tuple"), none, (.seq ⟨[(.str "quotient" 4036), (.str "rest" 4037), (.str "gcd" 4038), (.str "power" 4039), (.str "factors" 4040), (.str "factor" 4041), (.str "join" 4042), (.str "again" 4043), (.str "prime" 4044)]⟩ 0), ⟨[]⟩⟩,
  ⟨(.type "tuple"), none, (.seq ⟨[(.str "over" 4046), (.str "fadd" 4047), (.str "fsub" 4048), (.str "fmul" 4049), (.str "fdiv" 4050), (.str "ffloor" 4051), (.str "fless" 4052), (.str "fat" 4053)]⟩ 0), ⟨[]⟩⟩,
  ⟨(.type "tuple"), none, (.seq ⟨[(.str "det" 4055), (.str "rank" 4056), (.str "solve" 4057), (.str "scale" 4058), (.str "solvable" 4059)]⟩ 0), ⟨[]⟩⟩,
  ⟨(.type "tuple"), none, (.seq ⟨[(.str "roots" 4061), (.str "root" 4062), (.str "rneg" 4063), (.str "radd" 4064), (.str "rmul" 4065), (.str "rless" 4066), (.str "sign" 4067), (.str "rfloor" 4068)]⟩ 0), ⟨[]⟩⟩] ++ (
  mkD (top 410) "value_paper" 2720 4 3 2340 4070 (some ["op", "extra", "args", "value"]) (.str "swornspire.papers" 3960) ++ (
  mkD (top 411) "join_bar" 2734 1 3 2347 4080 (some ["args", "divisor"]) (.str "swornspire.papers" 3960) ++ (
  mkD (top 412) "bar_paper" 2739 2 3 2354 4088 (some ["op", "args"]) (.str "swornspire.papers" 3960) ++ (
  mkD (top 413) "is_so" 2753 1 3 2361 4096 (some ["claim", "due"]) (.str "swornspire.papers" 3960) ++ (
  mkD (top 414) "paper_of" 2758 1 3 2368 4104 (some ["claim"]) (.str "swornspire.papers" 3960) ++ (
  mkD (top 416) "_law_cell" 2765 2 3 2375 4113 (some ["script", "place", "cell"]) (.str "law_swornspire_k76_judge_zero_less_rest" 4111) ++ (
  mkD (top 417) "_law_row" 2772 4 3 2382 4122 (some ["script", "place", "many", "limit", "number", "row", "rest", "k", "mixed"]) (.str "law_swornspire_k76_judge_zero_less_rest" 4111) ++ (
  mkD (top 418) "_law_one" 2788 3 3 2389 4137 (some ["script", "place", "limit"]) (.str "law_swornspire_k76_judge_zero_less_rest" 4111) ++ (
  mkD (top 419) "_law_is_prime" 2790 1 3 2396 4146 (some ["number", "divisor"]) (.str "law_swornspire_k76_judge_zero_less_rest" 4111) ++ (
  mkD (top 420) "_law_primes" 2799 2 3 2403 4154 (some ["top", "many", "told", "number"]) (.str "law_swornspire_k76_judge_zero_less_rest" 4111) ++ (
  mkD (top 421) "_law_points" 2807 3 3 2410 4164 none (.str "law_swornspire_k76_judge_zero_less_rest" 4111) ++ (
  mkD (top 422) "_law_number" 2818 3 3 2415 4170 (some ["script", "place", "bits", "way", "sign", "size", "more", "number", "digit"]) (.str "law_swornspire_k76_judge_zero_less_rest" 4111) ++ (
  mkD (top 423) "_law_words" 2831 2 3 2422 4185 (some ["number", "bits"]) (.str "law_swornspire_k76_judge_zero_less_rest" 4111) ++ (
  mkD (top 424) "_law_need" 2833 1 3 2429 4193 none (.str "law_swornspire_k76_judge_zero_less_rest" 4111) ++ (
  mkD (top 425) "_law_total" 2838 1 3 2434 4199 (some ["terms", "total", "term", "product", "factor"]) (.str "law_swornspire_k76_judge_zero_less_rest" 4111) ++ (
  mkD (top 426) "_law_used" 2846 2 3 2441 4210 (some ["points", "need", "weight", "k"]) (.str "law_swornspire_k76_judge_zero_less_rest" 4111) ++ (
  mkD (top 427) "_law_exact" 2853 3 3 2448 4220 none (.str "law_swornspire_k76_judge_zero_less_rest" 4111) ++ (
  mkD (top 428) "_law_hidden" 2864 3 3 2453 4226 none (.str "law_swornspire_k76_judge_zero_less_rest" 4111)))))))))))))))))))))))))
def s441_o15 (P : Params) : List Obj := mkD (top 429) "_law_drawn" 2877 4 3 2458 4232 none (.str "law_swornspire_k76_judge_zero_less_rest" 4111) ++ (
  mkD (top 430) "_law_terms" 2886 4 3 2463 4238 (some ["script", "place", "bits", "points", "way"]) (.str "law_swornspire_k76_judge_zero_less_rest" 4111) ++ (
  mkD (top 431) "_law_zero_due" 2893 2 3 2470 4249 none (.str "law_swornspire_k76_judge_zero_less_rest" 4111) ++ (
  mkD (top 432) "_law_near" 2903 4 3 2475 4255 (some ["script", "place", "number", "bits", "step", "rows"]) (.str "law_swornspire_k76_judge_zero_less_rest" 4111) ++ (
  mkD (top 433) "_law_fractions" 2907 3 3 2482 4267 (some ["script", "place", "bits", "first", "factor", "way"]) (.str "law_swornspire_k76_judge_zero_less_rest" 4111) ++ (
  mkD (top 434) "_law_is_truth" 2918 2 3 2489 4279 (some ["told", "due"]) (.str "law_swornspire_k76_judge_zero_less_rest" 4111) ++ (
  mkD (top 435) "_law_call" 2920 4 3 2496 4287 none (.str "law_swornspire_k76_judge_zero_less_rest" 4111) ++ (
  mkD (top 436) "_law_state" 2941 2 3 2501 4293 (some ["judge", "model", "told"]) (.str "law_swornspire_k76_judge_zero_less_rest" 4111) ++ (
  mkD (top 437) "_law_faulty" 2948 4 3 2508 4302 none (.str "law_swornspire_k76_judge_zero_less_rest" 4111) ++ (
  mkD (top 438) "_law_bad" 2967 3 3 2513 4308 (some ["script", "place", "bits", "row", "good", "bad", "claims", "claim", "terms", "told"]) (.str "law_swornspire_k76_judge_zero_less_rest" 4111) ++ (
  mkD (top 439) "_law_paper" 2984 1 3 2520 4324 (some ["claim", "e"]) (.str "law_swornspire_k76_judge_zero_less_rest" 4111) ++ (
  mkD (top 440) "_law_claims" 2989 2 3 2527 4332 (some ["script", "place", "x", "more", "y", "judge", "dues", "op", "due", "other", "claims", "right", "told", "claim"]) (.str "law_swornspire_k76_judge_zero_less_rest" 4111) ++ (
  mkD (top 441) "law" 3007 1 3 2534 4352 (some ["script", "bits", "other", "points", "others", "judges", "models", "k", "side"]) (.str "law_swornspire_k76_judge_zero_less_rest" 4111)))))))))))))
def s441_o (P : Params) : List Obj := s441_o0 P ++ (s441_o1 P ++ (s441_o2 P ++ (s441_o3 P ++ (s441_o4 P ++ (s441_o5 P ++ (s441_o6 P ++ (s441_o7 P ++ (s441_o8 P ++ (s441_o9 P ++ (s441_o10 P ++ (s441_o11 P ++ (s441_o12 P ++ (s441_o13 P ++ (s441_o14 P ++ (s441_o15 P)))))))))))))))
def s441_e0 : List Ent := [en "__name__" 165 (.str "law_swornspire_k76_judge_zero_less_rest" 4111),
  en "__doc__" 166 .none,
  en "__package__" 167 .none,
  en "__loader__" 168 (.builtin "__main__.__loader__#opaque"),
  en "__spec__" 169 .none,
  er "__annotations__" 170 6,
  er "__builtins__" 171 4,
  en "__file__" 173 (.str "/claim/cut.py" 172),
  en "__cached__" 174 .none,
  er "SpireError" 206 24,
  er "NotSo" 233 46,
  er "is_whole" 242 55,
  er "bits_of" 249 62,
  er "words_of" 260 69,
  er "is_word_prime" 270 76,
  er "weight_of" 277 83,
  er "are_good_points" 287 90,
  er "used_points" 298 97,
  er "need_of" 304 102,
  er "trimmed" 314 109,
  er "product_words" 335 116,
  er "Judge" 458 192,
  er "is_parts" 468 203,
  er "is_numbers" 474 208,
  er "is_row" 480 213,
  er "is_rows" 486 218,
  er "are_rows" 492 223,
  er "is_poly_form" 499 230,
  er "is_point" 506 237,
  er "is_ascending" 516 244,
  er "is_lowest" 531 251,
  er "takes_sum" 549 258,
  er "takes_over" 561 265,
  er "takes_floor" 573 272,
  er "takes_order" 589 279,
  er "is_wide" 602 286,
  er "takes_again" 622 293,
  er "takes_fraction" 634 300,
  er "bars_rows" 656 307,
  er "bars_again" 669 314]
def s441_e1 : List Ent := [er "bars_fraction" 679 321,
  er "choices" 695 328,
  er "subsets" 701 333,
  er "half_choices" 711 340,
  er "reduced_mod" 719 345,
  er "inverse_mod" 730 352,
  er "monic_mod" 736 357,
  er "difference_mod" 748 364,
  er "product_mod" 762 371,
  er "division_mod" 779 378,
  er "rest_mod" 788 385,
  er "divisor_mod" 799 392,
  er "bezout_mod" 805 397,
  er "derivative_mod" 811 402,
  er "power_mod" 824 409,
  er "is_squarefree_mod" 833 416,
  er "irreducible_mod" 845 423,
  er "product_terms" 860 430,
  er "own_terms" 869 437,
  er "is_product" 881 444,
  er "is_multiple" 892 451,
  er "is_poly_sum" 908 458,
  en "MOST_PRIME" 912 (.int 65535 911),
  en "MOST_COUNT" 914 (.int 4000 913),
  en "MOST_FACTORS" 916 (.int 8 915),
  er "is_mixed" 922 463,
  er "is_small_prime" 929 470,
  er "rests_of" 935 475,
  er "is_irreducible_rest" 945 482,
  er "chain_end" 963 489,
  er "takes_whole_chain" 978 496,
  er "takes_refusal" 984 501,
  er "are_factors" 998 508,
  er "is_roomy" 1012 515,
  er "takes_lifted" 1034 522,
  er "takes_irreducible" 1043 529,
  er "takes_sums" 1062 536,
  er "takes_slope" 1075 543,
  er "value_terms" 1090 550,
  er "takes_value" 1096 1121]
def s441_e2 : List Ent := [er "takes_value_judgepoly" 1097 555,
  er "takes_fraction_value" 1111 562,
  er "takes_common" 1131 569,
  er "are_in_order" 1140 576,
  er "unlike_polys" 1149 583,
  er "takes_factored" 1155 588,
  er "takes_part" 1167 595,
  er "takes_poly" 1180 602,
  er "bars_poly" 1191 609,
  er "sign_by" 1201 616,
  er "changes_by" 1207 621,
  er "takes_step" 1223 628,
  er "is_chain_form" 1229 633,
  er "takes_chain" 1244 640,
  er "are_values" 1256 647,
  er "changes_low" 1262 652,
  er "changes_high" 1268 657,
  er "roots_by" 1276 664,
  er "counts_well" 1285 671,
  er "is_span" 1294 678,
  er "has_one" 1306 685,
  er "takes_place" 1320 692,
  er "takes_ends" 1333 699,
  er "binomial_row" 1341 704,
  er "combined_terms" 1352 711,
  er "first_terms" 1365 718,
  er "second_terms" 1378 725,
  er "longest_line" 1384 730,
  er "is_member" 1406 737,
  er "is_sum_of_ends" 1417 744,
  er "is_corner" 1433 751,
  er "are_corners" 1448 758,
  er "is_covered" 1462 765,
  er "takes_combined" 1489 772,
  er "roots_ahead" 1498 779,
  er "takes_count" 1511 786,
  er "takes_root" 1530 793,
  er "takes_negated" 1547 800,
  er "is_order" 1560 807,
  er "takes_root_order" 1576 814]
def s441_e3 : List Ent := [er "takes_sign" 1592 821,
  er "roots_below" 1602 828,
  er "takes_root_floor" 1618 835,
  er "takes_lifted_root" 1630 842,
  er "takes_any_root" 1642 849,
  er "bars_root" 1654 856,
  er "entry_terms" 1662 861,
  er "column_at" 1668 866,
  er "has_sides" 1677 873,
  er "takes_entries" 1694 880,
  er "takes_product" 1709 887,
  er "minor_terms" 1724 894,
  er "takes_determinant" 1730 899,
  er "is_diagonal" 1745 906,
  er "is_combination" 1751 911,
  er "takes_rank" 1757 916,
  er "is_solution" 1770 923,
  er "is_bar" 1783 930,
  er "are_pivots" 1789 935,
  er "takes_solution" 1809 942,
  er "takes_solve" 1815 947,
  er "takes_solvable" 1827 954,
  er "takes_table" 1833 959,
  er "bars_table" 1842 966,
  er "digits_of" 1850 971,
  er "power_steps" 1864 978,
  er "power_rest" 1873 985,
  er "takes_steps" 1891 992,
  er "unlike_primes" 1900 999,
  er "is_ascending_row" 1910 1006,
  er "takes_factors" 1916 1011,
  er "takes_exponents" 1922 1016,
  er "takes_prime" 1936 1023,
  er "repeated" 1944 1028,
  er "takes_ring" 1958 1035,
  er "takes_division" 1973 1042,
  er "takes_divisor" 1989 1049,
  er "takes_power" 2002 1056,
  er "takes_parts" 2015 1063,
  er "takes_join" 2034 1070]
def s441_e4 : List Ent := [er "takes_primality" 2047 1077,
  er "takes_truth" 2058 1084,
  er "RING" 2065 1085,
  er "TRUTHS" 2071 1086,
  er "takes_whole" 2083 1093,
  er "bars_join" 2099 1100,
  er "bars_whole" 2110 1107,
  er "WHOLE_RULES" 2132 1108,
  er "FRACTION_RULES" 2146 1109,
  er "TABLE_RULES" 2159 1110,
  er "POLY_RULES" 2172 1111,
  er "ROOT_RULES" 2183 1112,
  er "WHOLE_BARRED" 2190 1113,
  er "FRACTION_BARRED" 2194 1114,
  er "takes_value_judging" 2209 1121,
  er "takes_none" 2222 1128,
  er "takes" 2231 1135,
  er "straight_sum" 2248 1142,
  er "divisor_of" 2256 1149,
  er "divisor_of_all" 2265 1156,
  er "mix_of" 2271 1161,
  er "divisor_paper" 2282 1168,
  er "lowest" 2293 1175,
  er "sum_of_fractions" 2301 1182,
  er "difference_of_fractions" 2309 1189,
  er "product_of_fractions" 2317 1196,
  er "quotient_of_fractions" 2325 1203,
  er "negative_of_fraction" 2332 1210,
  er "is_below" 2340 1217,
  er "is_at_most" 2348 1224,
  er "floor_of_fraction" 2355 1231,
  er "least_of" 2364 1238,
  er "greatest_of" 2373 1245,
  er "again_rows" 2389 1252,
  er "is_searched" 2398 1259,
  er "found_pair" 2410 1266,
  er "found_again" 2421 1273,
  er "again_paper" 2437 1280,
  er "barring_paper" 2453 1287,
  er "coefficient" 2463 1294]
def s441_e5 : List Ent := [er "sum_of_polys" 2469 1299,
  er "difference_of_polys" 2475 1304,
  er "negative_poly" 2481 1309,
  er "product_of_polys" 2494 1316,
  er "scaled_poly" 2500 1321,
  er "derivative" 2506 1326,
  er "value_of" 2516 1333,
  er "top_value" 2527 1340,
  er "content" 2534 1347,
  er "primitive" 2540 1352,
  er "exact_quotient" 2546 1357,
  er "pseudo_division" 2552 1362,
  er "height" 2558 1367,
  er "mirrored" 2564 1372,
  er "product_of_all" 2575 1379,
  er "lift_bound" 2583 1386,
  er "lift_count" 2594 1393,
  er "cofactor_inverses" 2609 1400,
  er "raised" 2615 1405,
  er "lifted_factors" 2621 1410,
  er "centered" 2630 1417,
  er "power_number" 2640 1424,
  er "power_table" 2656 1431,
  er "kernel_rows" 2662 1436,
  er "split_once" 2676 1443,
  er "factors_mod" 2689 1450,
  er "divided_by" 2697 1455,
  er "next_row" 2703 1460,
  er "straight_poly_sum" 2713 1467,
  er "common_divisor" 2721 1474,
  er "common_paper" 2735 1481,
  er "squarefree_part" 2742 1488,
  er "prime_factors" 2754 1495,
  er "is_prime" 2761 1502,
  er "unlike_ones" 2770 1509,
  er "generator_of" 2776 1514,
  er "prime_paper" 2782 1519,
  er "factor_papers" 2788 1524,
  er "nontrivial_divisor" 2795 1531,
  en "TRIED_PRIMES" 2799 (.int 3 2798)]
def s441_e6 : List Ent := [er "next_prime" 2807 1538,
  er "is_good_prime" 2815 1545,
  er "good_primes" 2824 1552,
  er "best_split" 2834 1559,
  er "candidate_of" 2840 1564,
  er "found_factor" 2852 1571,
  er "irreducible_factors" 2858 1576,
  er "part_order" 2865 1583,
  er "factor_poly" 2877 1590,
  er "reduced_pair" 2885 1595,
  er "product_chain" 2902 1602,
  er "whole_chain" 2908 1607,
  er "refusal" 2919 1614,
  er "irreducible_paper" 2925 1619,
  er "join_two" 2940 1626,
  er "join_paper" 2954 1633,
  er "minors_by_columns" 2962 1638,
  er "minors_of" 2974 1645,
  er "chain_of" 2982 1650,
  er "sign_of_number" 2989 1657,
  er "changes_in" 3000 1664,
  er "chain_values" 3006 1669,
  er "changes_at" 3014 1676,
  er "changes_above" 3020 1681,
  er "changes_below" 3026 1686,
  er "count_all" 3033 1693,
  er "count_between" 3042 1700,
  er "root_bound" 3051 1707,
  er "middle" 3059 1714,
  er "spans_by" 3075 1721,
  er "halved_by" 3086 1728,
  er "above" 3095 1735,
  er "clear_span" 3108 1742,
  er "place_by" 3114 1747,
  er "place_of" 3122 1754,
  er "parted" 3132 1761,
  er "parted_spans" 3145 1768,
  er "compare" 3156 1775,
  er "sign_span" 3168 1782,
  er "is_zero_at" 3176 1789]
def s441_e7 : List Ent := [er "sign_of" 3184 1796,
  er "is_floor" 3194 1803,
  er "floor_of" 3204 1810,
  er "is_less" 3212 1817,
  er "part_with_root" 3224 1824,
  er "root_count" 3231 1831,
  er "root_with_span" 3241 1838,
  er "root_of" 3250 1845,
  er "root_of_fraction" 3257 1852,
  er "negated" 3265 1859,
  er "monic_scaled" 3278 1866,
  er "power_sums" 3291 1873,
  er "from_power_sums" 3306 1880,
  er "sums_of_sums" 3312 1885,
  er "unscaled" 3323 1892,
  er "sum_poly" 3336 1899,
  er "product_poly" 3342 1904,
  er "sum_span" 3350 1911,
  er "product_span" 3356 1916,
  er "combined_roots" 3374 1923,
  er "sum_of" 3382 1930,
  er "product_of" 3390 1937,
  er "column_of" 3398 1942,
  er "turned" 3404 1947,
  er "part_of" 3410 1952,
  er "table_of" 3416 1957,
  er "combined" 3422 1962,
  er "negative_table" 3428 1967,
  er "dot" 3439 1974,
  er "product_of_tables" 3445 1979,
  er "determinant" 3451 1984,
  er "plain_rank" 3463 1991,
  er "fraction_rows" 3471 1996,
  er "unit_rows" 3477 2001,
  er "scaled" 3483 2006,
  er "reduced" 3489 2011,
  er "pivot_row" 3499 2018,
  er "echelon" 3514 2025,
  er "common_scale" 3525 2032,
  er "whole_row" 3531 2037]
def s441_e8 : List Ent := [er "dot_fraction" 3540 2044,
  er "barring_row" 3556 2051,
  er "solution" 3562 2056,
  er "column_sums" 3568 2061,
  er "solution_mix" 3576 2068,
  er "rank_paper" 3582 2073,
  er "rank_of" 3589 2080,
  er "found_whole" 3602 2087,
  er "found_fraction" 3611 2094,
  er "fraction_value" 3621 2101,
  er "found_table" 3627 2106,
  er "found_poly" 3638 2113,
  er "found_root" 3647 2120,
  er "WHOLE_FOUND" 3655 2121,
  er "TABLE_FOUND" 3660 2122,
  er "POLY_FOUND" 3667 2123,
  er "ROOT_FOUND" 3676 2124,
  er "found" 3685 2131,
  er "plain_divisor" 3697 2138,
  er "plain_power" 3707 2145,
  er "plain_whole" 3718 2152,
  er "plain_table" 3727 2159,
  er "plain_poly" 3735 2166,
  er "plain_prime" 3743 2173,
  er "plain_join" 3756 2180,
  er "plain_rest_power" 3768 2187,
  er "WHOLE_PLAIN" 3782 2188,
  er "TABLE_PLAIN" 3792 2189,
  er "POLY_PLAIN" 3801 2190,
  er "plain_value" 3810 2197,
  er "root_paper" 3828 2204,
  er "negated_paper" 3836 2211,
  er "order_paper" 3853 2218,
  er "sign_paper" 3863 2225,
  er "floor_paper" 3873 2232,
  er "binomials" 3879 2237,
  er "expanded" 3885 2242,
  er "scale_table" 3891 2247,
  er "divided_rows" 3897 2252,
  er "turned_table" 3903 2257]
def s441_e9 : List Ent := [er "frozen" 3909 2262,
  er "member_paper" 3915 2267,
  er "corner_pairs" 3929 2274,
  er "combined_paper" 3952 2281,
  er "count_paper" 3959 2288,
  er "factored_paper" 3969 2295,
  er "primality_paper" 3978 2302,
  er "whole_paper" 3987 2309,
  er "fraction_paper" 4001 2316,
  er "table_paper" 4018 2323,
  er "parts_paper" 4024 2328,
  er "root_claim_paper" 4035 2335,
  er "WHOLE_PAPERS" 4045 2336,
  er "FRACTION_PAPERS" 4054 2337,
  er "TABLE_PAPERS" 4060 2338,
  er "ROOT_PAPERS" 4069 2339,
  er "value_paper" 4079 2346,
  er "join_bar" 4087 2353,
  er "bar_paper" 4095 2360,
  er "is_so" 4103 2367,
  er "paper_of" 4110 2374,
  er "_law_cell" 4121 2381,
  er "_law_row" 4136 2388,
  er "_law_one" 4145 2395,
  er "_law_is_prime" 4153 2402,
  er "_law_primes" 4163 2409,
  er "_law_points" 4169 2414,
  er "_law_number" 4184 2421,
  er "_law_words" 4192 2428,
  er "_law_need" 4198 2433,
  er "_law_total" 4209 2440,
  er "_law_used" 4219 2447,
  er "_law_exact" 4225 2452,
  er "_law_hidden" 4231 2457,
  er "_law_drawn" 4237 2462,
  er "_law_terms" 4248 2469,
  er "_law_zero_due" 4254 2474,
  er "_law_near" 4266 2481,
  er "_law_fractions" 4278 2488,
  er "_law_is_truth" 4286 2495]
def s441_e10 : List Ent := [er "_law_call" 4292 2500,
  er "_law_state" 4301 2507,
  er "_law_faulty" 4307 2512,
  er "_law_bad" 4323 2519,
  er "_law_paper" 4331 2526,
  er "_law_claims" 4351 2533,
  er "law" 4366 2540]
def s441_m (P : Params) : Obj := oD P (s441_e0 ++ (s441_e1 ++ (s441_e2 ++ (s441_e3 ++ (s441_e4 ++ (s441_e5 ++ (s441_e6 ++ (s441_e7 ++ (s441_e8 ++ (s441_e9 ++ (s441_e10))))))))))) 407
noncomputable abbrev S441 (w : World) (os : OsState) : SharedT := stT (s441_o w.params) (some (s441_m w.params)) 2541 4367 w os
end K76

/-! ## HdP0 -/
namespace K76
open PySem PySem.W PySem.Calls PyProof.Rows HandSHeadRun L2
noncomputable def bootS (w : World) (os : OsState) : SharedT := stT [] none 11 boot_toks w os
theorem hpre (w : World) (os : OsState) : goG (stQ w) 11 annV 12 (bootS w os) (topStub P0) = some (S0 w os, ⟨denQ tabQ cE, cE, q0, [topFrame q0]⟩) := by
  kernel_rfl
theorem hblock (w : World) (os : OsState) : segRun treeTable P0 w 11 annV 1 1 (S0 w os).abs (blockOf bE envE cE q0 [topFrame q0]) = some (.next, (S0 w os).abs, cE, q0) := by
  kernel_rfl
end K76

/-! ## HdP150 -/
namespace K76
open PySem PySem.W PySem.Calls PyProof.Rows HandSHeadRun L2
def sts150 : List Stmt := (bE.drop 0).take 151
theorem hp150 (w : World) (os : OsState) : segF (stQ w) 11 annV 5364 (S0 w os) ⟨(Fast.tw12563942051412417395 sts150 envE).wrap doneF deadEnd id id, cE, q0, [topFrame q0]⟩ = some (.next, S150 w os, cE, ⟨1142, 0, 1143, 49⟩) := by
  kernel_rfl
end K76

/-! ## HdP260 -/
namespace K76
open PySem PySem.W PySem.Calls PyProof.Rows HandSHeadRun L2
def sts260 : List Stmt := (bE.drop 151).take 110
theorem hp260 (w : World) (os : OsState) : segF (stQ w) 11 annV 2992 (S150 w os) ⟨(Fast.tw12563942051412417395 sts260 envE).wrap doneF deadEnd id id, cE, ⟨1142, 0, 1143, 49⟩, [topFrame q0]⟩ = some (.next, S260 w os, cE, ⟨1764, 0, 1764, 12⟩) := by
  kernel_rfl
end K76

/-! ## HdP350 -/
namespace K76
open PySem PySem.W PySem.Calls PyProof.Rows HandSHeadRun L2
def sts350 : List Stmt := (bE.drop 261).take 90
theorem hp350 (w : World) (os : OsState) : segF (stQ w) 11 annV 2533 (S260 w os) ⟨(Fast.tw12563942051412417395 sts350 envE).wrap doneF deadEnd id id, cE, ⟨1764, 0, 1764, 12⟩, [topFrame q0]⟩ = some (.next, S350 w os, cE, ⟨2264, 0, 2266, 67⟩) := by
  kernel_rfl
end K76

/-! ## HdP441 -/
namespace K76
open PySem PySem.W PySem.Calls PyProof.Rows HandSHeadRun L2
def lastL : List Stmt := bE.drop 351
theorem hp441 (w : World) (os : OsState) : segF (stQ w) 11 annV 2571 (S350 w os) ⟨(Fast.tw12563942051412417395 lastL envE).wrap doneF deadEnd id id, cE, ⟨2264, 0, 2266, 67⟩, [topFrame q0]⟩ = some (.next, S441 w os, cE, ⟨3007, 0, 3020, 63⟩) := by
  kernel_rfl
end K76

/-! ## HdL -/
namespace K76
open PySem PySem.W PySem.Calls PyProof.Rows HandSHeadRun L2
theorem fin_run (w : World) (s : Shared) (pos : Pos) : topRun treeTable P0 w 11 annV 3 s ⟨doneF .next, cE, pos, [topFrame q0]⟩ = some s := by
  obtain ⟨h, g, d, t, o⟩ := s
  rfl
theorem execsQ_eq : @PySem.execs = Fast.tw12563942051412417395 := Fast.te12563942051412417395
theorem seg_of {w : World} {n : Nat} {s s' : SharedT} {l : List Stmt} {p p' : Pos} {c : Code}
    (h : segF (stQ w) 11 annV n s ⟨(Fast.tw12563942051412417395 l envE).wrap doneF deadEnd id id, cE, p, [topFrame q0]⟩ = some (.next, s', c, p')) :
    segRun treeTable P0 w 11 annV 1 n s.abs (piecesOf l envE cE p [topFrame q0]) = some (.next, s'.abs, c, p') := by
  rw [stQ_eq, ← execsQ_eq] at h
  exact segF_ok h
theorem body_eq : bE = sts150 ++ (sts260 ++ (sts350 ++ (lastL ++ []))) := by
  have a : bE = bE.take 151 ++ bE.drop 151 := (List.take_append_drop 151 bE).symm
  have b : bE.drop 151 = (bE.drop 151).take 110 ++ (bE.drop 151).drop 110 := (List.take_append_drop _ _).symm
  have c : bE.drop 261 = (bE.drop 261).take 90 ++ (bE.drop 261).drop 90 := (List.take_append_drop _ _).symm
  rw [List.drop_drop] at b c
  rw [List.append_nil]
  unfold sts150 sts260 sts350 lastL
  rw [List.drop_zero]
  rw [← show bE.drop 261 = (bE.drop 261).take 90 ++ bE.drop 351 from c, ← show bE.drop 151 = (bE.drop 151).take 110 ++ bE.drop 261 from b]
  exact a
theorem top_all {w : World} {os : OsState} {n : Nat} {s : SharedT} {p : Pos}
    (h : segF (stQ w) 11 annV n (S350 w os) ⟨(Fast.tw12563942051412417395 lastL envE).wrap doneF deadEnd id id, cE, ⟨2264, 0, 2266, 67⟩, [topFrame q0]⟩ = some (.next, s, cE, p)) :
    topRun treeTable P0 w 11 annV (12 + (1 + (5364 + (2992 + (2533 + (n + 3)))))) (bootS w os).abs (topStub P0) = some s.abs := by
  have g := hpre w os
  rw [stQ_eq] at g
  have g2 := goG_ok g
  refine go_top g2 ?_
  rw [← denQ_eq, ← tabQ_eq]
  refine piece_block (hblock w os) ?_
  show topRun treeTable P0 w 11 annV _ _ (restOf bE envE cE q0 [topFrame q0]) = _
  have e : restOf bE envE cE q0 [topFrame q0] = restOf (sts150 ++ (sts260 ++ (sts350 ++ (lastL ++ [])))) envE cE q0 [topFrame q0] := congrArg (fun l => restOf l envE cE q0 [topFrame q0]) body_eq
  rw [e]
  refine piece_app (seg_of (hp150 w os)) ?_
  refine piece_app (seg_of (hp260 w os)) ?_
  refine piece_app (seg_of (hp350 w os)) ?_
  refine piece_app (seg_of h) ?_
  exact piece_nil (fin_run w _ _)
abbrev mods : List PySem.Str := importedModules P0.main.body
theorem insL_of : ∀ {l : List Obj} {t t' : PySem.W.BT} {n n' : Nat}, putAll l t n = some (t', n') → insL n l t = t'
  | [], t, t', n, n', h => by
    cases h
    rfl
  | o :: r, t, t', n, n', h => by
    have h1 : (match ((t.ins n o).get n).isSome with
      | true => putAll r (t.ins n o) (n + 1)
      | false => none) = some (t', n') := h
    cases e : ((t.ins n o).get n).isSome with
    | false =>
      rw [e] at h1
      cases h1
    | true =>
      rw [e] at h1
      exact insL_of (l := r) h1
theorem boot_put (w : World) : (putAll (boot_heap w.params).objs.toList .nil 0).map (·.2) = some 11 := by kernel_rfl
theorem boot_abs (w : World) (os : OsState) : (bootS w os).abs = ⟨boot_heap w.params, Array.mk [], boot_drawn, boot_toks, os⟩ := by
  obtain ⟨⟨t, n⟩, e, e2⟩ := Option.map_eq_some_iff.mp (boot_put w)
  obtain rfl : n = 11 := e2
  have a := putAll_heap e
  have b := insL_of e
  show (⟨absHeap (insL 0 ((boot_heap w.params).objs.toList ++ []) .nil) 11 (boot_heap w.params).life, Array.mk [], boot_drawn, boot_toks, os⟩ : Shared) = _
  rw [List.append_nil, b, a]
theorem left_gen {p q : Program} {loose md : List PySem.Str} {X : Shared → Bool} {α : Type} {Yf : Shared → α} {Ya : World → α} {M N : Nat} (e1 : opening p = plainProg p.main.scope.names) (e2 : ∀ s, fenceModules? p s = some s) (hN : Nat.ble 600 N = true) (hM : M ≤ N) (hmd : md = importedModules p.main.body)
    (run : ∀ (w : World) (os : OsState), ∃ s : Shared, topRun treeTable p w (boot_heap w.params).objs.size ((boot_heap w.params).nsMap mainGlobals "__annotations__") M ⟨boot_heap w.params, Array.mk [], boot_drawn, boot_toks, os⟩ (topStub p) = some s ∧
      looksF p (boot_heap w.params) s = true ∧ seenQ q loose md X s = openGood q loose ∧ Yf s = Ya w) : LeftO p q loose X Yf Ya N true := fun w => by
  subst hmd
  obtain ⟨⟨h, gs, d, k, os⟩, a, b⟩ := Option.map_eq_some_iff.mp (boot_open (N := N) e1 hN e2 w)
  obtain ⟨rfl, rfl, rfl, rfl⟩ : h = boot_heap w.params ∧ gs = Array.mk [] ∧ d = boot_drawn ∧ k = boot_toks := by simpa using b
  obtain ⟨s, hs, l1, l2, l3⟩ := run w os
  have r := topRun_mono (N - M) _ _ _ _ hs
  rw [Nat.add_sub_cancel' hM] at r
  have t : topFrom treeTable p w N ⟨boot_heap w.params, Array.mk [], boot_drawn, boot_toks, os⟩ = some s := by
    unfold topFrom
    dsimp only
    rw [boot_ns, r]
    simp only [Option.bind_some]
    have l1' : (staticsOk (importedModules p.main.body) (boot_heap w.params) s.heap && namesBound p s.heap && gensDone s && laidKept (boot_heap w.params) s.heap) = true := l1
    rw [l1']
    all_goals rfl
  unfold openEnds
  rw [a]
  refine (congrArg (Option.map _) t).trans ?_
  refine congrArg some (Prod.ext ?_ ?_)
  · rw [← l2, ← seenQ_eq]
  · exact l3
theorem boot_size (w : World) : (boot_heap w.params).objs.size = 11 := by kernel_rfl
theorem boot_annV (w : World) : (boot_heap w.params).nsMap mainGlobals "__annotations__" = annV := by kernel_rfl
theorem open_eq : opening P0 = plainProg P0.main.scope.names := by kernel_rfl
theorem fence_eq (s : Shared) : fenceModules? P0 s = some s := by kernel_rfl
theorem mods_eq : ([] : List PySem.Str) = importedModules P0.main.body := by kernel_rfl
theorem left_all {q : Program} {loose : List PySem.Str} {H : Hook} {ob : SharedT → H.α} {n N : Nat} (hN : Nat.ble 600 N = true) (hn : 12 + (1 + (5364 + (2992 + (2533 + (n + 3))))) ≤ N) (ho : ∀ s : SharedT, ob s = H.obs s.abs)
    (last : ∀ (w : World) (os : OsState), ∃ (s : SharedT) (p : Pos), segF (stQ w) 11 annV n (S350 w os) ⟨(Fast.tw12563942051412417395 lastL envE).wrap doneF deadEnd id id, cE, ⟨2264, 0, 2266, 67⟩, [topFrame q0]⟩ = some (.next, s, cE, p) ∧
      (looksF P0 (boot_heap w.params) s.abs, seenQ q loose [] (fun s => xlAt q [] s && recOk R.toRowW.records s) s.abs, ob s) = (true, openGood q loose, H.val w)) :
    LeftO P0 q loose (fun s => xlAt q [] s && recOk R.toRowW.records s) H.obs H.val N true :=
  left_gen open_eq fence_eq hN hn mods_eq fun w os => by
    obtain ⟨s, p, hs, hv⟩ := last w os
    obtain ⟨l1, l2, l3⟩ : _ ∧ _ ∧ _ := by simpa only [Prod.mk.injEq] using hv
    have r := top_all hs
    rw [boot_abs] at r
    refine ⟨s.abs, ?_, l1, l2, ?_⟩
    · rw [boot_size, boot_annV]
      exact r
    · rw [← l3, ho]
end K76

/-! ## HdK1 -/
namespace K76
open PySem PySem.W PySem.Calls PyProof.Rows HandSHeadRun L2
def ks441 : List Str := (s441_e0 ++ (s441_e1 ++ (s441_e2 ++ (s441_e3 ++ (s441_e4 ++ (s441_e5 ++ (s441_e6 ++ (s441_e7 ++ (s441_e8 ++ (s441_e9 ++ (s441_e10))))))))))).map Ent.x
/-- the names that the top has bound are those of the text's own table, in its order -/
theorem ks_cut : ks441 = ks441.take 9 ++ P0.boundNames.drop 1 := by
  kernel_rfl
theorem ks_nine : (ks441.take 9).all startupNames.contains = true := by
  kernel_rfl
theorem ks_keys (w : World) (os : OsState) : (S441 w os).abs.heap.nsKeys mainGlobals = ks441 := by
  kernel_rfl
theorem ks_ns (w : World) (os : OsState) : (S441 w os).abs.heap.isNs mainGlobals = true := by
  kernel_rfl
theorem lk1b (w : World) (os : OsState) : namesBound P0 (S441 w os).abs.heap = true := by
  unfold namesBound
  rw [ks_ns, ks_keys, Bool.true_and, List.all_eq_true]
  intro k hk
  rw [ks_cut] at hk
  rw [Bool.or_eq_true]
  rcases List.mem_append.mp hk with h | h
  · exact .inl (List.all_eq_true.mp ks_nine k h)
  · exact .inr (List.contains_iff_mem.mpr (List.mem_of_mem_drop h))
theorem lk1a (w : World) (os : OsState) : staticsOk (importedModules P0.main.body) (boot_heap w.params) (S441 w os).abs.heap = true := by
  kernel_rfl
theorem lk1c (w : World) (os : OsState) : gensDone (S441 w os).abs = true := by
  kernel_rfl
theorem lk1d (w : World) (os : OsState) : laidKept (boot_heap w.params) (S441 w os).abs.heap = true := by
  kernel_rfl
theorem lk1 (w : World) (os : OsState) : looksF P0 (boot_heap w.params) (S441 w os).abs = true := by
  show (staticsOk (importedModules P0.main.body) (boot_heap w.params) (S441 w os).abs.heap && namesBound P0 (S441 w os).abs.heap && gensDone (S441 w os).abs && laidKept (boot_heap w.params) (S441 w os).abs.heap) = true
  rw [lk1a, lk1b, lk1c, lk1d]
  rfl
end K76

/-! ## HdK2 -/
namespace K76
open PySem PySem.W PySem.Calls PyProof.Rows HandSHeadRun L2
abbrev qv : Program := view R.prog [441]
def nm0 : List PySem.Str := ["SpireError", "NotSo", "is_whole", "bits_of", "words_of", "is_word_prime", "weight_of", "are_good_points", "used_points", "need_of", "trimmed", "product_words", "Judge", "is_parts", "is_numbers", "is_row", "is_rows", "are_rows", "is_poly_form", "is_point", "is_ascending", "is_lowest", "takes_sum", "takes_over", "takes_floor", "takes_order", "is_wide", "takes_again", "takes_fraction", "bars_rows"]
def nm1 : List PySem.Str := ["bars_again", "bars_fraction", "choices", "subsets", "half_choices", "reduced_mod", "inverse_mod", "monic_mod", "difference_mod", "product_mod", "division_mod", "rest_mod", "divisor_mod", "bezout_mod", "derivative_mod", "power_mod", "is_squarefree_mod", "irreducible_mod", "product_terms", "own_terms", "is_product", "is_multiple", "is_poly_sum", "MOST_PRIME", "MOST_COUNT", "MOST_FACTORS", "is_mixed", "is_small_prime", "rests_of", "is_irreducible_rest"]
def nm2 : List PySem.Str := ["chain_end", "takes_whole_chain", "takes_refusal", "are_factors", "is_roomy", "takes_lifted", "takes_irreducible", "takes_sums", "takes_slope", "value_terms", "takes_value", "takes_value_judgepoly", "takes_fraction_value", "takes_common", "are_in_order", "unlike_polys", "takes_factored", "takes_part", "takes_poly", "bars_poly", "sign_by", "changes_by", "takes_step", "is_chain_form", "takes_chain", "are_values", "changes_low", "changes_high", "roots_by", "counts_well"]
def nm3 : List PySem.Str := ["is_span", "has_one", "takes_place", "takes_ends", "binomial_row", "combined_terms", "first_terms", "second_terms", "longest_line", "is_member", "is_sum_of_ends", "is_corner", "are_corners", "is_covered", "takes_combined", "roots_ahead", "takes_count", "takes_root", "takes_negated", "is_order", "takes_root_order", "takes_sign", "roots_below", "takes_root_floor", "takes_lifted_root", "takes_any_root", "bars_root", "entry_terms", "column_at", "has_sides"]
def nm4 : List PySem.Str := ["takes_entries", "takes_product", "minor_terms", "takes_determinant", "is_diagonal", "is_combination", "takes_rank", "is_solution", "is_bar", "are_pivots", "takes_solution", "takes_solve", "takes_solvable", "takes_table", "bars_table", "digits_of", "power_steps", "power_rest", "takes_steps", "unlike_primes", "is_ascending_row", "takes_factors", "takes_exponents", "takes_prime", "repeated", "takes_ring", "takes_division", "takes_divisor", "takes_power", "takes_parts"]
def nm5 : List PySem.Str := ["takes_join", "takes_primality", "takes_truth", "RING", "TRUTHS", "takes_whole", "bars_join", "bars_whole", "WHOLE_RULES", "FRACTION_RULES", "TABLE_RULES", "POLY_RULES", "ROOT_RULES", "WHOLE_BARRED", "FRACTION_BARRED", "takes_value_judging", "takes_none", "takes", "straight_sum", "divisor_of", "divisor_of_all", "mix_of", "divisor_paper", "lowest", "sum_of_fractions", "difference_of_fractions", "product_of_fractions", "quotient_of_fractions", "negative_of_fraction", "is_below"]
def nm6 : List PySem.Str := ["is_at_most", "floor_of_fraction", "least_of", "greatest_of", "again_rows", "is_searched", "found_pair", "found_again", "again_paper", "barring_paper", "coefficient", "sum_of_polys", "difference_of_polys", "negative_poly", "product_of_polys", "scaled_poly", "derivative", "value_of", "top_value", "content", "primitive", "exact_quotient", "pseudo_division", "height", "mirrored", "product_of_all", "lift_bound", "lift_count", "cofactor_inverses", "raised"]
def nm7 : List PySem.Str := ["lifted_factors", "centered", "power_number", "power_table", "kernel_rows", "split_once", "factors_mod", "divided_by", "next_row", "straight_poly_sum", "common_divisor", "common_paper", "squarefree_part", "prime_factors", "is_prime", "unlike_ones", "generator_of", "prime_paper", "factor_papers", "nontrivial_divisor", "TRIED_PRIMES", "next_prime", "is_good_prime", "good_primes", "best_split", "candidate_of", "found_factor", "irreducible_factors", "part_order", "factor_poly"]
def nm8 : List PySem.Str := ["reduced_pair", "product_chain", "whole_chain", "refusal", "irreducible_paper", "join_two", "join_paper", "minors_by_columns", "minors_of", "chain_of", "sign_of_number", "changes_in", "chain_values", "changes_at", "changes_above", "changes_below", "count_all", "count_between", "root_bound", "middle", "spans_by", "halved_by", "above", "clear_span", "place_by", "place_of", "parted", "parted_spans", "compare", "sign_span"]
def nm9 : List PySem.Str := ["is_zero_at", "sign_of", "is_floor", "floor_of", "is_less", "part_with_root", "root_count", "root_with_span", "root_of", "root_of_fraction", "negated", "monic_scaled", "power_sums", "from_power_sums", "sums_of_sums", "unscaled", "sum_poly", "product_poly", "sum_span", "product_span", "combined_roots", "sum_of", "product_of", "column_of", "turned", "part_of", "table_of", "combined", "negative_table", "dot"]
def nm10 : List PySem.Str := ["product_of_tables", "determinant", "plain_rank", "fraction_rows", "unit_rows", "scaled", "reduced", "pivot_row", "echelon", "common_scale", "whole_row", "dot_fraction", "barring_row", "solution", "column_sums", "solution_mix", "rank_paper", "rank_of", "found_whole", "found_fraction", "fraction_value", "found_table", "found_poly", "found_root", "WHOLE_FOUND", "TABLE_FOUND", "POLY_FOUND", "ROOT_FOUND", "found", "plain_divisor"]
def nm11 : List PySem.Str := ["plain_power", "plain_whole", "plain_table", "plain_poly", "plain_prime", "plain_join", "plain_rest_power", "WHOLE_PLAIN", "TABLE_PLAIN", "POLY_PLAIN", "plain_value", "root_paper", "negated_paper", "order_paper", "sign_paper", "floor_paper", "binomials", "expanded", "scale_table", "divided_rows", "turned_table", "frozen", "member_paper", "corner_pairs", "combined_paper", "count_paper", "factored_paper", "primality_paper", "whole_paper", "fraction_paper"]
def nm12 : List PySem.Str := ["table_paper", "parts_paper", "root_claim_paper", "WHOLE_PAPERS", "FRACTION_PAPERS", "TABLE_PAPERS", "ROOT_PAPERS", "value_paper", "join_bar", "bar_paper", "is_so", "paper_of", "_law_cell", "_law_row", "_law_one", "_law_is_prime", "_law_primes", "_law_points", "_law_number", "_law_words", "_law_need", "_law_total", "_law_used", "_law_exact", "_law_hidden", "_law_drawn", "_law_terms", "_law_zero_due", "_law_near", "_law_fractions"]
def nm13 : List PySem.Str := ["_law_is_truth", "_law_call", "_law_state", "_law_faulty", "_law_bad", "_law_paper", "_law_claims"]
def names : List PySem.Str := nm0 ++ nm1 ++ nm2 ++ nm3 ++ nm4 ++ nm5 ++ nm6 ++ nm7 ++ nm8 ++ nm9 ++ nm10 ++ nm11 ++ nm12 ++ nm13

theorem lk2 (w : World) (os : OsState) : seenQ qv names [] (fun s => xlAt qv [] s && recOk R.toRowW.records s) (S441 w os).abs = openGood qv names := by
  kernel_rfl
end K76

/-! ## HdW -/
/-! the looks at the statement itself, the heaviest of them in parts (one lemma of it all wants more memory than the lid) -/
namespace K76
open PySem PySem.W PySem.Calls PyProof.Rows
theorem noRoad_app (lk : Look) : ∀ a b : List Stmt, noRoadLSs lk (a ++ b) = (noRoadLSs lk a && noRoadLSs lk b)
  | [], b => by
    show noRoadLSs lk b = (true && noRoadLSs lk b)
    rw [Bool.true_and]
  | s :: a, b => by
    show (noRoadLS lk s && noRoadLSs lk (a ++ b)) = (noRoadLS lk s && noRoadLSs lk a && noRoadLSs lk b)
    rw [noRoad_app lk a b, Bool.and_assoc]
theorem noRoad_cut {lk : Look} {l : List Stmt} (n : Nat) (h1 : noRoadLSs lk (l.take n) = true) (h2 : noRoadLSs lk (l.drop n) = true) : noRoadLSs lk l = true := by
  have e : l = l.take n ++ l.drop n := (List.take_append_drop n l).symm
  rw [e, noRoad_app, h1, h2]
  rfl
theorem out1 : (!readsOut R.prog R.prog.main.body "vars") = true := by k_qdec
theorem out2 : (!readsOut R.prog R.prog.main.body "dir") = true := by k_qdec
theorem out3 : (!readsOut R.prog R.prog.main.body "locals") = true := by k_qdec
theorem no_bare : (["vars", "dir", "locals"] : List Str).filter (readsOut R.prog R.prog.main.body) = [] := by
  rw [List.filter_cons_of_neg (by simpa using out1), List.filter_cons_of_neg (by simpa using out2), List.filter_cons_of_neg (by simpa using out3)]
  rfl
theorem road1 : noRoadLSs { strict := !(importedModules R.prog.main.body).all cThrough.contains, foot := none, bare := [] } (R.prog.main.body.take 200) = true := by k_qdec
theorem road2 : noRoadLSs { strict := !(importedModules R.prog.main.body).all cThrough.contains, foot := none, bare := [] } (R.prog.main.body.drop 200) = true := by k_qdec
theorem no_road : noRoadLSs { strict := !(importedModules R.prog.main.body).all cThrough.contains, foot := none, bare := (["vars", "dir", "locals"] : List Str).filter (readsOut R.prog R.prog.main.body) } R.prog.main.body = true := by
  rw [no_bare]
  exact noRoad_cut 200 road1 road2
theorem well_said : PySem.Challenge.rw_swornspire_k76_judge_zero_less_rest.wellSaid = true := by
  unfold OpenLaw.wellSaid OpenRow.wellSaid OpenRow.partSaid looksOpen
  repeat' (first | with_reducible exact no_road | with_reducible refine look_both ?_ ?_)
  all_goals first | k_qdec | rfl | decide +kernel
end K76

/-! ## HdT -/
/-! the program's name tables are whole: in parts -/
namespace K76
open PySem PySem.W PySem.Calls PyProof.Rows
abbrev rowA : OpenLaw := PySem.Challenge.rw_swornspire_k76_judge_zero_less_rest
/-- as the library's own two, the comparisons in sight -/
def holdsQ : TablesWhole.Alg Bool := ⟨fun sc n _ => (sc.names.lookup n).isSome, fun _ _ _ ok => ok, fun _ => true, true, false, fun a b => a && b⟩
def gatherQ : TablesWhole.Alg (List Str) := ⟨fun _ _ _ => [], fun w sc n _ => if (w == "(told, not asked) a walrus through a comprehension binds it in the holder" && sc.kind == .module) || w == "declared global here: 'globalExplicit'" then [n] else [], fun _ => [], [], [], fun a b => a ++ b⟩
theorem wSs_holds {top sc : Scope} {cx : TablesWhole.Ctx} : ∀ a b : List Stmt, TablesWhole.wSs holdsQ top cx sc (a ++ b) = (TablesWhole.wSs holdsQ top cx sc a && TablesWhole.wSs holdsQ top cx sc b)
  | [], b => by
    show _ = (true && TablesWhole.wSs holdsQ top cx sc b)
    rw [Bool.true_and]
    rfl
  | s :: a, b => by
    show (TablesWhole.wS holdsQ top cx sc s && TablesWhole.wSs holdsQ top cx sc (a ++ b)) = (TablesWhole.wS holdsQ top cx sc s && TablesWhole.wSs holdsQ top cx sc a && TablesWhole.wSs holdsQ top cx sc b)
    rw [wSs_holds a b, Bool.and_assoc]
theorem wSs_gather {top sc : Scope} {cx : TablesWhole.Ctx} : ∀ a b : List Stmt, TablesWhole.wSs gatherQ top cx sc (a ++ b) = TablesWhole.wSs gatherQ top cx sc a ++ TablesWhole.wSs gatherQ top cx sc b
  | [], b => rfl
  | s :: a, b => by
    show TablesWhole.wS gatherQ top cx sc s ++ TablesWhole.wSs gatherQ top cx sc (a ++ b) = (TablesWhole.wS gatherQ top cx sc s ++ TablesWhole.wSs gatherQ top cx sc a) ++ TablesWhole.wSs gatherQ top cx sc b
    rw [wSs_gather a b, List.append_assoc]
theorem module_of {m : Module} (n : Nat) (h0 : TablesWhole.noTwice m.scope = true) (g1 : (TablesWhole.wSs gatherQ m.scope ⟨m.scope, [], [], [], none⟩ m.scope (m.body.take n)).isEmpty = true) (g2 : (TablesWhole.wSs gatherQ m.scope ⟨m.scope, [], [], [], none⟩ m.scope (m.body.drop n)).isEmpty = true)
    (h1 : TablesWhole.wSs holdsQ m.scope ⟨m.scope, [], [], [], none⟩ m.scope (m.body.take n) = true) (h2 : TablesWhole.wSs holdsQ m.scope ⟨m.scope, [], [], [], none⟩ m.scope (m.body.drop n) = true) : TablesWhole.wModule TablesWhole.holds m = true := by
  have e : m.body = m.body.take n ++ m.body.drop n := (List.take_append_drop n m.body).symm
  have hg : TablesWhole.wSs TablesWhole.gather m.scope ⟨m.scope, [], [], [], none⟩ m.scope m.body = [] := by
    show TablesWhole.wSs gatherQ m.scope ⟨m.scope, [], [], [], none⟩ m.scope m.body = []
    rw [e, wSs_gather, List.isEmpty_iff.mp g1, List.isEmpty_iff.mp g2]
    rfl
  have hh : TablesWhole.wSs TablesWhole.holds m.scope ⟨m.scope, [], [], [], none⟩ m.scope m.body = true := by
    show TablesWhole.wSs holdsQ m.scope ⟨m.scope, [], [], [], none⟩ m.scope m.body = true
    rw [e, wSs_holds, h1, h2]
    rfl
  show (true && (TablesWhole.noTwice m.scope && (TablesWhole.wSs TablesWhole.holds m.scope ⟨m.scope, [], TablesWhole.wSs TablesWhole.gather m.scope ⟨m.scope, [], [], [], none⟩ m.scope m.body, [], none⟩ m.scope m.body && true))) = true
  rw [hg, h0, hh]
  rfl
theorem whole_of {p : Program} (h1 : TablesWhole.wModule TablesWhole.holds p.main = true) (h2 : p.modules = []) (h3 : p.parses = []) (h4 : p.harvested = []) : p.tablesWhole = true := by
  show TablesWhole.wProgram TablesWhole.holds p = true
  unfold TablesWhole.wProgram
  rw [h2, h3, h4]
  show (TablesWhole.wModule TablesWhole.holds p.main && (true && (true && (true && true)))) = true
  rw [h1]
  rfl
theorem tw0 : TablesWhole.noTwice rowA.prog.main.scope = true := by k_qdec
theorem tg1 : (TablesWhole.wSs gatherQ rowA.prog.main.scope ⟨rowA.prog.main.scope, [], [], [], none⟩ rowA.prog.main.scope (rowA.prog.main.body.take 200)).isEmpty = true := by k_qdec
theorem tg2 : (TablesWhole.wSs gatherQ rowA.prog.main.scope ⟨rowA.prog.main.scope, [], [], [], none⟩ rowA.prog.main.scope (rowA.prog.main.body.drop 200)).isEmpty = true := by k_qdec
theorem th1 : TablesWhole.wSs holdsQ rowA.prog.main.scope ⟨rowA.prog.main.scope, [], [], [], none⟩ rowA.prog.main.scope (rowA.prog.main.body.take 200) = true := by k_qdec
theorem th2 : TablesWhole.wSs holdsQ rowA.prog.main.scope ⟨rowA.prog.main.scope, [], [], [], none⟩ rowA.prog.main.scope (rowA.prog.main.body.drop 200) = true := by k_qdec
theorem whole_is : R.prog.tablesWhole = true := whole_of (module_of 200 tw0 tg1 tg2 th1 th2) rfl rfl rfl
end K76

/-! ## HdV -/
namespace K76
open PySem PySem.W PySem.Calls PyProof.Rows HandSHeadRun L2
theorem ok_chains : chainsOk qv = true := by kernel_rfl
theorem ok_opens : opensWell R.prog = true := by kernel_rfl
theorem ok_frees : (frees R.toRowW && R.within.isEmpty) = true := by kernel_rfl
theorem def_is : defOf qv R.name = some (topDef R.prog 441, []) := by kernel_rfl
theorem the_is : R.prog.theDef R.name = some ((topDef R.prog 441).params, (topDef R.prog 441).body, (topDef R.prog 441).scope) := by kernel_rfl
theorem kw_is : kwWritten? (topDef R.prog 441).params.kwonlyargs (topDef R.prog 441).params.kw_defaults = some [] := by kernel_rfl
theorem wr_is : (!R.writes || R.records.isEmpty) = true := by kernel_rfl
theorem df_is : (topDef R.prog 441).params.defaults = [] := by kernel_rfl
theorem nm_is : (topDef R.prog 441).name = ("law" : PySem.Str) := by kernel_rfl
theorem bare_is : R.prog.bare := ⟨rfl, rfl, rfl, rfl, rfl, whole_is⟩
theorem said_all : (chainsOk qv && opensWell R.prog && (frees R.toRowW && R.within.isEmpty)) = true := by
  rw [ok_chains, ok_opens, ok_frees]
  rfl
end K76

/-! ## ZA -/
namespace K76
open PySem PySem.W PyProof.Rows L2 Evl
/-- data as the program builds it: scalars, tuples, lists, the script, an object told by its address -/
inductive Z where
  | non | bl (b : Bool) | int (i : Int) | str (x : Str) | tup (xs : List Z) | lst (xs : List Z) | scr (xs : List Int) | ref (a : Addr)
mutual
inductive Dz (K : PySem.W.Frag) (H : Hp) : V → Z → Prop
  | non : Dz K H .non .non
  | bl (b : Bool) : Dz K H (.bl b) (.bl b)
  | int (i : Int) : Dz K H (.int i) (.int i)
  | str (x : Str) : Dz K H (.str x) (.str x)
  | tup {a : Addr} {vs : List V} {zs : List Z} : SqT K H a vs → DzA K H vs zs → Dz K H (.ref a) (.tup zs)
  | lst {a : Addr} {vs : List V} {zs : List Z} : H a = some (.lst vs) → DzA K H vs zs → Dz K H (.ref a) (.lst zs)
  | scr {a : Addr} {xs : List Int} : SqL K H a (xs.map V.int) → Dz K H (.ref a) (.scr xs)
  | ref (a : Addr) : Dz K H (.ref a) (.ref a)
inductive DzA (K : PySem.W.Frag) (H : Hp) : List V → List Z → Prop
  | nil : DzA K H [] []
  | cons {v : V} {z : Z} {vs : List V} {zs : List Z} : Dz K H v z → DzA K H vs zs → DzA K H (v :: vs) (z :: zs)
end
section
variable {K : PySem.W.Frag} {H H' : Hp}
mutual
theorem Dz.mono (e : Ex H H') : ∀ {v : V} {z : Z}, Dz K H v z → Dz K H' v z
  | _, _, .non => .non
  | _, _, .bl b => .bl b
  | _, _, .int i => .int i
  | _, _, .str x => .str x
  | _, _, .tup h r => .tup (ex_t e h) (DzA.mono e r)
  | _, _, .lst h r => .lst (e _ _ h) (DzA.mono e r)
  | _, _, .scr h => .scr (ex_l e h)
  | _, _, .ref a => .ref a
theorem DzA.mono (e : Ex H H') : ∀ {vs : List V} {zs : List Z}, DzA K H vs zs → DzA K H' vs zs
  | _, _, .nil => .nil
  | _, _, .cons h r => .cons (Dz.mono e h) (DzA.mono e r)
end
theorem DzA.len : ∀ {vs : List V} {zs : List Z}, DzA K H vs zs → vs.length = zs.length
  | _, _, .nil => rfl
  | _, _, .cons _ r => congrArg (· + 1) r.len
theorem DzA.get : ∀ {vs : List V} {zs : List Z} {i : Nat} {z : Z}, DzA K H vs zs → zs[i]? = some z → ∃ v, vs[i]? = some v ∧ Dz K H v z
  | _, _, _, _, .nil, h => by cases h
  | _, _, 0, z, .cons (v := v) (z := z') h r, e => by
    have : z' = z := by simpa using e
    exact ⟨v, rfl, this ▸ h⟩
  | _, _, i + 1, z, .cons h r, e => by
    obtain ⟨v, h1, h2⟩ := r.get (i := i) (z := z) (by simpa using e)
    exact ⟨v, by simpa using h1, h2⟩
theorem DzA.get' : ∀ {vs : List V} {zs : List Z} {i : Nat} {v : V}, DzA K H vs zs → vs[i]? = some v → ∃ z, zs[i]? = some z ∧ Dz K H v z
  | _, _, _, _, .nil, h => by cases h
  | _, _, 0, v, .cons (v := v') (z := z) h r, e => by
    have : v' = v := by simpa using e
    exact ⟨z, rfl, this ▸ h⟩
  | _, _, i + 1, v, .cons h r, e => by
    obtain ⟨z, h1, h2⟩ := r.get' (i := i) (v := v) (by simpa using e)
    exact ⟨z, by simpa using h1, h2⟩
theorem DzA.app : ∀ {vs us : List V} {zs ys : List Z}, DzA K H vs zs → DzA K H us ys → DzA K H (vs ++ us) (zs ++ ys)
  | _, _, _, _, .nil, k => k
  | _, _, _, _, .cons h r, k => .cons h (r.app k)
theorem DzA.take : ∀ {vs : List V} {zs : List Z} (n : Nat), DzA K H vs zs → DzA K H (vs.take n) (zs.take n)
  | _, _, n, .nil => by
    rw [List.take_nil, List.take_nil]
    exact .nil
  | _, _, 0, .cons h r => .nil
  | _, _, n + 1, .cons h r => .cons h (r.take n)
theorem DzA.drop : ∀ {vs : List V} {zs : List Z} (n : Nat), DzA K H vs zs → DzA K H (vs.drop n) (zs.drop n)
  | _, _, n, .nil => by
    rw [List.drop_nil, List.drop_nil]
    exact .nil
  | _, _, 0, .cons h r => .cons h r
  | _, _, n + 1, .cons h r => r.drop n
theorem DzA.rev : ∀ {vs : List V} {zs : List Z}, DzA K H vs zs → DzA K H vs.reverse zs.reverse
  | _, _, .nil => .nil
  | _, _, .cons h r => by
    rw [List.reverse_cons, List.reverse_cons]
    exact r.rev.app (.cons h .nil)
theorem DzA.set : ∀ {vs : List V} {zs : List Z} {v : V} {z : Z} (i : Nat), DzA K H vs zs → Dz K H v z → DzA K H (vs.set i v) (zs.set i z)
  | _, _, _, _, _, .nil, _ => .nil
  | _, _, _, _, 0, .cons _ r, k => .cons k r
  | _, _, _, _, i + 1, .cons h r, k => .cons h (r.set i k)
theorem DzA.rep {v : V} {z : Z} (h : Dz K H v z) : ∀ n : Nat, DzA K H (List.replicate n v) (List.replicate n z)
  | 0 => .nil
  | n + 1 => .cons h (DzA.rep h n)
theorem DzA.ints : ∀ {vs : List V} {ns : List Int}, DzA K H vs (ns.map Z.int) → vs = ns.map V.int
  | _, [], .nil => rfl
  | _, n :: ns, .cons h r => by
    cases h
    rw [r.ints]
    rfl
theorem DzA.ofInts : ∀ ns : List Int, DzA K H (ns.map V.int) (ns.map Z.int)
  | [] => .nil
  | n :: ns => .cons (.int n) (DzA.ofInts ns)
end

/-- an object that may still change -/
inductive OZ where
  | lst (xs : List Z) | ins (C dx : Addr) (fs : List (Str × Z))
abbrev RR := List (Option Z)
abbrev OO := List (Addr × OZ)
def OzOk (K : PySem.W.Frag) (Hb : Hp) : HO → OZ → Prop
  | h, .lst zs => ∃ vs, h = .lst vs ∧ DzA K Hb vs zs
  | h, .ins C dx fs => ∃ gs : List (Str × V), h = .ins C dx gs ∧ gs.map Prod.fst = fs.map Prod.fst ∧ DzA K Hb (gs.map Prod.snd) (fs.map Prod.snd)
theorem OzOk.mono {K : PySem.W.Frag} {H H' : Hp} (e : Ex H H') : ∀ {h : HO} {c : OZ}, OzOk K H h c → OzOk K H' h c
  | _, .lst _, ⟨vs, a, b⟩ => ⟨vs, a, b.mono e⟩
  | _, .ins _ _ _, ⟨gs, a, b, d⟩ => ⟨gs, a, b, d.mono e⟩
/-- the heap H: the still part Hb, the changing part O (O0: what of it is not ours) -/
structure Lay (Hb O H : Hp) : Prop where
  bh : Ex Hb H
  oh : Ex O H
  dis : ∀ a o, O a = some o → Hb a = none
theorem Lay.new {Hb O H : Hp} {p : Addr} {u : HO} (l : Lay Hb O H) (h : H p = none) : Ex Hb (upd Hb p u) ∧ Lay (upd Hb p u) O (upd H p u) := by
  have hb : Hb p = none := fresh_back l.bh h
  have ho : O p = none := fresh_back l.oh h
  refine ⟨Ex.new hb, fun a o e => ?_, l.oh.trans (Ex.new h), fun a o e => ?_⟩
  · by_cases c : a = p
    · subst c
      rw [upd_same] at e ⊢
      exact e
    · rw [upd_ne c] at e ⊢
      exact l.bh a o e
  · rw [upd_ne (ne_of_none e ho)]
    exact l.dis a o e
theorem Lay.newO {Hb O H : Hp} {p : Addr} {u : HO} (l : Lay Hb O H) (h : H p = none) : Ex O (upd O p u) ∧ Lay Hb (upd O p u) (upd H p u) := by
  have hb : Hb p = none := fresh_back l.bh h
  have ho : O p = none := fresh_back l.oh h
  refine ⟨Ex.new ho, l.bh.trans (Ex.new h), fun a o e => ?_, fun a o e => ?_⟩
  · by_cases c : a = p
    · subst c
      rw [upd_same] at e ⊢
      exact e
    · rw [upd_ne c] at e ⊢
      exact l.oh a o e
  · by_cases c : a = p
    · subst c
      exact hb
    · rw [upd_ne c] at e
      exact l.dis a o e
structure SR (K : PySem.W.Frag) (Hb0 O0 : Hp) (r : RR) (o : OO) (σ : L2.St) (Hb O H : Hp) : Prop where
  lay : Lay Hb O H
  b0 : Ex Hb0 Hb
  o0 : Ex O0 O
  len : σ.length = r.length
  sl : ∀ (i : Nat) (z : Z), r[i]? = some (some z) → ∃ v, σ[i]? = some (some v) ∧ Dz K Hb v z
  ow : ∀ (i : Nat) (a : Addr) (c : OZ), o[i]? = some (a, c) → O0 a = none ∧ ∃ h, O a = some h ∧ OzOk K Hb h c
  nd : (o.map Prod.fst).Nodup
theorem SR.grow {K : PySem.W.Frag} {Hb0 O0 : Hp} {r : RR} {o : OO} {σ : L2.St} {Hb O H Hb' H' : Hp} (S : SR K Hb0 O0 r o σ Hb O H) (e : Ex Hb Hb') (l : Lay Hb' O H') : SR K Hb0 O0 r o σ Hb' O H' :=
  ⟨l, S.b0.trans e, S.o0, S.len, fun i z h => let ⟨v, a, b⟩ := S.sl i z h; ⟨v, a, b.mono e⟩, fun i a c h => let ⟨x, u, y, w⟩ := S.ow i a c h; ⟨x, u, y, w.mono e⟩, S.nd⟩
/-- a slot is given -/
theorem SR.put {K : PySem.W.Frag} {Hb0 O0 : Hp} {r : RR} {o : OO} {σ : L2.St} {Hb O H : Hp} (S : SR K Hb0 O0 r o σ Hb O H) {v : V} {z : Z} (d : Dz K Hb v z) (i : Nat) : SR K Hb0 O0 (r.set i (some z)) o (σ.set i (some v)) Hb O H :=
  ⟨S.lay, S.b0, S.o0, by rw [List.length_set, List.length_set, S.len], fun j y h => by
    by_cases c : i = j
    · subst c
      by_cases k : i < r.length
      · rw [List.getElem?_set_self k] at h
        cases h
        exact ⟨v, List.getElem?_set_self (by rw [S.len]; exact k), d⟩
      · rw [List.getElem?_eq_none (by rw [List.length_set]; omega)] at h
        cases h
    · rw [List.getElem?_set_ne c] at h
      rw [List.getElem?_set_ne c]
      exact S.sl j y h, S.ow, S.nd⟩
theorem SR.wipe1 {K : PySem.W.Frag} {Hb0 O0 : Hp} {r : RR} {o : OO} {σ : L2.St} {Hb O H : Hp} (S : SR K Hb0 O0 r o σ Hb O H) {v : V} {z : Z} (d : Dz K Hb v z) (i : Nat) : SR K Hb0 O0 (r.set i (some z)) o ((wipe σ [i]).set i (some v)) Hb O H := by
  have e : (wipe σ [i]).set i (some v) = σ.set i (some v) := by
    show (σ.set i none).set i (some v) = σ.set i (some v)
    rw [List.set_set]
  rw [e]
  exact S.put d i

/-! ### what holds of an expression, a test, arguments, a walk, a statement -/
def WE (K : PySem.W.Frag) (te : TE) (r : RR) (o : OO) (P : Z → OO → Prop) : Prop := ∀ Hb0 O0 σ Hb O H, SR K Hb0 O0 r o σ Hb O H → ∀ Q : VK,
  (∀ v z o' Hb' O' H', Ex Hb Hb' → SR K Hb0 O0 r o' σ Hb' O' H' → Dz K Hb' v z → P z o' → Q v H') → te σ H Q
def WT (K : PySem.W.Frag) (tt : TT) (r : RR) (o : OO) (P : Bool → OO → Prop) : Prop := ∀ Hb0 O0 σ Hb O H, SR K Hb0 O0 r o σ Hb O H → ∀ Q : Bool → Hp → Prop,
  (∀ b o' Hb' O' H', Ex Hb Hb' → SR K Hb0 O0 r o' σ Hb' O' H' → P b o' → Q b H') → tt σ H Q
def WA (K : PySem.W.Frag) (ta : TA) (r : RR) (o : OO) (P : List Z → OO → Prop) : Prop := ∀ Hb0 O0 σ Hb O H, SR K Hb0 O0 r o σ Hb O H → ∀ Q : List V → Hp → Prop,
  (∀ vs zs o' Hb' O' H', Ex Hb Hb' → SR K Hb0 O0 r o' σ Hb' O' H' → DzA K Hb' vs zs → P zs o' → Q vs H') → ta σ H Q
/-- an operation on two values -/
def ZO (K : PySem.W.Frag) (f : R2) (x y : Z) (r : RR) (o : OO) (P : Z → OO → Prop) : Prop := ∀ Hb0 O0 σ Hb O H, SR K Hb0 O0 r o σ Hb O H → ∀ vx vy, Dz K Hb vx x → Dz K Hb vy y → ∀ Q : VK,
  (∀ v z o' Hb' O' H', Ex Hb Hb' → SR K Hb0 O0 r o' σ Hb' O' H' → Dz K Hb' v z → P z o' → Q v H') → f vx vy H Q
/-- a built-in called with values -/
def ZC (K : PySem.W.Frag) (f : List V → Hp → VK → Prop) (zs : List Z) (r : RR) (o : OO) (P : Z → OO → Prop) : Prop := ∀ Hb0 O0 σ Hb O H, SR K Hb0 O0 r o σ Hb O H → ∀ vs, DzA K Hb vs zs → ∀ Q : VK,
  (∀ v z o' Hb' O' H', Ex Hb Hb' → SR K Hb0 O0 r o' σ Hb' O' H' → Dz K Hb' v z → P z o' → Q v H') → f vs H Q
section
variable {K : PySem.W.Frag} {te ta tb : TE} {tt tu : TT} {tr : TA} {r : RR} {o : OO} {P : Z → OO → Prop} {PT' : Bool → OO → Prop} {PA' : List Z → OO → Prop} {f : R2} {z x y : Z}
theorem we_var {i : Nat} (h : r[i]? = some (some z)) (k : P z o) : WE K (tVar i) r o P := fun _ _ _ Hb O H S Q q => by
  obtain ⟨v, hv, d⟩ := S.sl i z h
  exact ⟨v, hv, q v z o Hb O H (Ex.refl _) S d k⟩
theorem we_int {n : Int} (k : P (.int n) o) : WE K (tC (.int n)) r o P := fun _ _ _ Hb O H S Q q => q _ _ o Hb O H (Ex.refl _) S (.int n) k
theorem we_bl {n : Bool} (k : P (.bl n) o) : WE K (tC (.bl n)) r o P := fun _ _ _ Hb O H S Q q => q _ _ o Hb O H (Ex.refl _) S (.bl n) k
theorem we_str {n : Str} (k : P (.str n) o) : WE K (tC (.str n)) r o P := fun _ _ _ Hb O H S Q q => q _ _ o Hb O H (Ex.refl _) S (.str n) k
theorem we_non (k : P .non o) : WE K (tC .non) r o P := fun _ _ _ Hb O H S Q q => q _ _ o Hb O H (Ex.refl _) S .non k
/-- a tuple of texts that the top wrote -/
theorem we_ktup {a : Addr} {vs : List V} {zs : List Z} (h : ∀ H, SqT K H a vs) (d : ∀ H, DzA K H vs zs) (k : P (.tup zs) o) : WE K (tC (.ref a)) r o P := fun _ _ _ Hb O H S Q q => q _ _ o Hb O H (Ex.refl _) S (.tup (h _) (d _)) k
theorem we_op (h : WE K ta r o fun x o1 => WE K tb r o1 fun y o2 => ZO K f x y r o2 P) : WE K (tOp f ta tb) r o P := fun _ _ σ Hb O H S Q q =>
  h _ _ σ Hb O H S _ fun vx x o1 Hb1 O1 H1 e1 S1 d1 k1 => k1 _ _ σ Hb1 O1 H1 S1 _ fun vy y o2 Hb2 O2 H2 e2 S2 d2 k2 =>
    k2 _ _ σ Hb2 O2 H2 S2 vx vy (d1.mono e2) d2 Q fun v z o3 Hb3 O3 H3 e3 S3 d3 k3 => q v z o3 Hb3 O3 H3 ((e1.trans e2).trans e3) S3 d3 k3
theorem we_un {g : Int → V} {i : Int} {w : Int → Z} (hw : ∀ H i, Dz K H (g i) (w i)) (h : WE K ta r o fun x o1 => ∃ i, x = .int i ∧ P (w i) o1) : WE K (tUn (rU g) ta) r o P := fun _ _ σ Hb O H S Q q =>
  h _ _ σ Hb O H S _ fun vx x o1 Hb1 O1 H1 e1 S1 d1 k1 => by
    obtain ⟨i, rfl, k⟩ := k1
    cases d1
    exact ⟨i, rfl, q _ _ o1 Hb1 O1 H1 e1 S1 (hw _ i) k⟩
theorem we_neg (h : WE K ta r o fun x o1 => ∃ i, x = .int i ∧ P (.int (-i)) o1) : WE K (tUn (rU fun i => .int (-i)) ta) r o P := we_un (i := 0) (w := fun i => .int (-i)) (fun _ i => .int _) h
theorem zo_II {g : Int → Int → V} {w : Int → Int → Z} {i j : Int} (hw : ∀ H, Dz K H (g i j) (w i j)) (k : P (w i j) o) : ZO K (rI0 g) (.int i) (.int j) r o P := fun _ _ σ Hb O H S vx vy d1 d2 Q q => by
  cases d1
  cases d2
  exact ⟨i, j, rfl, rfl, q _ _ o Hb O H (Ex.refl _) S (hw _) k⟩
theorem zo_i0 {g : Int → Int → Int} {i j : Int} (k : P (.int (g i j)) o) : ZO K (rI0 fun i j => .int (g i j)) (.int i) (.int j) r o P := zo_II (w := fun i j => .int (g i j)) (fun _ => .int _) k
theorem zo_b0 {g : Int → Int → Bool} {i j : Int} (k : P (.bl (g i j)) o) : ZO K (rI0 fun i j => .bl (g i j)) (.int i) (.int j) r o P := zo_II (w := fun i j => .bl (g i j)) (fun _ => .bl _) k
theorem zo_i {C : Int → Int → Prop} {g : Int → Int → Int} {i j : Int} (hc : C i j) (k : P (.int (g i j)) o) : ZO K (rI C fun i j => .int (g i j)) (.int i) (.int j) r o P := fun _ _ σ Hb O H S vx vy d1 d2 Q q => by
  cases d1
  cases d2
  exact ⟨i, j, rfl, rfl, hc, q _ _ o Hb O H (Ex.refl _) S (.int _) k⟩
/-- scalars -/
def Z.v : Z → V
  | .bl b => .bl b | .int i => .int i | .str x => .str x | _ => .non
def Z.sc : Z → Bool
  | .non => true | .bl _ => true | .int _ => true | .str _ => true | _ => false
theorem Dz.sc {H : Hp} {v : V} : ∀ {z : Z}, Dz K H v z → z.sc = true → v = z.v
  | .non, d, _ => by cases d; rfl
  | .bl b, d, _ => by cases d; rfl
  | .int b, d, _ => by cases d; rfl
  | .str b, d, _ => by cases d; rfl
  | .tup _, _, h => by cases h
  | .lst _, _, h => by cases h
  | .scr _, _, h => by cases h
  | .ref _, _, h => by cases h
theorem zo_eq (hx : x.sc = true) (hy : y.sc = true) (hs : scal x.v y.v = true) (k : P (.bl (decide (x.v = y.v))) o) : ZO K rEq x y r o P := fun _ _ σ Hb O H S vx vy d1 d2 Q q => by
  rw [d1.sc hx, d2.sc hy]
  exact ⟨hs, q _ _ o Hb O H (Ex.refl _) S (.bl _) k⟩
theorem zo_ne (hx : x.sc = true) (hy : y.sc = true) (hs : scal x.v y.v = true) (k : P (.bl (!decide (x.v = y.v))) o) : ZO K rNe x y r o P := fun _ _ σ Hb O H S vx vy d1 d2 Q q => by
  rw [d1.sc hx, d2.sc hy]
  exact ⟨hs, q _ _ o Hb O H (Ex.refl _) S (.bl _) k⟩
theorem we_isN (h : WE K ta r o fun x o1 => P (.bl (match x with | .non => true | _ => false)) o1) : WE K (tIsN ta) r o P := fun _ _ σ Hb O H S Q q =>
  h _ _ σ Hb O H S _ fun vx x o1 Hb1 O1 H1 e1 S1 d1 k1 => by
    refine q _ _ o1 Hb1 O1 H1 e1 S1 (.bl _) ?_
    cases d1 <;> exact k1
theorem we_notN (h : WE K ta r o fun x o1 => P (.bl (match x with | .non => false | _ => true)) o1) : WE K (tNotN ta) r o P := fun _ _ σ Hb O H S Q q =>
  h _ _ σ Hb O H S _ fun vx x o1 Hb1 O1 H1 e1 S1 d1 k1 => by
    refine q _ _ o1 Hb1 O1 H1 e1 S1 (.bl _) ?_
    cases d1 <;> exact k1
/-! indexing, lengths -/
theorem zo_ixL {xs : List Z} {i : Int} (h : atI xs i = some z) (k : P z o) : ZO K (rIxL K) (.lst xs) (.int i) r o P := fun _ _ σ Hb O H S vx vy d1 d2 Q q => by
  cases d2
  cases d1 with
  | lst ha da =>
    unfold atI at h
    cases hj : ixN xs.length i with
    | none => rw [hj] at h; cases h
    | some j =>
      rw [hj] at h
      obtain ⟨v, h1, h2⟩ := da.get h
      refine ⟨_, _, i, v, rfl, rfl, sq_of (S.lay.bh _ _ ha), ?_, q v z o Hb O H (Ex.refl _) S h2 k⟩
      unfold atI
      rw [da.len, hj]
      exact h1
theorem zo_ixT {xs : List Z} {i : Int} (h : atI xs i = some z) (k : P z o) : ZO K (rIxT K) (.tup xs) (.int i) r o P := fun _ _ σ Hb O H S vx vy d1 d2 Q q => by
  cases d2
  cases d1 with
  | tup ha da =>
    unfold atI at h
    cases hj : ixN xs.length i with
    | none => rw [hj] at h; cases h
    | some j =>
      rw [hj] at h
      obtain ⟨v, h1, h2⟩ := da.get h
      refine ⟨_, _, i, v, rfl, rfl, ex_t S.lay.bh ha, ?_, q v z o Hb O H (Ex.refl _) S h2 k⟩
      unfold atI
      rw [da.len, hj]
      exact h1
theorem zo_ixS {xs : List Int} {i n : Int} (h : atI xs i = some n) (k : P (.int n) o) : ZO K (rIxL K) (.scr xs) (.int i) r o P := fun _ _ σ Hb O H S vx vy d1 d2 Q q => by
  cases d2
  cases d1 with
  | scr ha =>
    refine ⟨_, _, i, .int n, rfl, rfl, ex_l S.lay.bh ha, ?_, q _ _ o Hb O H (Ex.refl _) S (.int n) k⟩
    unfold atI at h ⊢
    rw [List.length_map]
    cases hj : ixN xs.length i with
    | none => rw [hj] at h; cases h
    | some j =>
      rw [hj] at h
      have h' : xs[j]? = some n := h
      show (xs.map V.int)[j]? = some (V.int n)
      rw [List.getElem?_map, h']
      rfl
/-- an item of a list that may still change: the i-th of the owned, at a -/
theorem zo_ixO {xs : List Z} {a : Addr} {i : Nat} {n : Int} (ho : o[i]? = some (a, .lst xs)) (h : atI xs n = some z) (k : P z o) : ZO K (rIxL K) (.ref a) (.int n) r o P := fun _ _ σ Hb O H S vx vy d1 d2 Q q => by
  cases d2
  cases d1
  obtain ⟨_, h0, ha, vs, rfl, da⟩ := S.ow i a _ ho
  unfold atI at h
  cases hj : ixN xs.length n with
  | none => rw [hj] at h; cases h
  | some j =>
    rw [hj] at h
    obtain ⟨v, h1, h2⟩ := da.get h
    refine ⟨_, _, n, v, rfl, rfl, sq_of (S.lay.oh _ _ ha), ?_, q v z o Hb O H (Ex.refl _) S h2 k⟩
    unfold atI
    rw [da.len, hj]
    exact h1
/-! arguments -/
theorem wa_nil (k : PA' [] o) : WA K tNil r o PA' := fun _ _ _ Hb O H S Q q => q _ _ o Hb O H (Ex.refl _) S .nil k
theorem wa_cons (h : WE K ta r o fun x o1 => WA K tr r o1 fun xs o2 => PA' (x :: xs) o2) : WA K (tCons ta tr) r o PA' := fun _ _ σ Hb O H S Q q =>
  h _ _ σ Hb O H S _ fun vx x o1 Hb1 O1 H1 e1 S1 d1 k1 => k1 _ _ σ Hb1 O1 H1 S1 _ fun vy y o2 Hb2 O2 H2 e2 S2 d2 k2 => q _ _ o2 Hb2 O2 H2 (e1.trans e2) S2 (.cons (d1.mono e2) d2) k2
theorem we_tup (h : WA K tr r o fun zs o1 => zs.length ≤ 100000 ∧ P (.tup zs) o1) : WE K (tTup tr) r o P := fun _ _ σ Hb O H S Q q =>
  h _ _ σ Hb O H S _ fun vs zs o1 Hb1 O1 H1 e1 S1 d1 k1 => ⟨sz_of (by rw [d1.len]; exact k1.1), fun p hp => by
    obtain ⟨e2, l2⟩ := S1.lay.new (u := .tup vs) hp
    exact q _ _ o1 _ O1 _ (e1.trans e2) (S1.grow e2 l2) (.tup (st_of upd_same) (d1.mono e2)) k1.2⟩
theorem we_lst (h : WA K tr r o fun zs o1 => zs.length ≤ 100000 ∧ P (.lst zs) o1) : WE K (tLst tr) r o P := fun _ _ σ Hb O H S Q q =>
  h _ _ σ Hb O H S _ fun vs zs o1 Hb1 O1 H1 e1 S1 d1 k1 => ⟨sz_of (by rw [d1.len]; exact k1.1), fun p hp => by
    obtain ⟨e2, l2⟩ := S1.lay.new (u := .lst vs) hp
    exact q _ _ o1 _ O1 _ (e1.trans e2) (S1.grow e2 l2) (.lst upd_same (d1.mono e2)) k1.2⟩
theorem we_cb {g : List V → Hp → VK → Prop} (h : WA K tr r o fun zs o1 => ZC K g zs r o1 P) : WE K (tCB g tr) r o P := fun _ _ σ Hb O H S Q q =>
  h _ _ σ Hb O H S _ fun vs zs o1 Hb1 O1 H1 e1 S1 d1 k1 => k1 _ _ σ Hb1 O1 H1 S1 vs d1 Q fun v z o2 Hb2 O2 H2 e2 S2 d2 k2 => q v z o2 Hb2 O2 H2 (e1.trans e2) S2 d2 k2
theorem DzA.one {H : Hp} {vs : List V} {z : Z} (h : DzA K H vs [z]) : ∃ v, vs = [v] ∧ Dz K H v z := by
  cases h with
  | cons a b =>
    cases b
    exact ⟨_, rfl, a⟩
theorem DzA.two {H : Hp} {vs : List V} {z z' : Z} (h : DzA K H vs [z, z']) : ∃ v v', vs = [v, v'] ∧ Dz K H v z ∧ Dz K H v' z' := by
  cases h with
  | cons a b =>
    obtain ⟨v, rfl, c⟩ := b.one
    exact ⟨_, v, rfl, a, c⟩
abbrev rAbs1 : List V → Hp → VK → Prop := fun xs H Q => ∃ i, xs = [.int i] ∧ Q (.int (if i < 0 then -i else i)) H
abbrev rInt1 : List V → Hp → VK → Prop := fun xs H Q => (∃ i, xs = [.int i] ∧ Q (.int i) H) ∨ ∃ k, xs = [.bl k] ∧ Q (.int (if k then 1 else 0)) H
abbrev rMx2 : List V → Hp → VK → Prop := fun xs H Q => ∃ i j, xs = [.int i, .int j] ∧ Q (.int (if j > i then j else i)) H
abbrev rMn2 : List V → Hp → VK → Prop := fun xs H Q => ∃ i j, xs = [.int i, .int j] ∧ Q (.int (if j < i then j else i)) H
abbrev rLen1 (K : PySem.W.Frag) : List V → Hp → VK → Prop := fun xs H Q => ∃ p ys, xs = [.ref p] ∧ (SqL K H p ys ∨ SqT K H p ys) ∧ Q (.int ys.length) H
abbrev rLst1 (K : PySem.W.Frag) : List V → Hp → VK → Prop := fun xs H Q => ∃ p ys, xs = [.ref p] ∧ (SqL K H p ys ∨ SqT K H p ys) ∧ ∀ l, H l = none → Q (.ref l) (upd H l (.lst ys))
abbrev rTup1 (K : PySem.W.Frag) : List V → Hp → VK → Prop := fun xs H Q => ∃ p ys, xs = [.ref p] ∧ ((SqL K H p ys ∧ ∀ l, H l = none → Q (.ref l) (upd H l (.tup ys))) ∨ (SqT K H p ys ∧ Q (.ref p) H))
theorem zc_abs {i : Int} (k : P (.int (if i < 0 then -i else i)) o) : ZC K rAbs1 [.int i] r o P := fun _ _ σ Hb O H S vs d Q q => by
  obtain ⟨v, rfl, dd⟩ := d.one
  cases dd
  exact ⟨i, rfl, q _ _ o Hb O H (Ex.refl _) S (.int _) k⟩
theorem zc_int {i : Int} (k : P (.int i) o) : ZC K rInt1 [.int i] r o P := fun _ _ σ Hb O H S vs d Q q => by
  obtain ⟨v, rfl, dd⟩ := d.one
  cases dd
  exact Or.inl ⟨i, rfl, q _ _ o Hb O H (Ex.refl _) S (.int _) k⟩
theorem zc_max {i j : Int} (k : P (.int (if j > i then j else i)) o) : ZC K rMx2 [.int i, .int j] r o P := fun _ _ σ Hb O H S vs d Q q => by
  obtain ⟨v, w, rfl, d, e⟩ := d.two
  cases d
  cases e
  exact ⟨i, j, rfl, q _ _ o Hb O H (Ex.refl _) S (.int _) k⟩
theorem zc_min {i j : Int} (k : P (.int (if j < i then j else i)) o) : ZC K rMn2 [.int i, .int j] r o P := fun _ _ σ Hb O H S vs d Q q => by
  obtain ⟨v, w, rfl, d, e⟩ := d.two
  cases d
  cases e
  exact ⟨i, j, rfl, q _ _ o Hb O H (Ex.refl _) S (.int _) k⟩
theorem zc_lenL {xs : List Z} (k : P (.int xs.length) o) : ZC K (rLen1 K) [.lst xs] r o P := fun _ _ σ Hb O H S vs d Q q => by
  obtain ⟨v, rfl, dd⟩ := d.one
  cases dd with
  | lst ha da => exact ⟨_, _, rfl, .inl (sq_of (S.lay.bh _ _ ha)), by rw [da.len]; exact q _ _ o Hb O H (Ex.refl _) S (.int _) k⟩
theorem zc_lenT {xs : List Z} (k : P (.int xs.length) o) : ZC K (rLen1 K) [.tup xs] r o P := fun _ _ σ Hb O H S vs d Q q => by
  obtain ⟨v, rfl, dd⟩ := d.one
  cases dd with
  | tup ha da => exact ⟨_, _, rfl, .inr (ex_t S.lay.bh ha), by rw [da.len]; exact q _ _ o Hb O H (Ex.refl _) S (.int _) k⟩
theorem zc_lenS {xs : List Int} (k : P (.int xs.length) o) : ZC K (rLen1 K) [.scr xs] r o P := fun _ _ σ Hb O H S vs d Q q => by
  obtain ⟨v, rfl, dd⟩ := d.one
  cases dd with
  | scr ha => exact ⟨_, _, rfl, .inl (ex_l S.lay.bh ha), by rw [List.length_map]; exact q _ _ o Hb O H (Ex.refl _) S (.int _) k⟩
theorem zc_lenO {xs : List Z} {a : Addr} {i : Nat} (ho : o[i]? = some (a, .lst xs)) (k : P (.int xs.length) o) : ZC K (rLen1 K) [.ref a] r o P := fun _ _ σ Hb O H S vs d Q q => by
  obtain ⟨v, rfl, dd⟩ := d.one
  cases dd
  obtain ⟨_, h0, ha, vs, rfl, da⟩ := S.ow i a _ ho
  exact ⟨_, _, rfl, .inl (sq_of (S.lay.oh _ _ ha)), by rw [da.len]; exact q _ _ o Hb O H (Ex.refl _) S (.int _) k⟩
theorem zc_lstT {xs : List Z} (k : P (.lst xs) o) : ZC K (rLst1 K) [.tup xs] r o P := fun _ _ σ Hb O H S vs d Q q => by
  obtain ⟨v, rfl, dd⟩ := d.one
  cases dd with
  | tup ha da => exact ⟨_, _, rfl, .inr (ex_t S.lay.bh ha), fun l hl => by
    obtain ⟨e2, l2⟩ := S.lay.new hl
    exact q _ _ o _ O _ e2 (S.grow e2 l2) (.lst upd_same (da.mono e2)) k⟩
theorem zc_tupL {xs : List Z} (k : P (.tup xs) o) : ZC K (rTup1 K) [.lst xs] r o P := fun _ _ σ Hb O H S vs d Q q => by
  obtain ⟨v, rfl, dd⟩ := d.one
  cases dd with
  | lst ha da => exact ⟨_, _, rfl, .inl ⟨sq_of (S.lay.bh _ _ ha), fun l hl => by
    obtain ⟨e2, l2⟩ := S.lay.new hl
    exact q _ _ o _ O _ e2 (S.grow e2 l2) (.tup (st_of upd_same) (da.mono e2)) k⟩⟩
theorem zc_tupT {xs : List Z} (k : P (.tup xs) o) : ZC K (rTup1 K) [.tup xs] r o P := fun _ _ σ Hb O H S vs d Q q => by
  obtain ⟨v, rfl, dd⟩ := d.one
  cases dd with
  | tup ha da => exact ⟨_, _, rfl, .inr ⟨ex_t S.lay.bh ha, q _ _ o Hb O H (Ex.refl _) S (.tup ha da) k⟩⟩
theorem zc_tupO {xs : List Z} {a : Addr} {i : Nat} (ho : o[i]? = some (a, .lst xs)) (k : P (.tup xs) o) : ZC K (rTup1 K) [.ref a] r o P := fun _ _ σ Hb O H S vs d Q q => by
  obtain ⟨v, rfl, dd⟩ := d.one
  cases dd
  obtain ⟨_, h0, ha, vs, rfl, da⟩ := S.ow i a _ ho
  exact ⟨_, _, rfl, .inl ⟨sq_of (S.lay.oh _ _ ha), fun l hl => by
    obtain ⟨e2, l2⟩ := S.lay.new hl
    exact q _ _ o _ O _ e2 (S.grow e2 l2) (.tup (st_of upd_same) (da.mono e2)) k⟩⟩
abbrev rSum1 (K : PySem.W.Frag) : List V → Hp → VK → Prop := fun vs H Q => ∃ (a : Addr) (ns : List Int), vs = [V.ref a] ∧ SqL K H a (ns.map V.int) ∧ Q (.int ns.sum) H
theorem zc_sum {ns : List Int} (k : P (.int ns.sum) o) : ZC K (rSum K) [.lst (ns.map Z.int)] r o P := fun _ _ σ Hb O H S vs d Q q => by
  obtain ⟨v, rfl, dd⟩ := d.one
  cases dd with
  | lst ha da =>
    have e := da.ints
    subst e
    exact ⟨_, ns, rfl, sq_of (S.lay.bh _ _ ha), q _ _ o Hb O H (Ex.refl _) S (.int _) k⟩
theorem we_bits (h : WE K ta r o fun x o1 => ∃ i, x = .int i ∧ P (.int (Builtin.Int.intBits i : Nat)) o1) : WE K (tBits ta) r o P := fun _ _ σ Hb O H S Q q =>
  h _ _ σ Hb O H S _ fun vx x o1 Hb1 O1 H1 e1 S1 d1 k1 => by
    obtain ⟨i, rfl, k⟩ := k1
    cases d1
    exact ⟨i, rfl, q _ _ o1 Hb1 O1 H1 e1 S1 (.int _) k⟩
/-! tests -/
theorem wt_test (h : WE K te r o fun z o1 => ∃ b, z = .bl b ∧ PT' b o1) : WT K (tTest te) r o PT' := fun _ _ σ Hb O H S Q q =>
  h _ _ σ Hb O H S _ fun v z o1 Hb1 O1 H1 e1 S1 d1 k1 => by
    obtain ⟨b, rfl, k⟩ := k1
    cases d1
    exact ⟨b, rfl, q b o1 Hb1 O1 H1 e1 S1 k⟩
theorem wt_B (h : WE K te r o fun z o1 => ∃ b, z = .bl b ∧ PT' b o1) : WT K (tB te) r o PT' := fun _ _ σ Hb O H S Q q =>
  h _ _ σ Hb O H S _ fun v z o1 Hb1 O1 H1 e1 S1 d1 k1 => by
    obtain ⟨b, rfl, k⟩ := k1
    cases d1
    exact ⟨b, rfl, q b o1 Hb1 O1 H1 e1 S1 k⟩
theorem wt_and (h : WT K tt r o fun b o1 => (b = true → WT K tu r o1 PT') ∧ (b = false → PT' false o1)) : WT K (tAnd tt tu) r o PT' := fun _ _ σ Hb O H S Q q =>
  h _ _ σ Hb O H S _ fun b o1 Hb1 O1 H1 e1 S1 k1 => by
    cases b with
    | true => exact k1.1 rfl _ _ σ Hb1 O1 H1 S1 Q fun c o2 Hb2 O2 H2 e2 S2 k2 => q c o2 Hb2 O2 H2 (e1.trans e2) S2 k2
    | false => exact q _ o1 Hb1 O1 H1 e1 S1 (k1.2 rfl)
theorem wt_or (h : WT K tt r o fun b o1 => (b = false → WT K tu r o1 PT') ∧ (b = true → PT' true o1)) : WT K (tOr tt tu) r o PT' := fun _ _ σ Hb O H S Q q =>
  h _ _ σ Hb O H S _ fun b o1 Hb1 O1 H1 e1 S1 k1 => by
    cases b with
    | false => exact k1.1 rfl _ _ σ Hb1 O1 H1 S1 Q fun c o2 Hb2 O2 H2 e2 S2 k2 => q c o2 Hb2 O2 H2 (e1.trans e2) S2 k2
    | true => exact q _ o1 Hb1 O1 H1 e1 S1 (k1.2 rfl)
theorem wt_not (h : WT K tt r o fun b o1 => PT' (!b) o1) : WT K (tNot tt) r o PT' := fun _ _ σ Hb O H S Q q =>
  h _ _ σ Hb O H S _ fun b o1 Hb1 O1 H1 e1 S1 k1 => q _ o1 Hb1 O1 H1 e1 S1 k1
theorem we_andV (h : WE K ta r o fun z o1 => ∃ b, z = .bl b ∧ (b = true → WE K tb r o1 P) ∧ (b = false → P (.bl false) o1)) : WE K (tAndV ta tb) r o P := fun _ _ σ Hb O H S Q q =>
  h _ _ σ Hb O H S _ fun v z o1 Hb1 O1 H1 e1 S1 d1 k1 => by
    obtain ⟨b, rfl, k⟩ := k1
    cases d1
    refine ⟨b, rfl, ?_⟩
    cases b with
    | true => exact k.1 rfl _ _ σ Hb1 O1 H1 S1 Q fun v z o2 Hb2 O2 H2 e2 S2 d2 k2 => q v z o2 Hb2 O2 H2 (e1.trans e2) S2 d2 k2
    | false => exact q _ _ o1 Hb1 O1 H1 e1 S1 (.bl _) (k.2 rfl)
theorem we_orV (h : WE K ta r o fun z o1 => ∃ b, z = .bl b ∧ (b = false → WE K tb r o1 P) ∧ (b = true → P (.bl true) o1)) : WE K (tOrV ta tb) r o P := fun _ _ σ Hb O H S Q q =>
  h _ _ σ Hb O H S _ fun v z o1 Hb1 O1 H1 e1 S1 d1 k1 => by
    obtain ⟨b, rfl, k⟩ := k1
    cases d1
    refine ⟨b, rfl, ?_⟩
    cases b with
    | false => exact k.1 rfl _ _ σ Hb1 O1 H1 S1 Q fun v z o2 Hb2 O2 H2 e2 S2 d2 k2 => q v z o2 Hb2 O2 H2 (e1.trans e2) S2 d2 k2
    | true => exact q _ _ o1 Hb1 O1 H1 e1 S1 (.bl _) (k.2 rfl)
theorem we_notV (h : WE K ta r o fun z o1 => ∃ b, z = .bl b ∧ P (.bl (!b)) o1) : WE K (tNotV ta) r o P := fun _ _ σ Hb O H S Q q =>
  h _ _ σ Hb O H S _ fun v z o1 Hb1 O1 H1 e1 S1 d1 k1 => by
    obtain ⟨b, rfl, k⟩ := k1
    cases d1
    exact ⟨b, rfl, q _ _ o1 Hb1 O1 H1 e1 S1 (.bl _) k⟩
theorem we_if (h : WT K tt r o fun b o1 => (b = true → WE K ta r o1 P) ∧ (b = false → WE K tb r o1 P)) : WE K (tIf tt ta tb) r o P := fun _ _ σ Hb O H S Q q =>
  h _ _ σ Hb O H S _ fun b o1 Hb1 O1 H1 e1 S1 k1 => by
    cases b with
    | true => exact k1.1 rfl _ _ σ Hb1 O1 H1 S1 Q fun v z o2 Hb2 O2 H2 e2 S2 d2 k2 => q v z o2 Hb2 O2 H2 (e1.trans e2) S2 d2 k2
    | false => exact k1.2 rfl _ _ σ Hb1 O1 H1 S1 Q fun v z o2 Hb2 O2 H2 e2 S2 d2 k2 => q v z o2 Hb2 O2 H2 (e1.trans e2) S2 d2 k2
theorem WE.imp {P' : Z → OO → Prop} (h : WE K te r o P) (k : ∀ z o', P z o' → P' z o') : WE K te r o P' := fun _ _ σ Hb O H S Q q => h _ _ σ Hb O H S Q fun v z o1 Hb1 O1 H1 e1 S1 d1 k1 => q v z o1 Hb1 O1 H1 e1 S1 d1 (k _ _ k1)
theorem WT.imp {P' : Bool → OO → Prop} (h : WT K tt r o PT') (k : ∀ z o', PT' z o' → P' z o') : WT K tt r o P' := fun _ _ σ Hb O H S Q q => h _ _ σ Hb O H S Q fun v o1 Hb1 O1 H1 e1 S1 k1 => q v o1 Hb1 O1 H1 e1 S1 (k _ _ k1)
end
end K76

/-! ## ZB -/
namespace K76
open PySem PySem.W PyProof.Rows L2 Evl
/-- an owned object is stored to -/
theorem SR.sto {K : PySem.W.Frag} {Hb0 O0 : Hp} {r : RR} {o : OO} {σ : L2.St} {Hb O H : Hp} {a : Addr} {c c' : OZ} {h' : HO} {j : Nat} (S : SR K Hb0 O0 r o σ Hb O H) (hj : o[j]? = some (a, c)) (k : OzOk K Hb h' c') :
    SR K Hb0 O0 r (o.set j (a, c')) σ Hb (upd O a h') (upd H a h') := by
  obtain ⟨n0, h0, ha, _⟩ := S.ow j a c hj
  have hb : Hb a = none := S.lay.dis a _ ha
  have jl : j < o.length := (List.getElem?_eq_some_iff.mp hj).1
  have em : (o.set j (a, c')).map Prod.fst = o.map Prod.fst := by
    rw [List.map_set]
    refine List.ext_getElem? fun i => ?_
    by_cases e : j = i
    · subst e
      rw [List.getElem?_set_self (by rw [List.length_map]; exact jl), List.getElem?_map, hj]
      rfl
    · rw [List.getElem?_set_ne e]
  refine ⟨⟨Ex.mut S.lay.bh hb, fun b u e => ?_, fun b u e => ?_⟩, S.b0, Ex.mut S.o0 n0, S.len, S.sl, fun i b u e => ?_, by rw [em]; exact S.nd⟩
  · by_cases q : b = a
    · subst q
      rw [upd_same] at e ⊢
      exact e
    · rw [upd_ne q] at e ⊢
      exact S.lay.oh b u e
  · by_cases q : b = a
    · subst q
      exact hb
    · rw [upd_ne q] at e
      exact S.lay.dis b u e
  · by_cases q : j = i
    · subst q
      rw [List.getElem?_set_self jl] at e
      cases e
      exact ⟨n0, h', upd_same, k⟩
    · rw [List.getElem?_set_ne q] at e
      obtain ⟨m0, h1, hb1, k1⟩ := S.ow i b u e
      refine ⟨m0, h1, ?_, k1⟩
      rw [upd_ne ?_]
      · exact hb1
      · intro z
        subst z
        have l1 : (o.map Prod.fst)[i]? = some b := by rw [List.getElem?_map, e]; rfl
        have l2 : (o.map Prod.fst)[j]? = some b := by rw [List.getElem?_map, hj]; rfl
        obtain ⟨p1, e1⟩ := List.getElem?_eq_some_iff.mp l1
        obtain ⟨p2, e2⟩ := List.getElem?_eq_some_iff.mp l2
        exact q ((List.getElem_inj S.nd).mp (e2.trans e1.symm))
/-- a new object that may change -/
theorem SR.newO {K : PySem.W.Frag} {Hb0 O0 : Hp} {r : RR} {o : OO} {σ : L2.St} {Hb O H : Hp} {p : Addr} {c : OZ} {h : HO} (S : SR K Hb0 O0 r o σ Hb O H) (hp : H p = none) (k : OzOk K Hb h c) :
    SR K Hb0 O0 r (o ++ [(p, c)]) σ Hb (upd O p h) (upd H p h) := by
  obtain ⟨e1, l1⟩ := S.lay.newO (u := h) hp
  have ho : O p = none := fresh_back S.lay.oh hp
  refine ⟨l1, S.b0, S.o0.trans e1, S.len, S.sl, fun i b u e => ?_, ?_⟩
  · by_cases q : i < o.length
    · rw [List.getElem?_append_left q] at e
      obtain ⟨m0, h1, hb1, k1⟩ := S.ow i b u e
      exact ⟨m0, h1, e1 _ _ hb1, k1⟩
    · rw [List.getElem?_append_right (by omega)] at e
      have hi : i - o.length = 0 := by
        have := (List.getElem?_eq_some_iff.mp e).1
        simp at this
        omega
      rw [hi] at e
      cases e
      exact ⟨fresh_back S.o0 ho, h, upd_same, k⟩
  · rw [List.map_append, List.nodup_append]
    refine ⟨S.nd, by simp, ?_⟩
    intro x hx y hy z
    subst z
    obtain ⟨⟨a, c1⟩, hm, rfl⟩ := List.mem_map.mp hx
    obtain ⟨i, hi, he⟩ := List.getElem_of_mem hm
    obtain ⟨_, h1, hb1, _⟩ := S.ow i a c1 (by rw [List.getElem?_eq_getElem hi, he])
    have e : a = p := by simpa using hy
    rw [e, ho] at hb1
    cases hb1
/-- what may change no more -/
theorem SR.drop {K : PySem.W.Frag} {Hb0 O0 : Hp} {r : RR} {o o' : OO} {σ : L2.St} {Hb O H : Hp} (S : SR K Hb0 O0 r (o ++ o') σ Hb O H) : SR K Hb0 O0 r o σ Hb O H :=
  ⟨S.lay, S.b0, S.o0, S.len, S.sl, fun i b u e => S.ow i b u (by rw [List.getElem?_append_left (List.getElem?_eq_some_iff.mp e).1]; exact e), by
    have h := S.nd
    rw [List.map_append, List.nodup_append] at h
    exact h.1⟩
/-- the last owned one becomes still -/
theorem SR.still {K : PySem.W.Frag} {Hb0 O0 : Hp} {r : RR} {o : OO} {σ : L2.St} {Hb O H : Hp} {a : Addr} {zs : List Z} (S : SR K Hb0 O0 r (o ++ [(a, .lst zs)]) σ Hb O H) :
    ∃ Hb' O', Ex Hb Hb' ∧ SR K Hb0 O0 r o σ Hb' O' H ∧ Dz K Hb' (.ref a) (.lst zs) := by
  obtain ⟨n0, h0, ha, vs, rfl, da⟩ := S.ow o.length a (.lst zs) (by rw [List.getElem?_append_right (Nat.le_refl _), Nat.sub_self]; rfl)
  have hb : Hb a = none := S.lay.dis a _ ha
  refine ⟨upd Hb a (.lst vs), fun b => if b = a then none else O b, Ex.new hb, ⟨⟨fun b u e => ?_, fun b u e => ?_, fun b u e => ?_⟩, S.b0.trans (Ex.new hb), fun b u e => ?_, S.len, fun i z h => ?_, fun i b u e => ?_, S.drop.nd⟩, .lst upd_same (da.mono (Ex.new hb))⟩
  · by_cases q : b = a
    · subst q
      rw [upd_same] at e
      cases e
      exact S.lay.oh _ _ ha
    · rw [upd_ne q] at e
      exact S.lay.bh b u e
  · by_cases q : b = a
    · simp only [if_pos q] at e
      cases e
    · simp only [if_neg q] at e
      exact S.lay.oh b u e
  · by_cases q : b = a
    · simp only [if_pos q] at e
      cases e
    · simp only [if_neg q] at e
      rw [upd_ne q]
      exact S.lay.dis b u e
  · have q : b ≠ a := ne_of_none e n0
    show (if b = a then none else O b) = some u
    rw [if_neg q]
    exact S.o0 b u e
  · obtain ⟨v, h1, h2⟩ := S.sl i z h
    exact ⟨v, h1, h2.mono (Ex.new hb)⟩
  · obtain ⟨m0, h1, hb1, k1⟩ := S.drop.ow i b u e
    refine ⟨m0, h1, ?_, k1.mono (Ex.new hb)⟩
    have q : b ≠ a := by
      intro z
      subst z
      have h := S.nd
      rw [List.map_append, List.nodup_append] at h
      refine h.2.2 b ?_ b ?_ rfl
      · exact List.mem_map.mpr ⟨(b, u), List.mem_of_getElem? e, rfl⟩
      · simp
    show (if b = a then none else O b) = some h1
    rw [if_neg q]
    exact hb1

theorem SR.up {K : PySem.W.Frag} {Hb0 Hb1 O0 : Hp} {r : RR} {o : OO} {σ : L2.St} {Hb O H : Hp} (S : SR K Hb1 O0 r o σ Hb O H) (e : Ex Hb0 Hb1) : SR K Hb0 O0 r o σ Hb O H := ⟨S.lay, e.trans S.b0, S.o0, S.len, S.sl, S.ow, S.nd⟩
theorem SR.self {K : PySem.W.Frag} {Hb0 O0 : Hp} {r : RR} {o : OO} {σ : L2.St} {Hb O H : Hp} (S : SR K Hb0 O0 r o σ Hb O H) : SR K Hb O0 r o σ Hb O H := ⟨S.lay, Ex.refl _, S.o0, S.len, S.sl, S.ow, S.nd⟩
abbrev NN := RR → OO → Prop
abbrev RT := Z → OO → Prop
structure Conn (K : PySem.W.Frag) (Hb0 O0 : Hp) (nx : NN) (rt : RT) (bk ct : NN) (D : Ends) : Prop where
  cn : ∀ r o σ Hb O H, SR K Hb0 O0 r o σ Hb O H → nx r o → D.nx σ H
  cr : ∀ v z r o σ Hb O H, SR K Hb0 O0 r o σ Hb O H → Dz K Hb v z → rt z o → D.rt v H
  cb : ∀ r o σ Hb O H, SR K Hb0 O0 r o σ Hb O H → bk r o → D.bk σ H
  cc : ∀ r o σ Hb O H, SR K Hb0 O0 r o σ Hb O H → ct r o → D.ct σ H
def WS (K : PySem.W.Frag) (t : TS) (nx : NN) (rt : RT) (bk ct : NN) (r : RR) (o : OO) : Prop := ∀ Hb0 O0 σ Hb O H D, Conn K Hb0 O0 nx rt bk ct D → SR K Hb0 O0 r o σ Hb O H → t D σ H
section
variable {K : PySem.W.Frag} {te ta tb : TE} {tt : TT} {tr : TA} {r : RR} {o : OO} {P : Z → OO → Prop} {nx : NN} {rt : RT} {bk ct : NN} {t u : TS}
theorem ws_next (k : nx r o) : WS K tNext nx rt bk ct r o := fun _ _ σ Hb O H D C S => C.cn r o σ Hb O H S k
theorem ws_seq (h : WS K t (fun r' o' => WS K u nx rt bk ct r' o') rt bk ct r o) : WS K (tSeq t u) nx rt bk ct r o := fun _ _ σ Hb O H D C S =>
  h _ _ σ Hb O H { D with nx := u D } ⟨fun r o σ Hb O H S k => k _ _ σ Hb O H D C S, C.cr, C.cb, C.cc⟩ S
theorem ws_asg {i : Nat} (h : WE K te r o fun z o1 => nx (r.set i (some z)) o1) : WS K (tAsg te (gName i)) nx rt bk ct r o := fun _ _ σ Hb O H D C S =>
  h _ _ σ Hb O H S _ fun v z o1 Hb1 O1 H1 e1 S1 d1 k1 => C.cn _ _ _ Hb1 O1 H1 (S1.put d1 i) k1
theorem ws_drop (h : WE K te r o fun _ o1 => nx r o1) : WS K (tDrop te) nx rt bk ct r o := fun _ _ σ Hb O H D C S =>
  h _ _ σ Hb O H S _ fun v z o1 Hb1 O1 H1 e1 S1 d1 k1 => C.cn _ _ _ Hb1 O1 H1 S1 k1
theorem ws_ret (h : WE K te r o rt) : WS K (tRet te) nx rt bk ct r o := fun _ _ σ Hb O H D C S =>
  h _ _ σ Hb O H S _ fun v z o1 Hb1 O1 H1 e1 S1 d1 k1 => C.cr v z r o1 σ Hb1 O1 H1 S1 d1 k1
theorem ws_if (h : WT K tt r o fun b o1 => (b = true → WS K t nx rt bk ct r o1) ∧ (b = false → WS K u nx rt bk ct r o1)) : WS K (tIfS tt t u) nx rt bk ct r o := fun _ _ σ Hb O H D C S =>
  h _ _ σ Hb O H S _ fun b o1 Hb1 O1 H1 e1 S1 k1 => by
    cases b with
    | true => exact k1.1 rfl _ _ σ Hb1 O1 H1 D C S1
    | false => exact k1.2 rfl _ _ σ Hb1 O1 H1 D C S1
theorem ws_brk (k : bk r o) : WS K tBreak nx rt bk ct r o := fun _ _ σ Hb O H D C S => C.cb r o σ Hb O H S k
theorem ws_cont (k : ct r o) : WS K tCont nx rt bk ct r o := fun _ _ σ Hb O H D C S => C.cc r o σ Hb O H S k
/-- x = [..], a list that will change -/
theorem ws_own {i : Nat} (h : WA K tr r o fun zs o1 => zs.length ≤ 100000 ∧ ∀ p, nx (r.set i (some (.ref p))) (o1 ++ [(p, .lst zs)])) : WS K (tAsg (tLst tr) (gName i)) nx rt bk ct r o := fun _ _ σ Hb O H D C S =>
  h _ _ σ Hb O H S _ fun vs zs o1 Hb1 O1 H1 e1 S1 d1 k1 => ⟨sz_of (by rw [d1.len]; exact k1.1), fun p hp =>
    C.cn _ _ _ Hb1 _ _ ((S1.newO hp (c := .lst zs) (h := .lst vs) ⟨vs, rfl, d1⟩).put (.ref p) i) (k1.2 p)⟩
/-- xs.append(e), xs owned -/
theorem ws_app {i j : Nat} {a : Addr} {xs0 : List Z} (hi : r[i]? = some (some (.ref a))) (ho : o[j]? = some (a, .lst xs0)) (h : WE K te r o fun y o1 => ∃ xs, o1[j]? = some (a, .lst xs) ∧ xs.length < 100000 ∧ nx r (o1.set j (a, .lst (xs ++ [y])))) :
    WS K (tDrop (tBM K "list" rAppend (tVar i) (tCons te tNil))) nx rt bk ct r o := fun _ _ σ Hb O H D C S => by
  obtain ⟨v, hv, dv⟩ := S.sl i _ hi
  cases dv
  obtain ⟨_, h0, ha, vs0, rfl, da⟩ := S.ow j a _ ho
  refine ⟨_, hv, Or.inl ⟨rfl, vs0, sq_of (S.lay.oh _ _ ha)⟩, h _ _ σ Hb O H S _ fun v y o1 Hb1 O1 H1 e1 S1 d1 k1 => ?_⟩
  obtain ⟨xs, hx, hl, k⟩ := k1
  obtain ⟨_, h1, hb1, vs, rfl, db⟩ := S1.ow j a _ hx
  exact ⟨a, vs, v, rfl, rfl, S1.lay.oh _ _ hb1, sz_lt (by rw [db.len]; exact hl), C.cn _ _ _ Hb1 _ _ (S1.sto hx (c' := .lst (xs ++ [y])) (h' := .lst (vs ++ [v])) ⟨_, rfl, db.app (.cons d1 .nil)⟩) k⟩
/-- xs[e] = v, xs owned -/
theorem ws_six {i j : Nat} {a : Addr} (hi : r[i]? = some (some (.ref a))) (h : WE K te r o fun y o1 => WE K tb r o1 fun n o2 => ∃ xs k l, n = .int k ∧ o2[j]? = some (a, .lst xs) ∧ ixN xs.length k = some l ∧ nx r (o2.set j (a, .lst (xs.set l y)))) :
    WS K (tAsg te (gSub (tVar i) tb rSetL)) nx rt bk ct r o := fun _ _ σ Hb O H D C S =>
  h _ _ σ Hb O H S _ fun v y o1 Hb1 O1 H1 e1 S1 d1 k1 => by
    obtain ⟨w, hw, dw⟩ := S1.sl i _ hi
    cases dw
    refine ⟨_, hw, k1 _ _ σ Hb1 O1 H1 S1 _ fun vn n o2 Hb2 O2 H2 e2 S2 d2 k2 => ?_⟩
    obtain ⟨xs, k, l, rfl, hx, hl, k3⟩ := k2
    cases d2
    obtain ⟨_, h1, hb1, vs, rfl, db⟩ := S2.ow j a _ hx
    exact ⟨a, vs, k, l, rfl, rfl, S2.lay.oh _ _ hb1, by rw [db.len]; exact hl, C.cn _ _ _ Hb2 _ _ (S2.sto hx (c' := .lst (xs.set l y)) (h' := .lst (vs.set l v)) ⟨_, rfl, db.set l (d1.mono e2)⟩) k3⟩
/-- the last owned list changes no more -/
theorem ws_still {i : Nat} {a : Addr} {zs : List Z} (hi : r[i]? = some (some (.ref a))) (h : WS K t nx rt bk ct (r.set i (some (.lst zs))) o) : WS K t nx rt bk ct r (o ++ [(a, .lst zs)]) := fun _ _ σ Hb O H D C S => by
  obtain ⟨v, hv, dv⟩ := S.sl i _ hi
  cases dv
  obtain ⟨Hb', O', e, S', d⟩ := S.still
  have S2 := S'.put d i
  have il := (List.getElem?_eq_some_iff.mp hv).1
  have es : σ.set i (some (.ref a)) = σ := by
    refine List.ext_getElem? fun k => ?_
    by_cases q : i = k
    · subst q
      rw [List.getElem?_set_self il, hv]
    · rw [List.getElem?_set_ne q]
  rw [es] at S2
  exact h _ _ σ Hb' O' H D C S2
theorem we_still {i : Nat} {a : Addr} {zs : List Z} (hi : r[i]? = some (some (.ref a))) (h : WE K te (r.set i (some (.lst zs))) o P) : WE K te r (o ++ [(a, .lst zs)]) P := fun _ _ σ Hb O H S Q q => by
  obtain ⟨v, hv, dv⟩ := S.sl i _ hi
  cases dv
  obtain ⟨Hb', O', e, S', d⟩ := S.still
  have S2 := S'.put d i
  have il := (List.getElem?_eq_some_iff.mp hv).1
  have es : σ.set i (some (.ref a)) = σ := by
    refine List.ext_getElem? fun k => ?_
    by_cases q : i = k
    · subst q
      rw [List.getElem?_set_self il, hv]
    · rw [List.getElem?_set_ne q]
  rw [es] at S2
  refine h _ _ σ Hb' O' H S2 Q fun v z o1 Hb1 O1 H1 e1 S1 d1 k1 => q v z o1 Hb1 O1 H1 (e.trans e1) ⟨S1.lay, S1.b0, S1.o0, by rw [S1.len, List.length_set], fun k y hk => ?_, S1.ow, S1.nd⟩ d1 k1
  by_cases c : i = k
  · subst c
    rw [hi] at hk
    cases hk
    exact ⟨_, hv, .ref a⟩
  · exact S1.sl k y (by rw [List.getElem?_set_ne c]; exact hk)

/-! ### walks -/
structure Wk (K : PySem.W.Frag) (J : It) (zs : List Z) (Hb : Hp) : Prop where
  go : ∀ i Hb1 O H, i < zs.length → Ex Hb Hb1 → Lay Hb1 O H → J.go i H ∧ ∀ x H', J.yld i H x H' → ∃ Hb2 z, Ex Hb1 Hb2 ∧ Lay Hb2 O H' ∧ zs[i]? = some z ∧ Dz K Hb2 x z
  stop : ∀ Hb1 O H, Ex Hb Hb1 → Lay Hb1 O H → J.stop zs.length H
def WI (K : PySem.W.Frag) (wi : TI) (r : RR) (o : OO) (P : List Z → OO → Prop) : Prop := ∀ Hb0 O0 σ Hb O H, SR K Hb0 O0 r o σ Hb O H → ∀ R : It → Hp → Prop,
  (∀ J zs o' Hb' O' H', Ex Hb Hb' → SR K Hb0 O0 r o' σ Hb' O' H' → Wk K J zs Hb' → P zs o' → R J H') → wi σ H R
def WG (K : PySem.W.Frag) (g : TG) (z : Z) (r : RR) (o : OO) (P : RR → Prop) : Prop := ∀ Hb0 O0 σ Hb O H, SR K Hb0 O0 r o σ Hb O H → ∀ v, Dz K Hb v z → ∀ Q : L2.St → Hp → Prop, (∀ r' σ', SR K Hb0 O0 r' o σ' Hb O H → P r' → Q σ' H) → g v σ H Q
def WGs (K : PySem.W.Frag) (g : TGs) (zs : List Z) (r : RR) (o : OO) (P : RR → Prop) : Prop := ∀ Hb0 O0 σ Hb O H, SR K Hb0 O0 r o σ Hb O H → ∀ vs, DzA K Hb vs zs → ∀ Q : L2.St → Hp → Prop, (∀ r' σ', SR K Hb0 O0 r' o σ' Hb O H → P r' → Q σ' H) → g vs σ H Q
theorem wg_name {i : Nat} {z : Z} {PR : RR → Prop} (k : PR (r.set i (some z))) : WG K (gName i) z r o PR := fun _ _ σ Hb O H S v d Q q => q _ _ (S.put d i) k
theorem wgs_nil {PR : RR → Prop} (k : PR r) : WGs K gNil [] r o PR := fun _ _ σ Hb O H S vs d Q q => by
  cases d
  exact ⟨rfl, q _ _ S k⟩
theorem wgs_cons {g : TG} {gs : TGs} {z : Z} {zs : List Z} {PR : RR → Prop} (h : WG K g z r o fun r' => WGs K gs zs r' o PR) : WGs K (gCons g gs) (z :: zs) r o PR := fun _ _ σ Hb O H S vs d Q q => by
  cases d with
  | cons d1 d2 => exact ⟨_, _, rfl, h _ _ σ Hb O H S _ d1 _ fun r' σ' S' k => k _ _ σ' Hb O H S' _ d2 _ q⟩
theorem wg_tup {n : Nat} {gs : TGs} {zs : List Z} {PR : RR → Prop} (hn : zs.length = n) (h : WGs K gs zs r o PR) : WG K (gTup K n gs) (.tup zs) r o PR := fun _ _ σ Hb O H S v d Q q => by
  cases d with
  | tup h1 h2 => exact ⟨_, _, rfl, ex_t S.lay.bh h1, by rw [h2.len, hn], h _ _ σ Hb O H S _ h2 _ q⟩
/-- a, b = e -/
theorem ws_unp {g : TG} (h : WE K te r o fun z o1 => WG K g z r o1 fun r' => nx r' o1) : WS K (tAsg te g) nx rt bk ct r o := fun _ _ σ Hb O H D C S =>
  h _ _ σ Hb O H S _ fun v z o1 Hb1 O1 H1 e1 S1 d1 k1 => k1 _ _ σ Hb1 O1 H1 S1 v d1 _ fun r' σ' S' k => C.cn _ _ _ Hb1 O1 H1 S' k
theorem wk_list {a : Addr} {zs : List Z} {Hb : Hp} (d : Dz K Hb (.ref a) (.lst zs)) : Wk K (Itl K a) zs Hb := by
  cases d with
  | lst ha da =>
    refine ⟨fun i Hb1 O H hi e l => ?_, fun Hb1 O H e l => ?_⟩
    · have hs : SqL K H a _ := sq_of (l.bh _ _ (e _ _ ha))
      refine ⟨(walk_list).goes i H (by rw [da.len]; exact hi) hs, fun x H' y => ?_⟩
      obtain ⟨e1, e2⟩ := (walk_list).yields i H x H' (by rw [da.len]; exact hi) hs y
      subst e1
      obtain ⟨z, h1, h2⟩ := da.get' e2
      exact ⟨Hb1, z, Ex.refl _, l, h1, h2.mono e⟩
    · have hs : SqL K H a _ := sq_of (l.bh _ _ (e _ _ ha))
      rw [← da.len]
      exact (walk_list).stops H hs
theorem wk_tup {a : Addr} {zs : List Z} {Hb : Hp} (d : Dz K Hb (.ref a) (.tup zs)) : Wk K (Itt K a) zs Hb := by
  cases d with
  | tup ha da =>
    refine ⟨fun i Hb1 O H hi e l => ?_, fun Hb1 O H e l => ?_⟩
    · have hs : SqT K H a _ := ex_t l.bh (ex_t e ha)
      refine ⟨(walk_tup).goes i H (by rw [da.len]; exact hi) hs, fun x H' y => ?_⟩
      obtain ⟨e1, e2⟩ := (walk_tup).yields i H x H' (by rw [da.len]; exact hi) hs y
      subst e1
      obtain ⟨z, h1, h2⟩ := da.get' e2
      exact ⟨Hb1, z, Ex.refl _, l, h1, h2.mono e⟩
    · have hs : SqT K H a _ := ex_t l.bh (ex_t e ha)
      rw [← da.len]
      exact (walk_tup).stops H hs
/-- lo, lo + c, .. -/
def upFrom (lo c : Int) (n : Nat) : List Z := (List.range n).map fun i => .int (lo + (i : Nat) * c)
theorem upFrom_len (lo c : Int) (n : Nat) : (upFrom lo c n).length = n := by
  unfold upFrom
  rw [List.length_map, List.length_range]
theorem upFrom_get {lo c : Int} {n i : Nat} (h : i < n) : (upFrom lo c n)[i]? = some (.int (lo + (i : Nat) * c)) := by
  unfold upFrom
  rw [List.getElem?_map, List.getElem?_range h]
  rfl
theorem upFrom_of {lo c : Int} {n i : Nat} {z : Z} (h : (upFrom lo c n)[i]? = some z) : i < n ∧ z = .int (lo + (i : Nat) * c) := by
  have hl := (List.getElem?_eq_some_iff.mp h).1
  rw [upFrom_len] at hl
  rw [upFrom_get hl] at h
  exact ⟨hl, (Option.some.inj h).symm⟩
theorem wk_rng {lo : Int} {n : Nat} {Hb : Hp} : Wk K (Itr lo n) (upFrom lo 1 n) Hb := by
  refine ⟨fun i Hb1 O H hi e l => ?_, fun Hb1 O H e l => ?_⟩
  · rw [upFrom_len] at hi
    refine ⟨(walk_range).goes i H hi trivial, fun x H' y => ?_⟩
    obtain ⟨e1, e2⟩ := (walk_range).yields i H x H' hi trivial y
    subst e1
    subst e2
    exact ⟨Hb1, _, Ex.refl _, l, upFrom_get hi, by rw [Int.mul_one]; exact .int _⟩
  · rw [upFrom_len]
    exact (walk_range).stops H trivial
theorem wk_rngC {lo c : Int} {n : Nat} {Hb : Hp} : Wk K (Itc lo c n) (upFrom lo c n) Hb := by
  refine ⟨fun i Hb1 O H hi e l => ?_, fun Hb1 O H e l => ?_⟩
  · rw [upFrom_len] at hi
    refine ⟨(walk_rangeC).goes i H hi trivial, fun x H' y => ?_⟩
    obtain ⟨e1, e2⟩ := (walk_rangeC).yields i H x H' hi trivial y
    subst e1
    subst e2
    exact ⟨Hb1, _, Ex.refl _, l, upFrom_get hi, .int _⟩
  · rw [upFrom_len]
    exact (walk_rangeC).stops H trivial
theorem wi_list {PL : List Z → OO → Prop} (h : WE K te r o fun z o1 => ∃ zs, z = .lst zs ∧ PL zs o1) : WI K (iList K te) r o PL := fun _ _ σ Hb O H S R q =>
  h _ _ σ Hb O H S _ fun v z o1 Hb1 O1 H1 e1 S1 d1 k1 => by
    obtain ⟨zs, rfl, k⟩ := k1
    cases d1 with
    | lst ha da => exact ⟨_, rfl, ⟨_, sq_of (S1.lay.bh _ _ ha)⟩, q _ zs o1 Hb1 O1 H1 e1 S1 (wk_list (.lst ha da)) k⟩
theorem wi_tup {PL : List Z → OO → Prop} (h : WE K te r o fun z o1 => ∃ zs, z = .tup zs ∧ PL zs o1) : WI K (iTup K te) r o PL := fun _ _ σ Hb O H S R q =>
  h _ _ σ Hb O H S _ fun v z o1 Hb1 O1 H1 e1 S1 d1 k1 => by
    obtain ⟨zs, rfl, k⟩ := k1
    cases d1 with
    | tup ha da => exact ⟨_, rfl, ⟨_, ex_t S1.lay.bh ha⟩, q _ zs o1 Hb1 O1 H1 e1 S1 (wk_tup (.tup ha da)) k⟩
theorem DzA.int1 {H : Hp} {vs : List V} {i : Int} (h : DzA K H vs [.int i]) : vs = [.int i] := by
  obtain ⟨v, rfl, d⟩ := h.one
  cases d
  rfl
theorem DzA.int2 {H : Hp} {vs : List V} {i j : Int} (h : DzA K H vs [.int i, .int j]) : vs = [.int i, .int j] := by
  obtain ⟨v, w, rfl, d, e⟩ := h.two
  cases d
  cases e
  rfl
theorem wi_r1 {PL : List Z → OO → Prop} (h : WA K tr r o fun zs o1 => ∃ n : Int, zs = [.int n] ∧ -(2 ^ 62) ≤ n ∧ n < 2 ^ 62 ∧ PL (upFrom 0 1 n.toNat) o1) : WI K (iRng1 tr) r o PL := fun _ _ σ Hb O H S R q =>
  h _ _ σ Hb O H S _ fun vs zs o1 Hb1 O1 H1 e1 S1 d1 k1 => by
    obtain ⟨n, rfl, h1, h2, k⟩ := k1
    exact ⟨n, d1.int1, h1, h2, q _ _ o1 Hb1 O1 H1 e1 S1 wk_rng k⟩
theorem wi_r2 {PL : List Z → OO → Prop} (h : WA K tr r o fun zs o1 => ∃ m n : Int, zs = [.int m, .int n] ∧ (-(2 ^ 62) ≤ m ∧ m < 2 ^ 62 ∧ -(2 ^ 62) ≤ n ∧ n < 2 ^ 62) ∧ PL (upFrom m 1 (n - m).toNat) o1) : WI K (iRng2 tr) r o PL := fun _ _ σ Hb O H S R q =>
  h _ _ σ Hb O H S _ fun vs zs o1 Hb1 O1 H1 e1 S1 d1 k1 => by
    obtain ⟨m, n, rfl, h1, k⟩ := k1
    exact ⟨m, n, d1.int2, h1, q _ _ o1 Hb1 O1 H1 e1 S1 wk_rng k⟩
theorem wi_r3 {PL : List Z → OO → Prop} (h : WA K tr r o fun zs o1 => ∃ (m n c : Int) (k : Nat), zs = [.int m, .int n, .int c] ∧ RgC m n c k ∧ PL (upFrom m c k) o1) : WI K (iRng3 tr) r o PL := fun _ _ σ Hb O H S R q =>
  h _ _ σ Hb O H S _ fun vs zs o1 Hb1 O1 H1 e1 S1 d1 k1 => by
    obtain ⟨m, n, c, k, rfl, h1, kk⟩ := k1
    cases d1 with
    | cons a b =>
      cases a
      rw [b.int2]
      exact ⟨m, n, c, k, rfl, h1, q _ _ o1 Hb1 O1 H1 e1 S1 wk_rngC kk⟩
/-- for -/
theorem ws_for {wi : TI} {g : TG} {tb : TS} (h : WI K wi r o fun zs o1 => ∃ I : Nat → RR → OO → Prop, I 0 r o1 ∧
      (∀ i z r' o', zs[i]? = some z → I i r' o' → WG K g z r' o' fun r2 => WS K tb (I (i + 1)) rt nx (I (i + 1)) r2 o') ∧ ∀ r' o', I zs.length r' o' → nx r' o') : WS K (tFor wi g tb) nx rt bk ct r o := fun Hb0 O0 σ Hb O H D C S =>
  h _ _ σ Hb O H S _ fun J zs o1 Hb1 O1 H1 e1 S1 wk k1 => by
    obtain ⟨I, h0, hs, hd⟩ := k1
    let Pv : Nat → L2.St → Hp → Prop := fun i σ' H' => ∃ r' o' Hb' O', Ex Hb1 Hb' ∧ SR K Hb0 O0 r' o' σ' Hb' O' H' ∧ I i r' o'
    refine ⟨fun i m σ' H' => m = zs.length - i ∧ i ≤ zs.length ∧ Pv i σ' H', ⟨zs.length, rfl, Nat.zero_le _, r, o1, Hb1, O1, Ex.refl _, S1, h0⟩, ?_⟩
    rintro i m σ' H' ⟨rfl, hi, r', o', Hb', O', e', S', I'⟩
    by_cases hlt : i < zs.length
    · obtain ⟨g1, g2⟩ := wk.go i Hb' O' H' hlt e' S'.lay
      refine .inr ⟨g1, Pv (i + 1), fun σ2 H2 p => ⟨zs.length - (i + 1), by omega, rfl, hlt, p⟩, fun x H2 y => ?_⟩
      obtain ⟨Hb2, z, e2, l2, hz, dz⟩ := g2 x H2 y
      refine hs i z r' o' hz I' _ _ σ' Hb2 O' H2 (S'.grow e2 l2) x dz _ fun r2 σ2 S2 w => w Hb2 O0 σ2 Hb2 O' H2 _ ⟨fun r3 o3 σ3 Hb3 O3 H3 S3 k3 => ?_, fun v z r3 o3 σ3 Hb3 O3 H3 S3 d3 k3 => ?_, fun r3 o3 σ3 Hb3 O3 H3 S3 k3 => ?_, fun r3 o3 σ3 Hb3 O3 H3 S3 k3 => ?_⟩ S2.self
      · exact ⟨r3, o3, Hb3, O3, (e'.trans e2).trans S3.b0, S3.up S2.b0, k3⟩
      · exact C.cr _ _ _ _ _ _ _ _ (S3.up S2.b0) d3 k3
      · exact C.cn _ _ _ _ _ _ (S3.up S2.b0) k3
      · exact ⟨r3, o3, Hb3, O3, (e'.trans e2).trans S3.b0, S3.up S2.b0, k3⟩
    · have e : i = zs.length := by omega
      subst e
      exact .inl ⟨wk.stop Hb' O' H' e' S'.lay, C.cn _ _ _ _ _ _ S' (hd _ _ I')⟩
theorem Conn.up {Hb0 Hb1 O0 : Hp} {D : Ends} (C : Conn K Hb0 O0 nx rt bk ct D) (e : Ex Hb0 Hb1) : Conn K Hb1 O0 nx rt bk ct D :=
  ⟨fun r o σ Hb O H S k => C.cn r o σ Hb O H (S.up e) k, fun v z r o σ Hb O H S d k => C.cr v z r o σ Hb O H (S.up e) d k, fun r o σ Hb O H S k => C.cb r o σ Hb O H (S.up e) k, fun r o σ Hb O H S k => C.cc r o σ Hb O H (S.up e) k⟩
theorem ws_while {tb : TS} (I : Nat → RR → OO → Prop) (m : Nat) (h0 : I m r o)
    (hs : ∀ m r' o', I m r' o' → WT K tt r' o' fun b o1 => (b = true → WS K tb (fun r2 o2 => ∃ m', m' < m ∧ I m' r2 o2) rt nx (fun r2 o2 => ∃ m', m' < m ∧ I m' r2 o2) r' o1) ∧ (b = false → nx r' o1)) : WS K (tWhile tt tb) nx rt bk ct r o := fun Hb0 O0 σ Hb O H D C S => by
  let W : Nat → L2.St → Hp → Prop := fun m σ' H' => ∃ r' o' Hb' O', SR K Hb0 O0 r' o' σ' Hb' O' H' ∧ I m r' o'
  refine ⟨W, ⟨m, r, o, Hb, O, S, h0⟩, ?_⟩
  rintro n σ' H' ⟨r', o', Hb', O', S', I'⟩
  refine hs n r' o' I' _ _ σ' Hb' O' H' S' _ fun b o1 Hb1 O1 H1 e1 S1 k1 => ?_
  cases b with
  | true =>
    refine ⟨fun σ2 H2 => ∃ m', m' < n ∧ W m' σ2 H2, fun σ2 H2 p => p, k1.1 rfl _ _ σ' Hb1 O1 H1 _ ⟨?_, C.cr, C.cn, ?_⟩ S1⟩
    · rintro r3 o3 σ3 Hb3 O3 H3 S3 ⟨m', hm, i3⟩
      exact ⟨m', hm, r3, o3, Hb3, O3, S3, i3⟩
    · rintro r3 o3 σ3 Hb3 O3 H3 S3 ⟨m', hm, i3⟩
      exact ⟨m', hm, r3, o3, Hb3, O3, S3, i3⟩
  | false => exact C.cn _ _ _ _ _ _ S1 (k1.2 rfl)
/-- [e for x in walk if t], x in slot j -/
theorem we_lc {wi : TI} {j : Nat} (h : WI K wi r o fun zs o1 => zs.length ≤ 99999 ∧ ∃ I : Nat → List Z → OO → Prop, I 0 [] o1 ∧
      (∀ i z acc o', zs[i]? = some z → I i acc o' → WT K tt (r.set j (some z)) o' fun b o2 => (b = true → WE K te (r.set j (some z)) o2 fun y o3 => I (i + 1) (acc ++ [y]) o3) ∧ (b = false → I (i + 1) acc o2)) ∧ ∀ acc o', I zs.length acc o' → P (.lst acc) o') :
    WE K (tLc wi (gName j) tt te [j]) r o P := fun Hb0 O0 σ Hb O H S Q q =>
  h _ _ σ Hb O H S _ fun J zs o1 Hb1 O1 H1 e1 S1 wk k1 => fun Dl hD => by
    obtain ⟨hl, I, h0, hs, hd⟩ := k1
    let Pv : Nat → Hp → Prop := fun i H' => ∃ vs acc o' Hb' O', vs.length ≤ i ∧ Ex Hb1 Hb' ∧ SR K Hb0 O0 r o' σ Hb' O' H' ∧ H' Dl = some (.lst vs) ∧ Hb' Dl = none ∧ O' Dl = none ∧ DzA K Hb' vs acc ∧ I i acc o'
    have hb1 : Hb1 Dl = none := fresh_back S1.lay.bh hD
    have ho1 : O1 Dl = none := fresh_back S1.lay.oh hD
    refine ⟨fun i m H' => m = zs.length - i ∧ i ≤ zs.length ∧ Pv i H', ⟨zs.length, rfl, Nat.zero_le _, [], [], o1, Hb1, O1, Nat.le_refl _, Ex.refl _,
      ⟨⟨S1.lay.bh.trans (Ex.new hD), S1.lay.oh.trans (Ex.new hD), S1.lay.dis⟩, S1.b0, S1.o0, S1.len, S1.sl, S1.ow, S1.nd⟩, upd_same, hb1, ho1, .nil, h0⟩, ?_⟩
    rintro i m H' ⟨rfl, hi, vs, acc, o', Hb', O', vl, e', S', hDl, hbD, hoD, da, I'⟩
    by_cases hlt : i < zs.length
    · -- the list under way stands in the frame
      have hO0 : O0 Dl = none := fresh_back S'.o0 hoD
      have SD : SR K Hb0 (upd O0 Dl (.lst vs)) r o' σ Hb' (upd O' Dl (.lst vs)) H' := by
        refine ⟨⟨S'.lay.bh, fun b u e => ?_, fun b u e => ?_⟩, S'.b0, fun b u e => ?_, S'.len, S'.sl, fun k b u e => ?_, S'.nd⟩
        · by_cases c : b = Dl
          · subst c
            rw [upd_same] at e
            cases e
            exact hDl
          · rw [upd_ne c] at e
            exact S'.lay.oh b u e
        · by_cases c : b = Dl
          · subst c
            exact hbD
          · rw [upd_ne c] at e
            exact S'.lay.dis b u e
        · by_cases c : b = Dl
          · subst c
            rw [upd_same] at e ⊢
            exact e
          · rw [upd_ne c] at e ⊢
            exact S'.o0 b u e
        · obtain ⟨m0, h1, hb, k1⟩ := S'.ow k b u e
          have c : b ≠ Dl := ne_of_none hb hoD
          exact ⟨by rw [upd_ne c]; exact m0, h1, by rw [upd_ne c]; exact hb, k1⟩
      obtain ⟨g1, g2⟩ := wk.go i Hb' _ H' hlt e' SD.lay
      -- from the frame back
      have back : ∀ {o3 : OO} {Hb3 O3 H3 : Hp}, SR K Hb0 (upd O0 Dl (.lst vs)) r o3 σ Hb3 O3 H3 → SR K Hb0 O0 r o3 σ Hb3 (fun b => if b = Dl then none else O3 b) H3 ∧ H3 Dl = some (.lst vs) ∧ Hb3 Dl = none := by
        intro o3 Hb3 O3 H3 S3
        have hO3 : O3 Dl = some (.lst vs) := S3.o0 Dl _ upd_same
        refine ⟨⟨⟨S3.lay.bh, fun b u e => ?_, fun b u e => ?_⟩, S3.b0, fun b u e => ?_, S3.len, S3.sl, fun k b u e => ?_, S3.nd⟩, S3.lay.oh _ _ hO3, S3.lay.dis _ _ hO3⟩
        · by_cases c : b = Dl
          · simp only [if_pos c] at e
            cases e
          · simp only [if_neg c] at e
            exact S3.lay.oh b u e
        · by_cases c : b = Dl
          · simp only [if_pos c] at e
            cases e
          · simp only [if_neg c] at e
            exact S3.lay.dis b u e
        · have c : b ≠ Dl := ne_of_none e hO0
          show (if b = Dl then none else O3 b) = some u
          rw [if_neg c]
          exact S3.o0 b u (by rw [upd_ne c]; exact e)
        · obtain ⟨m0, h1, hb, k1⟩ := S3.ow k b u e
          have c : b ≠ Dl := by
            intro z
            subst z
            rw [upd_same] at m0
            cases m0
          rw [upd_ne c] at m0
          exact ⟨m0, h1, by show (if b = Dl then none else O3 b) = some h1; rw [if_neg c]; exact hb, k1⟩
      refine .inr ⟨g1, Pv (i + 1), fun H2 p => ⟨zs.length - (i + 1), by omega, rfl, hlt, p⟩, fun x H2 y => ?_⟩
      obtain ⟨Hb2, z, e2, l2, hz, dz⟩ := g2 x H2 y
      have S2 := SD.grow e2 l2
      have SI := S2.wipe1 dz j
      have ew : wipe ((wipe σ [j]).set j (some x)) [j] = wipe σ [j] := by
        show ((σ.set j none).set j (some x)).set j none = σ.set j none
        rw [List.set_set, List.set_set]
      -- inside r.set j z; outside r
      have out : ∀ {o3 : OO} {Hb3 O3 H3 : Hp}, Ex Hb2 Hb3 → SR K Hb0 (upd O0 Dl (.lst vs)) (r.set j (some z)) o3 ((wipe σ [j]).set j (some x)) Hb3 O3 H3 → SR K Hb0 (upd O0 Dl (.lst vs)) r o3 σ Hb3 O3 H3 := fun e3 S3 =>
        ⟨S3.lay, S3.b0, S3.o0, S2.len, fun k y hk => let ⟨v, a, b⟩ := S2.sl k y hk; ⟨v, a, b.mono e3⟩, S3.ow, S3.nd⟩
      refine ⟨ew, hs i z acc o' hz I' _ _ _ Hb2 _ H2 SI _ fun b o2 Hb3 O3 H3 e3 S3 k3 => ?_⟩
      cases b with
      | true =>
        refine k3.1 rfl _ _ _ Hb3 O3 H3 S3 _ fun v y o4 Hb4 O4 H4 e4 S4 d4 k4 => ?_
        obtain ⟨B1, B2, B3⟩ := back (out (e3.trans e4) S4)
        refine ⟨vs, B2, sz_lt (by omega), vs ++ [v], acc ++ [y], o4, Hb4, _, by rw [List.length_append]; exact Nat.succ_le_succ vl, (e'.trans e2).trans (e3.trans e4), ⟨⟨Ex.mut B1.lay.bh B3, Ex.mut B1.lay.oh (if_pos rfl), B1.lay.dis⟩, B1.b0, B1.o0, B1.len, B1.sl, B1.ow, B1.nd⟩, upd_same, B3, if_pos rfl, (da.mono (e2.trans (e3.trans e4))).app (.cons d4 .nil), k4⟩
      | false =>
        obtain ⟨B1, B2, B3⟩ := back (out e3 S3)
        exact ⟨vs, acc, o2, Hb3, _, Nat.le_succ_of_le vl, (e'.trans e2).trans e3, B1, B2, B3, if_pos rfl, da.mono (e2.trans e3), k3.2 rfl⟩
    · have e : i = zs.length := by omega
      subst e
      refine .inl ⟨wk.stop Hb' O' H' e' S'.lay, ?_⟩
      have eb : Ex Hb' (upd Hb' Dl (.lst vs)) := Ex.new hbD
      refine q (.ref Dl) (.lst acc) o' (upd Hb' Dl (.lst vs)) O' H' (e1.trans (e'.trans eb)) (S'.grow eb ⟨fun b u e => ?_, S'.lay.oh, fun b u e => ?_⟩) (.lst upd_same (da.mono eb)) (hd acc o' I')
      · by_cases c : b = Dl
        · subst c
          rw [upd_same] at e
          cases e
          exact hDl
        · rw [upd_ne c] at e
          exact S'.lay.bh b u e
      · rw [upd_ne (ne_of_none e hoD)]
        exact S'.lay.dis b u e
end
end K76

/-! ## ZC -/
namespace K76
open PySem PySem.W PyProof.Rows L2 Evl
def Owns (K : PySem.W.Frag) (Hb O : Hp) (o : OO) : Prop := ∀ (i : Nat) (a : Addr) (c : OZ), o[i]? = some (a, c) → ∃ h, O a = some h ∧ OzOk K Hb h c
/-- what a def asks of its arguments and of the objects it may change, and what it hands back -/
abbrev TZ := List Z → OO → (Z → OO → Prop) → Prop
/-- a promise: n arguments, told as data; the objects o may be changed -/
def spZ (K : PySem.W.Frag) (n : Nat) (T : TZ) : Sp := fun vs H Q _ => ∃ (Hb O : Hp) (zs : List Z) (o : OO) (R : Z → OO → Prop), vs.length = n ∧ Lay Hb O H ∧ DzA K Hb vs zs ∧ Owns K Hb O o ∧ (o.map Prod.fst).Nodup ∧ T zs o R ∧
  ∀ v z o' Hb' O' H', Ex Hb Hb' → Lay Hb' O' H' → (∀ a h, O a = some h → a ∉ o.map Prod.fst → O' a = some h) → o'.map Prod.fst = o.map Prod.fst → Owns K Hb' O' o' → Dz K Hb' v z → R z o' → Q v H'
theorem spZ.len {K : PySem.W.Frag} {n : Nat} {T : TZ} (vs : List V) (H : Hp) (Q : VK) (E : XK) (h : spZ K n T vs H Q E) : vs.length = n := by
  obtain ⟨_, _, _, _, _, h, _⟩ := h
  exact h
abbrev nN : NN := fun _ _ => False
/-- what a def's body ends with -/
def FinZ (R : Z → OO → Prop) (o : OO) (z : Z) (o' : OO) : Prop := ∃ o1 ex, o' = o1 ++ ex ∧ o1.map Prod.fst = o.map Prod.fst ∧ R z o1
def startZ (m : Nat) (zs : List Z) : RR := zs.map some ++ List.replicate (m - zs.length) none
theorem spZ.run {K : PySem.W.Frag} {ps N : List Str} {T : TZ} {t : TS} {vs : List V} {H : Hp} {Q : VK} {E : XK} (h : spZ K ps.length T vs H Q E)
    (hw : ∀ zs o R, T zs o R → WS K t (fun _ o' => FinZ R o .non o') (FinZ R o) nN nN (startZ N.length zs) o) : t { nx := fun _ H' => Q .non H', rt := Q } (L2.start N vs) H := by
  obtain ⟨Hb, O, zs, o, R, hn, lay, da, ow, nd, pre, q⟩ := h
  have hl : zs.length = ps.length := by rw [← da.len, hn]
  let O0 : Hp := fun a => if a ∈ o.map Prod.fst then none else O a
  have S : SR K Hb O0 (startZ N.length zs) o (L2.start N vs) Hb O H := by
    refine ⟨lay, Ex.refl _, fun a u e => ?_, ?_, fun i z e => ?_, fun i a c e => ?_, nd⟩
    · by_cases c : a ∈ o.map Prod.fst
      · have e' : (if a ∈ o.map Prod.fst then none else O a) = some u := e
        rw [if_pos c] at e'
        cases e'
      · have e' : (if a ∈ o.map Prod.fst then none else O a) = some u := e
        rw [if_neg c] at e'
        exact e'
    · unfold L2.start startZ
      rw [List.length_append, List.length_append, List.length_map, List.length_map, List.length_replicate, List.length_replicate, da.len]
    · unfold startZ at e
      unfold L2.start
      by_cases c : i < zs.length
      · rw [List.getElem?_append_left (by rw [List.length_map]; exact c), List.getElem?_map] at e
        rw [List.getElem?_append_left (by rw [List.length_map, da.len]; exact c), List.getElem?_map]
        cases hz : zs[i]? with
        | none => rw [hz] at e; cases e
        | some z' =>
          rw [hz] at e
          cases e
          obtain ⟨v, h1, h2⟩ := da.get hz
          rw [h1]
          exact ⟨v, rfl, h2⟩
      · rw [List.getElem?_append_right (by rw [List.length_map]; omega)] at e
        have := List.getElem?_replicate (a := (none : Option Z)) (n := N.length - zs.length) (i := i - (zs.map some).length)
        rw [this] at e
        split at e <;> cases e
    · obtain ⟨h, h1, h2⟩ := ow i a c e
      refine ⟨?_, h, h1, h2⟩
      show (if a ∈ o.map Prod.fst then none else O a) = none
      rw [if_pos (List.mem_map.mpr ⟨(a, c), List.mem_of_getElem? e, rfl⟩)]
  have fin : ∀ v z r o' σ Hb' O' H', SR K Hb O0 r o' σ Hb' O' H' → Dz K Hb' v z → FinZ R o z o' → Q v H' := by
    intro v z r o' σ Hb' O' H' S' d ⟨o1, ex, e1, e2, p⟩
    subst e1
    have S1 := S'.drop
    refine q v z o1 Hb' O' H' S1.b0 S1.lay (fun a h ha hn => S1.o0 a h ?_) e2 (fun i a c e => (S1.ow i a c e).2) d p
    show (if a ∈ o.map Prod.fst then none else O a) = some h
    rw [if_neg hn]
    exact ha
  exact hw zs o R pre Hb O0 _ Hb O H _ ⟨fun r o' σ Hb' O' H' S' k => fin _ _ r o' σ Hb' O' H' S' .non k, fun v z r o' σ Hb' O' H' S' d k => fin v z r o' σ Hb' O' H' S' d k, fun _ _ _ _ _ _ _ k => k.elim, fun _ _ _ _ _ _ _ k => k.elim⟩ S
section
variable {K : PySem.W.Frag} {te ta tb : TE} {tt : TT} {tr : TA} {r : RR} {o : OO} {P : Z → OO → Prop} {t u : TS} {T : TZ} {n : Nat} {E : XK} {R : Z → OO → Prop}
/-- a call with values laid: what stands behind it. pk: where the callee's objects stand among ours -/
theorem call_core {Hb0 O0 : Hp} {σ : L2.St} {Hb O H : Hp} {vs : List V} {zs : List Z} {Q : VK} (S : SR K Hb0 O0 r o σ Hb O H) (d : DzA K Hb vs zs) (hn : zs.length = n) (pk : List Nat) (oc : OO) (hoc : pk.map (fun i => o[i]?) = oc.map some) (hnd : pk.Nodup)
    (pre : T zs oc R) (q : ∀ v z oc' o' Hb' O' H', oc'.map Prod.fst = oc.map Prod.fst → R z oc' → o'.map Prod.fst = o.map Prod.fst → (∀ i, i ∉ pk → o'[i]? = o[i]?) → pk.map (fun i => o'[i]?) = oc'.map some → Ex Hb Hb' → SR K Hb0 O0 r o' σ Hb' O' H' → Dz K Hb' v z → Q v H') :
    spZ K n T vs H Q E := by
  have gi : ∀ j : Nat, oc[j]? = (pk[j]?).bind fun i => o[i]? := by
    intro j
    have e := congrArg (fun l : List (Option (Addr × OZ)) => l[j]?) hoc
    simp only [List.getElem?_map] at e
    cases hp : pk[j]? with
    | none => 
      rw [hp] at e
      cases hq : oc[j]? with
      | none => rfl
      | some x => rw [hq] at e; cases e
    | some i =>
      rw [hp] at e
      cases hq : oc[j]? with
      | none => rw [hq] at e; cases e
      | some x =>
        rw [hq] at e
        show some x = o[i]?
        exact (Option.some.inj e).symm
  have oi : ∀ (j : Nat) (a : Addr) (c : OZ), oc[j]? = some (a, c) → ∃ i, pk[j]? = some i ∧ o[i]? = some (a, c) := by
    intro j a c e
    rw [gi] at e
    cases hp : pk[j]? with
    | none => rw [hp] at e; cases e
    | some i => rw [hp] at e; exact ⟨i, rfl, e⟩
  have inj : ∀ (i i' : Nat) (a : Addr) (c c' : OZ), o[i]? = some (a, c) → o[i']? = some (a, c') → i = i' := by
    intro i i' a c c' e e'
    have l1 : (o.map Prod.fst)[i]? = some a := by rw [List.getElem?_map, e]; rfl
    have l2 : (o.map Prod.fst)[i']? = some a := by rw [List.getElem?_map, e']; rfl
    obtain ⟨p1, e1⟩ := List.getElem?_eq_some_iff.mp l1
    obtain ⟨p2, e2⟩ := List.getElem?_eq_some_iff.mp l2
    exact (List.getElem_inj S.nd).mp (e1.trans e2.symm)
  have ndc : (oc.map Prod.fst).Nodup := by
    refine List.pairwise_iff_getElem.mpr fun i j hi0 hj0 hij z => ?_
    have hi : i < oc.length := by rw [List.length_map] at hi0; exact hi0
    have hj : j < oc.length := by rw [List.length_map] at hj0; exact hj0
    rw [List.getElem_map, List.getElem_map] at z
    have z' : (oc[i]).1 = (oc[j]).1 := z
    obtain ⟨i1, a1, b1⟩ := oi i (oc[i]).1 (oc[i]).2 (List.getElem?_eq_getElem hi)
    obtain ⟨j1, a2, b2⟩ := oi j (oc[j]).1 (oc[j]).2 (List.getElem?_eq_getElem hj)
    rw [← z'] at b2
    have e := inj _ _ _ _ _ b1 b2
    subst e
    have l1 := List.getElem?_eq_some_iff.mp a1
    have l2 := List.getElem?_eq_some_iff.mp a2
    obtain ⟨p1, e1⟩ := l1
    obtain ⟨p2, e2⟩ := l2
    have := (List.getElem_inj hnd).mp (e1.trans e2.symm)
    omega
  refine ⟨Hb, O, zs, oc, R, by rw [d.len, hn], S.lay, d, fun j a c e => ?_, ndc, pre, fun v z oc' Hb' O' H' e1 l1 fr em ow dz po => ?_⟩
  · obtain ⟨i, _, h⟩ := oi j a c e
    exact (S.ow i a c h).2
  · -- ours behind it
    have hlen : oc'.length = pk.length := by
      have h1 := congrArg List.length em
      have h2 := congrArg List.length hoc
      simp only [List.length_map] at h1 h2
      omega
    let o' : OO := (List.range o.length).filterMap fun i => match pk.findIdx? (· == i) with
      | some j => oc'[j]?
      | none => o[i]?
    have hsome : ∀ i, i < o.length → ∃ x, (match pk.findIdx? (· == i) with | some j => oc'[j]? | none => o[i]?) = some x := by
      intro i hi
      cases hf : pk.findIdx? (· == i) with
      | none => exact ⟨o[i], List.getElem?_eq_getElem hi⟩
      | some j =>
        have hj := (List.findIdx?_eq_some_iff_getElem.mp hf).1
        exact ⟨oc'[j]'(by omega), List.getElem?_eq_getElem (by omega)⟩
    have o'g : ∀ m, m ≤ o.length → ∀ i, i < m → ((List.range m).filterMap fun i => match pk.findIdx? (· == i) with | some j => oc'[j]? | none => o[i]?)[i]? = (match pk.findIdx? (· == i) with | some j => oc'[j]? | none => o[i]?) ∧ ((List.range m).filterMap fun i => match pk.findIdx? (· == i) with | some j => oc'[j]? | none => o[i]?).length = m := by
      intro m hm
      have hlm : ∀ m, m ≤ o.length → ((List.range m).filterMap fun i => match pk.findIdx? (· == i) with | some j => oc'[j]? | none => o[i]?).length = m := by
        intro m
        induction m with
        | zero => intro _; rfl
        | succ m ih =>
          intro hm
          obtain ⟨x, hx⟩ := hsome m (by omega)
          rw [List.range_succ, List.filterMap_append, List.length_append, ih (by omega)]
          simp only [List.filterMap_cons, List.filterMap_nil, hx]
          rfl
      induction m with
      | zero => intro i hi; omega
      | succ m ih =>
        intro i hi
        refine ⟨?_, hlm _ hm⟩
        obtain ⟨x, hx⟩ := hsome m (by omega)
        rw [List.range_succ, List.filterMap_append]
        by_cases c : i < m
        · rw [List.getElem?_append_left (by rw [hlm m (by omega)]; exact c)]
          exact (ih (by omega) i c).1
        · have e : i = m := by omega
          subst e
          rw [List.getElem?_append_right (by rw [hlm i (by omega)]; exact Nat.le_refl _), hlm i (by omega), Nat.sub_self]
          simp only [List.filterMap_cons, List.filterMap_nil, hx]
          rfl
    have o'l : o'.length = o.length := by
      by_cases c : 0 < o.length
      · exact (o'g o.length (Nat.le_refl _) 0 c).2
      · have : o.length = 0 := by omega
        show ((List.range o.length).filterMap _).length = _
        rw [this]
        rfl
    have o'i : ∀ i, i < o.length → o'[i]? = (match pk.findIdx? (· == i) with | some j => oc'[j]? | none => o[i]?) := fun i hi => (o'g o.length (Nat.le_refl _) i hi).1
    have addr : ∀ (j i : Nat) (x : Addr × OZ), pk[j]? = some i → oc'[j]? = some x → ∃ c, o[i]? = some (x.1, c) := by
      intro j i x hp hx
      have e := congrArg (fun l : List Addr => l[j]?) em
      simp only [List.getElem?_map, hx, gi, hp] at e
      cases ho : o[i]? with
      | none => rw [show ((some i).bind fun i => o[i]?) = o[i]? from rfl, ho] at e; cases e
      | some y =>
        rw [show ((some i).bind fun i => o[i]?) = o[i]? from rfl, ho] at e
        have e' : x.1 = y.1 := Option.some.inj e
        exact ⟨y.2, by rw [e']⟩
    have pkf : ∀ (j i : Nat), pk[j]? = some i → pk.findIdx? (· == i) = some j := by
      intro j i hp
      obtain ⟨hj, e⟩ := List.getElem?_eq_some_iff.mp hp
      refine List.findIdx?_eq_some_iff_getElem.mpr ⟨hj, by rw [e]; exact beq_self_eq_true i, fun k hk => ?_⟩
      intro z
      have z' : pk[k]'(by omega) = i := by simpa using z
      have := (List.getElem_inj hnd).mp (z'.trans e.symm)
      omega
    have emo : o'.map Prod.fst = o.map Prod.fst := by
      refine List.ext_getElem? fun i => ?_
      rw [List.getElem?_map, List.getElem?_map]
      by_cases hi : i < o.length
      · rw [o'i i hi]
        cases hf : pk.findIdx? (· == i) with
        | none => rfl
        | some j =>
          obtain ⟨hj, he, _⟩ := List.findIdx?_eq_some_iff_getElem.mp hf
          have he' : pk[j] = i := by simpa using he
          have hx : oc'[j]? = some (oc'[j]'(by omega)) := List.getElem?_eq_getElem (by omega)
          obtain ⟨c, hc⟩ := addr j i _ (by rw [List.getElem?_eq_getElem hj, he']) hx
          show Option.map Prod.fst oc'[j]? = _
          rw [hx, hc]
          rfl
      · rw [List.getElem?_eq_none (by omega), List.getElem?_eq_none (by omega)]
    refine q v z oc' o' Hb' O' H' em po emo (fun i hi => ?_) ?_ e1 ⟨l1, S.b0.trans e1, fun a h ha => ?_, S.len, fun i z hz => ?_, fun i a c e => ?_, by rw [emo]; exact S.nd⟩ dz
    · by_cases hl : i < o.length
      · rw [o'i i hl]
        have hf : pk.findIdx? (· == i) = none := by
          rw [List.findIdx?_eq_none_iff]
          intro x hx
          by_cases c : x = i
          · subst c
            exact absurd hx hi
          · simpa using c
        rw [hf]
      · rw [List.getElem?_eq_none (by omega), List.getElem?_eq_none (by omega)]
    · refine List.ext_getElem? fun j => ?_
      rw [List.getElem?_map, List.getElem?_map]
      cases hp : pk[j]? with
      | none =>
        have : ¬ j < pk.length := fun h => by rw [List.getElem?_eq_getElem h] at hp; cases hp
        rw [List.getElem?_eq_none (by omega)]
        rfl
      | some i =>
        have hj := (List.getElem?_eq_some_iff.mp hp).1
        have hx : oc'[j]? = some (oc'[j]'(by omega)) := List.getElem?_eq_getElem (by omega)
        obtain ⟨c, hc⟩ := addr j i _ hp hx
        have hi := (List.getElem?_eq_some_iff.mp hc).1
        show some (o'[i]?) = Option.map some oc'[j]?
        rw [o'i i hi, pkf j i hp, hx]
        show some (oc'[j]?) = _
        rw [hx]
        rfl
    · have hO : O a = some h := S.o0 a h ha
      refine fr a h hO fun hm => ?_
      obtain ⟨⟨b, c⟩, hm1, rfl⟩ := List.mem_map.mp hm
      obtain ⟨j, hj, ej⟩ := List.getElem_of_mem hm1
      obtain ⟨i, _, h1⟩ := oi j b c (by rw [List.getElem?_eq_getElem hj, ej])
      have := (S.ow i b c h1).1
      rw [this] at ha
      cases ha
    · obtain ⟨w, h1, h2⟩ := S.sl i z hz
      exact ⟨w, h1, h2.mono e1⟩
    · have hi : i < o.length := by
        have := (List.getElem?_eq_some_iff.mp e).1
        omega
      have e0 := e
      rw [o'i i hi] at e
      cases hf : pk.findIdx? (· == i) with
      | none =>
        rw [hf] at e
        obtain ⟨m0, h, hO, k⟩ := S.ow i a c e
        refine ⟨m0, h, fr a h hO fun hm => ?_, k.mono e1⟩
        obtain ⟨⟨b, c'⟩, hm1, rfl⟩ := List.mem_map.mp hm
        obtain ⟨j, hj, ej⟩ := List.getElem_of_mem hm1
        obtain ⟨i', hp, h1⟩ := oi j b c' (by rw [List.getElem?_eq_getElem hj, ej])
        have ei := inj _ _ _ _ _ e h1
        subst ei
        rw [pkf j i hp] at hf
        cases hf
      | some j =>
        rw [hf] at e
        have e' : oc'[j]? = some (a, c) := e
        obtain ⟨hj, he, _⟩ := List.findIdx?_eq_some_iff_getElem.mp hf
        have he' : pk[j] = i := by simpa using he
        obtain ⟨h, h1, h2⟩ := ow j a c e'
        obtain ⟨c0, hc0⟩ := addr j i _ (by rw [List.getElem?_eq_getElem hj, he']) e'
        exact ⟨(S.ow i a c0 hc0).1, h, h1, h2⟩
/-- f(..), a def that changes nothing of ours -/
theorem we_call (h : WA K tr r o fun zs o1 => zs.length = n ∧ T zs [] fun z _ => P z o1) : WE K (tCall (spZ K n T) [] E tr) r o P := fun _ _ σ Hb O H S Q q =>
  h _ _ σ Hb O H S _ fun vs zs o1 Hb1 O1 H1 e1 S1 d1 k1 => by
    rw [List.append_nil]
    refine call_core S1 d1 k1.1 [] [] rfl List.nodup_nil k1.2 fun v z oc' o' Hb' O' H' em po emo ot _ e2 S2 dz => ?_
    have ec : oc' = [] := List.map_eq_nil_iff.mp em
    subst ec
    have eo : o' = o1 := List.ext_getElem? fun i => ot i (by simp)
    subst eo
    exact q v z _ Hb' O' H' (e1.trans e2) S2 dz po
/-- f(..), a def that may change the j-th of ours -/
theorem we_call1 (j : Nat) (h : WA K tr r o fun zs o1 => zs.length = n ∧ ∃ a c, o1[j]? = some (a, c) ∧ T zs [(a, c)] fun z o2 => ∀ c', o2 = [(a, c')] → P z (o1.set j (a, c'))) : WE K (tCall (spZ K n T) [] E tr) r o P := fun _ _ σ Hb O H S Q q =>
  h _ _ σ Hb O H S _ fun vs zs o1 Hb1 O1 H1 e1 S1 d1 k1 => by
    rw [List.append_nil]
    obtain ⟨hn, a, c, hj, pre⟩ := k1
    refine call_core S1 d1 hn [j] [(a, c)] (by simp [hj]) (by simp) pre fun v z oc' o' Hb' O' H' em po emo ot hp e2 S2 dz => ?_
    match oc', em with
    | [(a', c')], em =>
      have ea : a' = a := by simpa using em
      subst ea
      have jl := (List.getElem?_eq_some_iff.mp hj).1
      have ej : o'[j]? = some (a', c') := by simpa using hp
      have eo : o' = o1.set j (a', c') := List.ext_getElem? fun i => by
        by_cases ci : j = i
        · subst ci
          rw [List.getElem?_set_self jl, ej]
        · rw [List.getElem?_set_ne ci]
          exact ot i (by simpa using fun z => ci z.symm)
      subst eo
      exact q v z _ Hb' O' H' (e1.trans e2) S2 dz (po c' rfl)
/-- f(..), a def that may change the i-th and the j-th of ours -/
theorem we_call2 (i j : Nat) (hij : i ≠ j) (h : WA K tr r o fun zs o1 => zs.length = n ∧ ∃ a c b d, o1[i]? = some (a, c) ∧ o1[j]? = some (b, d) ∧ T zs [(a, c), (b, d)] fun z o2 => ∀ c' d', o2 = [(a, c'), (b, d')] → P z ((o1.set i (a, c')).set j (b, d'))) :
    WE K (tCall (spZ K n T) [] E tr) r o P := fun _ _ σ Hb O H S Q q =>
  h _ _ σ Hb O H S _ fun vs zs o1 Hb1 O1 H1 e1 S1 d1 k1 => by
    rw [List.append_nil]
    obtain ⟨hn, a, c, b, d, hi, hj, pre⟩ := k1
    refine call_core S1 d1 hn [i, j] [(a, c), (b, d)] (by simp [hi, hj]) (by simp [hij]) pre fun v z oc' o' Hb' O' H' em po emo ot hp e2 S2 dz => ?_
    match oc', em with
    | [(a', c'), (b', d')], em =>
      have ea : a' = a ∧ b' = b := by simpa using em
      obtain ⟨rfl, rfl⟩ := ea
      have il := (List.getElem?_eq_some_iff.mp hi).1
      have jl := (List.getElem?_eq_some_iff.mp hj).1
      have ej : o'[i]? = some (a', c') ∧ o'[j]? = some (b', d') := by simpa using hp
      have eo : o' = (o1.set i (a', c')).set j (b', d') := List.ext_getElem? fun m => by
        by_cases cj : j = m
        · subst cj
          rw [List.getElem?_set_self (by rw [List.length_set]; exact jl), ej.2]
        · rw [List.getElem?_set_ne cj]
          by_cases ci : i = m
          · subst ci
            rw [List.getElem?_set_self il, ej.1]
          · rw [List.getElem?_set_ne ci]
            refine ot m ?_
            intro z
            rcases List.mem_cons.mp z with z | z
            · exact ci z.symm
            · exact cj (by simpa using z : m = j).symm
      subst eo
      exact q v z _ Hb' O' H' (e1.trans e2) S2 dz (po c' d' rfl)
end
end K76

/-! ## ZD -/
namespace K76
open PySem PySem.W PyProof.Rows L2 Evl
/-- a def of the top under its name -/
def DefD (K : PySem.W.Frag) (mg : Str → Option Value) (x qual : Str) (st : Stmt) : Prop := ∃ f fd, mg x = some (.ref f) ∧ L2.Fun K x qual st f fd
/-- a def that keeps its promise -/
def Cal (P : Program) (w : World) (K : PySem.W.Frag) (mg : Str → Option Value) (base : Heap) (x : Str) (k : Nat) (ps : List Str) (T : TZ) : Prop :=
  ∃ f fd, mg x = some (.ref f) ∧ PySem.W.keepIn K (.ref f) = true ∧ Binds K fd ps [] ∧ FnOk P w K mg base CX0 k f fd ps (spZ K ps.length T)
def CalM (P : Program) (w : World) (K : PySem.W.Frag) (mg : Str → Option Value) (base : Heap) (C : Addr) (m : Str) (k : Nat) (ps : List Str) (T : TZ) : Prop :=
  ∃ f fd, Meth K C m f ∧ Binds K fd ps [] ∧ FnOk P w K mg base CX0 k f fd ps (spZ K ps.length T)
section
variable {P : Program} {w : World} {K : PySem.W.Frag} {mg : Str → Option Value} {base : Heap}
theorem Cal.mk {x qual : Str} {st : Stmt} {k : Nat} {ps N : List Str} {T : TZ} (D : DefD K mg x qual st) (S : FnScope N ps (defScope st))
    (hb : ∀ (kV doc pm : Value) (an : Option Addr) (cdv ct : Value) (us : List Value), us.length = ps.length → bindArgs (PySem.W.fnOf x qual (defArgs st) (defBody st) (defScope st) .none kV doc pm an cdv ct) ⟨us, []⟩ = pure (ps.zip us))
    (hbody : ∀ (f : Addr) (cdv : Value) (A : Around) (outer : List Env) (s : Shared) (H : Hp) (E : XK), Room k (A.deeper (envOfC qual (defScope st) s.heap.objs.size f cdv)) →
      ∃ t, PSs (cxOf CX0 P w K mg base N qual (defScope st) f cdv A outer s H E).nox (defBody st) t ∧ ∀ zs o R, T zs o R → WS K t (fun _ o' => FinZ R o .non o') (FinZ R o) nN nN (startZ N.length zs) o) :
    Cal P w K mg base x (k + 1) ps T := by
  obtain ⟨f, fd, h1, F⟩ := D
  refine ⟨f, fd, h1, F.kp, F.binds hb, F.ok S spZ.len fun cdv A outer s H vs Q E hr hs => ?_⟩
  obtain ⟨t, h2, h3⟩ := hbody f cdv A outer s H E hr
  exact ⟨t, h2, spZ.run hs h3⟩
theorem CalM.mk {C : Addr} {m x qual : Str} {st : Stmt} {k : Nat} {ps N : List Str} {T : TZ} (D : ∃ f fd, Meth K C m f ∧ L2.Fun K x qual st f fd) (S : FnScope N ps (defScope st))
    (hb : ∀ (kV doc pm : Value) (an : Option Addr) (cdv ct : Value) (us : List Value), us.length = ps.length → bindArgs (PySem.W.fnOf x qual (defArgs st) (defBody st) (defScope st) .none kV doc pm an cdv ct) ⟨us, []⟩ = pure (ps.zip us))
    (hbody : ∀ (f : Addr) (cdv : Value) (A : Around) (outer : List Env) (s : Shared) (H : Hp) (E : XK), Room k (A.deeper (envOfC qual (defScope st) s.heap.objs.size f cdv)) →
      ∃ t, PSs (cxOf CX0 P w K mg base N qual (defScope st) f cdv A outer s H E).nox (defBody st) t ∧ ∀ zs o R, T zs o R → WS K t (fun _ o' => FinZ R o .non o') (FinZ R o) nN nN (startZ N.length zs) o) :
    CalM P w K mg base C m (k + 1) ps T := by
  obtain ⟨f, fd, h1, F⟩ := D
  refine ⟨f, fd, h1, F.binds hb, F.ok S spZ.len fun cdv A outer s H vs Q E hr hs => ?_⟩
  obtain ⟨t, h2, h3⟩ := hbody f cdv A outer s H E hr
  exact ⟨t, h2, spZ.run hs h3⟩
end
theorem pe_callZ {X : Cx} {P : Program} {w : World} {K : PySem.W.Frag} {mg : Str → Option Value} {base : Heap} {A : Around} {x : Str} {k : Nat} {ps : List Str} {T : TZ} {e : Expr} {es : List Expr} {p pos : Pos} {t : TA}
    (C : Cal P w K mg base x k ps T) (hr : Room k A) (ha : PA X (e :: es) t) (hX : X.prog = P ∧ X.w = w ∧ X.K = K ∧ X.mg = mg ∧ X.base = base ∧ X.A = A := by exact ⟨rfl, rfl, rfl, rfl, rfl, rfl⟩) (hg : Gl X x := by rfl) (hdb : (x == ("__debug__" : Str)) = false := by decide) (he : starEach (e :: es) X.env = (false, eval e X.env) :: starEach es X.env := by rfl)
    (hpl : (backTo pos (starEach es X.env)).any (·.1) = false := by rfl) : PE X (.Call (.Name x p) (e :: es) [] pos) (tCall (spZ K ps.length T) [] E0 t) := by
  obtain ⟨rfl, rfl, rfl, rfl, rfl, rfl⟩ := hX
  obtain ⟨f, fd, h1, h2, h3, h4⟩ := C
  exact pe_call h4 hr hg h1 h2 h3 .nil pass0 ha hdb he hpl
end K76

/-! ## ZE -/
namespace K76
open PySem PySem.W PyProof.Rows L2 Evl
theorem exI {i : Int} {p : Int → Prop} (h : p i) : ∃ j, Z.int i = Z.int j ∧ p j := ⟨i, rfl, h⟩
theorem exB {i : Bool} {p : Bool → Prop} (h : p i) : ∃ j, Z.bl i = Z.bl j ∧ p j := ⟨i, rfl, h⟩
theorem cxK {CX : CXT} {P : Program} {w : World} {K : PySem.W.Frag} {mg : Str → Option Value} {base : Heap} {N : List Str} {qual : Str} {scope : Scope} {f : Addr} {cd : Value} {A : Around} {outer : List Env} {s : Shared} {H : Hp} {E : XK} : (cxOf CX P w K mg base N qual scope f cd A outer s H E).nox.K = K := rfl
theorem we_varE {K : PySem.W.Frag} {r : RR} {o : OO} {P : Z → OO → Prop} {i : Nat} (h : ∃ z, r[i]? = some (some z) ∧ P z o) : WE K (tVar i) r o P := let ⟨_, a, b⟩ := h; we_var a b
theorem zo_iE {K : PySem.W.Frag} {r : RR} {o : OO} {P : Z → OO → Prop} {C : Int → Int → Prop} {g : Int → Int → Int} {i j : Int} (h : C i j ∧ P (.int (g i j)) o) : ZO K (rI C fun i j => .int (g i j)) (.int i) (.int j) r o P := zo_i h.1 h.2
theorem ws_own0 {K : PySem.W.Frag} {r : RR} {o : OO} {nx : NN} {rt : RT} {bk ct : NN} {i : Nat} (h : ∀ p, nx (r.set i (some (.ref p))) (o ++ [(p, .lst [])])) : WS K (tAsg (tLst tNil) (gName i)) nx rt bk ct r o := ws_own (wa_nil ⟨Nat.zero_le _, h⟩)
theorem ws_app0 {K : PySem.W.Frag} {r : RR} {o : OO} {te : TE} {nx : NN} {rt : RT} {bk ct : NN} {i : Nat} (h : ∃ a xs0, r[i]? = some (some (.ref a)) ∧ o[0]? = some (a, .lst xs0) ∧ WE K te r o fun y o1 => ∃ xs, o1[0]? = some (a, .lst xs) ∧ xs.length < 100000 ∧ nx r (o1.set 0 (a, .lst (xs ++ [y])))) :
    WS K (tDrop (tBM K "list" rAppend (tVar i) (tCons te tNil))) nx rt bk ct r o := let ⟨_, _, h1, h2, h3⟩ := h; ws_app h1 h2 h3
theorem zc_tupO0 {K : PySem.W.Frag} {r : RR} {o : OO} {P : Z → OO → Prop} {a : Addr} (h : ∃ xs, o[0]? = some (a, .lst xs) ∧ P (.tup xs) o) : ZC K (rTup1 K) [.ref a] r o P := let ⟨_, h1, h2⟩ := h; zc_tupO h1 h2
theorem zc_lenO0 {K : PySem.W.Frag} {r : RR} {o : OO} {P : Z → OO → Prop} {a : Addr} (h : ∃ xs, o[0]? = some (a, .lst xs) ∧ P (.int xs.length) o) : ZC K (rLen1 K) [.ref a] r o P := let ⟨_, h1, h2⟩ := h; zc_lenO h1 h2
theorem fdiv_nat (m n : Nat) : (m : Int).fdiv (n : Int) = ((m / n : Nat) : Int) := by
  rw [Int.fdiv_eq_ediv_of_nonneg _ (Int.natCast_nonneg n)]
  rfl
theorem fmod_nat (m n : Nat) : (m : Int).fmod (n : Int) = ((m % n : Nat) : Int) := by
  rw [Int.fmod_eq_emod_of_nonneg _ (Int.natCast_nonneg n)]
  rfl
theorem zo_eqE {K : PySem.W.Frag} {r : RR} {o : OO} {P : Z → OO → Prop} {x y : Z} (h : x.sc = true ∧ y.sc = true ∧ scal x.v y.v = true ∧ P (.bl (decide (x.v = y.v))) o) : ZO K rEq x y r o P := zo_eq h.1 h.2.1 h.2.2.1 h.2.2.2
theorem zo_neE {K : PySem.W.Frag} {r : RR} {o : OO} {P : Z → OO → Prop} {x y : Z} (h : x.sc = true ∧ y.sc = true ∧ scal x.v y.v = true ∧ P (.bl (!decide (x.v = y.v))) o) : ZO K rNe x y r o P := zo_ne h.1 h.2.1 h.2.2.1 h.2.2.2
theorem exL {i : List Z} {p : List Z → Prop} (h : p i) : ∃ j, Z.lst i = Z.lst j ∧ p j := ⟨i, rfl, h⟩
theorem exT {i : List Z} {p : List Z → Prop} (h : p i) : ∃ j, Z.tup i = Z.tup j ∧ p j := ⟨i, rfl, h⟩
theorem wt_yes {K : PySem.W.Frag} {r : RR} {o : OO} {P : Bool → OO → Prop} (h : P true o) : WT K tYes r o P := fun _ _ σ Hb O H S Q q => q true o Hb O H (Ex.refl _) S h
theorem ws_never {K : PySem.W.Frag} {r : RR} {o : OO} {nx : NN} {rt : RT} {bk ct : NN} (h : False) : WS K tNever nx rt bk ct r o := h.elim
theorem atI_in {α : Type} {xs : List α} {i : Int} (h0 : 0 ≤ i) (h1 : i < xs.length) : atI xs i = xs[i.toNat]? := by
  obtain ⟨n, rfl⟩ := Int.eq_ofNat_of_zero_le h0
  have hn : n < xs.length := by omega
  show _ = xs[n]?
  rw [List.getElem?_eq_getElem hn]
  exact atI_nat (List.getElem?_eq_getElem hn)
theorem dec_t {p : Prop} [Decidable p] (h : decide p = true) : p := of_decide_eq_true h
theorem dec_f {p : Prop} [Decidable p] (h : decide p = false) : ¬ p := of_decide_eq_false h
theorem vi {a b : Int} (h : decide ((Z.int a).v = (Z.int b).v) = true) : a = b := V.int.inj (of_decide_eq_true h)
theorem vn {a b : Int} (h : decide ((Z.int a).v = (Z.int b).v) = false) : a ≠ b := fun e => of_decide_eq_false h (congrArg V.int e)
theorem ws_retO {K : PySem.W.Frag} {r : RR} {nx : NN} {rt : RT} {bk ct : NN} {i : Nat} {a : Addr} {zs : List Z} (hi : r[i]? = some (some (.ref a))) (k : rt (.lst zs) []) : WS K (tRet (tVar i)) nx rt bk ct r [(a, .lst zs)] := by
  refine ws_ret (we_still (o := []) hi ?_)
  exact we_var (List.getElem?_set_self (List.getElem?_eq_some_iff.mp hi).1) k
theorem ws_retOE {K : PySem.W.Frag} {r : RR} {nx : NN} {rt : RT} {bk ct : NN} {i : Nat} {a : Addr} {zs : List Z} (h : r[i]? = some (some (.ref a)) ∧ rt (.lst zs) []) : WS K (tRet (tVar i)) nx rt bk ct r [(a, .lst zs)] := ws_retO h.1 h.2
theorem take_more {α : Type} : ∀ {l : List α} {i : Nat} {x : α}, l[i]? = some x → l.take (i + 1) = l.take i ++ [x]
  | [], i, x, h => by simp at h
  | a :: l, 0, x, h => by
    have e : a = x := Option.some.inj h
    subst e
    rfl
  | a :: l, i + 1, x, h => by
    have ih := take_more (l := l) (i := i) (x := x) h
    show a :: l.take (i + 1) = a :: l.take i ++ [x]
    rw [ih]
    rfl
/-- each of ys from its fellow of xs -/
inductive Each {α β : Type} (G : α → β → Prop) : List α → List β → Prop
  | nil : Each G [] []
  | cons {x : α} {y : β} {xs : List α} {ys : List β} : G x y → Each G xs ys → Each G (x :: xs) (y :: ys)
theorem Each.snoc {α β : Type} {G : α → β → Prop} {x : α} {y : β} : ∀ {xs : List α} {ys : List β}, Each G xs ys → G x y → Each G (xs ++ [x]) (ys ++ [y])
  | _, _, .nil, h => .cons h .nil
  | _, _, .cons a r, h => .cons a (r.snoc h)
theorem Each.len {α β : Type} {G : α → β → Prop} : ∀ {xs : List α} {ys : List β}, Each G xs ys → ys.length = xs.length
  | _, _, .nil => rfl
  | _, _, .cons _ r => congrArg (· + 1) r.len
theorem Each.mem {α β : Type} {G : α → β → Prop} {y : β} : ∀ {xs : List α} {ys : List β}, Each G xs ys → y ∈ ys → ∃ x, x ∈ xs ∧ G x y
  | _, _, .nil, h => by cases h
  | _, _, .cons a r, h => by
    rcases List.mem_cons.mp h with rfl | h
    · exact ⟨_, List.mem_cons_self, a⟩
    · obtain ⟨x, h1, h2⟩ := r.mem h
      exact ⟨x, List.mem_cons_of_mem _ h1, h2⟩
theorem Each.map {α β : Type} {f : α → β} {G : α → β → Prop} (h : ∀ x y, G x y → y = f x) : ∀ {xs : List α} {ys : List β}, Each G xs ys → ys = xs.map f
  | _, _, .nil => rfl
  | _, _, .cons a r => by rw [h _ _ a, r.map h]; rfl
/-- a comprehension without a test: each item by itself -/
theorem we_lcG {K : PySem.W.Frag} {r : RR} {o : OO} {P : Z → OO → Prop} {te : TE} {wi : TI} {j : Nat} (G : Z → Z → Prop) (h : WI K wi r o fun zs o1 => zs.length ≤ 99999 ∧ (∀ z, z ∈ zs → WE K te (r.set j (some z)) o1 fun y o2 => o2 = o1 ∧ G z y) ∧ ∀ ys, Each G zs ys → P (.lst ys) o1) :
    WE K (tLc wi (gName j) tYes te [j]) r o P := we_lc fun _ _ σ Hb O H S R q => h _ _ σ Hb O H S R fun J zs o1 Hb1 O1 H1 e1 S1 w k => q J zs o1 Hb1 O1 H1 e1 S1 w
  ⟨k.1, fun i acc o' => o' = o1 ∧ Each G (zs.take i) acc, ⟨rfl, .nil⟩, fun i z acc o' hz ⟨ho, ha⟩ => wt_yes ⟨fun _ => by
      subst ho
      refine (k.2.1 z (List.mem_of_getElem? hz)).imp fun y o2 ⟨h1, h2⟩ => ⟨h1, ?_⟩
      rw [take_more hz]
      exact ha.snoc h2, fun e => nomatch e⟩, fun acc o' ⟨ho, ha⟩ => by
      subst ho
      rw [List.take_length] at ha
      exact k.2.2 acc ha⟩
theorem we_lcF {K : PySem.W.Frag} {r : RR} {o : OO} {P : Z → OO → Prop} {te : TE} {wi : TI} {j : Nat} (f : Z → Z) (h : WI K wi r o fun zs o1 => zs.length ≤ 99999 ∧ (∀ z, z ∈ zs → WE K te (r.set j (some z)) o1 fun y o2 => o2 = o1 ∧ y = f z) ∧ P (.lst (zs.map f)) o1) :
    WE K (tLc wi (gName j) tYes te [j]) r o P := we_lcG (fun z y => y = f z) fun _ _ σ Hb O H S R q => h _ _ σ Hb O H S R fun J zs o1 Hb1 O1 H1 e1 S1 w k => q J zs o1 Hb1 O1 H1 e1 S1 w
  ⟨k.1, k.2.1, fun ys hy => by rw [hy.map fun _ _ e => e]; exact k.2.2⟩
/-- a term, a sum of terms, as the program lays them -/
abbrev zt (t : List Int) : Z := .tup (t.map Z.int)
abbrev zts (ts : List (List Int)) : Z := .tup (ts.map zt)
theorem fin0 {R : Z → OO → Prop} {z : Z} {o' : OO} (k : R z []) : FinZ R [] z o' := ⟨[], o', rfl, rfl, k⟩
theorem and1 {a b : Prop} (h : b) : (true = true → b) ∧ (true = false → a) := ⟨fun _ => h, fun e => nomatch e⟩
theorem bits_abs (n : Int) : Builtin.Int.intBits (if n < 0 then -n else n) = Builtin.Int.intBits n := by
  split
  · unfold Builtin.Int.intBits
    rw [Int.natAbs_neg]
    by_cases h : n = 0
    · subst h; rfl
    · rw [if_neg (by simpa using h), if_neg (by simpa using h)]
  · rfl
theorem abs_nat (n : Int) : (if n < 0 then -n else n) = (n.natAbs : Int) := by
  split <;> omega
end K76

/-! ## ZT -/
namespace K76
open PySem PySem.W PyProof.Rows L2 Evl
structure Tx (K : PySem.W.Frag) (mg : Str → Option Value) : Prop where
  b_len : mg "len" = none
  b_abs : mg "abs" = none
  b_int : mg "int" = none
  b_max : mg "max" = none
  b_min : mg "min" = none
  b_sum : mg "sum" = none
  b_range : mg "range" = none
  b_tuple : mg "tuple" = none
  b_list : mg "list" = none
  b_isinstance : mg "isinstance" = none
  b_sorted : mg "sorted" = none
  b_enumerate : mg "enumerate" = none
  b_zip : mg "zip" = none
  b_reversed : mg "reversed" = none
  b_super : mg "super" = none
  b_bool : mg "bool" = none
  b_all : mg "all" = none
  d_is_whole : DefD K mg "is_whole" "is_whole" (top 4)
  d_bits_of : DefD K mg "bits_of" "bits_of" (top 5)
  d_words_of : DefD K mg "words_of" "words_of" (top 6)
  d_is_word_prime : DefD K mg "is_word_prime" "is_word_prime" (top 8)
  d_weight_of : DefD K mg "weight_of" "weight_of" (top 9)
  d_are_good_points : DefD K mg "are_good_points" "are_good_points" (top 10)
  d_used_points : DefD K mg "used_points" "used_points" (top 11)
  d_need_of : DefD K mg "need_of" "need_of" (top 12)
  d_trimmed : DefD K mg "trimmed" "trimmed" (top 14)
  d_product_words : DefD K mg "product_words" "product_words" (top 16)
  d_is_parts : DefD K mg "is_parts" "is_parts" (top 19)
  d_is_numbers : DefD K mg "is_numbers" "is_numbers" (top 20)
  d_takes_ring : DefD K mg "takes_ring" "takes_ring" (top 164)
  d_takes_division : DefD K mg "takes_division" "takes_division" (top 165)
  d_takes_truth : DefD K mg "takes_truth" "takes_truth" (top 171)
  d_takes_whole : DefD K mg "takes_whole" "takes_whole" (top 174)
  d_bars_whole : DefD K mg "bars_whole" "bars_whole" (top 176)
  d_takes_value : ∃ f fd, mg "takes_value_judging" = some (.ref f) ∧ L2.Fun K "takes_value" "takes_value" (top 185) f fd
  d_takes_none : DefD K mg "takes_none" "takes_none" (top 187)
  d_takes : DefD K mg "takes" "takes" (top 188)
  d_plain_whole : DefD K mg "plain_whole" "plain_whole" (top 372)
  d_plain_value : DefD K mg "plain_value" "plain_value" (top 381)
  d_whole_paper : DefD K mg "whole_paper" "whole_paper" (top 401)
  d_value_paper : DefD K mg "value_paper" "value_paper" (top 410)
  d_bar_paper : DefD K mg "bar_paper" "bar_paper" (top 412)
  d_is_so : DefD K mg "is_so" "is_so" (top 413)
  d_paper_of : DefD K mg "paper_of" "paper_of" (top 414)
  d__law_cell : DefD K mg "_law_cell" "_law_cell" (top 416)
  d__law_row : DefD K mg "_law_row" "_law_row" (top 417)
  d__law_one : DefD K mg "_law_one" "_law_one" (top 418)
  d__law_is_prime : DefD K mg "_law_is_prime" "_law_is_prime" (top 419)
  d__law_primes : DefD K mg "_law_primes" "_law_primes" (top 420)
  d__law_points : DefD K mg "_law_points" "_law_points" (top 421)
  d__law_number : DefD K mg "_law_number" "_law_number" (top 422)
  d__law_words : DefD K mg "_law_words" "_law_words" (top 423)
  d__law_need : DefD K mg "_law_need" "_law_need" (top 424)
  d__law_total : DefD K mg "_law_total" "_law_total" (top 425)
  d__law_used : DefD K mg "_law_used" "_law_used" (top 426)
  d__law_exact : DefD K mg "_law_exact" "_law_exact" (top 427)
  d__law_hidden : DefD K mg "_law_hidden" "_law_hidden" (top 428)
  d__law_drawn : DefD K mg "_law_drawn" "_law_drawn" (top 429)
  d__law_terms : DefD K mg "_law_terms" "_law_terms" (top 430)
  d__law_zero_due : DefD K mg "_law_zero_due" "_law_zero_due" (top 431)
  d__law_near : DefD K mg "_law_near" "_law_near" (top 432)
  d__law_fractions : DefD K mg "_law_fractions" "_law_fractions" (top 433)
  d__law_is_truth : DefD K mg "_law_is_truth" "_law_is_truth" (top 434)
  d__law_call : DefD K mg "_law_call" "_law_call" (top 435)
  d__law_state : DefD K mg "_law_state" "_law_state" (top 436)
  d__law_faulty : DefD K mg "_law_faulty" "_law_faulty" (top 437)
  d__law_bad : DefD K mg "_law_bad" "_law_bad" (top 438)
  d__law_paper : DefD K mg "_law_paper" "_law_paper" (top 439)
  d__law_claims : DefD K mg "_law_claims" "_law_claims" (top 440)
  d_law : DefD K mg "law" "law" (top 441)
  g_FRACTION_BARRED : ∃ a : Addr, mg "FRACTION_BARRED" = some (.ref a) ∧ ∀ H : Hp, SqT K H a ((["over", "fdiv", "again"] : List Str).map V.str)
  g_FRACTION_PAPERS : ∃ a : Addr, mg "FRACTION_PAPERS" = some (.ref a) ∧ ∀ H : Hp, SqT K H a ((["over", "fadd", "fsub", "fmul", "fdiv", "ffloor", "fless", "fat"] : List Str).map V.str)
  g_FRACTION_RULES : ∃ a : Addr, mg "FRACTION_RULES" = some (.ref a) ∧ ∀ H : Hp, SqT K H a ((["lift", "over", "fadd", "fsub", "fmul", "fdiv", "fneg", "num", "den", "ffloor", "again", "fless", "fsame"] : List Str).map V.str)
  g_POLY_PLAIN : ∃ a : Addr, mg "POLY_PLAIN" = some (.ref a) ∧ ∀ H : Hp, SqT K H a ((["poly", "padd", "psub", "pmul", "pneg", "slope", "at", "psame"] : List Str).map V.str)
  g_POLY_RULES : ∃ a : Addr, mg "POLY_RULES" = some (.ref a) ∧ ∀ H : Hp, SqT K H a ((["poly", "padd", "psub", "pmul", "pneg", "slope", "at", "fat", "common", "parts", "part", "psame"] : List Str).map V.str)
  g_RING : ∃ a : Addr, mg "RING" = some (.ref a) ∧ ∀ H : Hp, SqT K H a ((["number", "add", "sub", "mul", "neg", "pow"] : List Str).map V.str)
  g_ROOT_PAPERS : ∃ a : Addr, mg "ROOT_PAPERS" = some (.ref a) ∧ ∀ H : Hp, SqT K H a ((["roots", "root", "rneg", "radd", "rmul", "rless", "sign", "rfloor"] : List Str).map V.str)
  g_ROOT_RULES : ∃ a : Addr, mg "ROOT_RULES" = some (.ref a) ∧ ∀ H : Hp, SqT K H a ((["rlift", "roots", "root", "rneg", "radd", "rmul", "rless", "rsame", "sign", "rfloor"] : List Str).map V.str)
  g_TABLE_PAPERS : ∃ a : Addr, mg "TABLE_PAPERS" = some (.ref a) ∧ ∀ H : Hp, SqT K H a ((["det", "rank", "solve", "scale", "solvable"] : List Str).map V.str)
  g_TABLE_PLAIN : ∃ a : Addr, mg "TABLE_PLAIN" = some (.ref a) ∧ ∀ H : Hp, SqT K H a ((["table", "tadd", "tsub", "tneg", "tmul", "det", "rank", "entry", "tsame"] : List Str).map V.str)
  g_TABLE_RULES : ∃ a : Addr, mg "TABLE_RULES" = some (.ref a) ∧ ∀ H : Hp, SqT K H a ((["table", "tadd", "tsub", "tneg", "tmul", "det", "rank", "entry", "solve", "scale", "solvable", "tsame"] : List Str).map V.str)
  g_TRUTHS : ∃ a : Addr, mg "TRUTHS" = some (.ref a) ∧ ∀ H : Hp, SqT K H a ((["less", "same", "and", "or", "not"] : List Str).map V.str)
  g_WHOLE_BARRED : ∃ a : Addr, mg "WHOLE_BARRED" = some (.ref a) ∧ ∀ H : Hp, SqT K H a ((["quotient", "rest", "power", "join", "factors", "factor"] : List Str).map V.str)
  g_WHOLE_PAPERS : ∃ a : Addr, mg "WHOLE_PAPERS" = some (.ref a) ∧ ∀ H : Hp, SqT K H a ((["quotient", "rest", "gcd", "power", "factors", "factor", "join", "again", "prime"] : List Str).map V.str)
  g_WHOLE_PLAIN : ∃ a : Addr, mg "WHOLE_PLAIN" = some (.ref a) ∧ ∀ H : Hp, SqT K H a ((["number", "add", "sub", "mul", "neg", "pow", "quotient", "rest", "less", "same", "and", "or", "not"] : List Str).map V.str)
  g_WHOLE_RULES : ∃ a : Addr, mg "WHOLE_RULES" = some (.ref a) ∧ ∀ H : Hp, SqT K H a ((["number", "add", "sub", "mul", "neg", "pow", "quotient", "rest", "gcd", "power", "factors", "factor", "join", "prime", "less", "same", "and", "or", "not"] : List Str).map V.str)
/-- the class Judge -/
structure TJ (K : PySem.W.Frag) (mg : Str → Option Value) (JC : Addr) : Prop where
  g : mg "Judge" = some (.ref JC)
  cl : Cls K JC
  n_bits : NoAttr K JC "bits"
  n_points : NoAttr K JC "points"
  n_steps : NoAttr K JC "steps"
  n_most : NoAttr K JC "most"
  n_good : NoAttr K JC "good"
  m_init : ∃ f fd, Mk K JC f ∧ L2.Fun K "__init__" "Judge.__init__" (inClass (top 17) 0) f fd
  m_rest_of : ∃ f fd, Meth K JC "rest_of" f ∧ L2.Fun K "rest_of" "Judge.rest_of" (inClass (top 17) 1) f fd
  m_leaves_none : ∃ f fd, Meth K JC "leaves_none" f ∧ L2.Fun K "leaves_none" "Judge.leaves_none" (inClass (top 17) 2) f fd
  m_zero : ∃ f fd, Meth K JC "zero" f ∧ L2.Fun K "zero" "Judge.zero" (inClass (top 17) 3) f fd
  m_size_less : ∃ f fd, Meth K JC "size_less" f ∧ L2.Fun K "size_less" "Judge.size_less" (inClass (top 17) 4) f fd
  m_less : ∃ f fd, Meth K JC "less" f ∧ L2.Fun K "less" "Judge.less" (inClass (top 17) 5) f fd
  m_fraction_less : ∃ f fd, Meth K JC "fraction_less" f ∧ L2.Fun K "fraction_less" "Judge.fraction_less" (inClass (top 17) 6) f fd
  m_most_of : ∃ f fd, Meth K JC "most_of" f ∧ L2.Fun K "most_of" "Judge.most_of" (inClass (top 17) 7) f fd
  m_between : ∃ f fd, Meth K JC "between" f ∧ L2.Fun K "between" "Judge.between" (inClass (top 17) 8) f fd
  m_equal : ∃ f fd, Meth K JC "equal" f ∧ L2.Fun K "equal" "Judge.equal" (inClass (top 17) 9) f fd
end K76

/-! ## ZG -/
namespace K76
open PySem PySem.W PyProof.Rows L2 Evl
section
variable {X : Cx} {K : PySem.W.Frag}
theorem ix_listK (h : X.K = K := by rfl) : IxR X (rIxL K) := by
  subst h
  exact ix_list
theorem ix_tupK (h : X.K = K := by rfl) : IxR X (rIxT K) := by
  subst h
  exact ix_tup
theorem call_lenK (h : X.K = K := by rfl) : CallR X (.builtin "len") (rLen1 K) := by
  subst h
  exact call_len_seq
theorem call_tupK (h : X.K = K := by rfl) : CallR X (.type "tuple") (rTup1 K) := by
  subst h
  exact call_tuple_of
theorem call_lstK (h : X.K = K := by rfl) : CallR X (.type "list") (rLst1 K) := by
  subst h
  exact call_list_of
theorem cr_sumK (hc : X.calm = true) (h : X.K = K := by rfl) : CallR X (.builtin "sum") (rSum K) := by
  subst h
  exact cr_sum hc
theorem call_isiK2 (h : X.K = K := by rfl) : CallR X (.builtin "isinstance") (rIsi K) := by
  subst h
  exact call_isi
theorem sl_listK (h : X.K = K := by rfl) : L2.SlR X (rSlL K) := by
  subst h
  exact sl_list
theorem sl_tupK (h : X.K = K := by rfl) : L2.SlR X (rSlA K) := by
  subst h
  exact sl_tupA
theorem op_catK (h : X.K = K := by rfl) : OpR X (binaryOp .Add) (rCatA K) := by
  subst h
  exact op_catA
theorem op_inK (h : X.K = K := by rfl) : OpR X (compareOp .In) (rIn K false) := by
  subst h
  exact op_in_seq
theorem op_eqK (hu : X.A.units + 64 < cLine) (h : X.K = K := by rfl) : OpR X (compareOp .Eq) (rEqD K) := by
  subst h
  exact op_eqD hu
theorem op_neK (hu : X.A.units + 64 < cLine) (h : X.K = K := by rfl) : OpR X (compareOp .NotEq) (rNeD K) := by
  subst h
  exact op_neD hu
theorem pi_tupK {tg e : Expr} {te : TE} (he : PE X e te) (h : X.K = K := by rfl) : PI X tg e (iTup K te) := by
  subst h
  exact pi_tup he
theorem pi_listK {tg e : Expr} {te : TE} (he : PE X e te) (h : X.K = K := by rfl) : PI X tg e (iList K te) := by
  subst h
  exact pi_list he
theorem pe_fldK {e : Expr} {f : Str} {pos : Pos} {ta : TE} (he : PE X e ta) (hb : attributeBase e f X.env (eval e X.env) = eval e X.env) (h : X.K = K := by rfl) : PE X (.Attribute e f pos) (tFld K ta f) := by
  subst h
  exact pe_fld he hb
end
section
variable {K : PySem.W.Frag} {te ta tb : TE} {tt : TT} {tr : TA} {r : RR} {o : OO} {P : Z → OO → Prop} {nx : NN} {rt : RT} {bk ct : NN} {t u : TS} {x y z : Z}
theorem wg_lst {n : Nat} {gs : TGs} {zs : List Z} {PR : RR → Prop} (hn : zs.length = n) (h : WGs K gs zs r o PR) : WG K (gLst K n gs) (.lst zs) r o PR := fun _ _ σ Hb O H S v d Q q => by
  cases d with
  | lst h1 h2 => exact ⟨_, _, rfl, sq_of (S.lay.bh _ _ h1), by rw [h2.len, hn], h _ _ σ Hb O H S _ h2 _ q⟩
theorem wg_lstE {n : Nat} {gs : TGs} {zs : List Z} {PR : RR → Prop} (h : zs.length = n ∧ WGs K gs zs r o PR) : WG K (gLst K n gs) (.lst zs) r o PR := wg_lst h.1 h.2
theorem wg_tupE {n : Nat} {gs : TGs} {zs : List Z} {PR : RR → Prop} (h : zs.length = n ∧ WGs K gs zs r o PR) : WG K (gTup K n gs) (.tup zs) r o PR := wg_tup h.1 h.2
theorem ws_mid (M : NN) (h : WS K t M rt bk ct r o) (k : ∀ r' o', M r' o' → WS K u nx rt bk ct r' o') : WS K (tSeq t u) nx rt bk ct r o := ws_seq fun _ _ σ Hb O H D C S => h _ _ σ Hb O H D ⟨fun r o σ Hb O H S m => C.cn r o σ Hb O H S (k r o m), C.cr, C.cb, C.cc⟩ S
theorem ws_seqA {g : TG} (h : WS K (tAsg te g) (fun r' o' => WS K u nx rt bk ct r' o') rt bk ct r o) : WS K (tSeq (tAsg te g) u) nx rt bk ct r o := ws_seq h
theorem ws_seqD (h : WS K (tDrop te) (fun r' o' => WS K u nx rt bk ct r' o') rt bk ct r o) : WS K (tSeq (tDrop te) u) nx rt bk ct r o := ws_seq h
theorem ws_seqIf {c : TT} {v : TS} (h : WS K (tSeq (tIfS c t u) v) nx rt bk ct r o) : WS K (tSeq (tIfS c t u) v) nx rt bk ct r o := h
theorem len_and {l : List Z} {p : Prop} (h : l.length ≤ 100000) (k : p) : l.length ≤ 100000 ∧ p := ⟨h, k⟩
/-- tuple + tuple -/
theorem zo_catT {xs ys : List Z} (hl : xs.length + ys.length ≤ 100000) (k : P (.tup (xs ++ ys)) o) : ZO K (rCatA K) (.tup xs) (.tup ys) r o P := fun _ _ σ Hb O H S vx vy d1 d2 Q q => by
  cases d1 with
  | @tup a vs _ ha da =>
    cases d2 with
    | @tup b us _ hb db =>
      refine ⟨a, b, vs, us, rfl, rfl, ex_t S.lay.bh ha, ex_t S.lay.bh hb, sz_of (by rw [da.len, db.len]; exact hl), fun e => ?_, fun _ e => ?_, fun _ _ p hp => ?_⟩
      · subst e
        cases da
        exact q _ _ o Hb O H (Ex.refl _) S (.tup hb db) k
      · subst e
        cases db
        rw [List.append_nil] at k
        exact q _ _ o Hb O H (Ex.refl _) S (.tup ha da) k
      · obtain ⟨e2, l2⟩ := S.lay.new (u := .tup (vs ++ us)) hp
        exact q _ _ o _ O _ e2 (S.grow e2 l2) (.tup (st_of upd_same) ((da.app db).mono e2)) k
/-- list + list -/
theorem zo_catL {xs ys : List Z} (hl : xs.length + ys.length ≤ 100000) (k : P (.lst (xs ++ ys)) o) : ZO K rCat (.lst xs) (.lst ys) r o P := fun _ _ σ Hb O H S vx vy d1 d2 Q q => by
  cases d1 with
  | @lst a vs _ ha da =>
    cases d2 with
    | @lst b us _ hb db =>
      refine ⟨a, b, vs, us, rfl, rfl, S.lay.bh _ _ ha, S.lay.bh _ _ hb, sz_of (by rw [da.len, db.len]; exact hl), fun p hp => ?_⟩
      obtain ⟨e2, l2⟩ := S.lay.new (u := .lst (vs ++ us)) hp
      exact q _ _ o _ O _ e2 (S.grow e2 l2) (.lst upd_same ((da.app db).mono e2)) k
theorem zo_catTE {xs ys : List Z} (h : xs.length + ys.length ≤ 100000 ∧ P (.tup (xs ++ ys)) o) : ZO K (rCatA K) (.tup xs) (.tup ys) r o P := zo_catT h.1 h.2
theorem zo_catLE {xs ys : List Z} (h : xs.length + ys.length ≤ 100000 ∧ P (.lst (xs ++ ys)) o) : ZO K rCat (.lst xs) (.lst ys) r o P := zo_catL h.1 h.2
/-! slices -/
def WO (K : PySem.W.Frag) (to : TO) (r : RR) (o : OO) (P : Option Int → OO → Prop) : Prop := ∀ Hb0 O0 σ Hb O H, SR K Hb0 O0 r o σ Hb O H → ∀ Q : Option Int → Hp → Prop,
  (∀ i o' Hb' O' H', Ex Hb Hb' → SR K Hb0 O0 r o' σ Hb' O' H' → P i o' → Q i H') → to σ H Q
theorem wo_none {P : Option Int → OO → Prop} (k : P none o) : WO K tNoPart r o P := fun _ _ σ Hb O H S Q q => q none o Hb O H (Ex.refl _) S k
theorem wo_some {P : Option Int → OO → Prop} (h : WE K te r o fun z o1 => ∃ i, z = .int i ∧ P (some i) o1) : WO K (tPart te) r o P := fun _ _ σ Hb O H S Q q =>
  h _ _ σ Hb O H S _ fun v z o1 Hb1 O1 H1 e1 S1 d1 k1 => by
    obtain ⟨i, rfl, k⟩ := k1
    cases d1
    exact ⟨i, rfl, q (some i) o1 Hb1 O1 H1 e1 S1 k⟩
def cutZ (xs : List Z) (lo hi : Option Int) : List Z := (xs.drop (HT.sIx xs.length 0 lo)).take (HT.sIx xs.length xs.length hi - HT.sIx xs.length 0 lo)
theorem cut_dz {H : Hp} {vs : List V} {xs : List Z} {lo hi : Option Int} (d : DzA K H vs xs) : DzA K H (cutV vs lo hi) (cutZ xs lo hi) := by
  unfold cutV cutZ
  rw [d.len]
  exact (d.drop _).take _
theorem we_slL {tl th : TO} (h : WE K te r o fun z o1 => WO K tl r o1 fun lo o2 => WO K th r o2 fun hi o3 => ∃ xs, z = .lst xs ∧ P (.lst (cutZ xs lo hi)) o3) : WE K (tSl (rSlL K) te tl th) r o P := fun _ _ σ Hb O H S Q q =>
  h _ _ σ Hb O H S _ fun v z o1 Hb1 O1 H1 e1 S1 d1 k1 => k1 _ _ σ Hb1 O1 H1 S1 _ fun lo o2 Hb2 O2 H2 e2 S2 k2 => k2 _ _ σ Hb2 O2 H2 S2 _ fun hi o3 Hb3 O3 H3 e3 S3 k3 => by
    obtain ⟨xs, rfl, k⟩ := k3
    cases d1 with
    | @lst a vs _ ha da =>
      refine ⟨a, vs, rfl, sq_of (S3.lay.bh _ _ ((e2.trans e3) _ _ ha)), fun p hp => ?_⟩
      obtain ⟨e4, l4⟩ := S3.lay.new (u := .lst (cutV vs lo hi)) hp
      exact q _ _ o3 _ O3 _ (((e1.trans e2).trans e3).trans e4) (S3.grow e4 l4) (.lst upd_same (cut_dz (da.mono ((e2.trans e3).trans e4)))) k
theorem we_slT {tl th : TO} (h : WE K te r o fun z o1 => WO K tl r o1 fun lo o2 => WO K th r o2 fun hi o3 => ∃ xs, z = .tup xs ∧ P (.tup (cutZ xs lo hi)) o3) : WE K (tSl (rSlA K) te tl th) r o P := fun _ _ σ Hb O H S Q q =>
  h _ _ σ Hb O H S _ fun v z o1 Hb1 O1 H1 e1 S1 d1 k1 => k1 _ _ σ Hb1 O1 H1 S1 _ fun lo o2 Hb2 O2 H2 e2 S2 k2 => k2 _ _ σ Hb2 O2 H2 S2 _ fun hi o3 Hb3 O3 H3 e3 S3 k3 => by
    obtain ⟨xs, rfl, k⟩ := k3
    cases d1 with
    | @tup a vs _ ha da =>
      refine ⟨a, vs, rfl, ex_t S3.lay.bh (ex_t (e2.trans e3) ha), fun hw => ?_, fun _ p hp => ?_⟩
      · have e : cutZ xs lo hi = xs := by
          unfold cutZ
          rw [da.len] at hw
          rw [hw.1, hw.2, List.drop_zero, Nat.sub_zero, List.take_length]
        rw [e] at k
        exact q _ _ o3 _ O3 _ ((e1.trans e2).trans e3) S3 (.tup (ex_t (e2.trans e3) ha) (da.mono (e2.trans e3))) k
      · obtain ⟨e4, l4⟩ := S3.lay.new (u := .tup (cutV vs lo hi)) hp
        exact q _ _ o3 _ O3 _ (((e1.trans e2).trans e3).trans e4) (S3.grow e4 l4) (.tup (st_of upd_same) (cut_dz (da.mono ((e2.trans e3).trans e4)))) k
/-! is of truths, isinstance, in a row of texts -/
theorem zo_isB {a b : Bool} (k : P (.bl (decide (a = b))) o) : ZO K rIsB (.bl a) (.bl b) r o P := fun _ _ σ Hb O H S vx vy d1 d2 Q q => by
  cases d1
  cases d2
  exact ⟨a, b, rfl, rfl, q _ _ o Hb O H (Ex.refl _) S (.bl _) k⟩
theorem zo_notB {a b : Bool} (k : P (.bl (!decide (a = b))) o) : ZO K rNotB (.bl a) (.bl b) r o P := fun _ _ σ Hb O H S vx vy d1 d2 Q q => by
  cases d1
  cases d2
  exact ⟨a, b, rfl, rfl, q _ _ o Hb O H (Ex.refl _) S (.bl _) k⟩
/-- isinstance of the built-in class n: what it answers -/
def Z.isA : Z → String → Option Bool
  | .non, n => kitB "NoneType" n
  | .bl _, n => kitB "bool" n
  | .int _, n => kitB "int" n
  | .str _, n => kitB "str" n
  | .tup _, n => kitB "tuple" n
  | .lst _, n => kitB "list" n
  | _, _ => none
theorem we_isi {n : String} (h : WE K te r o fun z o1 => ∃ b, z.isA n = some b ∧ P (.bl b) o1) : WE K (tCB (rIsi K) (tCons te (tCons (tC (.ty n)) tNil))) r o P := fun _ _ σ Hb O H S Q q =>
  h _ _ σ Hb O H S _ fun v z o1 Hb1 O1 H1 e1 S1 d1 k1 => by
    obtain ⟨b, hb, k⟩ := k1
    have fin : ∀ t : String, TyX K H1 v (.type t) → kitB t n = some b → rIsi K [v, .ty n] H1 Q := fun t ty e => ⟨v, .ty n, .type t, .type n, b, rfl, .ty n, ty, kit_ty e, q _ _ o1 Hb1 O1 H1 e1 S1 (.bl b) k⟩
    show rIsi K [v, .ty n] H1 Q
    cases d1 with
    | non => exact fin _ (.base .non) hb
    | bl c => exact fin _ (.base (.bl c)) hb
    | int i => exact fin _ (.base (.int i)) hb
    | str s => exact fin _ (.base (.str s)) hb
    | lst ha _ => exact fin _ (.base (.lst (S1.lay.bh _ _ ha))) hb
    | scr _ => cases hb
    | ref _ => cases hb
    | tup ha _ =>
      rcases ha with (ha | ⟨oo, ha⟩) | ha
      · exact fin _ (.base (.tup (S1.lay.bh _ _ ha))) hb
      · exact fin _ (.fTuple (S1.lay.bh _ _ ha)) hb
      · obtain ⟨ob, its, nn, h1, h2, _⟩ := ha
        exact fin _ (.kTuple h1 h2) hb
theorem DzA.scs {H : Hp} : ∀ {vs : List V} {zs : List Z}, DzA K H vs zs → zs.all Z.sc = true → vs = zs.map Z.v
  | _, _, .nil, _ => rfl
  | _, _, .cons a b, h => by
    rw [List.all_cons, Bool.and_eq_true] at h
    rw [a.sc h.1, b.scs h.2]
    rfl
theorem Z.flat : ∀ {z : Z}, z.sc = true → flatV z.v = true
  | .non, _ => rfl
  | .bl _, _ => rfl
  | .int _, _ => rfl
  | .str _, _ => rfl
  | .tup _, h => by cases h
  | .lst _, h => by cases h
  | .scr _, h => by cases h
  | .ref _, h => by cases h
theorem Z.flats {zs : List Z} (h : zs.all Z.sc = true) : (zs.map Z.v).all flatV = true := by
  rw [List.all_eq_true] at h ⊢
  intro v hv
  obtain ⟨z, hz, rfl⟩ := List.mem_map.mp hv
  exact Z.flat (h z hz)
theorem zo_in {neg : Bool} {zs : List Z} (hx : x.sc = true) (hs : zs.all Z.sc = true) (k : P (.bl (if neg then !inV x.v (zs.map Z.v) else inV x.v (zs.map Z.v))) o) : ZO K (rIn K neg) x (.tup zs) r o P := fun _ _ σ Hb O H S vx vy d1 d2 Q q => by
  cases d2 with
  | @tup a vs _ ha da =>
    have e := da.scs hs
    subst e
    rw [d1.sc hx]
    exact ⟨a, _, rfl, .inr (ex_t S.lay.bh ha), Z.flat hx, Z.flats hs, q _ _ o Hb O H (Ex.refl _) S (.bl _) k⟩
end
end K76

/-! ## ZH -/
namespace K76
open PySem PySem.W PyProof.Rows L2 Evl
theorem Dz.ofSc {K : PySem.W.Frag} {H : Hp} : ∀ {z : Z}, z.sc = true → Dz K H z.v z
  | .non, _ => .non
  | .bl b, _ => .bl b
  | .int i, _ => .int i
  | .str x, _ => .str x
  | .tup _, h => by cases h
  | .lst _, h => by cases h
  | .scr _, h => by cases h
  | .ref _, h => by cases h
section
variable {K : PySem.W.Frag} {te ta tb : TE} {tt : TT} {tr : TA} {r : RR} {o : OO} {P : Z → OO → Prop} {nx : NN} {rt : RT} {bk ct : NN} {t u : TS} {x y z : Z} {T : TZ} {E : XK}
theorem DzA.strs {H : Hp} : ∀ ss : List Str, DzA K H (ss.map V.str) (ss.map Z.str)
  | [] => .nil
  | s :: ss => .cons (.str s) (DzA.strs ss)
theorem we_gl {a : Addr} {ss : List Str} (h : ∀ H : Hp, SqT K H a (ss.map V.str)) (k : P (.tup (ss.map Z.str)) o) : WE K (tC (.ref a)) r o P := we_ktup h (fun _ => DzA.strs ss) k
theorem known_t {a b : Prop} {c : Bool} (hc : c = true) (h : a) : (c = true → a) ∧ (c = false → b) := ⟨fun _ => h, fun e => Bool.noConfusion (hc.symm.trans e)⟩
theorem known_f {a b : Prop} {c : Bool} (hc : c = false) (h : b) : (c = true → a) ∧ (c = false → b) := ⟨fun e => Bool.noConfusion (hc.symm.trans e), fun _ => h⟩
theorem known_t' {a b : Prop} {c : Bool} (hc : c = true) (h : a) : (c = false → b) ∧ (c = true → a) := ⟨fun e => Bool.noConfusion (hc.symm.trans e), fun _ => h⟩
theorem known_f' {a b : Prop} {c : Bool} (hc : c = false) (h : b) : (c = false → b) ∧ (c = true → a) := ⟨fun _ => h, fun e => Bool.noConfusion (hc.symm.trans e)⟩
theorem zo_inE {neg : Bool} {zs : List Z} (h : x.sc = true ∧ zs.all Z.sc = true ∧ P (.bl (if neg then !inV x.v (zs.map Z.v) else inV x.v (zs.map Z.v))) o) : ZO K (rIn K neg) x (.tup zs) r o P := zo_in h.1 h.2.1 h.2.2
theorem zo_ixTE {xs : List Z} {i : Int} (h : ∃ z, atI xs i = some z ∧ P z o) : ZO K (rIxT K) (.tup xs) (.int i) r o P := let ⟨_, a, b⟩ := h; zo_ixT a b
theorem zo_ixLE {xs : List Z} {i : Int} (h : ∃ z, atI xs i = some z ∧ P z o) : ZO K (rIxL K) (.lst xs) (.int i) r o P := let ⟨_, a, b⟩ := h; zo_ixL a b
theorem cr_allK {X : Cx} (hc : X.calm = true) (h : X.K = K := by rfl) : CallR X (.builtin "all") (rAll K) := by
  subst h
  exact cr_all hc
theorem DzA.bls {H : Hp} : ∀ {vs : List V} {bs : List Bool}, DzA K H vs (bs.map Z.bl) → vs = bs.map V.bl
  | _, [], .nil => rfl
  | _, b :: bs, .cons h r => by
    cases h
    rw [DzA.bls r]
    rfl
theorem zc_all {bs : List Bool} (k : P (.bl (bs.all id)) o) : ZC K (rAll K) [.lst (bs.map Z.bl)] r o P := fun _ _ σ Hb O H S vs d Q q => by
  obtain ⟨v, rfl, dd⟩ := d.one
  cases dd with
  | lst ha da =>
    have e := da.bls
    subst e
    exact ⟨_, bs, rfl, sq_of (S.lay.bh _ _ ha), q _ _ o Hb O H (Ex.refl _) S (.bl _) k⟩
/-- f(xs), xs ours and lent: the def only reads it and answers by a scalar -/
theorem we_lend {n : Nat} (hn : n = 1) (h : WE K te r o fun z o1 => ∃ (j : Nat) (a : Addr) (xs : List Z), z = .ref a ∧ o1[j]? = some (a, .lst xs) ∧ T [.lst xs] [] fun z _ => z.sc = true ∧ P z o1) : WE K (tCall (spZ K n T) [] E (tCons te tNil)) r o P := fun _ _ σ Hb O H S Q q =>
  h _ _ σ Hb O H S _ fun v z o1 Hb1 O1 H1 e1 S1 d1 k1 => by
    obtain ⟨j, a, xs, rfl, hj, k⟩ := k1
    cases d1
    obtain ⟨n0, h0, ha, vs, rfl, da⟩ := S1.ow j a _ hj
    have hb : Hb1 a = none := S1.lay.dis a _ ha
    have eb : Ex Hb1 (upd Hb1 a (.lst vs)) := Ex.new hb
    show spZ K n T [.ref a] H1 Q E
    refine ⟨upd Hb1 a (.lst vs), fun b => if b = a then none else O1 b, [.lst xs], [], _, by rw [hn]; rfl, ⟨fun b u e => ?_, fun b u e => ?_, fun b u e => ?_⟩, .cons (.lst upd_same (da.mono eb)) .nil, fun i a c e => by simp at e, List.nodup_nil, k, fun w z o' Hb2 O2 H2 e2 l2 fr _ _ dz pz => ?_⟩
    · by_cases c : b = a
      · subst c
        rw [upd_same] at e
        cases e
        exact S1.lay.oh _ _ ha
      · rw [upd_ne c] at e
        exact S1.lay.bh b u e
    · by_cases c : b = a
      · simp only [if_pos c] at e
        cases e
      · simp only [if_neg c] at e
        exact S1.lay.oh b u e
    · by_cases c : b = a
      · simp only [if_pos c] at e
        cases e
      · simp only [if_neg c] at e
        rw [upd_ne c]
        exact S1.lay.dis b u e
    · have ew : w = z.v := dz.sc pz.1
      subst ew
      refine q _ z o1 Hb1 O1 H2 e1 ⟨⟨(eb.trans e2).trans l2.bh, fun b u e => ?_, S1.lay.dis⟩, S1.b0, S1.o0, S1.len, S1.sl, S1.ow, S1.nd⟩ (Dz.ofSc pz.1) pz.2
      by_cases c : b = a
      · subst c
        rw [ha] at e
        cases e
        exact l2.bh _ _ (e2 _ _ upd_same)
      · refine l2.oh b u (fr b u ?_ (by simp))
        show (if b = a then none else O1 b) = some u
        rw [if_neg c]
        exact e
end
end K76

/-! ## ZI -/
namespace K76
open PySem PySem.W PyProof.Rows L2 Evl
def putZ (f : Str) (v : Z) : List (Str × Z) → List (Str × Z)
  | [] => [(f, v)]
  | (g, x) :: r => if g = f then (g, v) :: r else (g, x) :: putZ f v r
theorem lookup_dz {K : PySem.W.Frag} {H : Hp} {f : Str} {z : Z} : ∀ {gs : List (Str × V)} {fs : List (Str × Z)}, gs.map Prod.fst = fs.map Prod.fst → DzA K H (gs.map Prod.snd) (fs.map Prod.snd) → fs.lookup f = some z → ∃ v, gs.lookup f = some v ∧ Dz K H v z
  | [], [], _, _, h => by cases h
  | [], _ :: _, e, _, _ => by cases e
  | _ :: _, [], e, _, _ => by cases e
  | (a, v) :: gs, (b, y) :: fs, e, d, h => by
    have e1 : a = b := (List.cons.inj e).1
    subst e1
    cases d with
    | cons d1 d2 =>
      by_cases c : (f == a) = true
      · simp only [List.lookup, c] at h ⊢
        cases h
        exact ⟨v, rfl, d1⟩
      · have c' : (f == a) = false := by simpa using c
        simp only [List.lookup, c'] at h ⊢
        exact lookup_dz (List.cons.inj e).2 d2 h
theorem lookup_nz {f : Str} : ∀ {gs : List (Str × V)} {fs : List (Str × Z)}, gs.map Prod.fst = fs.map Prod.fst → fs.lookup f = none → gs.lookup f = none
  | [], _, _, _ => rfl
  | _ :: _, [], e, _ => by cases e
  | (a, v) :: gs, (b, y) :: fs, e, h => by
    have e1 : a = b := (List.cons.inj e).1
    subst e1
    by_cases c : (f == a) = true
    · simp only [List.lookup, c] at h
      cases h
    · have c' : (f == a) = false := by simpa using c
      simp only [List.lookup, c'] at h ⊢
      exact lookup_nz (List.cons.inj e).2 h
theorem put_dz {K : PySem.W.Frag} {H : Hp} {f : Str} {v : V} {z : Z} (d0 : Dz K H v z) : ∀ {gs : List (Str × V)} {fs : List (Str × Z)}, gs.map Prod.fst = fs.map Prod.fst → DzA K H (gs.map Prod.snd) (fs.map Prod.snd) → (putF f v gs).map Prod.fst = (putZ f z fs).map Prod.fst ∧ DzA K H ((putF f v gs).map Prod.snd) ((putZ f z fs).map Prod.snd)
  | [], [], _, _ => ⟨rfl, .cons d0 .nil⟩
  | [], _ :: _, e, _ => by cases e
  | _ :: _, [], e, _ => by cases e
  | (a, u) :: gs, (b, y) :: fs, e, d => by
    have e1 : a = b := (List.cons.inj e).1
    have e2 := (List.cons.inj e).2
    subst e1
    cases d with
    | cons d1 d2 =>
      unfold putF putZ
      by_cases c : a = f
      · rw [if_pos c, if_pos c]
        exact ⟨e, .cons d0 d2⟩
      · rw [if_neg c, if_neg c]
        obtain ⟨i1, i2⟩ := put_dz d0 e2 d2
        exact ⟨congrArg (a :: ·) i1, .cons d1 i2⟩
section
variable {K : PySem.W.Frag} {te ta tb : TE} {tt : TT} {tr : TA} {r : RR} {o : OO} {P : Z → OO → Prop} {nx : NN} {rt : RT} {bk ct : NN} {t u : TS} {x y z : Z} {T : TZ} {E : XK}
/-- o.f -/
theorem we_fld {f : Str} (h : WE K ta r o fun x o1 => ∃ (j : Nat) (a C dx : Addr) (fs : List (Str × Z)) (z : Z), x = .ref a ∧ o1[j]? = some (a, .ins C dx fs) ∧ Cls K C ∧ NoAttr K C f ∧ fs.lookup f = some z ∧ P z o1) : WE K (tFld K ta f) r o P := fun _ _ σ Hb O H S Q q =>
  h _ _ σ Hb O H S _ fun v x o1 Hb1 O1 H1 e1 S1 d1 k1 => by
    obtain ⟨j, a, C, dx, fs, z, rfl, hj, hc, hn, hl, k⟩ := k1
    cases d1
    obtain ⟨_, h0, ha, gs, rfl, e2, d2⟩ := S1.ow j a _ hj
    obtain ⟨v, h1, h2⟩ := lookup_dz e2 d2 hl
    exact ⟨a, C, dx, gs, v, rfl, S1.lay.oh _ _ ha, hc, hn, h1, q v z o1 Hb1 O1 H1 e1 S1 h2 k⟩
/-- o.f = e -/
theorem ws_fld {f : Str} (h : WE K te r o fun y o1 => WE K ta r o1 fun x o2 => ∃ (j : Nat) (a C dx : Addr) (fs : List (Str × Z)), x = .ref a ∧ o2[j]? = some (a, .ins C dx fs) ∧ Cls K C ∧ NoAttr K C f ∧ fs.length < 1000 ∧ nx r (o2.set j (a, .ins C dx (putZ f y fs)))) : WS K (sFld K ta te f) nx rt bk ct r o := fun _ _ σ Hb O H D C S =>
  h _ _ σ Hb O H S _ fun v y o1 Hb1 O1 H1 e1 S1 d1 k1 => k1 _ _ σ Hb1 O1 H1 S1 _ fun w x o2 Hb2 O2 H2 e2 S2 d2 k2 => by
    obtain ⟨j, a, C', dx, fs, rfl, hj, hc, hn, hl, k⟩ := k2
    cases d2
    obtain ⟨_, h0, ha, gs, rfl, e3, d3⟩ := S2.ow j a _ hj
    obtain ⟨i1, i2⟩ := put_dz (f := f) (d1.mono e2) e3 d3
    have el : gs.length = fs.length := by
      have := congrArg List.length e3
      simpa using this
    exact ⟨a, C', dx, gs, rfl, S2.lay.oh _ _ ha, hc, hn, by omega, C.cn _ _ _ Hb2 _ _ (S2.sto hj (c' := .ins C' dx (putZ f y fs)) (h' := .ins C' dx (putF f v gs)) ⟨_, rfl, i1, i2⟩) k⟩
/-- o.m(..), the j-th of ours being o; it may change -/
theorem we_meth {C : Addr} {m : Str} {n : Nat} (h : WE K ta r o fun x o1 => ∃ (j : Nat) (a dx : Addr) (fs : List (Str × Z)), x = .ref a ∧ o1[j]? = some (a, .ins C dx fs) ∧ fs.lookup m = none ∧
      WA K tr r o1 fun zs o2 => zs.length + 1 = n ∧ ∃ c, o2[j]? = some (a, c) ∧ T (.ref a :: zs) [(a, c)] fun z o3 => ∀ c', o3 = [(a, c')] → P z (o2.set j (a, c'))) : WE K (tMeth C m (spZ K n T) [] E ta tr) r o P := fun _ _ σ Hb O H S Q q =>
  h _ _ σ Hb O H S _ fun v x o1 Hb1 O1 H1 e1 S1 d1 k1 => by
    obtain ⟨j, a, dx, fs, rfl, hj, hl, k⟩ := k1
    cases d1
    obtain ⟨_, h0, ha, gs, rfl, e2, d2⟩ := S1.ow j a _ hj
    refine ⟨a, dx, gs, rfl, S1.lay.oh _ _ ha, lookup_nz e2 hl, k _ _ σ Hb1 O1 H1 S1 _ fun vs zs o2 Hb2 O2 H2 e3 S2 d3 k3 => ?_⟩
    obtain ⟨hn, c, hj2, pre⟩ := k3
    rw [List.append_nil]
    refine call_core S2 (.cons (.ref a) d3) hn [j] [(a, c)] (by simp [hj2]) (by simp) pre fun v z oc' o' Hb' O' H' em po emo ot hp e4 S4 dz => ?_
    match oc', em with
    | [(a', c')], em =>
      have ea : a' = a := by simpa using em
      subst ea
      have jl := (List.getElem?_eq_some_iff.mp hj2).1
      have ej : o'[j]? = some (a', c') := by simpa using hp
      have eo : o' = o2.set j (a', c') := List.ext_getElem? fun i => by
        by_cases ci : j = i
        · subst ci
          rw [List.getElem?_set_self jl, ej]
        · rw [List.getElem?_set_ne ci]
          exact ot i (by simpa using fun z => ci z.symm)
      subst eo
      exact q v z _ Hb' O' H' ((e1.trans e3).trans e4) S4 dz (po c' rfl)
/-- C(..), an own class: a new owned object, last of ours -/
theorem we_make {C : Addr} {n : Nat} (h : WA K tr r o fun zs o1 => zs.length + 1 = n ∧ ∀ p dx : Addr, T (.ref p :: zs) [(p, .ins C dx [])] fun z o3 => z = .non ∧ ∀ c', o3 = [(p, c')] → P (.ref p) (o1 ++ [(p, c')])) : WE K (tMake C (spZ K n T) [] E tr) r o P := fun _ _ σ Hb O H S Q q =>
  h _ _ σ Hb O H S _ fun vs zs o1 Hb1 O1 H1 e1 S1 d1 k1 => fun p dx hp hdx hne => by
    obtain ⟨hn, k⟩ := k1
    rw [List.append_nil]
    -- the dict's object is still, the instance ours
    obtain ⟨e2, l2⟩ := S1.lay.new (u := .own p) hdx
    have S2 := S1.grow e2 l2
    have hp2 : upd H1 dx (.own p) p = none := by rw [upd_ne (fun z => hne z.symm)]; exact hp
    have S3 := S2.newO hp2 (c := .ins C dx []) (h := .ins C dx []) ⟨[], rfl, rfl, .nil⟩
    have hl : (o1 ++ [(p, OZ.ins C dx [])])[o1.length]? = some (p, .ins C dx []) := by rw [List.getElem?_append_right (Nat.le_refl _), Nat.sub_self]; rfl
    refine call_core S3 (.cons (.ref p) (d1.mono e2)) hn [o1.length] [(p, .ins C dx [])] (by simp [hl]) (by simp) (k p dx) fun v z oc' o' Hb' O' H' em po emo ot hpk e4 S4 dz => ?_
    match oc', em with
    | [(a', c')], em =>
      have ea : a' = p := by simpa using em
      subst ea
      have ej : o'[o1.length]? = some (a', c') := by simpa using hpk
      have eo : o' = o1 ++ [(a', c')] := List.ext_getElem? fun i => by
        by_cases ci : i = o1.length
        · subst ci
          rw [ej, List.getElem?_append_right (Nat.le_refl _), Nat.sub_self]
          rfl
        · rw [ot i (by simpa using ci)]
          by_cases cl : i < o1.length
          · rw [List.getElem?_append_left cl, List.getElem?_append_left cl]
          · rw [List.getElem?_eq_none (by simp; omega), List.getElem?_eq_none (by simp; omega)]
      subst eo
      obtain ⟨rfl, pz⟩ := po
      cases dz
      exact ⟨rfl, q (.ref a') (.ref a') _ Hb' O' H' ((e1.trans e2).trans e4) S4 (.ref a') (pz c' rfl)⟩
end
theorem pe_methZ {X : Cx} {P : Program} {w : World} {K : PySem.W.Frag} {mg : Str → Option Value} {base : Heap} {A : Around} {C : Addr} {m : Str} {k : Nat} {ps : List Str} {T : TZ} {e o : Expr} {es : List Expr} {apos pos : Pos} {ta : TE} {t : TA} {pl : Sem Bool}
    (c : Cls K C) (M : CalM P w K mg base C m k ps T) (hr : Room k A) (he : PE X o ta) (ha : PA X (e :: es) t) (hX : X.prog = P ∧ X.w = w ∧ X.K = K ∧ X.mg = mg ∧ X.base = base ∧ X.A = A := by exact ⟨rfl, rfl, rfl, rfl, rfl, rfl⟩)
    (hst : starEach (e :: es) X.env = (false, eval e X.env) :: starEach es X.env := by rfl) (hpl : (backTo pos (starEach es X.env)).any (·.1) = false := by rfl)
    (ht : eval (.Call (.Attribute o m apos) (e :: es) [] pos) X.env = (do
      let ov ← eval o X.env
      standAt apos.atName
      let (f, first) ← holding [ov] (getMethod ov m pl)
      callWith pos f first (backTo pos (starEach (e :: es) X.env)) (backToKw pos (keywordEach [] X.env))) := by rfl) :
    PE X (.Call (.Attribute o m apos) (e :: es) [] pos) (tMeth C m (spZ K ps.length T) [] E0 ta t) := by
  obtain ⟨rfl, rfl, rfl, rfl, rfl, rfl⟩ := hX
  obtain ⟨f, fd, h1, h2, h3⟩ := M
  exact pe_meth he c h1 h3 hr h2 .nil pass0 ha hst hpl ht
/-- a class whose __init__ keeps its promise -/
def CalC (P : Program) (w : World) (K : PySem.W.Frag) (mg : Str → Option Value) (base : Heap) (x : Str) (C : Addr) (k : Nat) (ps : List Str) (T : TZ) : Prop :=
  ∃ f fd, mg x = some (.ref C) ∧ Mk K C f ∧ Binds K fd ps [] ∧ FnOk P w K mg base CX0 k f fd ps (spZ K ps.length T)
theorem pe_mkZ {X : Cx} {P : Program} {w : World} {K : PySem.W.Frag} {mg : Str → Option Value} {base : Heap} {A : Around} {C : Addr} {x : Str} {k : Nat} {ps : List Str} {T : TZ} {e : Expr} {es : List Expr} {p pos : Pos} {t : TA}
    (M : CalC P w K mg base x C k ps T) (hr : Room (k + 1) A) (ha : PA X (e :: es) t) (hX : X.prog = P ∧ X.w = w ∧ X.K = K ∧ X.mg = mg ∧ X.base = base ∧ X.A = A := by exact ⟨rfl, rfl, rfl, rfl, rfl, rfl⟩) (hg : Gl X x := by rfl)
    (hdb : (x == ("__debug__" : Str)) = false := by decide) (he : starEach (e :: es) X.env = (false, eval e X.env) :: starEach es X.env := by rfl) (hpl : (backTo pos (starEach es X.env)).any (·.1) = false := by rfl) :
    PE X (.Call (.Name x p) (e :: es) [] pos) (tMake C (spZ K ps.length T) [] E0 t) := by
  obtain ⟨rfl, rfl, rfl, rfl, rfl, rfl⟩ := hX
  obtain ⟨f, fd, h1, h2, h3, h4⟩ := M
  exact pe_make h2 h4 hr hg h1 h3 .nil pass0 ha hdb he hpl
theorem wk_rev {K : PySem.W.Frag} {a : Addr} {zs : List Z} {Hb : Hp} (d : Dz K Hb (.ref a) (.lst zs)) : Wk K (Itv K a zs.length) zs.reverse Hb := by
  cases d with
  | @lst a vs _ ha da =>
    have el := da.len
    refine ⟨fun i Hb1 O H hi e l => ?_, fun Hb1 O H e l => ?_⟩
    · rw [List.length_reverse] at hi
      have hs : SqL K H a vs := sq_of (l.bh _ _ (e _ _ ha))
      obtain ⟨x, hx⟩ : ∃ x, vs[zs.length - 1 - i]? = some x := ⟨_, List.getElem?_eq_getElem (by omega)⟩
      refine ⟨⟨hi, vs, x, hs, hx⟩, fun y H' h => ?_⟩
      obtain ⟨e1, e2⟩ := h
      subst e1
      obtain ⟨z, h1, h2⟩ := da.get' (e2 vs hs)
      exact ⟨Hb1, z, Ex.refl _, l, by rw [List.getElem?_reverse hi]; exact h1, h2.mono e⟩
    · rw [List.length_reverse]
      exact Nat.le_refl _
theorem wi_rev {K : PySem.W.Frag} {tr : TA} {r : RR} {o : OO} {PL : List Z → OO → Prop} (h : WA K tr r o fun zs o1 => ∃ xs, zs = [.lst xs] ∧ PL xs.reverse o1) : WI K (iRev K tr) r o PL := fun _ _ σ Hb O H S R q =>
  h _ _ σ Hb O H S _ fun vs zs o1 Hb1 O1 H1 e1 S1 d1 k1 => by
    obtain ⟨xs, rfl, k⟩ := k1
    obtain ⟨v, rfl, dd⟩ := d1.one
    cases dd with
    | @lst a us _ ha da =>
      have w := wk_rev (K := K) (.lst ha da)
      rw [← da.len] at w
      exact ⟨a, us, rfl, sq_of (S1.lay.bh _ _ ha), q _ _ o1 Hb1 O1 H1 e1 S1 w k⟩
end K76

/-! ## ZJ -/
/-! walks that the hand layer lacks: enumerate over a tuple, zip over two reversed lists -/
namespace K76W
open PySem PySem.Spec PyProof.Rows L2 RZ
abbrev tupIt (l : Addr) : Obj := { cls := .type "tuple_iterator", data := .fields #[.ref l, .int 0 0] }
abbrev enumOb (i : Addr) : Obj := { cls := .type "enumerate", data := .fields #[.none, .bool false, .ref i, rawInt 0, .none, .none] }
theorem meets_enumT (l : Addr) (items : Array Value) :
    Meets (Builtin.«enumerate.__new__» ⟨[.type "enumerate", .ref l], []⟩) (fun _ R s => (∃ n dct sl, s.heap.get? l = some { cls := .type "tuple", dict := dct, data := .seq items n, slots := sl }) ∧
      R (.ok (.ret (.ref (s.heap.push (tupIt l)).objs.size))) { s with heap := (s.heap.push (tupIt l)).push (enumOb s.heap.objs.size) }) :=
  .of_wp fun prog w A R s h => by
    obtain ⟨hp, g, d, tk, os⟩ := s; obtain ⟨⟨n, dct, sl, hl⟩, h⟩ := h
    have hsub := sub_enumerate
    have hL : Heap.IsTuple (Shared.heap ⟨hp, g, d, tk, os⟩) l items := ⟨_, hl, rfl, n, rfl⟩
    wp_walk using AutoSeq1.wpAny_loadPart' hl
    refine wpAny_stack_any fun st => wpAny_pure ?_
    split
    · rename_i c _ _ _ _ _
      cases (c == Value.type "enumerate")
      · wp_walk using AutoSeq1.wpAny_loadPart' hl, wpAny_pyIter_tuple hL
        exact ⟨_, rfl, h⟩
      · wp_walk using AutoSeq1.wpAny_loadPart' hl, wpAny_pyIter_tuple hL
        exact ⟨_, rfl, h⟩
    · wp_walk using AutoSeq1.wpAny_loadPart' hl, wpAny_pyIter_tuple hL
      exact ⟨_, rfl, h⟩
section
variable {prog : Program} {w : World} {A : Around} {E : Value → Shared → Prop} {s : Shared}
theorem call_enumT {l : Addr} {items : Array Value} {Q : Value → Shared → Prop} (hL : s.heap.IsTuple l items)
    (h : ∀ h', IsEnum h' (s.heap.objs.size + 1) s.heap.objs.size 0 .none → h'.IsTupleIter s.heap.objs.size l 0 → h'.objs.size = s.heap.objs.size + 2 →
      (∀ b o, s.heap.get? b = some o → h'.get? b = some o) → Q (.ref (s.heap.objs.size + 1)) { s with heap := h' }) :
    wpAny (model prog w) A (call (.type "enumerate") [.ref l]) Q E s := by
  obtain ⟨⟨c, dct, dt, sl⟩, hl, hc, n, hd⟩ := hL
  replace hc : c = .type "tuple" := hc
  replace hd : dt = .seq items n := hd
  subst hc hd
  refine callType_new F.called_enumerate (by decide) (F.typeCall_enumerate_1 _) (F.newCall_enumerate_1 _) (fun obj => F.args_object_init_2 obj _) F.entry_enumerate_new
    (meets_enumT l items) ⟨⟨n, dct, sl, hl⟩, ?_⟩
  have hz : (s.heap.push (tupIt l)).objs.size = s.heap.objs.size + 1 := Heap.size_push ..
  show _ ∧ _
  rw [hz]
  have he : IsEnum ((s.heap.push (tupIt l)).push (enumOb s.heap.objs.size)) (s.heap.objs.size + 1) s.heap.objs.size 0 .none := by
    have := Heap.get?_push_size (s.heap.push (tupIt l)) (o := enumOb s.heap.objs.size) rfl
    rw [hz] at this; exact this
  refine ⟨⟨_, he, rfl⟩, h _ he ⟨_, Heap.get?_push_of_some _ (Heap.get?_push_size _ rfl), rfl, rfl⟩ (by rw [Heap.size_push, hz]) fun b o x => Heap.get?_push_of_some _ (Heap.get?_push_of_some _ x)⟩
theorem enumT_item {e it l : Addr} {i : Nat} {items : Array Value} {x old : Value} {Q : Value → Shared → Prop}
    (he : IsEnum s.heap e it i old) (hit : s.heap.IsTupleIter it l i) (hl : s.heap.IsTuple l items) (hx : items[i]? = some x) (hne : e ≠ it)
    (hQ : ∀ h', IsEnumOut h' e it ((i : Int) + 1) x s.heap.objs.size → h'.IsTupleIter it l (i + 1) →
      h'.get? s.heap.objs.size = some { cls := .type "tuple", data := .seq #[.int i s.toks, x] } → h'.objs.size = s.heap.objs.size + 1 →
      (∀ b o, b ≠ e → b ≠ it → s.heap.get? b = some o → h'.get? b = some o) → Q (.ref s.heap.objs.size) { s with heap := h', toks := s.toks + 1 }) :
    wpAny (model prog w) A (Builtin.«enumerate.__next__» ⟨[.ref e], []⟩) (fun fin s' => ∃ v, fin = .done (.ret v) ∧ Q v s') E s := by
  obtain ⟨hp, g, d, tk, os⟩ := s
  show wpAny _ _ (field (.ref e) 2 >>= _) _ _ _
  refine wpAny_bind (wpAny_field he rfl (x := .ref it) rfl ?_)
  refine wpAny_bind (nextOf_tuple_item hit hl hx fun h₁ hit₁ hs₁ => ?_)
  replace hs₁ : Heap.SameBut it hp h₁ := hs₁
  have he₁ : IsEnum h₁ e it i old := (hs₁.2 e hne).trans he
  show wpAny _ _ (field (.ref e) 3 >>= _) _ _ ⟨h₁, g, d, tk, os⟩
  refine wpAny_bind (wpAny_field he₁ rfl (x := rawInt i) rfl ?_)
  show wpAny _ _ (field (.ref e) 4 >>= _) _ _ ⟨h₁, g, d, tk, os⟩
  refine wpAny_bind (wpAny_field he₁ rfl (x := .none) rfl ?_)
  show wpAny _ _ (mkInt i >>= _) _ _ ⟨h₁, g, d, tk, os⟩
  refine wpAny_bind (wpAny_mkInt ?_)
  show wpAny _ _ (setField (.ref e) 3 (rawInt ((i : Int) + 1)) >>= _) _ _ ⟨h₁, g, d, tk + 1, os⟩
  refine wpAny_bind (wpAny_setField_rec he₁ (by simp) fun h₂ he₂ hs₂ => ?_)
  replace hs₂ : Heap.SameBut e h₁ h₂ := hs₂
  replace he₂ : IsEnum h₂ e it ((i : Int) + 1) old := he₂
  show wpAny _ _ (setField (.ref e) 4 .none >>= _) _ _ ⟨h₂, g, d, tk + 1, os⟩
  refine wpAny_bind (wpAny_setField_rec he₂ (by simp) fun h₃ he₃ hs₃ => ?_)
  replace hs₃ : Heap.SameBut e h₂ h₃ := hs₃
  replace he₃ : IsEnum h₃ e it ((i : Int) + 1) old := he₃
  show wpAny _ _ (newTuple [.int i tk, x] >>= _) _ _ ⟨h₃, g, d, tk + 1, os⟩
  refine wpAny_bind (wpAny_newTuple ?_)
  have he₄ : IsEnum (h₃.push { cls := .type "tuple", data := .seq #[.int i tk, x] }) e it ((i : Int) + 1) old := Heap.get?_push_of_some _ he₃
  generalize hh₄ : h₃.push { cls := .type "tuple", data := .seq #[.int i tk, x] } = h₄ at he₄
  have hsz : h₃.objs.size = hp.objs.size := by rw [hs₃.1, hs₂.1, hs₁.1]
  have hel : e < hp.objs.size := Heap.lt_size he
  have ht₄ : h₄.get? hp.objs.size = some { cls := .type "tuple", data := .seq #[.int i tk, x] } := by rw [← hh₄, ← hsz]; exact Heap.get?_push_size _ rfl
  have hz₄ : h₄.objs.size = hp.objs.size + 1 := by rw [← hh₄, Heap.size_push, hsz]
  have hk₄ : ∀ b o, b ≠ e → b ≠ it → hp.get? b = some o → h₄.get? b = some o := fun b o hbe hbi hb => by
    rw [← hh₄]; exact Heap.get?_push_of_some _ (hs₃.extBut b o hbe (hs₂.extBut b o hbe (hs₁.extBut b o hbi hb)))
  have hit₄ : h₄.IsTupleIter it l (i + 1) := by
    rw [← hh₄]; obtain ⟨o, ho, r⟩ := (hit₁.extBut hs₂.extBut (Ne.symm hne)).extBut hs₃.extBut (Ne.symm hne); exact ⟨o, Heap.get?_push_of_some _ ho, r⟩
  show wpAny _ _ (Builtin.SmallTypes.ownedTupleIsFree (.ref e) >>= _) _ _ ⟨h₄, g, d, tk + 1, os⟩
  rw [hsz]
  clear hh₄ he₃ hs₃ he₂ hs₂ he₁ hs₁ hit₁ hsz h₃ h₂ h₁
  refine wpAny_bind ?_
  · unfold Builtin.SmallTypes.ownedTupleIsFree
    refine wpAny_bind (wpAny_field he₄ rfl (x := .none) rfl (wpAny_pure ?_))
    simp only [if_true]
    refine wpAny_bind (wpAny_rule ?_)
    refine wpAny_bind (wpAny_field he₄ rfl (x := old) rfl ?_)
    refine wpAny_bind (wpAny_setField_rec he₄ (by simp) fun h₅ he₅ hs₅ => ?_)
    replace hs₅ : Heap.SameBut e h₄ h₅ := hs₅
    replace he₅ : IsEnum h₅ e it ((i : Int) + 1) x := he₅
    show wpAny _ _ (Builtin.SmallTypes.ownedTupleHandOut (.ref e) (.ref hp.objs.size) >>= _) _ _ ⟨h₅, g, d, tk + 1, os⟩
    refine wpAny_bind ?_
    · unfold Builtin.SmallTypes.ownedTupleHandOut
      refine wpAny_bind (wpAny_setField_rec he₅ (by simp) fun h₆ he₆ hs₆ => ?_)
      replace hs₆ : Heap.SameBut e h₅ h₆ := hs₆
      replace he₆ : IsEnumOut h₆ e it ((i : Int) + 1) x hp.objs.size := he₆
      refine wpAny_setField_rec he₆ (by simp) fun h₇ he₇ hs₇ => ?_
      replace hs₇ : Heap.SameBut e h₆ h₇ := hs₇
      replace he₇ : IsEnumOut h₇ e it ((i : Int) + 1) x hp.objs.size := he₇
      refine wpAny_bind (wpAny_letGo (wpAny_pure ⟨_, rfl, hQ h₇ he₇ ?_ ?_ ?_ ?_⟩))
      · exact ((hit₄.extBut hs₅.extBut (Ne.symm hne)).extBut hs₆.extBut (Ne.symm hne)).extBut hs₇.extBut (Ne.symm hne)
      · exact hs₇.extBut _ _ (Nat.ne_of_gt hel) (hs₆.extBut _ _ (Nat.ne_of_gt hel) (hs₅.extBut _ _ (Nat.ne_of_gt hel) ht₄))
      · rw [hs₇.1, hs₆.1, hs₅.1, hz₄]
      · exact fun b o hbe hbi hb => hs₇.extBut b o hbe (hs₆.extBut b o hbe (hs₅.extBut b o hbe (hk₄ b o hbe hbi hb)))
theorem next_enumT {e it l : Addr} {i : Nat} {items : Array Value} {x old : Value} {Q : Option Value → Shared → Prop}
    (he : IsEnum s.heap e it i old) (hit : s.heap.IsTupleIter it l i) (hl : s.heap.IsTuple l items) (hx : items[i]? = some x) (hne : e ≠ it)
    (hQ : ∀ h', IsEnumOut h' e it ((i : Int) + 1) x s.heap.objs.size → h'.IsTupleIter it l (i + 1) →
      h'.get? s.heap.objs.size = some { cls := .type "tuple", data := .seq #[.int i s.toks, x] } → h'.objs.size = s.heap.objs.size + 1 →
      (∀ b o, b ≠ e → b ≠ it → s.heap.get? b = some o → h'.get? b = some o) → Q (some (.ref s.heap.objs.size)) { s with heap := h', toks := s.toks + 1 }) :
    wpAny (model prog w) A (pyNext (.ref e)) Q E s := by
  have hT : s.TypeIs (.ref e) "enumerate" := ⟨_, he, rfl⟩
  unfold pyNext
  exact wpAny_bind (wpAny_attempt (wpAny_callSpecial?_slot (name := Str.ofString "__next__") hT F.slot_enumerate_next
    (wpAny_call_entry F.slot_enumerate_next hT F.entry_enumerate_next
      (enumT_item he hit hl hx hne fun h' a b c d k => wpAny_pure (hQ h' a b c d k)) (F.args_enumerate_next_1 _))))
theorem end_enumT {e it l : Addr} {i : Nat} {items : Array Value} {old : Value} {Q : Option Value → Shared → Prop} (hh : A.handled = none)
    (he : IsEnum s.heap e it i old) (hit : s.heap.IsTupleIter it l i) (hl : s.heap.IsTuple l items) (hx : items[i]? = none)
    (hQ : ∀ h', Heap.ExtBut it s.heap h' → Q none { s with heap := h' }) : wpAny (model prog w) A (pyNext (.ref e)) Q E s := by
  have hT : s.TypeIs (.ref e) "enumerate" := ⟨_, he, rfl⟩
  unfold pyNext
  refine wpAny_bind (wpAny_attempt (wpAny_callSpecial?_slot (name := Str.ofString "__next__") hT F.slot_enumerate_next
    (wpAny_call_entry F.slot_enumerate_next hT F.entry_enumerate_next ?_ (F.args_enumerate_next_1 _))))
  show wpAny _ _ (field (.ref e) 2 >>= _) _ _ _
  refine wpAny_bind (wpAny_field he rfl (x := .ref it) rfl ?_)
  refine wpAny_bind (nextOf_tuple_end hh hit hl hx fun h' x he' hx' => ?_)
  obtain ⟨o, ho, hc⟩ := hx'
  refine wpAny_bind (wpAny_isInstance (T := "StopIteration") (b := true) ⟨o, ho, hc⟩ isSubtype_stop ?_)
  exact wpAny_pure (hQ _ he')
end
/-- the tuple at a, each item in a new pair -/
def IteT (K : PySem.W.Frag) (a : Addr) : It :=
  ⟨fun i H => ∃ (xs : List V) (x : V), SqT K H a xs ∧ xs[i]? = some x, fun i H v H' => ∃ T x, v = .ref T ∧ H T = none ∧ H' = upd H T (.tup [.int (i : Nat), x]) ∧ ∀ xs, SqT K H a xs → xs[i]? = some x,
    fun i H => ∃ xs : List V, SqT K H a xs ∧ xs.length ≤ i⟩
theorem turn_enumT {P : Program} {w : World} {K : PySem.W.Frag} {elts : List Expr} {kk : Nat} {tpos : Pos} (a e it : Addr) :
    Turn P w K (.Tuple elts kk tpos) (IteT K a) [e, it] e (fun i h => (∃ old, IsEnum h e it ((i : Nat) : Int) old) ∧ h.IsTupleIter it a i ∧ e ≠ it) where
  mem := by simp
  obj := fun i h st b hb => by
    obtain ⟨⟨old, he⟩, ⟨o, ho, hc, hd⟩, _⟩ := st
    have e' : b = e ∨ b = it := by simpa using hb
    rcases e' with z | z
    · rw [z]; exact ⟨_, he, fun v q => nomatch q⟩
    · rw [z]; exact ⟨o, ho, fun v q => by rw [hd] at q; cases q⟩
  keep := fun i h h' st k => let ⟨⟨old, he⟩, hi, hne⟩ := st; ⟨⟨old, k e (by simp) _ he⟩, hi.at fun o q => k it (by simp) o q, hne⟩
  item := by
    intro X hP hw hK hc i pins s σ H E I hf st hg
    subst hP hw hK
    obtain ⟨⟨old, he⟩, hit, hne⟩ := st
    obtain ⟨xs, x, hq, hx⟩ := hg
    obtain ⟨its, rv, p, hz⟩ := I.tuple hq
    obtain ⟨u, hu, ru⟩ := rv.get hx
    have hel : e < s.heap.objs.size := Heap.lt_size he
    have hil : it < s.heap.objs.size := by obtain ⟨_, q, _⟩ := hit; exact Heap.lt_size q
    refine next_enumT he hit p (x := u) (by simpa using hu) hne fun h' ho hit' hT hsz hk => ?_
    refine ⟨_, rfl, wpAny_letOwnedTupleGo_enum (s := { s with heap := h', toks := s.toks + 1 }) ho fun h'' he' sb => ?_⟩
    have hT2 : h''.get? s.heap.objs.size = some { cls := .type "tuple", data := .seq #[.int i s.toks, u] } := (sb.2 _ (Nat.ne_of_gt hel)).trans hT
    have new : ObjOk X.prog X.w (upd H s.heap.objs.size (.tup [.int (i : Nat), x])) h'' s.heap.objs.size (.tup [.int (i : Nat), x]) :=
      ⟨by show 2 ≤ sizeLine; decide, [.int i s.toks, u], .cons ⟨_, rfl⟩ (.cons ru .nil), ⟨_, hT2, rfl, _, rfl⟩⟩
    have I1 : Inv X pins σ (upd H s.heap.objs.size (.tup [.int (i : Nat), x])) { s with heap := h'', toks := s.toks + 1 } :=
      I.turnedNew (ch := [e, it]) (fun b ob hb q => (sb.2 b (fun z => hb (by simp [z]))).trans (hk b ob (fun z => hb (by simp [z])) (fun z => hb (by simp [z])) q)) hf (Nat.le_refl _) new
    refine ⟨.ref s.heap.objs.size, _, I1, rfl, ⟨_, x, rfl, I.hok.fresh (Nat.le_refl _), rfl, fun ys hy => by rw [I.tuple_inj hy hq]; exact hx⟩, ⟨⟨u, ?_⟩, hit'.at fun o q => (sb.2 it (Ne.symm hne)).trans q, hne⟩, fun b hb => ?_⟩
    · have e1 : ((i + 1 : Nat) : Int) = (i : Int) + 1 := by omega
      rw [e1]; exact he'
    · have hb' : b < s.heap.objs.size := by
        have e' : b = e ∨ b = it := by simpa using hb
        rcases e' with z | z
        · rw [z]; exact hel
        · rw [z]; exact hil
      rw [upd_ne (Nat.ne_of_lt hb')]
      exact (hf b hb).1
  done := by
    intro X hP hw hK hc i pins s σ H E I hf st hg
    subst hP hw hK
    obtain ⟨⟨old, he⟩, hit, hne⟩ := st
    obtain ⟨xs, hq, hx⟩ := hg
    obtain ⟨its, rv, p, hz⟩ := I.tuple hq
    obtain ⟨f0, f1, f2, f3, f4, f5⟩ := hf it (by simp)
    have hl := rv.length
    exact end_enumT (I.ok.hd hc) he hit p (by simp; omega) fun h' eb => ⟨rfl, I.turned (t' := s.toks) (fun b o hb q => eb b o hb q) f0 f1 f3 f4 f5⟩
  self := fun A i s Q E st h => let ⟨⟨_, he⟩, _⟩ := st; wpAny_pyIter_enum he h
def iEnumT (K : PySem.W.Frag) (ta : TA) : TI := fun σ H R => ta σ H fun vs H1 => ∃ a xs, vs = [.ref a] ∧ SqT K H1 a xs ∧ R (IteT K a) H1
theorem pi_enumT {X : Cx} {K : PySem.W.Frag} {e : Expr} {ta : TA} {p pos tpos : Pos} {elts : List Expr} {kk : Nat} (hg : Gl X "enumerate") (hm : X.mg "enumerate" = none) (ha : PA X [e] ta) (hK : X.K = K := by rfl) (hs : starEach [e] X.env = [(false, eval e X.env)] := by rfl) :
    PI X (.Tuple elts kk tpos) (.Call (.Name "enumerate" p) [e] [] pos) (iEnumT K ta) := by
  subst hK
  refine ⟨fun pins s σ H R I h => ?_⟩
  refine Call_ (ld_blt I hg hm PyProof.Rows.boot_enumerate (PyProof.Rows.callWith_type1 (thn (ha.run pos pins s σ H _ I h) fun us s1 ⟨vs, H1, I1, r1, q1⟩ => ?_) hs rfl))
  obtain ⟨a, xs, e, hq, q⟩ := q1
  subst e
  cases r1 with
  | cons r rr =>
    cases rr
    cases r
    obtain ⟨its, rv, p', hz⟩ := I1.tuple hq
    refine call_enumT p' fun h' he hit hsz hk => wpAny_pyIter_enum he ?_
    have I2 : Inv X pins σ H1 { s1 with heap := h' } := I1.kept (t' := s1.toks) hk
    refine ⟨s1.heap.objs.size + 1, [s1.heap.objs.size + 1, s1.heap.objs.size], _, _, H1, rfl, I2, turn_enumT a (s1.heap.objs.size + 1) s1.heap.objs.size, ⟨⟨.none, he⟩, hit, Nat.succ_ne_self _⟩, fun b hb => ?_, q⟩
    have e' : b = s1.heap.objs.size + 1 ∨ b = s1.heap.objs.size := by simpa using hb
    have hle : s1.heap.objs.size ≤ b := by
      rcases e' with z | z
      · rw [z]; exact Nat.le_add_right _ _
      · rw [z]; exact Nat.le_refl _
    exact I1.fpOk hle (I1.hok.fresh hle)
end K76W

/-! ## ZK -/
/-! zip over two reversed lists -/
namespace K76W
open PySem PySem.Spec PyProof.Rows L2 RZ
section
variable {prog : Program} {w : World} {A : Around} {E : Value → Shared → Prop} {s : Shared}
theorem revIter_but {h h' : Heap} {it l x : Addr} {i : Int} (r : h.IsRevIter it l i) (k : Heap.ExtBut x h h') (hne : it ≠ x) : h'.IsRevIter it l i := r.at fun o e => k it o hne e
theorem nextOf_rev_item {it l : Addr} {i : Nat} {items : Array Value} {x : Value} {Q : Value → Shared → Prop} (hit : s.heap.IsRevIter it l (i : Int)) (hl : s.heap.IsList l items) (hx : items[i]? = some x)
    (hQ : ∀ h', h'.IsRevIter it l ((i : Int) - 1) → Heap.SameBut it s.heap h' → Q x { s with heap := h' }) : wpAny (model prog w) A (Builtin.SmallTypes.nextOf (.ref it)) Q E s := by
  obtain ⟨o, ho, hc, hd⟩ := id hit
  obtain ⟨ol, hol, _, nl, hdl⟩ := hl
  unfold Builtin.SmallTypes.nextOf
  refine wpAny_bind (wpAny_callSpecial?_slot (name := Str.ofString "__next__") hit.typeIs F.slot_lri_next
    (wpAny_call_entry F.slot_lri_next hit.typeIs F.entry_lri_next ?_ (F.args_lri_next_1 _)))
  unfold Builtin.«list_reverseiterator.__next__»
  refine wpAny_bind (wpAny_of_eq (a := (Value.ref it, [])) rfl ?_)
  try dsimp only
  refine wpAny_bind (wpAny_field ho hd (x := rawInt (i : Int)) rfl ?_)
  show wpAny _ _ (if (i : Int) < 0 then _ else _) _ _ s
  rw [if_neg (by omega)]
  show wpAny _ _ (field (.ref it) 0 >>= _) _ _ s
  refine wpAny_bind (wpAny_field ho hd (x := .ref l) rfl ?_)
  show wpAny _ _ (seqItems? (.ref l) >>= _) _ _ s
  refine wpAny_bind (wpAny_seqItems hol hdl ?_)
  simp only [Int.toNat_natCast, hx]
  refine wpAny_bind (wpAny_setField ho hd (by simp) ?_)
  first
  | refine wpAny_pure ⟨x, rfl, wpAny_pure (hQ _ ?_ (Heap.SameBut.update ..))⟩
  | refine wpAny_bind (wpAny_pure (wpAny_pure ⟨x, rfl, wpAny_pure (hQ _ ?_ (Heap.SameBut.update ..))⟩))
  exact ⟨_, Heap.get?_update_self _ ho (Obj.isFreed_of_fields (Obj.data_mapFields hd _)), (Obj.cls_mapFields ..).trans hc, by
    rw [Obj.data_mapFields hd]; simp⟩
theorem nextOf_rev_end {it l : Addr} {Q : Value → Shared → Prop} (hh : A.handled = none) (hit : s.heap.IsRevIter it l (-1))
    (hE : ∀ h' e, Heap.ExtBut it s.heap h' → (∃ o, h'.get? e = some o ∧ o.cls = .type "StopIteration") → E (.ref e) { s with heap := h' }) : wpAny (model prog w) A (Builtin.SmallTypes.nextOf (.ref it)) Q E s := by
  obtain ⟨o, ho, hc, hd⟩ := id hit
  unfold Builtin.SmallTypes.nextOf
  refine wpAny_bind (wpAny_callSpecial?_slot (name := Str.ofString "__next__") hit.typeIs F.slot_lri_next
    (wpAny_call_entry F.slot_lri_next hit.typeIs F.entry_lri_next ?_ (F.args_lri_next_1 _)))
  unfold Builtin.«list_reverseiterator.__next__»
  refine wpAny_bind (wpAny_of_eq (a := (Value.ref it, [])) rfl ?_)
  try dsimp only
  refine wpAny_bind (wpAny_field ho hd (x := rawInt (-1)) rfl ?_)
  show wpAny _ _ (if (-1 : Int) < 0 then _ else _) _ _ s
  rw [if_pos (by decide)]
  refine wpAny_bind (wpAny_rule ?_)
  first
  | show wpAny _ _ (newExc (.type "StopIteration") [] >>= _) _ _ _
  | (refine wpAny_bind ?_; show wpAny _ _ (newExc (.type "StopIteration") [] >>= _) _ _ _)
  refine wpAny_bind ?_
  simp only [newExc, newTuple]
  refine wpAny_bind (wpAny_newObj_type ?_ (by size_fits))
  refine wpAny_bind (m := firstArgMember _ _) (wpAny_of_eq (a := Value.none) (by first | rfl | (simp only [firstArgMember]; rfl)) ?_)
  refine wpAny_newObj_type ?_ (by size_fits)
  simp only [raiseNew]
  refine wpAny_bind (wpAny_handled ?_)
  first | rw [show A.in1.handled = none from hh] | rw [hh]
  refine wpAny_bind (wpAny_pure (wpAny_throw ?_))
  exact hE _ _ (fun b o hb e => Heap.get?_push_of_some _ (Heap.get?_push_of_some _ e)) ⟨_, Heap.get?_push_size _ rfl, rfl⟩
theorem zipR_item {z TI TO i1 i2 l1 l2 : Addr} {k1 k2 : Nat} {xs ys : Array Value} {x y a b : Value} {Q : Value → Shared → Prop} (D : ZipApart z TI TO i1 i2 l1 l2)
    (hz : IsZip s.heap z TI TO .none) (hTI : IsPair s.heap TI (.ref i1) (.ref i2)) (hTO : IsPair s.heap TO a b)
    (h1 : s.heap.IsRevIter i1 l1 (k1 : Int)) (h2 : s.heap.IsRevIter i2 l2 (k2 : Int)) (hl1 : s.heap.IsList l1 xs) (hl2 : s.heap.IsList l2 ys) (hx : xs[k1]? = some x) (hy : ys[k2]? = some y)
    (hQ : ∀ h', IsZip h' z TI TO (rawInt s.heap.objs.size) → IsPair h' TO x y → h'.IsRevIter i1 l1 ((k1 : Int) - 1) → h'.IsRevIter i2 l2 ((k2 : Int) - 1) → IsPair h' s.heap.objs.size x y → h'.objs.size = s.heap.objs.size + 1 →
      (∀ c o, c ≠ z → c ≠ TO → c ≠ i1 → c ≠ i2 → s.heap.get? c = some o → h'.get? c = some o) → Q (.ref s.heap.objs.size) { s with heap := h' }) :
    wpAny (model prog w) A (Builtin.«zip.__next__» ⟨[.ref z], []⟩) (fun fin s' => ∃ v, fin = .done (.ret v) ∧ Q v s') E s := by
  show wpAny _ _ (field (.ref z) 2 >>= _) _ _ _
  refine wpAny_bind (wpAny_field hz rfl (x := .bool false) rfl ?_)
  show wpAny _ _ (field (.ref z) 3 >>= _) _ _ _
  refine wpAny_bind (wpAny_field hz rfl (x := .ref TI) rfl ?_)
  refine wpAny_bind (wpAny_seqItems hTI rfl ?_)
  show wpAny _ _ (Builtin.SmallTypes.ownedTupleIsFree (.ref z) >>= _) _ _ _
  refine wpAny_bind ?_
  unfold Builtin.SmallTypes.ownedTupleIsFree
  refine wpAny_bind (wpAny_field hz rfl (x := .none) rfl (wpAny_pure ?_))
  simp only [if_true]
  refine wpAny_bind (wpAny_rule ?_)
  refine wpAny_bind (wpAny_field hz rfl (x := .ref TO) rfl ?_)
  refine wpAny_bind (wpAny_setField_rec hz (by simp) fun h₁ hz₁ hs₁ => ?_)
  replace hz₁ : IsZip h₁ z TI TO .ellipsis := hz₁
  refine wpAny_bind ?_
  simp only [List.zipIdx_cons, List.zipIdx_nil, List.forIn_cons, List.forIn_nil]
  refine wpAny_bind (wpAny_bind (wpAny_onRaise ?_))
  show wpAny _ _ (Builtin.SmallTypes.nextOf (.ref i1) >>= _) _ _ _
  refine wpAny_bind (nextOf_rev_item (revIter_but h1 hs₁.extBut D.i1z) (hl1.extBut hs₁.extBut D.l1z) hx fun h₂ h1₂ hs₂ => wpAny_pure ?_)
  have hTO₂ : IsPair h₂ TO a b := hs₂.extBut _ _ D.TOi1 (hs₁.extBut _ _ D.TOz hTO)
  refine wpAny_bind (wpAny_seqItems hTO₂ rfl ?_)
  refine wpAny_bind (wpAny_updateSeq_pair hTO₂ fun h₃ hTO₃ hs₃ => ?_)
  replace hTO₃ : IsPair h₃ TO x b := hTO₃
  refine wpAny_bind (wpAny_letGo (wpAny_pure ?_))
  refine wpAny_bind (wpAny_bind (wpAny_onRaise ?_))
  show wpAny _ _ (Builtin.SmallTypes.nextOf (.ref i2) >>= _) _ _ _
  refine wpAny_bind (nextOf_rev_item (revIter_but (revIter_but (revIter_but h2 hs₁.extBut D.i2z) hs₂.extBut D.i12.symm) hs₃.extBut D.TOi2.symm)
    (((hl2.extBut hs₁.extBut D.l2z).extBut hs₂.extBut D.l2i1).extBut hs₃.extBut D.l2TO) hy fun h₄ h2₄ hs₄ => wpAny_pure ?_)
  have hTO₄ : IsPair h₄ TO x b := hs₄.extBut _ _ D.TOi2 hTO₃
  refine wpAny_bind (wpAny_seqItems hTO₄ rfl ?_)
  refine wpAny_bind (wpAny_updateSeq_pair hTO₄ fun h₅ hTO₅ hs₅ => ?_)
  replace hTO₅ : IsPair h₅ TO x y := hTO₅
  refine wpAny_bind (wpAny_letGo (wpAny_pure (wpAny_pure ?_)))
  refine wpAny_bind (wpAny_seqItems hTO₅ rfl ?_)
  refine wpAny_bind (wpAny_newTuple ?_)
  have hsz : h₅.objs.size = s.heap.objs.size := by rw [hs₅.1, hs₄.1, hs₃.1, hs₂.1, hs₁.1]
  have hk₅ : ∀ c o, c ≠ z → c ≠ TO → c ≠ i1 → c ≠ i2 → s.heap.get? c = some o → h₅.get? c = some o := fun c o c1 c2 c3 c4 e =>
    hs₅.extBut _ _ c2 (hs₄.extBut _ _ c4 (hs₃.extBut _ _ c2 (hs₂.extBut _ _ c3 (hs₁.extBut _ _ c1 e))))
  have hz₅ : IsZip h₅ z TI TO .ellipsis := hs₅.extBut _ _ D.TOz.symm (hs₄.extBut _ _ D.i2z.symm (hs₃.extBut _ _ D.TOz.symm (hs₂.extBut _ _ D.i1z.symm hz₁)))
  have h1₅ : h₅.IsRevIter i1 l1 ((k1 : Int) - 1) := revIter_but (revIter_but (revIter_but h1₂ hs₃.extBut D.TOi1.symm) hs₄.extBut D.i12) hs₅.extBut D.TOi1.symm
  have h2₅ : h₅.IsRevIter i2 l2 ((k2 : Int) - 1) := revIter_but h2₄ hs₅.extBut D.TOi2.symm
  have hzlt : z < h₅.objs.size := Heap.lt_size hz₅
  show wpAny _ _ (Builtin.SmallTypes.ownedTupleHandOut (.ref z) (.ref h₅.objs.size) >>= _) _ _ _
  refine wpAny_bind ?_
  unfold Builtin.SmallTypes.ownedTupleHandOut
  have hz₆ : IsZip (h₅.push { cls := .type "tuple", data := .seq #[x, y] }) z TI TO .ellipsis := Heap.get?_push_of_some _ hz₅
  refine wpAny_bind (wpAny_setField_rec hz₆ (by simp) fun h₇ hz₇ hs₇ => ?_)
  replace hz₇ : IsZip h₇ z TI TO (rawInt h₅.objs.size) := hz₇
  refine wpAny_setField_rec hz₇ (by simp) fun h₈ hz₈ hs₈ => ?_
  replace hz₈ : IsZip h₈ z TI TO (rawInt h₅.objs.size) := hz₈
  have up : ∀ c o, c ≠ z → h₅.get? c = some o → h₈.get? c = some o := fun c o c1 e => hs₈.extBut _ _ c1 (hs₇.extBut _ _ c1 (Heap.get?_push_of_some _ e))
  have hT₈ : IsPair h₈ h₅.objs.size x y := hs₈.extBut _ _ (Nat.ne_of_gt hzlt) (hs₇.extBut _ _ (Nat.ne_of_gt hzlt) (Heap.get?_push_size _ rfl))
  have hz8 : h₈.objs.size = h₅.objs.size + 1 := by rw [hs₈.1, hs₇.1, Heap.size_push]
  rw [hsz] at hz₈ hT₈ hz8
  refine wpAny_pure ⟨_, rfl, ?_⟩
  show Q (.ref h₅.objs.size) _
  rw [hsz]
  exact hQ h₈ hz₈ (up _ _ D.TOz hTO₅) (h1₅.at fun o e => up _ o D.i1z e) (h2₅.at fun o e => up _ o D.i2z e) hT₈ hz8 fun c o c1 c2 c3 c4 e => up c o c1 (hk₅ c o c1 c2 c3 c4 e)
theorem zipR_end {z TI TO i1 i2 l1 : Addr} {a b : Value} {Q : Fin → Shared → Prop} (hh : A.handled = none) (i1z : i1 ≠ z) (TOz : TO ≠ z)
    (hz : IsZip s.heap z TI TO .none) (hTI : IsPair s.heap TI (.ref i1) (.ref i2)) (hTO : IsPair s.heap TO a b) (h1 : s.heap.IsRevIter i1 l1 (-1))
    (hE : ∀ h' e, (∀ c o, c ≠ z → c ≠ TO → c ≠ i1 → c ≠ i2 → s.heap.get? c = some o → h'.get? c = some o) → (∃ o, h'.get? e = some o ∧ o.cls = .type "StopIteration") → E (.ref e) { s with heap := h' }) :
    wpAny (model prog w) A (Builtin.«zip.__next__» ⟨[.ref z], []⟩) Q E s := by
  show wpAny _ _ (field (.ref z) 2 >>= _) _ _ _
  refine wpAny_bind (wpAny_field hz rfl (x := .bool false) rfl ?_)
  show wpAny _ _ (field (.ref z) 3 >>= _) _ _ _
  refine wpAny_bind (wpAny_field hz rfl (x := .ref TI) rfl ?_)
  refine wpAny_bind (wpAny_seqItems hTI rfl ?_)
  show wpAny _ _ (Builtin.SmallTypes.ownedTupleIsFree (.ref z) >>= _) _ _ _
  refine wpAny_bind ?_
  unfold Builtin.SmallTypes.ownedTupleIsFree
  refine wpAny_bind (wpAny_field hz rfl (x := .none) rfl (wpAny_pure ?_))
  simp only [if_true]
  refine wpAny_bind (wpAny_rule ?_)
  refine wpAny_bind (wpAny_field hz rfl (x := .ref TO) rfl ?_)
  refine wpAny_bind (wpAny_setField_rec hz (by simp) fun h₁ hz₁ hs₁ => ?_)
  replace hz₁ : IsZip h₁ z TI TO .ellipsis := hz₁
  refine wpAny_bind ?_
  simp only [List.zipIdx_cons, List.zipIdx_nil, List.forIn_cons, List.forIn_nil]
  refine wpAny_bind (wpAny_bind (wpAny_onRaise ?_))
  show wpAny _ _ (Builtin.SmallTypes.nextOf (.ref i1) >>= _) _ _ _
  refine wpAny_bind (nextOf_rev_end hh (revIter_but h1 hs₁.extBut i1z) fun h₂ e hs₂ he => ?_)
  obtain ⟨oe, hoe, hce⟩ := he
  have hz₂ : IsZip h₂ z TI TO .ellipsis := hs₂ _ _ i1z.symm hz₁
  have hez : e ≠ z := fun x => by subst x; rw [hz₂] at hoe; cases hoe; simp at hce
  refine wpAny_setField_rec hz₂ (by simp) fun h₃ _ hs₃ => hE h₃ e (fun c o c1 _ c3 _ x => hs₃.extBut _ _ c1 (hs₂ _ _ c3 (hs₁.extBut _ _ c1 x))) ⟨oe, hs₃.extBut _ _ hez hoe, hce⟩
theorem next_zipR {z TI TO i1 i2 l1 l2 : Addr} {k1 k2 : Nat} {xs ys : Array Value} {x y a b : Value} {Q : Option Value → Shared → Prop} (D : ZipApart z TI TO i1 i2 l1 l2)
    (hz : IsZip s.heap z TI TO .none) (hTI : IsPair s.heap TI (.ref i1) (.ref i2)) (hTO : IsPair s.heap TO a b)
    (h1 : s.heap.IsRevIter i1 l1 (k1 : Int)) (h2 : s.heap.IsRevIter i2 l2 (k2 : Int)) (hl1 : s.heap.IsList l1 xs) (hl2 : s.heap.IsList l2 ys) (hx : xs[k1]? = some x) (hy : ys[k2]? = some y)
    (hQ : ∀ h', IsZip h' z TI TO (rawInt s.heap.objs.size) → IsPair h' TO x y → h'.IsRevIter i1 l1 ((k1 : Int) - 1) → h'.IsRevIter i2 l2 ((k2 : Int) - 1) → IsPair h' s.heap.objs.size x y → h'.objs.size = s.heap.objs.size + 1 →
      (∀ c o, c ≠ z → c ≠ TO → c ≠ i1 → c ≠ i2 → s.heap.get? c = some o → h'.get? c = some o) → Q (some (.ref s.heap.objs.size)) { s with heap := h' }) :
    wpAny (model prog w) A (pyNext (.ref z)) Q E s := by
  have hT : s.TypeIs (.ref z) "zip" := ⟨_, hz, rfl⟩
  unfold pyNext
  exact wpAny_bind (wpAny_attempt (wpAny_callSpecial?_slot (name := Str.ofString "__next__") hT F.slot_zip_next
    (wpAny_call_entry F.slot_zip_next hT F.entry_zip_next
      (zipR_item D hz hTI hTO h1 h2 hl1 hl2 hx hy fun h' a1 a2 a3 a4 a5 a6 a7 => wpAny_pure (hQ h' a1 a2 a3 a4 a5 a6 a7)) (F.args_zip_next_1 _))))
theorem end_zipR {z TI TO i1 i2 l1 : Addr} {a b : Value} {Q : Option Value → Shared → Prop} (hh : A.handled = none) (i1z : i1 ≠ z) (TOz : TO ≠ z)
    (hz : IsZip s.heap z TI TO .none) (hTI : IsPair s.heap TI (.ref i1) (.ref i2)) (hTO : IsPair s.heap TO a b) (h1 : s.heap.IsRevIter i1 l1 (-1))
    (hQ : ∀ h', (∀ c o, c ≠ z → c ≠ TO → c ≠ i1 → c ≠ i2 → s.heap.get? c = some o → h'.get? c = some o) → Q none { s with heap := h' }) : wpAny (model prog w) A (pyNext (.ref z)) Q E s := by
  have hT : s.TypeIs (.ref z) "zip" := ⟨_, hz, rfl⟩
  unfold pyNext
  refine wpAny_bind (wpAny_attempt (wpAny_callSpecial?_slot (name := Str.ofString "__next__") hT F.slot_zip_next
    (wpAny_call_entry F.slot_zip_next hT F.entry_zip_next (zipR_end hh i1z TOz hz hTI hTO h1 fun h' e hk he => ?_) (F.args_zip_next_1 _))))
  obtain ⟨o, ho, hc⟩ := he
  refine wpAny_bind (wpAny_isInstance (T := "StopIteration") (b := true) ⟨o, ho, hc⟩ isSubtype_stop ?_)
  exact wpAny_pure (hQ _ hk)
end
abbrev zrH1 (h : Heap) (i1 i2 : Addr) : Heap := h.push { cls := .type "tuple", data := .seq #[.ref i1, .ref i2] }
abbrev zrH2 (h : Heap) (i1 i2 : Addr) : Heap := (zrH1 h i1 i2).push { cls := .type "tuple", data := .seq #[.none, .none] }
abbrev zrH3 (h : Heap) (i1 i2 : Addr) : Heap := (zrH2 h i1 i2).push { cls := .type "zip", data := .fields #[.none, .bool false, .bool false, .ref h.objs.size, .ref (zrH1 h i1 i2).objs.size] }
theorem meets_zipR (i1 i2 l1 l2 : Addr) (k1 k2 : Int) :
    Meets (Builtin.«zip.__new__» ⟨[.type "zip", .ref i1, .ref i2], []⟩) (fun _ R s => s.heap.IsRevIter i1 l1 k1 ∧ s.heap.IsRevIter i2 l2 k2 ∧
      R (.ok (.ret (.ref (zrH2 s.heap i1 i2).objs.size))) { s with heap := zrH3 s.heap i1 i2 }) :=
  .of_wp fun prog w A R s h => by
    obtain ⟨hp, g, d, tk, os⟩ := s; obtain ⟨hl1, hl2, h⟩ := h
    have hsub := sub_zip
    have hL1 : Heap.IsRevIter (Shared.heap ⟨hp, g, d, tk, os⟩) i1 l1 k1 := hl1
    have hL2 : Heap.IsRevIter (Shared.heap ⟨hp, g, d, tk, os⟩) i2 l2 k2 := hl2
    wp_walk using wpAny_pyIter_revIter hL1, wpAny_pyIter_revIter hL2
    exact ⟨_, rfl, h⟩
section
variable {prog : Program} {w : World} {A : Around} {E : Value → Shared → Prop} {s : Shared}
theorem call_zipR {i1 i2 l1 l2 : Addr} {k1 k2 : Int} {Q : Value → Shared → Prop} (h1 : s.heap.IsRevIter i1 l1 k1) (h2 : s.heap.IsRevIter i2 l2 k2)
    (h : ∀ h', IsZip h' (s.heap.objs.size + 2) s.heap.objs.size (s.heap.objs.size + 1) .none → IsPair h' s.heap.objs.size (.ref i1) (.ref i2) →
      IsPair h' (s.heap.objs.size + 1) .none .none → h'.objs.size = s.heap.objs.size + 3 →
      (∀ c o, s.heap.get? c = some o → h'.get? c = some o) → Q (.ref (s.heap.objs.size + 2)) { s with heap := h' }) :
    wpAny (model prog w) A (call (.type "zip") [.ref i1, .ref i2]) Q E s := by
  refine callType_new F.called_zip (by decide) (F.typeCall_zip_2 _ _) (F.newCall_zip_2 _ _) (fun obj => F.args_object_init_3 obj _ _) F.entry_zip_new
    (meets_zipR i1 i2 l1 l2 k1 k2) ⟨h1, h2, ?_⟩
  have z1 : (zrH1 s.heap i1 i2).objs.size = s.heap.objs.size + 1 := Heap.size_push ..
  have z2 : (zrH2 s.heap i1 i2).objs.size = s.heap.objs.size + 2 := by rw [Heap.size_push, z1]
  have z3 : (zrH3 s.heap i1 i2).objs.size = s.heap.objs.size + 3 := by rw [Heap.size_push, z2]
  have g3 : (zrH3 s.heap i1 i2).get? (zrH2 s.heap i1 i2).objs.size = some _ := Heap.get?_push_size _ rfl
  have g2 : (zrH3 s.heap i1 i2).get? (zrH1 s.heap i1 i2).objs.size = some _ := Heap.get?_push_of_some _ (Heap.get?_push_size _ rfl)
  have g1 : (zrH3 s.heap i1 i2).get? s.heap.objs.size = some _ := Heap.get?_push_of_some _ (Heap.get?_push_of_some _ (Heap.get?_push_size _ rfl))
  show _ ∧ _
  rw [z2, z1] at g3
  rw [z1] at g2
  rw [z2]
  exact ⟨⟨_, g3, rfl⟩, h _ g3 g1 g2 z3 fun c o x => Heap.get?_push_of_some _ (Heap.get?_push_of_some _ (Heap.get?_push_of_some _ x))⟩
end
/-- the lists at a and b (n items each), from their ends, in new pairs -/
def ItzR (K : PySem.W.Frag) (a b : Addr) (n : Nat) : It :=
  ⟨fun i H => i < n ∧ ∃ (xs ys : List V) (x y : V), SqL K H a xs ∧ SqL K H b ys ∧ xs[n - 1 - i]? = some x ∧ ys[n - 1 - i]? = some y,
    fun i H v H' => ∃ T x y, v = .ref T ∧ H T = none ∧ H' = upd H T (.tup [x, y]) ∧ (∀ xs, SqL K H a xs → xs[n - 1 - i]? = some x) ∧ ∀ ys, SqL K H b ys → ys[n - 1 - i]? = some y,
    fun i H => n ≤ i⟩
theorem turn_zipR {P : Program} {w : World} {K : PySem.W.Frag} {elts : List Expr} {kk : Nat} {tpos : Pos} {a b z TI TO i1 i2 : Addr} {n : Nat} (D : ZipApart z TI TO i1 i2 a b) :
    Turn P w K (.Tuple elts kk tpos) (ItzR K a b n) [z, TI, TO, i1, i2] z (fun i h => i ≤ n ∧ IsZip h z TI TO .none ∧ IsPair h TI (.ref i1) (.ref i2) ∧ (∃ x y, IsPair h TO x y) ∧ h.IsRevIter i1 a ((n : Int) - 1 - (i : Nat)) ∧ h.IsRevIter i2 b ((n : Int) - 1 - (i : Nat))) where
  mem := by simp
  obj := fun i h st c hc => by
    obtain ⟨_, hz, hTI, ⟨x, y, hTO⟩, ⟨o1, e1, _, d1⟩, ⟨o2, e2, _, d2⟩⟩ := st
    have e' : c = z ∨ c = TI ∨ c = TO ∨ c = i1 ∨ c = i2 := by simpa using hc
    rcases e' with q | q | q | q | q
    · rw [q]; exact ⟨_, hz, fun v q => nomatch q⟩
    · rw [q]; exact ⟨_, hTI, fun v q => nomatch q⟩
    · rw [q]; exact ⟨_, hTO, fun v q => nomatch q⟩
    · rw [q]; exact ⟨o1, e1, fun v q => by rw [d1] at q; cases q⟩
    · rw [q]; exact ⟨o2, e2, fun v q => by rw [d2] at q; cases q⟩
  keep := fun i h h' st k => by
    obtain ⟨hn, hz, hTI, ⟨x, y, hTO⟩, h1, h2⟩ := st
    exact ⟨hn, k z (by simp) _ hz, k TI (by simp) _ hTI, ⟨x, y, k TO (by simp) _ hTO⟩, h1.at fun o q => k i1 (by simp) o q, h2.at fun o q => k i2 (by simp) o q⟩
  item := by
    intro X hP hw hK hc i pins s σ H E I hf st hg
    subst hP hw hK
    obtain ⟨_, hz, hTI, ⟨x0, y0, hTO⟩, h1, h2⟩ := st
    obtain ⟨hin, xs, ys, x, y, hqx, hqy, hx, hy⟩ := hg
    obtain ⟨its, rv, p, _⟩ := I.list hqx
    obtain ⟨its2, rv2, p2, _⟩ := I.list hqy
    obtain ⟨u, hu, ru⟩ := rv.get hx
    obtain ⟨u2, hu2, ru2⟩ := rv2.get hy
    have hzl : z < s.heap.objs.size := Heap.lt_size hz
    have e1 : (n : Int) - 1 - ((i : Nat) : Int) = ((n - 1 - i : Nat) : Int) := by omega
    have e2 : ((n - 1 - i : Nat) : Int) - 1 = (n : Int) - 1 - ((i + 1 : Nat) : Int) := by omega
    rw [e1] at h1 h2
    refine next_zipR D hz hTI hTO h1 h2 p.isList p2.isList (x := u) (y := u2) (by simpa using hu) (by simpa using hu2) fun h' z' TO' h1' h2' hT hsz hk => ?_
    refine ⟨_, rfl, wpAny_letOwnedTupleGo_zip (s := { s with heap := h' }) z' fun h'' z'' sb => ?_⟩
    rw [e2] at h1' h2'
    have hT2 : h''.get? s.heap.objs.size = some { cls := .type "tuple", data := .seq #[u, u2] } := (sb.2 _ (Nat.ne_of_gt hzl)).trans hT
    have new : ObjOk X.prog X.w (upd H s.heap.objs.size (.tup [x, y])) h'' s.heap.objs.size (.tup [x, y]) :=
      ⟨by show 2 ≤ sizeLine; decide, [u, u2], .cons ru (.cons ru2 .nil), ⟨_, hT2, rfl, _, rfl⟩⟩
    have I1 : Inv X pins σ (upd H s.heap.objs.size (.tup [x, y])) { s with heap := h'' } :=
      I.turnedNew (t' := s.toks) (ch := [z, TI, TO, i1, i2]) (fun c o hb q => (sb.2 c (fun q' => hb (by simp [q']))).trans (hk c o (fun q' => hb (by simp [q'])) (fun q' => hb (by simp [q'])) (fun q' => hb (by simp [q'])) (fun q' => hb (by simp [q'])) q)) hf (Nat.le_refl _) new
    refine ⟨.ref s.heap.objs.size, _, I1, rfl, ⟨_, x, y, rfl, I.hok.fresh (Nat.le_refl _), rfl, fun l hl => by rw [I.list_inj hl hqx]; exact hx, fun l hl => by rw [I.list_inj hl hqy]; exact hy⟩, ⟨by omega, z'', ?_, ⟨u, u2, ?_⟩, ?_, ?_⟩, fun c hcm => ?_⟩
    · exact (sb.2 _ D.TIz).trans (hk _ _ D.TIz D.TITO D.TIi1 D.TIi2 hTI)
    · exact (sb.2 _ D.TOz).trans TO'
    · exact h1'.at fun o q => (sb.2 _ D.i1z).trans q
    · exact h2'.at fun o q => (sb.2 _ D.i2z).trans q
    · have hlt : c < s.heap.objs.size := by
        have e' : c = z ∨ c = TI ∨ c = TO ∨ c = i1 ∨ c = i2 := by simpa using hcm
        rcases e' with q | q | q | q | q
        · rw [q]; exact hzl
        · rw [q]; exact Heap.lt_size hTI
        · rw [q]; exact Heap.lt_size hTO
        · rw [q]; obtain ⟨_, e1, _⟩ := h1; exact Heap.lt_size e1
        · rw [q]; obtain ⟨_, e2, _⟩ := h2; exact Heap.lt_size e2
      rw [upd_ne (Nat.ne_of_lt hlt)]
      exact (hf c hcm).1
  done := by
    intro X hP hw hK hc i pins s σ H E I hf st hg
    subst hP hw hK
    obtain ⟨hn, hz, hTI, ⟨x0, y0, hTO⟩, h1, h2⟩ := st
    have hg' : n ≤ i := hg
    have e1 : (n : Int) - 1 - ((i : Nat) : Int) = -1 := by omega
    rw [e1] at h1
    exact end_zipR (I.ok.hd hc) D.i1z D.TOz hz hTI hTO h1 fun h' hk => ⟨rfl, I.turnedL (t' := s.toks) (ch := [z, TI, TO, i1, i2]) (fun c o hb q =>
      hk c o (fun q' => hb (by simp [q'])) (fun q' => hb (by simp [q'])) (fun q' => hb (by simp [q'])) (fun q' => hb (by simp [q'])) q) hf⟩
  self := fun A i s Q E st h => wpAny_pyIter_zip st.2.1 h
/-- zip(reversed(..), reversed(..)) of two lists of one length -/
def iZipR (K : PySem.W.Frag) (ta tb : TE) : TI := fun σ H R => ta σ H fun v H1 => ∃ a xs, v = .ref a ∧ SqL K H1 a xs ∧ tb σ H1 fun u H2 => ∃ b ys, u = .ref b ∧ SqL K H2 a xs ∧ SqL K H2 b ys ∧ ys.length = xs.length ∧ R (ItzR K a b xs.length) H2
theorem apartR (I i a b : Nat) (h : i < I) (ha : a < i) (hb : b < I) (hbi : b ≠ i) : ZipApart (I + 1 + 2) (I + 1) (I + 1 + 1) i I a b := by
  have ne : ∀ m n : Nat, (m < n ∨ n < m) → m ≠ n := fun m n h z => by omega
  have hbi' : b < i ∨ i < b := Nat.lt_or_gt_of_ne hbi
  constructor <;> (refine ne _ _ ?_; omega)
theorem pi_zipRR {X : Cx} {K : PySem.W.Frag} {e1 e2 : Expr} {ta tb : TE} {p p1 p2 pos pos1 pos2 tpos : Pos} {elts : List Expr} {kk : Nat} (hg : Gl X "zip") (hm : X.mg "zip" = none) (hg' : Gl X "reversed") (hm' : X.mg "reversed" = none) (ha : PE X e1 ta) (hb : PE X e2 tb) (hK : X.K = K := by rfl)
    (hs : starEach [.Call (.Name "reversed" p1) [e1] [] pos1, .Call (.Name "reversed" p2) [e2] [] pos2] X.env = [(false, eval (.Call (.Name "reversed" p1) [e1] [] pos1) X.env), (false, eval (.Call (.Name "reversed" p2) [e2] [] pos2) X.env)] := by rfl)
    (hs1 : starEach [e1] X.env = [(false, eval e1 X.env)] := by rfl) (hs2 : starEach [e2] X.env = [(false, eval e2 X.env)] := by rfl) :
    PI X (.Tuple elts kk tpos) (.Call (.Name "zip" p) [.Call (.Name "reversed" p1) [e1] [] pos1, .Call (.Name "reversed" p2) [e2] [] pos2] [] pos) (iZipR K ta tb) := by
  subst hK
  have rev : ∀ {e : Expr} {t : TE} {q q' : Pos} {pins : List (Addr × Obj)} {s : Shared} {σ : L2.St} {H : Hp} {R : V → Hp → Prop} {Q : Value → Shared → Prop}, PE X e t → starEach [e] X.env = [(false, eval e X.env)] → Inv X pins σ H s → t σ H R →
      (∀ (v : V) (H1 : Hp) (s1 : Shared), R v H1 → Inv X pins σ H1 s1 → ∃ a xs, v = .ref a ∧ SqL X.K H1 a xs ∧ (a < s1.heap.objs.size → Q (.ref s1.heap.objs.size) { s1 with heap := s1.heap.push (revObj a ((xs.length : Int) - 1)) })) →
      wpAny (model X.prog X.w) X.A (eval (.Call (.Name "reversed" q) [e] [] q') X.env) Q X.xe s := by
    intro e t q q' pins s σ H R Q he hst I h hQ
    refine Call_ (ld_blt I hg' hm' PyProof.Rows.boot_reversed (PyProof.Rows.callWith_type1 ?_ hst rfl))
    rw [hst]
    show wpAny _ _ (spliced [(false, eval e X.env)]) _ _ s
    refine Calls.spliced_cons (thn (he.run pins s σ H _ I h) fun u s1 ⟨v, H1, I1, r1, q1⟩ => Calls.spliced_nil ?_)
    obtain ⟨a, xs, rfl, hq, qq⟩ := hQ v H1 s1 q1 I1
    cases r1
    obtain ⟨its, rv, p', hz⟩ := I1.list hq
    have hl := rv.length
    have e1 : ((its.toArray.size : Nat) : Int) - 1 = (xs.length : Int) - 1 := by simp only [List.size_toArray]; omega
    refine call_reversed_list p'.isList ?_
    rw [e1]
    exact qq p'.lt
  refine ⟨fun pins s σ H R I h => ?_⟩
  refine Call_ (ld_blt I hg hm PyProof.Rows.boot_zip (PyProof.Rows.callWith_type1 ?_ (by rw [hs]; rfl) rfl))
  rw [hs]
  show wpAny _ _ (spliced [(false, eval (.Call (.Name "reversed" p1) [e1] [] pos1) X.env), (false, eval (.Call (.Name "reversed" p2) [e2] [] pos2) X.env)]) _ _ s
  refine Calls.spliced_cons (rev ha hs1 I h fun v H1 s1 q1 I1 => ?_)
  obtain ⟨a, xs, rfl, hqa, q1⟩ := q1
  refine ⟨a, xs, rfl, hqa, fun la => ?_⟩
  -- the first iterator
  have I1' : Inv X pins σ H1 { s1 with heap := s1.heap.push (revObj a ((xs.length : Int) - 1)) } := I1.kept (t' := s1.toks) fun b o e => Heap.get?_push_of_some _ e
  have f1 : FpOk X pins H1 s1.heap.objs.size := I1.fpOk (Nat.le_refl _) (I1.hok.fresh (Nat.le_refl _))
  have g1 : (s1.heap.push (revObj a ((xs.length : Int) - 1))).get? s1.heap.objs.size = some (revObj a ((xs.length : Int) - 1)) := Heap.get?_push_size _ rfl
  have IP := I1'.pinned (fp := [s1.heap.objs.size]) (fun b hb => by rw [List.mem_singleton.mp hb]; exact f1) (fun b hb => by
    rw [List.mem_singleton.mp hb]
    exact ⟨_, g1, fun v z => nomatch z⟩)
  refine Calls.spliced_cons (rev hb hs2 IP q1 fun v2 H2 s2 q2 I2 => ?_)
  obtain ⟨b, ys, rfl, hqa2, hqb, hlen, q2⟩ := q2
  refine ⟨b, ys, rfl, hqb, fun lb => Calls.spliced_nil ?_⟩
  have pin := I2.pin (s1.heap.objs.size, revObj a ((xs.length : Int) - 1)) (List.mem_append_right _ (List.mem_append_right _ (by
    unfold pinsAt
    simp [g1])))
  obtain ⟨g2, n2, _⟩ := pin
  have g2 : s2.heap.get? s1.heap.objs.size = some (revObj a ((xs.length : Int) - 1)) := g2
  have I3 := I2.unpinned
  have l1 : s1.heap.objs.size < s2.heap.objs.size := Heap.lt_size g2
  have la2 : a < s2.heap.objs.size := Nat.lt_trans la l1
  have I4 : Inv X pins σ H2 { s2 with heap := s2.heap.push (revObj b ((ys.length : Int) - 1)) } := I3.kept (t' := s2.toks) fun b o e => Heap.get?_push_of_some _ e
  have sz : (s2.heap.push (revObj b ((ys.length : Int) - 1))).objs.size = s2.heap.objs.size + 1 := Heap.size_push ..
  have r1 : (s2.heap.push (revObj b ((ys.length : Int) - 1))).IsRevIter s1.heap.objs.size a ((xs.length : Int) - 1) := ⟨_, Heap.get?_push_of_some _ g2, rfl, rfl⟩
  have r2 : (s2.heap.push (revObj b ((ys.length : Int) - 1))).IsRevIter s2.heap.objs.size b ((ys.length : Int) - 1) := ⟨_, Heap.get?_push_size _ rfl, rfl, rfl⟩
  refine call_zipR (s := { s2 with heap := s2.heap.push (revObj b ((ys.length : Int) - 1)) }) r1 r2 fun h' hz hTI hTO hsz hk => wpAny_pyIter_zip hz ?_
  rw [sz] at hz hTI hTO
  have I5 : Inv X pins σ H2 { s2 with heap := h' } := I4.kept (t' := s2.toks) hk
  have D : ZipApart (s2.heap.objs.size + 1 + 2) (s2.heap.objs.size + 1) (s2.heap.objs.size + 1 + 1) s1.heap.objs.size s2.heap.objs.size a b := apartR _ _ _ _ l1 la lb fun z => by
    obtain ⟨_, _, p3, _⟩ := I3.list hqb
    obtain ⟨o, ho, hc, _⟩ := p3.isList
    rw [z, g2] at ho
    cases ho
    exact absurd (show (Value.type "list_reverseiterator") = .type "list" from hc) (by decide)
  have e0 : ∀ m : Nat, (m : Int) - 1 = (m : Int) - 1 - ((0 : Nat) : Int) := fun m => by omega
  show PIE X pins σ _ R (.ref ((s2.heap.push (revObj b ((ys.length : Int) - 1))).objs.size + 2)) _
  rw [sz]
  refine ⟨s2.heap.objs.size + 1 + 2, [s2.heap.objs.size + 1 + 2, s2.heap.objs.size + 1, s2.heap.objs.size + 1 + 1, s1.heap.objs.size, s2.heap.objs.size], _, _, H2, rfl, I5, turn_zipR (n := xs.length) D, ⟨Nat.zero_le _, hz, hTI, ⟨_, _, hTO⟩, ?_, ?_⟩, fun c hcm => ?_, q2⟩
  · rw [← e0]
    exact r1.at fun o e => hk _ _ e
  · rw [← e0, ← hlen]
    exact r2.at fun o e => hk _ _ e
  · by_cases hc : s2.heap.objs.size ≤ c
    · exact I3.fpOk hc (I3.hok.fresh hc)
    · have e' : c = s1.heap.objs.size := by
        rcases List.mem_cons.mp hcm with z | hcm
        · exact absurd (by rw [z]; exact Nat.le_add_right _ 3) hc
        rcases List.mem_cons.mp hcm with z | hcm
        · exact absurd (by rw [z]; exact Nat.le_add_right _ 1) hc
        rcases List.mem_cons.mp hcm with z | hcm
        · exact absurd (by rw [z]; exact Nat.le_add_right _ 2) hc
        rcases List.mem_cons.mp hcm with z | hcm
        · exact z
        · exact absurd (by rw [List.mem_singleton.mp hcm]; exact Nat.le_refl _) hc
      rw [e']
      exact ⟨n2, f1.2⟩
end K76W

/-! ## ZL -/
namespace K76
open PySem PySem.W PyProof.Rows L2 Evl
section
variable {K : PySem.W.Frag} {te ta tb : TE} {tt : TT} {tr : TA} {r : RR} {o : OO} {P : Z → OO → Prop} {nx : NN} {rt : RT} {bk ct : NN} {t u : TS} {x y z : Z} {T : TZ} {E : XK}
/-! walks in pairs -/
def enumZ (zs : List Z) : List Z := zs.mapIdx fun i z => .tup [.int (i : Nat), z]
theorem enumZ_len (zs : List Z) : (enumZ zs).length = zs.length := by
  unfold enumZ
  rw [List.length_mapIdx]
theorem enumZ_get {zs : List Z} {i : Nat} {z : Z} (h : zs[i]? = some z) : (enumZ zs)[i]? = some (.tup [.int (i : Nat), z]) := by
  unfold enumZ
  rw [List.getElem?_mapIdx, h]
  rfl
theorem enumZ_of {zs : List Z} {i : Nat} {y : Z} (h : (enumZ zs)[i]? = some y) : ∃ z, zs[i]? = some z ∧ y = .tup [.int (i : Nat), z] := by
  unfold enumZ at h
  rw [List.getElem?_mapIdx] at h
  cases e : zs[i]? with
  | none => rw [e] at h; cases h
  | some z =>
    rw [e] at h
    cases h
    exact ⟨z, rfl, rfl⟩
theorem wk_enumT {a : Addr} {zs : List Z} {Hb : Hp} (d : Dz K Hb (.ref a) (.tup zs)) : Wk K (K76W.IteT K a) (enumZ zs) Hb := by
  cases d with
  | @tup a vs _ ha da =>
    refine ⟨fun i Hb1 O H hi e l => ?_, fun Hb1 O H e l => ?_⟩
    · rw [enumZ_len] at hi
      have hs : SqT K H a vs := ex_t l.bh (ex_t e ha)
      obtain ⟨x, hx⟩ : ∃ x, vs[i]? = some x := ⟨_, List.getElem?_eq_getElem (by rw [da.len]; exact hi)⟩
      refine ⟨⟨vs, x, hs, hx⟩, fun y H' h => ?_⟩
      obtain ⟨T, x', rfl, hT, rfl, hx'⟩ := h
      obtain ⟨z, h1, h2⟩ := da.get' (hx' vs hs)
      obtain ⟨e2, l2⟩ := l.new (u := .tup [.int (i : Nat), x']) hT
      exact ⟨_, _, e2, l2, enumZ_get h1, .tup (st_of upd_same) (.cons (.int _) (.cons ((h2.mono e).mono e2) .nil))⟩
    · rw [enumZ_len]
      exact ⟨vs, ex_t l.bh (ex_t e ha), by rw [da.len]; exact Nat.le_refl _⟩
theorem wi_enumT {PL : List Z → OO → Prop} (h : WA K tr r o fun zs o1 => ∃ xs, zs = [.tup xs] ∧ PL (enumZ xs) o1) : WI K (K76W.iEnumT K tr) r o PL := fun _ _ σ Hb O H S R q =>
  h _ _ σ Hb O H S _ fun vs zs o1 Hb1 O1 H1 e1 S1 d1 k1 => by
    obtain ⟨xs, rfl, k⟩ := k1
    obtain ⟨v, rfl, dd⟩ := d1.one
    cases dd with
    | @tup a us _ ha da => exact ⟨a, us, rfl, ex_t S1.lay.bh ha, q _ _ o1 Hb1 O1 H1 e1 S1 (wk_enumT (.tup ha da)) k⟩
/-- the pairs from the end -/
def pairsR (xs ys : List Z) : List Z := (List.zipWith (fun x y => Z.tup [x, y]) xs ys).reverse
theorem pairsR_len {xs ys : List Z} (h : ys.length = xs.length) : (pairsR xs ys).length = xs.length := by
  unfold pairsR
  rw [List.length_reverse, List.length_zipWith, h, Nat.min_self]
theorem pairsR_get {xs ys : List Z} {i : Nat} {x y : Z} (h : ys.length = xs.length) (hi : i < xs.length) (hx : xs[xs.length - 1 - i]? = some x) (hy : ys[xs.length - 1 - i]? = some y) : (pairsR xs ys)[i]? = some (.tup [x, y]) := by
  have hl : (List.zipWith (fun x y => Z.tup [x, y]) xs ys).length = xs.length := by rw [List.length_zipWith, h, Nat.min_self]
  unfold pairsR
  rw [List.getElem?_reverse (by rw [hl]; exact hi), hl, List.getElem?_zipWith, hx, hy]
theorem pairsR_of {xs ys : List Z} {i : Nat} {z : Z} (h : ys.length = xs.length) (hz : (pairsR xs ys)[i]? = some z) : i < xs.length ∧ ∃ x y, xs[xs.length - 1 - i]? = some x ∧ ys[xs.length - 1 - i]? = some y ∧ z = .tup [x, y] := by
  have hi : i < xs.length := by
    have := (List.getElem?_eq_some_iff.mp hz).1
    rw [pairsR_len h] at this
    exact this
  obtain ⟨x, hx⟩ : ∃ x, xs[xs.length - 1 - i]? = some x := ⟨_, List.getElem?_eq_getElem (by omega)⟩
  obtain ⟨y, hy⟩ : ∃ y, ys[xs.length - 1 - i]? = some y := ⟨_, List.getElem?_eq_getElem (by omega)⟩
  rw [pairsR_get h hi hx hy] at hz
  exact ⟨hi, x, y, hx, hy, (Option.some.inj hz).symm⟩
theorem wk_zipR {a b : Addr} {xs ys : List Z} {Hb : Hp} (hl : ys.length = xs.length) (d1 : Dz K Hb (.ref a) (.lst xs)) (d2 : Dz K Hb (.ref b) (.lst ys)) : Wk K (K76W.ItzR K a b xs.length) (pairsR xs ys) Hb := by
  cases d1 with
  | @lst a vs _ ha da =>
    cases d2 with
    | @lst b us _ hb db =>
      refine ⟨fun i Hb1 O H hi e l => ?_, fun Hb1 O H e l => ?_⟩
      · rw [pairsR_len hl] at hi
        have hs : SqL K H a vs := sq_of (l.bh _ _ (e _ _ ha))
        have hs2 : SqL K H b us := sq_of (l.bh _ _ (e _ _ hb))
        obtain ⟨x, hx⟩ : ∃ x, vs[xs.length - 1 - i]? = some x := ⟨_, List.getElem?_eq_getElem (by rw [da.len]; omega)⟩
        obtain ⟨y, hy⟩ : ∃ y, us[xs.length - 1 - i]? = some y := ⟨_, List.getElem?_eq_getElem (by rw [db.len]; omega)⟩
        refine ⟨⟨hi, vs, us, x, y, hs, hs2, hx, hy⟩, fun w H' h => ?_⟩
        obtain ⟨T, x', y', rfl, hT, rfl, hx', hy'⟩ := h
        obtain ⟨z1, h1, h2⟩ := da.get' (hx' vs hs)
        obtain ⟨z2, h3, h4⟩ := db.get' (hy' us hs2)
        obtain ⟨e2, l2⟩ := l.new (u := .tup [x', y']) hT
        exact ⟨_, _, e2, l2, pairsR_get hl hi h1 h3, .tup (st_of upd_same) (.cons ((h2.mono e).mono e2) (.cons ((h4.mono e).mono e2) .nil))⟩
      · rw [pairsR_len hl]
        exact Nat.le_refl _
theorem wi_zipRR {PL : List Z → OO → Prop} (h : WE K ta r o fun z o1 => ∃ xs, z = .lst xs ∧ WE K tb r o1 fun z o2 => ∃ ys, z = .lst ys ∧ ys.length = xs.length ∧ PL (pairsR xs ys) o2) : WI K (K76W.iZipR K ta tb) r o PL := fun _ _ σ Hb O H S R q =>
  h _ _ σ Hb O H S _ fun v z o1 Hb1 O1 H1 e1 S1 d1 k1 => by
    obtain ⟨xs, rfl, k⟩ := k1
    cases d1 with
    | @lst a us _ ha da =>
      refine ⟨a, us, rfl, sq_of (S1.lay.bh _ _ ha), k _ _ σ Hb1 O1 H1 S1 _ fun v z o2 Hb2 O2 H2 e2 S2 d2 k2 => ?_⟩
      obtain ⟨ys, rfl, hl, k3⟩ := k2
      cases d2 with
      | @lst b ws _ hb db =>
        have w := wk_zipR hl (.lst (e2 _ _ ha) (da.mono e2)) (.lst hb db)
        rw [← da.len] at w
        exact ⟨b, ws, rfl, sq_of (S2.lay.bh _ _ (e2 _ _ ha)), sq_of (S2.lay.bh _ _ hb), by rw [db.len, hl, da.len], q _ _ o2 Hb2 O2 H2 (e1.trans e2) S2 w k3⟩
/-! lists that will change, as values -/
theorem we_own (h : WA K tr r o fun zs o1 => zs.length ≤ 100000 ∧ ∀ p, P (.ref p) (o1 ++ [(p, .lst zs)])) : WE K (tLst tr) r o P := fun _ _ σ Hb O H S Q q =>
  h _ _ σ Hb O H S _ fun vs zs o1 Hb1 O1 H1 e1 S1 d1 k1 => ⟨sz_of (by rw [d1.len]; exact k1.1), fun p hp =>
    q _ _ _ Hb1 _ _ e1 (S1.newO hp (c := .lst zs) (h := .lst vs) ⟨vs, rfl, d1⟩) (.ref p) (k1.2 p)⟩
theorem DzA.flat {H : Hp} {vs : List V} {zs : List Z} (h : DzA K H vs zs) : ∀ n : Nat, DzA K H (List.replicate n vs).flatten (List.replicate n zs).flatten
  | 0 => .nil
  | n + 1 => by
    rw [List.replicate_succ, List.replicate_succ, List.flatten_cons, List.flatten_cons]
    exact h.app (DzA.flat h n)
/-- x = [..] * n -/
theorem ws_ownRep {i : Nat} (h : WA K tr r o fun zs o1 => zs.length ≤ 1000 ∧ WE K tb r o1 fun n o2 => ∃ k : Nat, n = .int (k : Int) ∧ zs.length * k ≤ 100000 ∧ k < 2 ^ 62 ∧ ∀ p, nx (r.set i (some (.ref p))) (o2 ++ [(p, .lst (List.replicate k zs).flatten)])) :
    WS K (tAsg (tOp rRep (tLst tr) tb) (gName i)) nx rt bk ct r o := fun _ _ σ Hb O H D C S =>
  h _ _ σ Hb O H S _ fun vs zs o1 Hb1 O1 H1 e1 S1 d1 k1 => by
    obtain ⟨hz, k1⟩ := k1
    refine ⟨sz_of (by rw [d1.len]; omega), fun p hp => ?_⟩
    obtain ⟨e2, l2⟩ := S1.lay.new (u := .lst vs) hp
    have S2 := S1.grow e2 l2
    refine k1 _ _ σ _ _ _ S2 _ fun v n o2 Hb3 O3 H3 e3 S3 d3 k3 => ?_
    obtain ⟨k, rfl, hk, hk2, fin⟩ := k3
    cases d3
    have hl : H3 p = some (.lst vs) := S3.lay.bh _ _ (e3 _ _ upd_same)
    refine ⟨p, (k : Int), vs, rfl, rfl, hl, by omega, by omega, sz_of (by rw [Int.toNat_natCast, d1.len]; exact hk), fun q hq => ?_⟩
    rw [Int.toNat_natCast]
    exact C.cn _ _ _ Hb3 _ _ ((S3.newO hq (c := .lst (List.replicate k zs).flatten) (h := .lst (List.replicate k vs).flatten) ⟨_, rfl, ((d1.mono e2).mono e3).flat k⟩).put (.ref q) i) (fin q)
/-! equality at any depth -/
mutual
def Z.d : Z → PyData
  | .non => .none | .bl b => .bool b | .int i => .int i | .str x => .str x | .tup xs => .tuple (Z.ds xs) | .lst xs => .list (Z.ds xs) | .scr _ => .none | .ref _ => .none
def Z.ds : List Z → List PyData
  | [] => []
  | x :: xs => x.d :: Z.ds xs
end
mutual
def Z.plain : Z → Bool
  | .tup xs => Z.plains xs | .lst xs => Z.plains xs | .scr _ => false | .ref _ => false | .non => true | .bl _ => true | .int _ => true | .str _ => true
def Z.plains : List Z → Bool
  | [] => true
  | x :: xs => x.plain && Z.plains xs
end
mutual
theorem Dz.dp {H Hf : Hp} (e : Ex H Hf) : ∀ {v : V} {z : Z}, Dz K H v z → z.plain = true → Dp K Hf v z.d
  | _, _, .non, _ => .non
  | _, _, .bl b, _ => .bl b
  | _, _, .int i, _ => .int i
  | _, _, .str x, _ => .str x
  | _, _, .tup h r, p => .tup (ex_t e h) (DzA.dps e r (by simpa [Z.plain] using p))
  | _, _, .lst h r, p => .lst (sq_of (e _ _ h)) (DzA.dps e r (by simpa [Z.plain] using p))
  | _, _, .scr h, p => by simp [Z.plain] at p
  | _, _, .ref a, p => by simp [Z.plain] at p
theorem DzA.dps {H Hf : Hp} (e : Ex H Hf) : ∀ {vs : List V} {zs : List Z}, DzA K H vs zs → Z.plains zs = true → DpAll K Hf vs (Z.ds zs)
  | _, _, .nil, _ => .nil
  | _, _, .cons h r, p => by
    simp only [Z.plains, Bool.and_eq_true] at p
    exact .cons (Dz.dp e h p.1) (DzA.dps e r p.2)
end
theorem zo_eqD (h : x.plain = true ∧ y.plain = true ∧ SeqAt.shaped x.d = true ∧ SeqAt.shaped y.d = true ∧ P (.bl (PyData.eqv x.d y.d)) o) : ZO K (rEqD K) x y r o P := fun _ _ σ Hb O H S vx vy d1 d2 Q q =>
  ⟨x.d, y.d, Dz.dp S.lay.bh d1 h.1, Dz.dp S.lay.bh d2 h.2.1, h.2.2.1, h.2.2.2.1, q _ _ o Hb O H (Ex.refl _) S (.bl _) h.2.2.2.2⟩
theorem zo_neD (h : x.plain = true ∧ y.plain = true ∧ SeqAt.shaped x.d = true ∧ SeqAt.shaped y.d = true ∧ P (.bl (!PyData.eqv x.d y.d)) o) : ZO K (rNeD K) x y r o P := fun _ _ σ Hb O H S vx vy d1 d2 Q q =>
  ⟨x.d, y.d, Dz.dp S.lay.bh d1 h.1, Dz.dp S.lay.bh d2 h.2.1, h.2.2.1, h.2.2.2.1, q _ _ o Hb O H (Ex.refl _) S (.bl _) h.2.2.2.2⟩
end
mutual
theorem eqv_self : ∀ d : PyData, d.canLay0 = true → PyData.eqv d d = true
  | .none, _ => rfl
  | .bool b, _ => by simp [PyData.eqv]
  | .int i, _ => by simp [PyData.eqv]
  | .str x, _ => by simp [PyData.eqv]
  | .list xs, h => by
    simp only [PyData.eqv]
    exact eqvAll_self xs (by simpa [PyData.canLay0] using h)
  | .tuple xs, h => by
    simp only [PyData.eqv]
    exact eqvAll_self xs (by simpa [PyData.canLay0] using h)
  | .dict _, h => by simp [PyData.canLay0] at h
theorem eqvAll_self : ∀ ds : List PyData, PyData.canLayAll0 ds = true → PyData.eqvAll ds ds = true
  | [], _ => rfl
  | d :: ds, h => by
    simp only [PyData.canLayAll0, Bool.and_eq_true] at h
    simp only [PyData.eqvAll, Bool.and_eq_true]
    exact ⟨eqv_self d h.1, eqvAll_self ds h.2⟩
end
theorem ints_ds : ∀ l : List Int, Z.plains (l.map Z.int) = true ∧ PyData.canLayAll0 (Z.ds (l.map Z.int)) = true ∧ PyData.depthAll (Z.ds (l.map Z.int)) = 0
  | [] => ⟨rfl, rfl, rfl⟩
  | n :: l => by
    obtain ⟨h1, h2, h3⟩ := ints_ds l
    refine ⟨?_, ?_, ?_⟩
    · simp only [List.map_cons, Z.plains, Z.plain, h1, Bool.and_self]
    · simp only [List.map_cons, Z.ds, Z.d, PyData.canLayAll0, PyData.canLay0, h2, Bool.and_self]
    · simp only [List.map_cons, Z.ds, Z.d, PyData.depthAll, PyData.depth, h3]
      rfl
theorem ints_shaped (l : List Int) : SeqAt.shaped (Z.tup (l.map Z.int)).d = true := by
  obtain ⟨h1, h2, h3⟩ := ints_ds l
  simp only [SeqAt.shaped, Z.d, PyData.canLay0, PyData.depth, h2, h3, Bool.true_and]
  rfl
theorem ints_plain (l : List Int) : (Z.tup (l.map Z.int)).plain = true := by
  simp only [Z.plain]
  exact (ints_ds l).1
theorem CalC.mk {P : Program} {w : World} {K : PySem.W.Frag} {mg : Str → Option Value} {base : Heap} {cn : Str} {C : Addr} {x qual : Str} {st : Stmt} {k : Nat} {ps N : List Str} {T : TZ} (hg : mg cn = some (.ref C)) (D : ∃ f fd, Mk K C f ∧ L2.Fun K x qual st f fd) (S : FnScope N ps (defScope st))
    (hb : ∀ (kV doc pm : Value) (an : Option Addr) (cdv ct : Value) (us : List Value), us.length = ps.length → bindArgs (PySem.W.fnOf x qual (defArgs st) (defBody st) (defScope st) .none kV doc pm an cdv ct) ⟨us, []⟩ = pure (ps.zip us))
    (hbody : ∀ (f : Addr) (cdv : Value) (A : Around) (outer : List Env) (s : Shared) (H : Hp) (E : XK), Room k (A.deeper (envOfC qual (defScope st) s.heap.objs.size f cdv)) →
      ∃ t, PSs (cxOf CX0 P w K mg base N qual (defScope st) f cdv A outer s H E).nox (defBody st) t ∧ ∀ zs o R, T zs o R → WS K t (fun _ o' => FinZ R o .non o') (FinZ R o) nN nN (startZ N.length zs) o) :
    CalC P w K mg base cn C (k + 1) ps T := by
  obtain ⟨f, fd, h1, F⟩ := D
  refine ⟨f, fd, hg, h1, F.binds hb, F.ok S spZ.len fun cdv A outer s H vs Q E hr hs => ?_⟩
  obtain ⟨t, h2, h3⟩ := hbody f cdv A outer s H E hr
  exact ⟨t, h2, spZ.run hs h3⟩
theorem Cal.mkA {P : Program} {w : World} {K : PySem.W.Frag} {mg : Str → Option Value} {base : Heap} {gl x qual : Str} {st : Stmt} {k : Nat} {ps N : List Str} {T : TZ} (D : ∃ f fd, mg gl = some (.ref f) ∧ L2.Fun K x qual st f fd) (S : FnScope N ps (defScope st))
    (hb : ∀ (kV doc pm : Value) (an : Option Addr) (cdv ct : Value) (us : List Value), us.length = ps.length → bindArgs (PySem.W.fnOf x qual (defArgs st) (defBody st) (defScope st) .none kV doc pm an cdv ct) ⟨us, []⟩ = pure (ps.zip us))
    (hbody : ∀ (f : Addr) (cdv : Value) (A : Around) (outer : List Env) (s : Shared) (H : Hp) (E : XK), Room k (A.deeper (envOfC qual (defScope st) s.heap.objs.size f cdv)) →
      ∃ t, PSs (cxOf CX0 P w K mg base N qual (defScope st) f cdv A outer s H E).nox (defBody st) t ∧ ∀ zs o R, T zs o R → WS K t (fun _ o' => FinZ R o .non o') (FinZ R o) nN nN (startZ N.length zs) o) :
    Cal P w K mg base gl (k + 1) ps T := by
  obtain ⟨f, fd, h1, F⟩ := D
  refine ⟨f, fd, h1, F.kp, F.binds hb, F.ok S spZ.len fun cdv A outer s H vs Q E hr hs => ?_⟩
  obtain ⟨t, h2, h3⟩ := hbody f cdv A outer s H E hr
  exact ⟨t, h2, spZ.run hs h3⟩
/-- a method of the object that stands first of ours -/
theorem we_mJ {K : PySem.W.Frag} {tr : TA} {r : RR} {o : OO} {P : Z → OO → Prop} {T : TZ} {E : XK} {C : Addr} {m : Str} {n i : Nat} (h : ∃ (a dx : Addr) (fs : List (Str × Z)), r[i]? = some (some (.ref a)) ∧ o[0]? = some (a, .ins C dx fs) ∧ fs.lookup m = none ∧
      WA K tr r o fun zs o2 => zs.length + 1 = n ∧ ∃ c, o2[0]? = some (a, c) ∧ T (.ref a :: zs) [(a, c)] fun z o3 => ∀ c', o3 = [(a, c')] → P z (o2.set 0 (a, c'))) : WE K (tMeth C m (spZ K n T) [] E (tVar i) tr) r o P := by
  obtain ⟨a, dx, fs, h1, h2, h3, h4⟩ := h
  exact we_meth (we_var h1 ⟨0, a, dx, fs, rfl, h2, h3, h4⟩)
end K76

/-! ## ZX -/
/-! NotSo's own __init__, which begins with super().__init__(..) -/
namespace K76X
open PySem PySem.W PySem.Calls PyProof.Rows L2 K76 NdefX
abbrev stNI : Stmt := inClass (top 2) 0
/-- what stands in the written part -/
structure NsF (K : PySem.W.Frag) (mg : Str → Option Value) (NC f c cc : Addr) : Prop where
  sup : mg "super" = none
  fn : ∃ doc pm ctv od sl, K.lookup f = some ⟨.type "function", od, .func (fnX "__init__" "NotSo.__init__" (defArgs stNI) (defBody stNI) (defScope stNI) [("__class__", cc)] .none .none doc pm none (.ref c) ctv), sl⟩
  cd : codeIn K (.ref c) "NotSo.__init__" = true
  code : ∃ ccl cdd vs ccs tf, K.lookup c = some ⟨ccl, cdd, .fields vs, ccs⟩ ∧ vs[2]? = some (.str "/claim/cut.py" tf)
  cell : ∃ cl cld csl, K.lookup cc = some ⟨cl, cld, .cell (some (.ref NC)), csl⟩
  stat : nsIn K cStatics "thirdparty.any" = some none
  sin : ks_superIn K NC NC "__init__" = some (some (.builtin "ValueError.__init__"))
  ve : subIn K (.ref NC) (.type "ValueError") = some true
  mro : mroIn K NC (.ref NC) = some true
  cls : ∃ cdN, clsIn K NC = some cdN
  oex : OexC K NC
  rule : findIn K (.ref NC) "rule" = some none
  ini : findIn K (.ref NC) "__init__" = some (some (.ref f))
  ty : typeIn K (.ref f) = some (.type "function")
def spI (NC : Addr) : Sp := fun vs H Q E => ∃ (a : Addr) (y : V), vs = [.ref a, y] ∧ H a = some (exo a NC none) ∧ ∀ dx, H dx = none → dx ≠ a → Q .non (upd (upd H dx (exd dx [("rule", y)])) a (exo a NC (some dx)))
abbrev nfI (c cc : Addr) : NF := ⟨"__init__", "NotSo.__init__", defArgs stNI, defBody stNI, defScope stNI, [("__class__", cc)], c⟩
theorem scI : NScope ["self", "rule", "__class__"] ["self", "rule"] ["__class__"] (defScope stNI) := nscope_by (by decide +kernel)
section
variable {prog : Program} {w : World} {A : Around} {E : Value → Shared → Prop} {h : Heap} {g : Array GenState} {d : Drawn} {t : Nat} {os : OsState}
/-- the wrapper of ValueError.__init__, called -/
theorem call_mw {nm q : Str} {C N u e t0 : Addr} {bs bm : List Value} {hdct : Bool} {sn : List Str} {sub : List Value} {ab : Bool} {col : Option Bool} {dd dv : Option Addr} {k0 k1 k2 k3 k5 : Option Value} {rest : List Value} {Q : Value → Shared → Prop}
    (hC : h.get? C = some (excClassObj nm q C N bs bm hdct sn sub ab col dd k0 k1 k2 k3 k5 "ValueError.__new__")) (he : h.get? e = some ({ cls := .ref C, dict := dv, data := .fields #[.ref t0, .none, .none, .none, .bool false, .none] } : Obj)) (hu : h.get? u = some (kxs_mw "ValueError.__init__" e)) (hrest : rest.length ≤ sizeLine)
    (hq : ∀ h' t1, (∀ b o, b ≠ e → h.get? b = some o → h'.get? b = some o) → h'.get? e = some ({ cls := .ref C, dict := dv, data := .fields #[.ref t1, .none, .none, .none, .bool false, .none] } : Obj) → Q .none ⟨h', g, d, t, os⟩) :
    wpAny (model prog w) A (call (.ref u) rest) Q E ⟨h, g, d, t, os⟩ := by
  refine wpAny_call (codeAny_of_tree ?_)
  show wpAny _ A.in1 (callAny (.ref u) ⟨rest, []⟩) _ _ _
  simp only [callAny]
  refine wpAny_bind (wpAny_load hu ?_)
  simp only [kxs_mw, show (Value.type "method-wrapper" == Value.type "method" || Value.type "method-wrapper" == Value.type "builtin_function_or_method" || Value.type "method-wrapper" == Value.type "method-wrapper") = true by decide, if_true]
  refine KFB.if_so (by decide) ?_
  refine wpAny_bind (check_bound_init F.excBase_ValueError.toExcCallFacts hC he rfl ?_)
  refine wpAny_bind (wpAny_pure (wpAny_pure ?_))
  refine ⟨plainId_quiet F.excBase_ValueError.init.plain _, codeAny_builtin F.excBase_ValueError.initEntry ?_⟩
  exact exc_init_tree (cls := .ref C) (t0 := t0) (dv := dv) (c2 := .none) (c3 := .none) (b4 := .bool false) he hrest fun h' k e' _ => hq h' _ k e'
end
section
variable {w : World} {K : PySem.W.Frag} {mg : Str → Option Value} {base : Heap} {NC f c cc : Addr} {k : Nat}
/-- super().__init__(..), the first row of the body -/
theorem super_row {pins : List (Addr × Obj)} {σ : L2.St} {H : Hp} {s s1 : Shared} {A : Around} {outer : List Env} {E : XK} {a : Addr} {H0 : Hp} {msg : Str} {p0 p1 p2 p3 p4 : Pos} {j : Nat} {body : List Stmt} {Q : Value → Shared → Prop} (NS : NsF K mg NC f c cc)
    (I : Inv (ncx L2.CX0 P0 w K mg base ["self", "rule", "__class__"] (nfI c cc) f A outer s H0 E) pins σ H s1) (hs : σ[0]? = some (some (.ref a))) (ha : H a = some (exo a NC none))
    {pl : Sem Bool} (he : eval (.Call (.Attribute (.Call (.Name "super" p0) [] [] p1) "__init__" p2) [.Constant (.str msg) j p3] [] p4) (envF (nfI c cc) f s.heap.objs.size) = (do
      let ov ← attributeBase (.Call (.Name "super" p0) [] [] p1) "__init__" (envF (nfI c cc) f s.heap.objs.size) (eval (.Call (.Name "super" p0) [] [] p1) (envF (nfI c cc) f s.heap.objs.size))
      standAt p2.atName
      let (f', first) ← holding [ov] (getMethod ov "__init__" pl)
      callWith p4 f' first (backTo p4 (starEach [.Constant (.str msg) j p3] (envF (nfI c cc) f s.heap.objs.size))) []))
    (hQ : ∀ s2, Inv (ncx L2.CX0 P0 w K mg base ["self", "rule", "__class__"] (nfI c cc) f A outer s H0 E) pins σ H s2 → Q .none s2) {E' : Value → Shared → Prop} :
    PySem.wpAt (model P0 w) (A.deeper (envF (nfI c cc) f s.heap.objs.size)) (.func body (envF (nfI c cc) f s.heap.objs.size)) (eval (.Call (.Attribute (.Call (.Name "super" p0) [] [] p1) "__init__" p2) [.Constant (.str msg) j p3] [] p4) (envF (nfI c cc) f s.heap.objs.size)) Q E' s1 := by
  obtain ⟨doc, pm, ctv, od, sl, hfn⟩ := NS.fn
  obtain ⟨ccl, cdd, vs, ccs, tf, hcode, hvs⟩ := NS.code
  obtain ⟨cl, cld, csl, hcell⟩ := NS.cell
  obtain ⟨cdN, hcd⟩ := NS.cls
  have X : K.In s1.heap := I.kIn
  refine ks_wpAt_MethodCall ?_ he
  have hkind : (defScope stNI).kind = .function := scI.kind
  obtain ⟨t1, hobj⟩ := exo_at I.hok ha
  obtain ⟨oD, hD1, hD2⟩ : ∃ oD, s1.heap.get? NC = some oD ∧ oD.data = .cls cdN := by
    unfold clsIn at hcd
    split at hcd
    · rename_i c' d' cd' sl' ho
      cases hcd
      exact ⟨_, X _ _ ho, rfl⟩
    · cases hcd
  have inst : ∀ {h : Heap}, h.get? a = some ({ cls := .ref NC, dict := none, data := .fields #[.ref t1, .none, .none, .none, .bool false, .none] } : Obj) → InstAt h a ({ cls := .ref NC, dict := none, data := .fields #[.ref t1, .none, .none, .none, .bool false, .none] } : Obj) NC none := fun e => ⟨e, rfl, rfl, trivial⟩
  obtain ⟨mb, b1, b2⟩ := I.mod.blt
  obtain ⟨m, hns, hl⟩ := I.loc
  refine ks_wpAt_super_base (by rfl) (by rfl) (by rfl) rfl (X _ _ hfn) rfl (by rfl) rfl (X _ _ hcode) rfl hvs (by decide +kernel) (by decide +kernel) ?_
  refine ks_loadName_global (by rfl) (by rfl) (loadGlobal_builtin (env := envF (nfI c cc) f s.heap.objs.size) (mg := mg) (by exact I.mod.glob.keeps I.bk) NS.sup (by exact b1.keeps I.bk) ((b2 "super" (by decide)).trans (by first | rfl | kernel_rfl)) ⟨rfl, ?_⟩)
  refine wpAny_loadName_free (by rfl) (by rfl) (c := cc) (by rfl) ⟨_, X _ _ hcell, rfl⟩ ?_
  obtain ⟨u, ru, lk⟩ := hl 0 "self" (.ref a) rfl hs (.inl (by rfl))
  cases ru
  have hself : m "self" = some (.ref a) := by
    rcases lk with ⟨_, q⟩ | ⟨q, _⟩
    · exact q
    · rcases q with q | q
      · exact absurd q (by show ¬ (Option.some NameKind.local = some NameKind.cell); decide)
      · exact absurd q (by show ¬ (Option.some NameKind.local = some NameKind.free); decide)
  refine wpAny_loadName_local (by rfl) (by rfl) hns hself ?_
  obtain ⟨hh, g, d, tk, os⟩ := s1
  refine ks_wpAny_isType_cls hD1 hD2 ⟨rfl, ?_⟩
  refine ks_wpAny_call_super hD1 hD2 hobj rfl (fun c e => nomatch e) (looks_mroIn X NS.mro) fun h' hso kp => ?_
  have I2 : Inv (ncx L2.CX0 P0 w K mg base ["self", "rule", "__class__"] (nfI c cc) f A outer s H0 E) pins σ H ⟨h', g, d, tk, os⟩ := I.kept (t' := tk) kp
  have X2 : K.In h' := I2.kIn
  have ob2 := kp _ _ hobj
  have hsup := NS.sin
  unfold ks_superIn at hsup
  rw [hcd] at hsup
  refine kxs_getMethod kxs_ValueError hso (looks_opaque X2 NS.stat) (l₀ := cdN.mro) (fun A Q E s k q => wpAny_bind ((looks_clsIn X2 hcd) A _ E s k (wpAny_pure q))) rfl X2 hsup ((inst ob2).type.andThen (looks_subIn X2 NS.ve)) (ks_ne X2 (inst ob2) hcd) (by decide) ?_
  have k3 : ∀ b o, h'.get? b = some o → (h'.push (kxs_mw "ValueError.__init__" a)).get? b = some o := fun b o e => Heap.get?_push_of_some _ e
  have I3 : ∀ tk', Inv (ncx L2.CX0 P0 w K mg base ["self", "rule", "__class__"] (nfI c cc) f A outer s H0 E) pins σ H ⟨h'.push (kxs_mw "ValueError.__init__" a), g, d, tk', os⟩ := fun tk' => I2.kept (t' := tk') k3
  have hmw : (h'.push (kxs_mw "ValueError.__init__" a)).get? h'.objs.size = some (kxs_mw "ValueError.__init__" a) := Heap.get?_push_at rfl rfl
  obtain ⟨nm, q, N, bs, bm, sn, sub, ab, col, dd, e0, e1, e2, e3, e5, hC, hbm⟩ := NS.oex.cls
  show wpAny _ _ (callWith p4 (.ref h'.objs.size) [] (backTo p4 (starEach [.Constant (.str msg) j p3] (envF (nfI c cc) f s.heap.objs.size))) []) _ _ _
  refine kxs_callWith (i := "ValueError.__init__") (x := a) (by rfl) ?_
  refine evalArgs_plain ?_
  refine Calls.spliced_cons ?_
  show wpAny _ _ (eval (.Constant (.str msg) j p3) (envF (nfI c cc) f s.heap.objs.size)) _ _ _
  refine Calls.Constant_str (Calls.spliced_nil ?_)
  refine ⟨hmw, ?_⟩
  refine call_mw (I3 0 |>.kIn _ _ hC) (k3 _ _ ob2) hmw (by show (1 : Nat) ≤ sizeLine; decide) fun h4 t2 k hx => ?_
  have J := (I3 (tk + 1 + 1)).write (t' := tk + 1 + 1) (x := a) (e := a) (o := exo a NC none) (by rw [ha]; exact True.intro) (.inl rfl) k ⟨_, hx⟩ (exo_ok hx)
  have eu : upd H a (exo a NC none) = H := by
    funext b
    by_cases hb : b = a
    · rw [hb, upd_same, ha]
    · rw [upd_ne hb]
  rw [eu] at J
  exact hQ _ J
abbrev sI1 : Stmt := .Expr (.Call (.Attribute (.Call (.Name "super" ⟨7, 8, 7, 13⟩) [] [] ⟨7, 8, 7, 15⟩) "__init__" ⟨7, 8, 7, 24⟩) [.Constant (.str "the claim is not so") 0 ⟨7, 25, 7, 46⟩] [] ⟨7, 8, 7, 47⟩) ⟨7, 8, 7, 47⟩
abbrev sI2 : Stmt := .Assign [.Attribute (.Name "self" ⟨8, 8, 8, 12⟩) "rule" ⟨8, 8, 8, 17⟩] (.Name "rule" ⟨8, 20, 8, 24⟩) ⟨8, 8, 8, 24⟩
theorem bodyI : defBody stNI = [sI1, sI2] := rfl
/-- NotSo(..).__init__, walked -/
theorem notso_init (NS : NsF K mg NC f c cc) : ∃ fd, FnOk P0 w K mg base L2.CX0 (k + 1) f fd ["self", "rule"] (spI NC) ∧ Binds K fd ["self", "rule"] [] := by
  obtain ⟨doc, pm, ctv, od, sl, hfn⟩ := NS.fn
  refine ⟨_, ⟨fun vs H Q E h => ?_, fun A outer s H args us vs Q E hr e0 hb r hsp => ?_⟩, Binds.all (fd := fnX "__init__" "NotSo.__init__" (defArgs stNI) (defBody stNI) (defScope stNI) [("__class__", cc)] .none .none doc pm none (.ref c) ctv) fun us hl => ?_⟩
  · obtain ⟨a, y, rfl, _⟩ := h
    rfl
  · obtain ⟨a, y, rfl, ha, hq⟩ := hsp
    have K1 : K.In s.heap := e0.mod.kin.keeps fun b o e => (e0.bs b o e).1
    have lim : s.heap.NoLimit := e0.mod.nolimit.keeps fun b o e => (e0.bs b o e).1
    refine codeAny_call_function hr.depth (K1 _ _ hfn) rfl scI.co scI.gen rfl (codeRec_of K1 NS.cd) (hb _ _ _ _ ?_)
    refine (wpAny_newFunctionEnv scI.nocell (fun ⟨n, _⟩ hy => scI.par n (List.of_mem_zip hy).1) (fun h₁ hns hsb => ⟨lim.fresh _ hsb, ?_⟩) scI.kind)
    show codeAny _ _ (.func (defBody stNI) (envF (nfI c cc) f s.heap.objs.size)) _ _
    refine ks_codeAny_funcAt ?_
    have kp : ∀ b o, s.heap.get? b = some o → h₁.get? b = some o := fun b o e => hsb.extBut b o (Nat.ne_of_lt (Heap.lt_size e)) (Heap.get?_push_of_some _ e)
    obtain ⟨cl, cld, csl, hcell⟩ := NS.cell
    obtain ⟨ob, obh⟩ : ∃ o, base.get? cc = some o := ⟨_, e0.mod.kin _ _ hcell⟩
    have C : CellsAt [("__class__", cc)] ["__class__"] [none] s.heap H := by
      refine ⟨rfl, fun y c' e => ?_, fun x y c' e1 e2 => ?_, fun i y e => ?_⟩
      · have ec : c' = cc := by
          by_cases h : (y == ("__class__" : Str)) = true
          · simp only [List.lookup, h] at e
            exact (Option.some.inj e).symm
          · have h' : (y == ("__class__" : Str)) = false := by simpa using h
            simp only [List.lookup, h'] at e
            cases e
        subst ec
        exact ⟨(e0.bs _ _ obh).2, _, ⟨_, K1 _ _ hcell, rfl⟩⟩
      · have key : ∀ z : Str, ([("__class__", cc)] : List (Str × Addr)).lookup z = some c' → z = "__class__" := fun z e => by
          by_cases h : (z == ("__class__" : Str)) = true
          · exact beq_iff_eq.mp h
          · have h' : (z == ("__class__" : Str)) = false := by simpa using h
            simp only [List.lookup, h'] at e
            cases e
        rw [key x e1, key y e2]
      · match i, e with
        | 0, e =>
          have e' : ("__class__" : Str) = y := Option.some.inj e
          subst e'
          exact ⟨cc, by rfl, fun v h => by cases h⟩
    have I : Inv (ncx L2.CX0 P0 w K mg base ["self", "rule", "__class__"] (nfI c cc) f A outer s H E) [] (startF ["self", "rule", "__class__"] [.ref a, y] [none]) H { s with heap := h₁, toks := s.toks + ([("self" : Str), "rule"].zip us).length } := inv_startN scI hr.hd e0 rfl r C hns kp
    show PySem.wpAt _ _ _ (execs [sI1, sI2] (envF (nfI c cc) f s.heap.objs.size)) _ _ _
    refine ks_wpAt_execs_cons ?_
    refine ks_wpAt_Expr_any ?_ (by rfl) (by rfl)
    refine super_row (msg := "the claim is not so") (p0 := ⟨7, 8, 7, 13⟩) (p1 := ⟨7, 8, 7, 15⟩) (p2 := ⟨7, 8, 7, 24⟩) (p3 := ⟨7, 25, 7, 46⟩) (p4 := ⟨7, 8, 7, 47⟩) (j := 0) NS I rfl ha (by rfl) fun s2 I2 => ?_
    refine ks_wpAt_execs_cons (PySem.wpAt_of_wpAny ?_)
    have run := (ps_ost (X := ncx L2.CX0 P0 w K mg base ["self", "rule", "__class__"] (nfI c cc) f A outer s H E) (o := .Name "self" ⟨8, 8, 8, 12⟩) (e := .Name "rule" ⟨8, 20, 8, 24⟩) (f := "rule") (p' := ⟨8, 8, 8, 17⟩) (pos := ⟨8, 8, 8, 24⟩) (pv 0) (pv 1)).run [] s2 _ H { nx := fun _ H' => Q .non H', rt := Q } I2
      ⟨y, rfl, .ref a, rfl, a, NC, rfl, NS.oex, NS.rule, .inl ⟨ha, hq⟩⟩
    refine wpAny_mono run (fun fl s' hs => ?_) fun e s' h => h
    have fin : ∀ {σ' : L2.St} {H' : Hp} {v : V} {u : Value}, Inv (ncx L2.CX0 P0 w K mg base ["self", "rule", "__class__"] (nfI c cc) f A outer s H E) [] σ' H' s' → L2.RelV v u → Q v H' → CE outer P0 w H s Q u s' :=
      fun {σ' H' v u} J rv q => ⟨v, H', J.os, J.bare, J.base, J.hok, rv, q⟩
    cases fl with
    | ret u =>
      obtain ⟨v, σ', H', J, rv, q⟩ := hs
      exact fin J rv q
    | next =>
      obtain ⟨σ', H', J, q⟩ := hs
      exact PySem.wpAt_of_wpAny (wpAny_execs_nil (fin (v := V.non) (u := Value.none) J rfl q))
    | brk =>
      obtain ⟨_, _, _, q⟩ := hs
      exact False.elim q
    | cont =>
      obtain ⟨_, _, _, q⟩ := hs
      exact False.elim q
  · match us, hl with
    | [x, y], _ => rfl
end
end K76X

/-! ## M1 -/
namespace K76
/-- primality, as both trial divisions tell it -/
def Pr (n : Nat) : Prop := 2 ≤ n ∧ ∀ d, 2 ≤ d → d * d ≤ n → n % d ≠ 0
def trial (n : Nat) : Nat → Nat → Bool
  | 0, _ => true
  | f + 1, d => if n < d * d then true else if n % d = 0 then false else trial n f (d + 1)
def prB (n : Nat) : Bool := decide (2 ≤ n) && trial n n 2
theorem trial_iff (n : Nat) : ∀ f d, n < d + f → 2 ≤ d → (trial n f d = true ↔ ∀ e, d ≤ e → e * e ≤ n → n % e ≠ 0)
  | 0, d, h, h2 => by
    refine ⟨fun _ e he hm => ?_, fun _ => rfl⟩
    have : e ≤ e * e := Nat.le_mul_self e
    omega
  | f + 1, d, h, h2 => by
    show (if n < d * d then true else if n % d = 0 then false else trial n f (d + 1)) = true ↔ _
    by_cases c : n < d * d
    · rw [if_pos c]
      refine ⟨fun _ e he hm => ?_, fun _ => rfl⟩
      have : d * d ≤ e * e := Nat.mul_le_mul he he
      omega
    · rw [if_neg c]
      by_cases c2 : n % d = 0
      · rw [if_pos c2]
        refine ⟨fun h => (by cases h), fun h => absurd c2 (h d (Nat.le_refl _) (by omega))⟩
      · rw [if_neg c2, trial_iff n f (d + 1) (by omega) (by omega)]
        refine ⟨fun h e he hm => ?_, fun h e he hm => h e (by omega) hm⟩
        by_cases c3 : e = d
        · subst c3
          exact c2
        · exact h e (by omega) hm
theorem prB_iff (n : Nat) : prB n = true ↔ Pr n := by
  unfold prB Pr
  rw [Bool.and_eq_true, decide_eq_true_iff]
  refine and_congr_right fun h => trial_iff n n 2 (by omega) (by omega)
theorem prB_of {n : Nat} (h : Pr n) : prB n = true := (prB_iff n).mpr h
theorem prB_no {n : Nat} (h : ¬ Pr n) : prB n = false := by
  cases e : prB n with
  | false => rfl
  | true => exact absurd ((prB_iff n).mp e) h
/-- the greatest primes below top, descending, at most many -/
def pbl : Nat → Nat → List Nat
  | 0, _ => []
  | top + 1, many => if many = 0 then [] else if prB top then top :: pbl top (many - 1) else pbl top many
theorem pbl_zero (top : Nat) : pbl top 0 = [] := by
  cases top <;> rfl
theorem pbl_yes {top many : Nat} (hm : many ≠ 0) (hp : prB top = true) : pbl (top + 1) many = top :: pbl top (many - 1) := by
  show (if many = 0 then [] else if prB top then top :: pbl top (many - 1) else pbl top many) = _
  rw [if_neg hm, if_pos hp]
theorem pbl_no {top many : Nat} (hp : prB top = false) : pbl (top + 1) many = pbl top many := by
  show (if many = 0 then [] else if prB top then top :: pbl top (many - 1) else pbl top many) = _
  by_cases hm : many = 0
  · rw [if_pos hm, hm, pbl_zero]
  · rw [if_neg hm, if_neg (by rw [hp]; exact Bool.false_ne_true)]
theorem pbl_small {top : Nat} (h : top ≤ 2) (many : Nat) : pbl top many = [] := by
  match top, h with
  | 0, _ => rfl
  | 1, _ => rw [pbl_no (by decide)]; rfl
  | 2, _ => rw [pbl_no (by decide), pbl_no (by decide)]; rfl
theorem pbl_len : ∀ top many, (pbl top many).length ≤ many
  | 0, _ => Nat.zero_le _
  | top + 1, many => by
    show (if many = 0 then [] else if prB top then top :: pbl top (many - 1) else pbl top many).length ≤ many
    split
    · exact Nat.zero_le _
    · split
      · have := pbl_len top (many - 1)
        rw [List.length_cons]
        omega
      · exact pbl_len top many
/-- descending primes below a bound -/
def Desc (last : Nat) : List Nat → Prop
  | [] => True
  | p :: r => p < last ∧ prB p = true ∧ Desc p r
theorem Desc.mono : ∀ {l : List Nat} {a b : Nat}, Desc a l → a ≤ b → Desc b l
  | [], _, _, _, _ => trivial
  | _ :: _, _, _, ⟨h1, h2, h3⟩, h => ⟨Nat.lt_of_lt_of_le h1 h, h2, h3⟩
theorem Desc.tail : ∀ {l : List Nat} {a p : Nat}, Desc a (p :: l) → Desc a l
  | [], _, _, _ => trivial
  | q :: l, a, p, ⟨h1, h2, h3, h4, h5⟩ => ⟨Nat.lt_trans h3 h1, h4, h5⟩
theorem Desc.sub : ∀ {l' l : List Nat} {a : Nat}, l'.Sublist l → Desc a l → Desc a l'
  | _, _, _, .slnil, h => h
  | _, _, _, .cons _ s, h => Desc.sub s h.tail
  | _, _, _, .cons₂ _ s, ⟨h1, h2, h3⟩ => ⟨h1, h2, Desc.sub s h3⟩
theorem pbl_desc : ∀ top many, Desc top (pbl top many)
  | 0, _ => trivial
  | top + 1, many => by
    show Desc (top + 1) (if many = 0 then [] else if prB top then top :: pbl top (many - 1) else pbl top many)
    split
    · trivial
    · split
      · rename_i h
        exact ⟨Nat.lt_succ_self _, h, pbl_desc top (many - 1)⟩
      · exact (pbl_desc top many).mono (Nat.le_succ _)
def wd (b : Nat) (n : Nat) : List Nat := if h : n = 0 ∨ b = 0 then [] else n % 2 ^ b :: wd b (n / 2 ^ b)
termination_by n
decreasing_by exact Nat.div_lt_self (by omega) (Nat.one_lt_two_pow (by omega))
theorem wd_zero (b : Nat) : wd b 0 = [] := by
  unfold wd
  rw [dif_pos (Or.inl rfl)]
theorem wd_pos {b n : Nat} (hb : 0 < b) (hn : 0 < n) : wd b n = n % 2 ^ b :: wd b (n / 2 ^ b) := by
  rw [wd, dif_neg (by omega)]
theorem wd_len {b : Nat} (hb : 1 ≤ b) : ∀ {n : Nat}, (wd b n).length ≤ n.log2 + 1 := by
  intro n
  induction n using Nat.strongRecOn with
  | ind n ih =>
    by_cases h : n = 0
    · subst h
      rw [wd_zero]
      exact Nat.zero_le _
    · rw [wd_pos (by omega) (by omega), List.length_cons]
      have h2 : 2 ≤ 2 ^ b := Nat.le_trans (by decide) (Nat.pow_le_pow_right (by omega) hb)
      have hl : n / 2 ^ b < n := Nat.div_lt_self (by omega) (by omega)
      by_cases h0 : n / 2 ^ b = 0
      · rw [h0, wd_zero]
        simp
      · have := ih _ hl
        have h3 : (n / 2 ^ b).log2 < n.log2 := by
          rw [Nat.log2_lt h0]
          have h4 : n < 2 ^ (n.log2 + 1) := Nat.lt_log2_self
          have h5 : n / 2 ^ b ≤ n / 2 := Nat.div_le_div_left h2 (by omega)
          rw [Nat.pow_succ] at h4
          omega
        omega
/-- points that are descending primes below a bound, told by truth -/
def goodB (last : Int) : List Int → Bool
  | [] => true
  | p :: r => decide (p < last) && (prB p.toNat && goodB p r)
end K76

namespace K76
open PySem PySem.W PyProof.Rows L2 Evl
section
variable {K : PySem.W.Frag} {te : TE} {tt : TT} {tr : TA} {wi : TI} {f : R2} {g : List V → Hp → VK → Prop} {x y : Z} {zs : List Z} {r : RR} {o : OO} {P : Z → OO → Prop} {PT' : Bool → OO → Prop} {PL : List Z → OO → Prop} {nx bk ct : NN} {rt : RT} {t : TS}
theorem isWE (h : WE K te r o P) : WE K te r o P := h
theorem isWT (h : WT K tt r o PT') : WT K tt r o PT' := h
theorem isWA (h : WA K tr r o PL) : WA K tr r o PL := h
theorem isWI (h : WI K wi r o PL) : WI K wi r o PL := h
theorem isZO (h : ZO K f x y r o P) : ZO K f x y r o P := h
theorem isZC (h : ZC K g zs r o P) : ZC K g zs r o P := h
theorem isWS (h : WS K t nx rt bk ct r o) : WS K t nx rt bk ct r o := h
end
/-- the side conditions -/
local macro_rules | `(tactic| walk_at "side") => `(tactic| first | decide | omega | (unfold CMul; omega) | (unfold CDivN; omega) | (unfold CPow; omega))
local macro_rules | `(tactic| walk_at "z") => `(tactic| first
  | ((with_reducible refine isWE ?_); first
      | ((with_reducible refine we_varE ?_); refine ⟨_, rfl, ?_⟩)
      | with_reducible refine we_int ?_
      | with_reducible refine we_op ?_
      | with_reducible refine we_str ?_
      | (with_reducible refine we_tup ?_)
      | with_reducible refine we_slT ?_
      | with_reducible refine we_slL ?_
      | with_reducible refine we_lst ?_
      | with_reducible refine we_isi ?_
      | with_reducible refine we_bl ?_
      | with_reducible refine we_non ?_
      | with_reducible refine we_neg ?_
      | with_reducible refine we_if ?_
      | with_reducible refine we_notV ?_
      | with_reducible refine we_andV ?_
      | with_reducible refine we_orV ?_
      | with_reducible refine we_isN ?_
      | with_reducible refine we_notN ?_
      | with_reducible refine we_cb ?_
      | with_reducible refine we_call ?_
      | with_reducible refine we_bits ?_)
  | ((with_reducible refine isWS ?_); first
      | with_reducible refine ws_seq ?_
      | with_reducible refine ws_own0 ?_
      | with_reducible refine ws_asg ?_
      | ((with_reducible refine ws_retOE ?_); refine ⟨rfl, ?_⟩)
      | with_reducible refine ws_ret ?_
      | with_reducible refine ws_next ?_
      | with_reducible refine ws_if ?_
      | with_reducible refine ws_unp ?_
      | with_reducible refine ws_brk ?_
      | with_reducible refine ws_cont ?_
      | ((with_reducible refine ws_app0 ?_); refine ⟨_, _, rfl, rfl, ?_⟩)
      | with_reducible refine ws_drop ?_
      | with_reducible refine ws_for ?_)
  | ((with_reducible refine isWA ?_); first
      | with_reducible refine wa_cons ?_
      | with_reducible refine wa_nil ?_)
  | ((with_reducible refine isZO ?_); first
      | with_reducible refine zo_isB ?_
      | with_reducible refine zo_notB ?_
      | with_reducible refine zo_catTE ?_
      | with_reducible refine zo_catLE ?_
      | with_reducible refine zo_i0 ?_
      | with_reducible refine zo_b0 ?_
      | ((with_reducible refine zo_iE ?_); refine ⟨by walk_at "side", ?_⟩)
      | ((with_reducible refine zo_eqE ?_); refine ⟨rfl, rfl, rfl, ?_⟩)
      | ((with_reducible refine zo_neE ?_); refine ⟨rfl, rfl, rfl, ?_⟩))
  | ((with_reducible refine isWT ?_); first
      | with_reducible refine wt_yes ?_
      | with_reducible refine wt_test ?_
      | with_reducible refine wt_B ?_
      | with_reducible refine wt_and ?_
      | with_reducible refine wt_or ?_
      | with_reducible refine wt_not ?_)
  | ((with_reducible refine isZC ?_); first
      | with_reducible refine zc_abs ?_
      | with_reducible refine zc_int ?_
      | with_reducible refine zc_max ?_
      | with_reducible refine zc_min ?_
      | with_reducible refine zc_tupL ?_
      | with_reducible refine zc_tupT ?_
      | with_reducible refine zc_lstT ?_
      | ((with_reducible refine zc_tupO0 ?_); refine ⟨_, rfl, ?_⟩)
      | ((with_reducible refine zc_lenO0 ?_); refine ⟨_, rfl, ?_⟩)
      | with_reducible refine zc_sum ?_
      | with_reducible refine zc_lenL ?_
      | with_reducible refine zc_lenT ?_
      | with_reducible refine zc_lenS ?_)
  | ((with_reducible refine isWI ?_); first
      | with_reducible refine wi_list ?_
      | with_reducible refine wi_tup ?_
      | with_reducible refine wi_r1 ?_
      | with_reducible refine wi_r2 ?_
      | with_reducible refine wi_r3 ?_)
  | ((with_reducible refine wg_lstE ?_); refine ⟨rfl, ?_⟩)
  | ((with_reducible refine wg_tupE ?_); refine ⟨rfl, ?_⟩)
  | with_reducible refine wgs_cons ?_
  | with_reducible refine wgs_nil ?_
  | with_reducible refine wo_none ?_
  | with_reducible refine wo_some ?_
  | with_reducible refine wg_name ?_
  | with_reducible refine exL ?_
  | with_reducible refine exT ?_
  | with_reducible refine len_and (by simp) ?_
  | with_reducible refine exI ?_
  | with_reducible refine exB ?_)

local macro_rules | `(tactic| walk_at "y") => `(tactic| first
  | ((with_reducible refine isWE ?_); first
      | ((with_reducible refine we_varE ?_); refine ⟨_, rfl, ?_⟩)
      | with_reducible refine we_int ?_
      | with_reducible refine we_op ?_
      | with_reducible refine we_str ?_
      | (with_reducible refine we_tup ?_)
      | with_reducible refine we_slT ?_
      | with_reducible refine we_slL ?_
      | with_reducible refine we_lst ?_
      | with_reducible refine we_isi ?_
      | with_reducible refine we_bl ?_
      | with_reducible refine we_non ?_
      | with_reducible refine we_neg ?_
      | with_reducible refine we_notV ?_
      | with_reducible refine we_andV ?_
      | with_reducible refine we_orV ?_
      | with_reducible refine we_isN ?_
      | with_reducible refine we_notN ?_
      | with_reducible refine we_cb ?_
      | with_reducible refine we_call ?_
      | with_reducible refine we_bits ?_)
  | ((with_reducible refine isWS ?_); first
      | with_reducible refine ws_seqA ?_
      | with_reducible refine ws_seqD ?_
      | with_reducible refine ws_own0 ?_
      | with_reducible refine ws_asg ?_
      | ((with_reducible refine ws_retOE ?_); refine ⟨rfl, ?_⟩)
      | with_reducible refine ws_ret ?_
      | with_reducible refine ws_next ?_
      | with_reducible refine ws_unp ?_
      | with_reducible refine ws_brk ?_
      | with_reducible refine ws_cont ?_
      | ((with_reducible refine ws_app0 ?_); refine ⟨_, _, rfl, rfl, ?_⟩)
      | with_reducible refine ws_drop ?_)
  | ((with_reducible refine isWA ?_); first
      | with_reducible refine wa_cons ?_
      | with_reducible refine wa_nil ?_)
  | ((with_reducible refine isZO ?_); first
      | with_reducible refine zo_isB ?_
      | with_reducible refine zo_notB ?_
      | with_reducible refine zo_catTE ?_
      | with_reducible refine zo_catLE ?_
      | with_reducible refine zo_i0 ?_
      | with_reducible refine zo_b0 ?_
      | ((with_reducible refine zo_iE ?_); refine ⟨by walk_at "side", ?_⟩)
      | ((with_reducible refine zo_eqE ?_); refine ⟨rfl, rfl, rfl, ?_⟩)
      | ((with_reducible refine zo_neE ?_); refine ⟨rfl, rfl, rfl, ?_⟩))
  | ((with_reducible refine isWT ?_); first
      | with_reducible refine wt_yes ?_
      | with_reducible refine wt_test ?_
      | with_reducible refine wt_B ?_
      | with_reducible refine wt_and ?_
      | with_reducible refine wt_or ?_
      | with_reducible refine wt_not ?_)
  | ((with_reducible refine isZC ?_); first
      | with_reducible refine zc_abs ?_
      | with_reducible refine zc_int ?_
      | with_reducible refine zc_max ?_
      | with_reducible refine zc_min ?_
      | with_reducible refine zc_tupL ?_
      | with_reducible refine zc_tupT ?_
      | with_reducible refine zc_lstT ?_
      | ((with_reducible refine zc_tupO0 ?_); refine ⟨_, rfl, ?_⟩)
      | ((with_reducible refine zc_lenO0 ?_); refine ⟨_, rfl, ?_⟩)
      | with_reducible refine zc_sum ?_
      | with_reducible refine zc_lenL ?_
      | with_reducible refine zc_lenT ?_
      | with_reducible refine zc_lenS ?_)
  | ((with_reducible refine isWI ?_); first
      | with_reducible refine wi_list ?_
      | with_reducible refine wi_tup ?_
      | with_reducible refine wi_r1 ?_
      | with_reducible refine wi_r2 ?_
      | with_reducible refine wi_r3 ?_)
  | ((with_reducible refine wg_lstE ?_); refine ⟨rfl, ?_⟩)
  | ((with_reducible refine wg_tupE ?_); refine ⟨rfl, ?_⟩)
  | with_reducible refine wgs_cons ?_
  | with_reducible refine wgs_nil ?_
  | with_reducible refine wo_none ?_
  | with_reducible refine wo_some ?_
  | with_reducible refine wg_name ?_
  | with_reducible refine exL ?_
  | with_reducible refine exT ?_
  | with_reducible refine len_and (by simp) ?_
  | with_reducible refine exI ?_
  | with_reducible refine exB ?_)

local macro_rules | `(tactic| walk_at "x") => `(tactic| first
  | ((with_reducible refine isWE ?_); first
      | ((with_reducible refine we_varE ?_); refine ⟨_, rfl, ?_⟩)
      | with_reducible refine we_int ?_
      | with_reducible refine we_op ?_
      | with_reducible refine we_str ?_
      | (with_reducible refine we_tup ?_)
      | with_reducible refine we_slT ?_
      | with_reducible refine we_slL ?_
      | with_reducible refine we_lst ?_
      | with_reducible refine we_isi ?_
      | with_reducible refine we_bl ?_
      | with_reducible refine we_non ?_
      | with_reducible refine we_neg ?_
      | with_reducible refine we_notV ?_
      | with_reducible refine we_andV ?_
      | with_reducible refine we_orV ?_
      | with_reducible refine we_isN ?_
      | with_reducible refine we_notN ?_
      | with_reducible refine we_cb ?_
      | with_reducible refine we_bits ?_)
  | ((with_reducible refine isWS ?_); first
      | with_reducible refine ws_seqA ?_
      | with_reducible refine ws_seqD ?_
      | with_reducible refine ws_own0 ?_
      | with_reducible refine ws_asg ?_
      | ((with_reducible refine ws_retOE ?_); refine ⟨rfl, ?_⟩)
      | with_reducible refine ws_ret ?_
      | with_reducible refine ws_next ?_
      | with_reducible refine ws_unp ?_
      | with_reducible refine ws_brk ?_
      | with_reducible refine ws_cont ?_
      | ((with_reducible refine ws_app0 ?_); refine ⟨_, _, rfl, rfl, ?_⟩)
      | with_reducible refine ws_drop ?_)
  | ((with_reducible refine isWA ?_); first
      | with_reducible refine wa_cons ?_
      | with_reducible refine wa_nil ?_)
  | ((with_reducible refine isZO ?_); first
      | with_reducible refine zo_isB ?_
      | with_reducible refine zo_notB ?_
      | with_reducible refine zo_catTE ?_
      | with_reducible refine zo_catLE ?_
      | with_reducible refine zo_i0 ?_
      | with_reducible refine zo_b0 ?_
      | ((with_reducible refine zo_iE ?_); refine ⟨by walk_at "side", ?_⟩)
      | ((with_reducible refine zo_eqE ?_); refine ⟨rfl, rfl, rfl, ?_⟩)
      | ((with_reducible refine zo_neE ?_); refine ⟨rfl, rfl, rfl, ?_⟩))
  | ((with_reducible refine isWT ?_); first
      | with_reducible refine wt_yes ?_
      | with_reducible refine wt_test ?_
      | with_reducible refine wt_B ?_
      | with_reducible refine wt_and ?_
      | with_reducible refine wt_or ?_
      | with_reducible refine wt_not ?_)
  | ((with_reducible refine isZC ?_); first
      | with_reducible refine zc_abs ?_
      | with_reducible refine zc_int ?_
      | with_reducible refine zc_max ?_
      | with_reducible refine zc_min ?_
      | with_reducible refine zc_tupL ?_
      | with_reducible refine zc_tupT ?_
      | with_reducible refine zc_lstT ?_
      | ((with_reducible refine zc_tupO0 ?_); refine ⟨_, rfl, ?_⟩)
      | ((with_reducible refine zc_lenO0 ?_); refine ⟨_, rfl, ?_⟩)
      | with_reducible refine zc_sum ?_
      | with_reducible refine zc_lenL ?_
      | with_reducible refine zc_lenT ?_
      | with_reducible refine zc_lenS ?_)
  | ((with_reducible refine isWI ?_); first
      | with_reducible refine wi_list ?_
      | with_reducible refine wi_tup ?_
      | with_reducible refine wi_r1 ?_
      | with_reducible refine wi_r2 ?_
      | with_reducible refine wi_r3 ?_)
  | ((with_reducible refine wg_lstE ?_); refine ⟨rfl, ?_⟩)
  | ((with_reducible refine wg_tupE ?_); refine ⟨rfl, ?_⟩)
  | with_reducible refine wgs_cons ?_
  | with_reducible refine wgs_nil ?_
  | with_reducible refine wo_none ?_
  | with_reducible refine wo_some ?_
  | with_reducible refine wg_name ?_
  | with_reducible refine exL ?_
  | with_reducible refine exT ?_
  | with_reducible refine len_and (by simp) ?_
  | with_reducible refine exI ?_
  | with_reducible refine exB ?_)

local macro_rules | `(tactic| walk_at "k") => `(tactic| first | walk_at "z" | ((with_reducible refine zo_inE ?_); refine ⟨rfl, rfl, ?_⟩) | ((with_reducible refine zo_ixTE ?_); refine ⟨_, rfl, ?_⟩) | ((with_reducible refine zo_ixLE ?_); refine ⟨_, rfl, ?_⟩) | refine known_t (by decide) ?_ | refine known_f (by decide) ?_ | refine known_t' (by decide) ?_ | refine known_f' (by decide) ?_)

/-! ## B1 -/
section
variable {w : World} {K : PySem.W.Frag} {mg : Str → Option Value} {base : Heap}
abbrev bitsI (n : Int) : Int := (Builtin.Int.intBits n : Nat)
def tz_bits_of : TZ := fun zs o R => ∃ n, zs = [.int n] ∧ o = [] ∧ R (.int (bitsI n)) []
abbrev st_bits_of : Stmt := top 5
abbrev N_bits_of : List Str := ["number"]
theorem sc_bits_of : FnScope N_bits_of ["number"] (defScope st_bits_of) := ⟨rfl, rfl, rfl, by decide +kernel, rfl, by decide +kernel, by decide +kernel⟩
theorem c_bits_of {JC : Addr} (T : Tx K mg) (J : TJ K mg JC) : Cal P0 w K mg base "bits_of" 1 ["number"] (tz_bits_of) := by
  refine Cal.mk T.d_bits_of sc_bits_of (fun _ _ _ _ _ _ us hl => match us, hl with | [_], _ => rfl) fun f cdv A outer s H E hr => ?_
  refine ⟨_, (pss_one (ps_ret (pe_bits (pe_callB call_abs (by rfl) T.b_abs (by decide +kernel) (pa_cons (pv 0) pa_nil))))), ?_⟩
  try dsimp only [cxK]
  rintro zs o R ⟨n, rfl, rfl, k⟩
  repeat walk_at "z"
  rw [bits_abs]
  exact fin0 k
def tz_weight_of : TZ := fun zs o R => ∃ n, zs = [.int n] ∧ o = [] ∧ R (.int (bitsI n - 1)) []
abbrev st_weight_of : Stmt := top 9
abbrev N_weight_of : List Str := ["point"]
theorem sc_weight_of : FnScope N_weight_of ["point"] (defScope st_weight_of) := ⟨rfl, rfl, rfl, by decide +kernel, rfl, by decide +kernel, by decide +kernel⟩
theorem c_weight_of {JC : Addr} (T : Tx K mg) (J : TJ K mg JC) : Cal P0 w K mg base "weight_of" 2 ["point"] (tz_weight_of) := by
  refine Cal.mk T.d_weight_of sc_weight_of (fun _ _ _ _ _ _ us hl => match us, hl with | [_], _ => rfl) fun f cdv A outer s H E hr => ?_
  have c_bits_of := @c_bits_of w K mg base JC T J
  refine ⟨_, (pss_one (ps_ret (pe_op op_sub (pe_callZ c_bits_of (hr.mono (by decide)) (pa_cons (pv 0) pa_nil)) pe_int))), ?_⟩
  try dsimp only [cxK]
  rintro zs o R ⟨n, rfl, rfl, k⟩
  repeat walk_at "z"
  refine ⟨rfl, n, rfl, rfl, ?_⟩
  repeat walk_at "z"
  exact fin0 k
def tz_law_cell : TZ := fun zs o R => ∃ s p, zs = [.scr s, .int p] ∧ o = [] ∧ ∀ c, 0 ≤ c → R (.int c) []
abbrev st_law_cell : Stmt := top 416
abbrev N_law_cell : List Str := ["script", "place", "cell"]
theorem sc_law_cell : FnScope N_law_cell ["script", "place"] (defScope st_law_cell) := ⟨rfl, rfl, rfl, by decide +kernel, rfl, by decide +kernel, by decide +kernel⟩
theorem c_law_cell {JC : Addr} (T : Tx K mg) (J : TJ K mg JC) : Cal P0 w K mg base "_law_cell" 1 ["script", "place"] (tz_law_cell) := by
  refine Cal.mk T.d__law_cell sc_law_cell (fun _ _ _ _ _ _ us hl => match us, hl with | [_, _], _ => rfl) fun f cdv A outer s H E hr => ?_
  refine ⟨_, (pss_cons (ps_if (pt_cmpR op_eq (pe_callB (call_lenK (K := K)) (by rfl) T.b_len (by decide +kernel) (pa_cons (pv 0) pa_nil)) pe_int (nomark _)) (pss_one (ps_ret pe_int)) pss_nil)
    (pss_cons (ps_set (i := 2) sc_law_cell.nd rfl (Or.inl rfl) (pe_ix (ix_listK (K := K)) (pv 0) (pe_op op_modN (pv 1) (pe_callB (call_lenK (K := K)) (by rfl) T.b_len (by decide +kernel) (pa_cons (pv 0) pa_nil))) (fun _ _ => rfl)))
    (pss_cons (ps_if (pt_cmpR op_lt (pv 2) pe_int (nomark _)) (pss_one (ps_ret (pe_op op_add (pe_op op_mul (pe_un un_neg pe_int) (pv 2)) pe_int))) pss_nil)
    (pss_one (ps_ret (pe_op op_mul pe_int (pv 2))))))), ?_⟩
  try dsimp only [cxK]
  rintro zs o R ⟨s, p, rfl, rfl, k⟩
  repeat walk_at "z"
  refine ⟨fun h => ?_, fun h => ?_⟩
  · repeat walk_at "z"
    exact fin0 (k _ (by decide))
  · have hs : s.length ≠ 0 := by simpa [Z.v] using h
    have h1 : (0 : Int) < s.length := by omega
    repeat walk_at "z"
    have h2 := Int.fmod_nonneg_of_pos p h1
    have h3 := Int.fmod_lt_of_pos p h1
    obtain ⟨n, hn⟩ : ∃ n, s[(p.fmod s.length).toNat]? = some n := ⟨_, List.getElem?_eq_getElem (by omega)⟩
    refine zo_ixS ((atI_in h2 h3).trans hn) ?_
    repeat walk_at "z"
    refine ⟨fun h => ?_, fun h => ?_⟩
    · have := dec_t h
      repeat walk_at "z"
      exact fin0 (k _ (by omega))
    · have := dec_f h
      repeat walk_at "z"
      exact fin0 (k _ (by omega))
def tz_law_row : TZ := fun zs o R => ∃ s p m l, zs = [.scr s, .int p, .int m, .int l] ∧ o = [] ∧ (0 ≤ m ∧ m ≤ 1000) ∧ (1 ≤ l ∧ l ≤ 1000000) ∧ ∀ xs : List Int, xs.length = m.toNat → (∀ x ∈ xs, 0 ≤ x ∧ x < l) → R (.lst (xs.map Z.int)) []
abbrev st_law_row : Stmt := top 417
abbrev N_law_row : List Str := ["script", "place", "many", "limit", "number", "row", "rest", "k", "mixed"]
theorem sc_law_row : FnScope N_law_row ["script", "place", "many", "limit"] (defScope st_law_row) := ⟨rfl, rfl, rfl, by decide +kernel, rfl, by decide +kernel, by decide +kernel⟩
theorem c_law_row {JC : Addr} (T : Tx K mg) (J : TJ K mg JC) : Cal P0 w K mg base "_law_row" 2 ["script", "place", "many", "limit"] (tz_law_row) := by
  refine Cal.mk T.d__law_row sc_law_row (fun _ _ _ _ _ _ us hl => match us, hl with | [_, _, _, _], _ => rfl) fun f cdv A outer s H E hr => ?_
  have c_law_cell := @c_law_cell w K mg base JC T J
  refine ⟨_, (pss_cons (ps_set (i := 4) sc_law_row.nd rfl (Or.inl rfl) (pe_callZ c_law_cell (hr.mono (by decide)) (pa_cons (pv 0) (pa_cons (pv 1) pa_nil))))
    (pss_cons (ps_set (i := 5) sc_law_row.nd rfl (Or.inl rfl) (pe_lst pa_nil))
    (pss_cons (ps_if (pt_cmpR op_ge (pv 4) (pe_op op_pow pe_int pe_int) (nomark _)) (pss_cons (ps_set (i := 6) sc_law_row.nd rfl (Or.inl rfl) (pe_op op_add (pe_op op_fdivN (pv 4) pe_int) (pv 1)))
    (pss_cons (ps_for PassesOwn.never rfl (pi_range1 (by rfl) T.b_range (pa_cons (pv 2) pa_nil)) (pg_name (i := 7) sc_law_row.nd rfl (Or.inl rfl)) (pss_cons (ps_if (pt_cmpR op_eq (pv 6) pe_int (nomark _)) (pss_one (ps_set (i := 6) sc_law_row.nd rfl (Or.inl rfl) (pe_op op_add (pe_op op_fdivN (pv 4) pe_int) (pv 7)))) pss_nil)
    (pss_cons (ps_expr (pe_bm PySem.F.plainAttrs_list PySem.F.slot_list_append PySem.F.type_list_append mt_append (pv 5) (pa_cons (pe_op op_modN (pe_callTy call_int1 (by rfl) T.b_int (by decide +kernel) (pa_cons (pv 6) pa_nil)) (pv 3)) pa_nil)))
    (pss_one (ps_set (i := 6) sc_law_row.nd rfl (Or.inl rfl) (pe_op op_fdivN (pv 6) (pv 3)))))))
    (pss_one (ps_ret (pv 5))))) pss_nil)
    (pss_cons (ps_for PassesOwn.never rfl (pi_range1 (by rfl) T.b_range (pa_cons (pv 2) pa_nil)) (pg_name (i := 7) sc_law_row.nd rfl (Or.inl rfl)) (pss_cons (ps_set (i := 8) sc_law_row.nd rfl (Or.inl rfl) (pe_op op_modN (pe_callTy call_int1 (by rfl) T.b_int (by decide +kernel) (pa_cons (pe_op op_add (pe_op op_add (pe_op op_add (pe_op op_mul (pe_op op_add (pv 4) pe_int) pe_int) (pe_op op_mul (pe_op op_add (pv 1) pe_int) pe_int)) (pe_op op_mul (pv 7) pe_int)) pe_int) pa_nil)) pe_int))
    (pss_cons (ps_set (i := 8) sc_law_row.nd rfl (Or.inl rfl) (pe_op op_modN (pe_callTy call_int1 (by rfl) T.b_int (by decide +kernel) (pa_cons (pe_op op_add (pe_op op_add (pe_op op_mul (pv 8) (pv 8)) (pe_op op_mul pe_int (pe_op op_add (pv 7) (pv 1)))) pe_int) pa_nil)) pe_int))
    (pss_one (ps_expr (pe_bm PySem.F.plainAttrs_list PySem.F.slot_list_append PySem.F.type_list_append mt_append (pv 5) (pa_cons (pe_op op_modN (pe_callTy call_int1 (by rfl) T.b_int (by decide +kernel) (pa_cons (pe_op op_fdivN (pv 8) pe_int) pa_nil)) (pv 3)) pa_nil)))))))
    (pss_one (ps_ret (pv 5))))))), ?_⟩
  try dsimp only [cxK]
  rintro zs o R ⟨s, p, m, l, rfl, rfl, hm, hl, k⟩
  repeat walk_at "z"
  refine ⟨rfl, s, p, rfl, rfl, fun c hc => ?_⟩
  repeat walk_at "z"
  intro a
  repeat walk_at "z"
  refine ⟨fun h => ?_, fun h => ?_⟩
  · repeat walk_at "z"
    refine ⟨m, rfl, by omega, by omega, ?_⟩
    refine ⟨fun i r o => ∃ (xs : List Int) (rest : Int) (x7 : Option Z), r = [some (.scr s), some (.int p), some (.int m), some (.int l), some (.int c), some (.ref a), some (.int rest), x7, none] ∧ o = [(a, .lst (xs.map Z.int))] ∧ xs.length = i ∧ ∀ x ∈ xs, 0 ≤ x ∧ x < l, ⟨[], _, _, rfl, rfl, rfl, by simp⟩, ?_, ?_⟩
    · rintro i z r o hz ⟨xs, rest, x7, rfl, rfl, hx, hb⟩
      obtain ⟨hi, rfl⟩ := upFrom_of hz
      repeat walk_at "z"
      have fin : ∀ rest : Int, (xs ++ [rest.fmod l]).length = i + 1 ∧ ∀ x ∈ xs ++ [rest.fmod l], 0 ≤ x ∧ x < l := fun rest => ⟨by simp [hx], fun x hm => by
        rcases List.mem_append.mp hm with h | h
        · exact hb x h
        · rw [List.mem_singleton.mp h]
          exact ⟨Int.fmod_nonneg_of_pos _ (by omega), Int.fmod_lt_of_pos _ (by omega)⟩⟩
      refine ⟨fun h => ?_, fun h => ?_⟩
      · repeat walk_at "z"
        refine ⟨_, rfl, by simp; omega, ?_⟩
        repeat walk_at "z"
        refine ⟨xs ++ [_], _, _, rfl, by rw [List.map_append]; rfl, fin _⟩
      · repeat walk_at "z"
        refine ⟨_, rfl, by simp; omega, ?_⟩
        repeat walk_at "z"
        refine ⟨xs ++ [_], _, _, rfl, by rw [List.map_append]; rfl, fin _⟩
    · rintro r o ⟨xs, rest, x7, rfl, rfl, hx, hb⟩
      exact ws_retO rfl (fin0 (k xs (by rw [hx, upFrom_len]) hb))
  · repeat walk_at "z"
    refine ⟨m, rfl, by omega, by omega, ?_⟩
    refine ⟨fun i r o => ∃ (xs : List Int) (x7 x8 : Option Z), r = [some (.scr s), some (.int p), some (.int m), some (.int l), some (.int c), some (.ref a), none, x7, x8] ∧ o = [(a, .lst (xs.map Z.int))] ∧ xs.length = i ∧ ∀ x ∈ xs, 0 ≤ x ∧ x < l, ⟨[], _, _, rfl, rfl, rfl, by simp⟩, ?_, ?_⟩
    · rintro i z r o hz ⟨xs, x7, x8, rfl, rfl, hx, hb⟩
      obtain ⟨hi, rfl⟩ := upFrom_of hz
      repeat walk_at "z"
      obtain ⟨v, hv⟩ : ∃ v, v = (((c + 7) * 48271 + (p + 1) * 69621 + (0 + (i : Int) * 1) * 16807 + 12345)).fmod 2147483647 := ⟨_, rfl⟩
      have h1 := Int.fmod_nonneg_of_pos ((c + 7) * 48271 + (p + 1) * 69621 + (0 + (i : Int) * 1) * 16807 + 12345) (b := 2147483647) (by decide)
      have h2 := Int.fmod_lt_of_pos ((c + 7) * 48271 + (p + 1) * 69621 + (0 + (i : Int) * 1) * 16807 + 12345) (b := 2147483647) (by decide)
      rw [← hv] at h1 h2 ⊢
      repeat walk_at "z"
      refine ⟨_, rfl, by simp; omega, ?_⟩
      refine ⟨xs ++ [_], _, _, rfl, by rw [List.map_append]; rfl, by simp [hx], fun x hm => ?_⟩
      rcases List.mem_append.mp hm with h | h
      · exact hb x h
      · rw [List.mem_singleton.mp h]
        exact ⟨Int.fmod_nonneg_of_pos _ (by omega), Int.fmod_lt_of_pos _ (by omega)⟩
    · rintro r o ⟨xs, x7, x8, rfl, rfl, hx, hb⟩
      exact ws_retO rfl (fin0 (k xs (by rw [hx, upFrom_len]) hb))
def tz_law_one : TZ := fun zs o R => ∃ s p l, zs = [.scr s, .int p, .int l] ∧ o = [] ∧ (1 ≤ l ∧ l ≤ 1000000) ∧ ∀ x : Int, 0 ≤ x ∧ x < l → R (.int x) []
abbrev st_law_one : Stmt := top 418
abbrev N_law_one : List Str := ["script", "place", "limit"]
theorem sc_law_one : FnScope N_law_one ["script", "place", "limit"] (defScope st_law_one) := ⟨rfl, rfl, rfl, by decide +kernel, rfl, by decide +kernel, by decide +kernel⟩
theorem c_law_one {JC : Addr} (T : Tx K mg) (J : TJ K mg JC) : Cal P0 w K mg base "_law_one" 3 ["script", "place", "limit"] (tz_law_one) := by
  refine Cal.mk T.d__law_one sc_law_one (fun _ _ _ _ _ _ us hl => match us, hl with | [_, _, _], _ => rfl) fun f cdv A outer s H E hr => ?_
  have c_law_row := @c_law_row w K mg base JC T J
  refine ⟨_, (pss_one (ps_ret (pe_ix (ix_listK (K := K)) (pe_callZ c_law_row (hr.mono (by decide)) (pa_cons (pv 0) (pa_cons (pv 1) (pa_cons pe_int (pa_cons (pv 2) pa_nil))))) pe_int (fun _ _ => rfl)))), ?_⟩
  try dsimp only [cxK]
  rintro zs o R ⟨s, p, l, rfl, rfl, hl, k⟩
  repeat walk_at "z"
  refine ⟨rfl, s, p, 1, l, rfl, rfl, by omega, hl, fun xs h1 h2 => ?_⟩
  repeat walk_at "z"
  obtain ⟨x, rfl⟩ : ∃ x, xs = [x] := List.length_eq_one_iff.mp h1
  refine zo_ixL (z := .int x) rfl ?_
  exact fin0 (k x (h2 x (by simp)))
def tz_law_words : TZ := fun zs o R => ∃ (n b : Int), zs = [.int n, .int b] ∧ o = [] ∧ (1 ≤ b ∧ b ≤ 1000) ∧ R (.int ((bitsI n + b - 1).fdiv b)) []
abbrev st_law_words : Stmt := top 423
abbrev N_law_words : List Str := ["number", "bits"]
theorem sc_law_words : FnScope N_law_words ["number", "bits"] (defScope st_law_words) := ⟨rfl, rfl, rfl, by decide +kernel, rfl, by decide +kernel, by decide +kernel⟩
theorem c_law_words {JC : Addr} (T : Tx K mg) (J : TJ K mg JC) : Cal P0 w K mg base "_law_words" 1 ["number", "bits"] (tz_law_words) := by
  refine Cal.mk T.d__law_words sc_law_words (fun _ _ _ _ _ _ us hl => match us, hl with | [_, _], _ => rfl) fun f cdv A outer s H E hr => ?_
  refine ⟨_, (pss_one (ps_ret (pe_op op_fdivN (pe_op op_sub (pe_op op_add (pe_bits (pe_callB call_abs (by rfl) T.b_abs (by decide +kernel) (pa_cons (pv 0) pa_nil))) (pv 1)) pe_int) (pv 1)))), ?_⟩
  try dsimp only [cxK]
  rintro zs o R ⟨n, b, rfl, rfl, hb, k⟩
  repeat walk_at "z"
  rw [bits_abs]
  exact fin0 k
end

/-! ## B2 -/
section
variable {w : World} {K : PySem.W.Frag} {mg : Str → Option Value} {base : Heap}
def tz_law_is_prime : TZ := fun zs o R => ∃ n : Int, zs = [.int n] ∧ o = [] ∧ n < 102400 ∧ R (.bl (prB n.toNat)) []
abbrev st_law_is_prime : Stmt := top 419
abbrev N_law_is_prime : List Str := ["number", "divisor"]
theorem sc_law_is_prime : FnScope N_law_is_prime ["number"] (defScope st_law_is_prime) := ⟨rfl, rfl, rfl, by decide +kernel, rfl, by decide +kernel, by decide +kernel⟩
theorem c_law_is_prime {JC : Addr} (T : Tx K mg) (J : TJ K mg JC) : Cal P0 w K mg base "_law_is_prime" 1 ["number"] (tz_law_is_prime) := by
  refine Cal.mk T.d__law_is_prime sc_law_is_prime (fun _ _ _ _ _ _ us hl => match us, hl with | [_], _ => rfl) fun f cdv A outer s H E hr => ?_
  refine ⟨_, (pss_cons (ps_if (pt_cmpR op_lt (pv 0) pe_int (nomark _)) (pss_one (ps_ret pe_bl)) pss_nil)
    (pss_cons (ps_for PassesOwn.never rfl (pi_range2 (by rfl) T.b_range (pa_cons pe_int (pa_cons pe_int pa_nil))) (pg_name (i := 1) sc_law_is_prime.nd rfl (Or.inl rfl)) (pss_cons (ps_if (pt_cmpR op_gt (pe_op op_mul (pv 1) (pv 1)) (pv 0) (nomark _)) (pss_one (ps_ret pe_bl)) pss_nil)
    (pss_one (ps_if (pt_cmpR op_eq (pe_op op_modN (pe_callTy call_int1 (by rfl) T.b_int (by decide +kernel) (pa_cons (pv 0) pa_nil)) (pv 1)) pe_int (nomark _)) (pss_one (ps_ret pe_bl)) pss_nil))))
    (pss_one (ps_ret pe_bl)))), ?_⟩
  try dsimp only [cxK]
  rintro zs o R ⟨n, rfl, rfl, hn, k⟩
  repeat walk_at "z"
  refine ⟨fun h => ?_, fun h => ?_⟩
  · have := dec_t h
    repeat walk_at "z"
    rw [prB_no (fun q => by have := q.1; omega)] at k
    exact fin0 k
  · have h0 := dec_f h
    obtain ⟨m, rfl⟩ := Int.eq_ofNat_of_zero_le (show 0 ≤ n by omega)
    rw [Int.toNat_natCast] at k
    repeat walk_at "z"
    refine ⟨2, 320, rfl, by decide, ?_⟩
    refine ⟨fun i r o => ∃ x1 : Option Z, r = [some (.int m), x1] ∧ o = [] ∧ ∀ d, 2 ≤ d → d < 2 + i → d * d ≤ m ∧ m % d ≠ 0, ⟨_, rfl, rfl, fun d h1 h2 => by omega⟩, ?_, ?_⟩
    · rintro i z r o hz ⟨x1, rfl, rfl, hd⟩
      obtain ⟨hi, rfl⟩ := upFrom_of hz
      have e : (2 : Int) + (i : Int) * 1 = ((2 + i : Nat) : Int) := by omega
      rw [e]
      have hi2 : 2 + i < 320 := by
        have : ((320 : Int) - 2).toNat = 318 := by decide
        omega
      repeat walk_at "z"
      have em : (((2 + i : Nat) : Int)) * ((2 + i : Nat) : Int) = (((2 + i) * (2 + i) : Nat) : Int) := by rw [Int.natCast_mul]
      rw [em]
      refine ⟨fun h => ?_, fun h => ?_⟩
      · have h1 := dec_t h
        repeat walk_at "z"
        rw [prB_of ⟨by omega, fun d q1 q2 => (hd d q1 (by
          by_cases c : d < 2 + i
          · exact c
          · have := Nat.mul_le_mul (Nat.le_of_not_lt c) (Nat.le_of_not_lt c)
            omega)).2⟩] at k
        exact fin0 k
      · have h1 := dec_f h
        repeat walk_at "z"
        rw [fmod_nat]
        refine ⟨fun h => ?_, fun h => ?_⟩
        · have h2 := vi h
          repeat walk_at "z"
          rw [prB_no (fun q => q.2 (2 + i) (by omega) (by omega) (by omega))] at k
          exact fin0 k
        · have h2 := vn h
          repeat walk_at "z"
          refine ⟨_, rfl, rfl, fun d q1 q2 => ?_⟩
          by_cases c : d < 2 + i
          · exact hd d q1 c
          · have : d = 2 + i := by omega
            subst this
            exact ⟨by omega, by omega⟩
    · rintro r o ⟨x1, rfl, rfl, hd⟩
      repeat walk_at "z"
      rw [prB_of ⟨by omega, fun d q1 q2 => (hd d q1 (by
        rw [upFrom_len]
        show d < 2 + 318
        by_cases c : d < 320
        · exact c
        · have := Nat.mul_le_mul (Nat.le_of_not_lt c) (Nat.le_of_not_lt c)
          omega)).2⟩] at k
      exact fin0 k
def tz_is_word_prime : TZ := fun zs o R => ∃ n : Int, zs = [.int n] ∧ o = [] ∧ n < 2 ^ 60 ∧ R (.bl (prB n.toNat)) []
theorem pr_small {n : Int} (h : n < 4) : prB n.toNat = decide (2 ≤ n) := by
  by_cases c : 2 ≤ n
  · have : n = 2 ∨ n = 3 := by omega
    rcases this with rfl | rfl <;> decide
  · rw [prB_no (fun q => by have := q.1; omega), decide_eq_false c]
abbrev st_is_word_prime : Stmt := top 8
abbrev N_is_word_prime : List Str := ["number", "divisor"]
theorem sc_is_word_prime : FnScope N_is_word_prime ["number"] (defScope st_is_word_prime) := ⟨rfl, rfl, rfl, by decide +kernel, rfl, by decide +kernel, by decide +kernel⟩
theorem c_is_word_prime {JC : Addr} (T : Tx K mg) (J : TJ K mg JC) : Cal P0 w K mg base "is_word_prime" 1 ["number"] (tz_is_word_prime) := by
  refine Cal.mk T.d_is_word_prime sc_is_word_prime (fun _ _ _ _ _ _ us hl => match us, hl with | [_], _ => rfl) fun f cdv A outer s H E hr => ?_
  refine ⟨_, (pss_cons (ps_if (pt_cmpR op_lt (pv 0) pe_int (nomark _)) (pss_one (ps_ret (pe_cmpR op_ge (pv 0) pe_int (nomark _)))) pss_nil)
    (pss_cons (ps_if (pt_cmpR op_eq (pe_op op_modN (pv 0) pe_int) pe_int (nomark _)) (pss_one (ps_ret pe_bl)) pss_nil)
    (pss_cons (ps_set (i := 1) sc_is_word_prime.nd rfl (Or.inl rfl) pe_int)
    (pss_cons (ps_while PassesOwn.never (pt_cmpR op_le (pe_op op_mul (pv 1) (pv 1)) (pv 0) (nomark _)) (pss_cons (ps_if (pt_cmpR op_eq (pe_op op_modN (pv 0) (pv 1)) pe_int (nomark _)) (pss_one (ps_ret pe_bl)) pss_nil)
    (pss_one (ps_set (i := 1) sc_is_word_prime.nd rfl (Or.inl rfl) (pe_op op_add (pv 1) pe_int)))))
    (pss_one (ps_ret pe_bl)))))), ?_⟩
  try dsimp only [cxK]
  rintro zs o R ⟨n, rfl, rfl, hn, k⟩
  repeat walk_at "z"
  refine ⟨fun h => ?_, fun h => ?_⟩
  · have h1 := dec_t h
    repeat walk_at "z"
    rw [pr_small h1] at k
    exact fin0 k
  · have h0 := dec_f h
    obtain ⟨m, rfl⟩ := Int.eq_ofNat_of_zero_le (show 0 ≤ n by omega)
    rw [Int.toNat_natCast] at k
    repeat walk_at "z"
    rw [show (2 : Int) = ((2 : Nat) : Int) from rfl, fmod_nat]
    refine ⟨fun h => ?_, fun h => ?_⟩
    · have h2 := vi h
      repeat walk_at "z"
      rw [prB_no (fun q => q.2 2 (by omega) (by omega) (by omega))] at k
      exact fin0 k
    · have h2 := vn h
      have modd : m % 2 = 1 := by omega
      repeat walk_at "z"
      refine ws_while (fun e r o => ∃ d : Nat, r = [some (.int m), some (.int d)] ∧ o = [] ∧ e = m + 2 - d ∧ 3 ≤ d ∧ d ≤ m + 1 ∧ d % 2 = 1 ∧ ∀ j, 2 ≤ j → j < d → m % j ≠ 0) (m + 2 - 3) ⟨3, rfl, rfl, rfl, by omega, by omega, rfl, fun j q1 q2 => ?_⟩ ?_
      · have : j = 2 := by omega
        subst this
        omega
      rintro e r o ⟨d, rfl, rfl, rfl, d3, dm, dodd, hd⟩
      repeat walk_at "z"
      have em : ((d : Int)) * (d : Int) = ((d * d : Nat) : Int) := by rw [Int.natCast_mul]
      rw [em]
      refine ⟨fun h => ?_, fun h => ?_⟩
      · have h3 := dec_t h
        have h4 : d * d ≤ m := by omega
        repeat walk_at "z"
        rw [fmod_nat]
        refine ⟨fun h => ?_, fun h => ?_⟩
        · have h5 := vi h
          repeat walk_at "z"
          rw [prB_no (fun q => q.2 d (by omega) (by omega) (by omega))] at k
          exact fin0 k
        · have h5 := vn h
          repeat walk_at "z"
          have h6 : 3 * d ≤ d * d := Nat.mul_le_mul_right d d3
          refine ⟨m + 2 - (d + 2), by omega, d + 2, rfl, rfl, rfl, by omega, by omega, by omega, fun j q1 q2 => ?_⟩
          by_cases c : j < d
          · exact hd j q1 c
          · have : j = d ∨ j = d + 1 := by omega
            rcases this with rfl | rfl
            · omega
            · intro q
              have : (d + 1) % 2 = 0 := by omega
              have h7 : 2 ∣ d + 1 := Nat.dvd_of_mod_eq_zero this
              have h8 : 2 ∣ m := Nat.dvd_trans h7 (Nat.dvd_of_mod_eq_zero q)
              have := Nat.mod_eq_zero_of_dvd h8
              omega
      · have h3 := dec_f h
        have h4 : m < d * d := by omega
        repeat walk_at "z"
        rw [prB_of ⟨by omega, fun j q1 q2 => hd j q1 (by
          by_cases c : j < d
          · exact c
          · have := Nat.mul_le_mul (Nat.le_of_not_lt c) (Nat.le_of_not_lt c)
            omega)⟩] at k
        exact fin0 k
def nz (l : List Nat) : List Z := l.map fun (n : Nat) => Z.int (n : Int)
theorem nz_len (l : List Nat) : (nz l).length = l.length := by unfold nz; rw [List.length_map]
theorem nz_app (l : List Nat) (n : Nat) : nz l ++ [Z.int (n : Int)] = nz (l ++ [n]) := by unfold nz; rw [List.map_append]; rfl
def tz_law_primes : TZ := fun zs o R => ∃ top many : Int, zs = [.int top, .int many] ∧ o = [] ∧ (0 ≤ top ∧ top < 102400) ∧ (0 ≤ many ∧ many < 1000) ∧ R (.lst (nz (pbl top.toNat many.toNat))) []
abbrev st_law_primes : Stmt := top 420
abbrev N_law_primes : List Str := ["top", "many", "told", "number"]
theorem sc_law_primes : FnScope N_law_primes ["top", "many"] (defScope st_law_primes) := ⟨rfl, rfl, rfl, by decide +kernel, rfl, by decide +kernel, by decide +kernel⟩
theorem c_law_primes {JC : Addr} (T : Tx K mg) (J : TJ K mg JC) : Cal P0 w K mg base "_law_primes" 2 ["top", "many"] (tz_law_primes) := by
  refine Cal.mk T.d__law_primes sc_law_primes (fun _ _ _ _ _ _ us hl => match us, hl with | [_, _], _ => rfl) fun f cdv A outer s H E hr => ?_
  have c_law_is_prime := @c_law_is_prime w K mg base JC T J
  refine ⟨_, (pss_cons (ps_set (i := 2) sc_law_primes.nd rfl (Or.inl rfl) (pe_lst pa_nil))
    (pss_cons (ps_for PassesOwn.never rfl (pi_range3 (by rfl) T.b_range (pa_cons (pe_op op_sub (pv 0) pe_int) (pa_cons pe_int (pa_cons (pe_un un_neg pe_int) pa_nil)))) (pg_name (i := 3) sc_law_primes.nd rfl (Or.inl rfl)) (pss_cons (ps_if (pt_cmpR op_eq (pe_callB (call_lenK (K := K)) (by rfl) T.b_len (by decide +kernel) (pa_cons (pv 2) pa_nil)) (pv 1) (nomark _)) (pss_one ps_break) pss_nil)
    (pss_one (ps_if (pt_val (pe_callZ c_law_is_prime (hr.mono (by decide)) (pa_cons (pv 3) pa_nil))) (pss_one (ps_expr (pe_bm PySem.F.plainAttrs_list PySem.F.slot_list_append PySem.F.type_list_append mt_append (pv 2) (pa_cons (pv 3) pa_nil)))) pss_nil))))
    (pss_one (ps_ret (pv 2))))), ?_⟩
  try dsimp only [cxK]
  rintro zs o R ⟨top, many, rfl, rfl, ht, hm, k⟩
  obtain ⟨t, rfl⟩ := Int.eq_ofNat_of_zero_le ht.1
  obtain ⟨m, rfl⟩ := Int.eq_ofNat_of_zero_le hm.1
  rw [Int.toNat_natCast, Int.toNat_natCast] at k
  repeat walk_at "z"
  intro a
  repeat walk_at "z"
  refine ⟨(t : Int) - 1, 1, -1, ((t : Int) - 1 - 1).toNat, rfl, RgC.neg (by omega) (by omega) (by omega) (by omega), ?_⟩
  refine ⟨fun i r o => ∃ (x3 : Option Z) (done : List Nat), r = [some (.int t), some (.int m), some (.ref a), x3] ∧ o = [(a, .lst (nz done))] ∧ (done ++ pbl (t - i) (m - done.length) = pbl t m), ⟨_, [], rfl, rfl, rfl⟩, ?_, ?_⟩
  · rintro i z r o hz ⟨x3, done, rfl, rfl, hd⟩
    obtain ⟨hi, rfl⟩ := upFrom_of hz
    have e : (t : Int) - 1 + (i : Int) * (-1) = ((t - 1 - i : Nat) : Int) := by omega
    rw [e]
    have hl : done.length ≤ m := by
      have := pbl_len t m
      rw [← hd, List.length_append] at this
      omega
    repeat walk_at "z"
    rw [nz_len]
    refine ⟨fun h => ?_, fun h => ?_⟩
    · have h1 := vi h
      have h2 : m - done.length = 0 := by omega
      rw [h2, pbl_zero, List.append_nil] at hd
      repeat walk_at "z"
      rw [hd]
      exact fin0 k
    · have h1 := vn h
      have h2 : m - done.length ≠ 0 := by omega
      have e2 : t - i = (t - 1 - i) + 1 := by omega
      repeat walk_at "z"
      refine ⟨rfl, _, rfl, rfl, by omega, ?_⟩
      rw [Int.toNat_natCast]
      repeat walk_at "z"
      refine ⟨fun h => ?_, fun h => ?_⟩
      · rw [e2, pbl_yes h2 h] at hd
        repeat walk_at "z"
        refine ⟨_, rfl, by rw [nz_len]; omega, _, done ++ [t - 1 - i], rfl, by rw [← nz_app]; rfl, ?_⟩
        rw [List.append_assoc, List.length_append, List.length_singleton]
        have e3 : t - (i + 1) = t - 1 - i := by omega
        have e4 : m - (done.length + 1) = m - done.length - 1 := by omega
        rw [e3, e4]
        exact hd
      · rw [e2, pbl_no h] at hd
        repeat walk_at "z"
        refine ⟨_, done, rfl, rfl, ?_⟩
        have e3 : t - (i + 1) = t - 1 - i := by omega
        rw [e3]
        exact hd
  · rintro r o ⟨x3, done, rfl, rfl, hd⟩
    rw [upFrom_len, pbl_small (by omega), List.append_nil] at hd
    rw [hd]
    exact ws_retO rfl (fin0 k)
end

/-! ## B3 -/
section
variable {w : World} {K : PySem.W.Frag} {mg : Str → Option Value} {base : Heap}
def tbits (t : List Int) : Int := (t.map bitsI).sum
def grI (g : Int) : List (List Int) → Int
  | [] => g
  | t :: ts => grI (if tbits t > g then tbits t else g) ts
def needI (ts : List (List Int)) : Int := grI 0 ts + bitsI ts.length
def SmallTs (ts : List (List Int)) : Prop := ts.length ≤ 1000 ∧ ∀ t, t ∈ ts → t.length ≤ 1000
def tz_need_of : TZ := fun zs o R => ∃ ts, zs = [zts ts] ∧ o = [] ∧ SmallTs ts ∧ R (.int (needI ts)) []
theorem grI_more {ts : List (List Int)} {i : Nat} {t : List Int} {g : Int} (h : ts[i]? = some t) : grI g (ts.take (i + 1)) = (if tbits t > grI g (ts.take i) then tbits t else grI g (ts.take i)) := by
  rw [take_more h]
  clear h
  generalize ts.take i = l
  induction l generalizing g with
  | nil => rfl
  | cons a l ih => exact ih
theorem each_ints {f : Int → Int} : ∀ {t : List Int} {ys : List Z}, Each (fun z y => ∃ n, z = Z.int n ∧ y = .int (f n)) (t.map Z.int) ys → ys = (t.map f).map Z.int
  | [], _, .nil => rfl
  | n :: t, _, .cons ⟨m, h1, h2⟩ r => by
    cases h1
    rw [h2, each_ints r]
    rfl
abbrev st_need_of : Stmt := top 12
abbrev N_need_of : List Str := ["terms", "greatest", "term", "factor"]
theorem sc_need_of : FnScope N_need_of ["terms"] (defScope st_need_of) := ⟨rfl, rfl, rfl, by decide +kernel, rfl, by decide +kernel, by decide +kernel⟩
theorem c_need_of {JC : Addr} (T : Tx K mg) (J : TJ K mg JC) : Cal P0 w K mg base "need_of" 2 ["terms"] (tz_need_of) := by
  refine Cal.mk T.d_need_of sc_need_of (fun _ _ _ _ _ _ us hl => match us, hl with | [_], _ => rfl) fun f cdv A outer s H E hr => ?_
  have c_bits_of := @c_bits_of w K mg base JC T J
  refine ⟨_, (pss_cons (ps_set (i := 1) sc_need_of.nd rfl (Or.inl rfl) pe_int)
    (pss_cons (ps_for PassesOwn.never rfl (pi_tupK (K := K) (pv 0)) (pg_name (i := 2) sc_need_of.nd rfl (Or.inl rfl)) (pss_one (ps_set (i := 1) sc_need_of.nd rfl (Or.inl rfl) (pe_callB (call_max2 rfl) (by rfl) T.b_max (by decide +kernel) (pa_cons (pv 1) (pa_cons (pe_callB (cr_sumK (K := K) rfl) (by rfl) T.b_sum (by decide +kernel) (pa_cons (pe_lc (own := [("factor", 3)]) (g := gName 3) rfl sc_need_of.nd (pi_tupK (K := K) (pv 2)) (blkOk_by (N := N_need_of) (sc := defScope st_need_of) (by decide +kernel)) (fun _ _ _ _ _ => pg_name (i := 3) sc_need_of.nd rfl (Or.inl rfl)) (fun _ _ _ _ _ => pts_nil) (fun _ _ _ _ _ => (pe_callZ c_bits_of (hr.mono (by decide)) (pa_cons (pv 3) pa_nil)))) pa_nil)) pa_nil))))))
    (pss_one (ps_ret (pe_op op_add (pv 1) (pe_callZ c_bits_of (hr.mono (by decide)) (pa_cons (pe_callB (call_lenK (K := K)) (by rfl) T.b_len (by decide +kernel) (pa_cons (pv 0) pa_nil)) pa_nil))))))), ?_⟩
  try dsimp only [cxK]
  rintro zs o R ⟨ts, rfl, rfl, hs, k⟩
  repeat walk_at "z"
  refine ⟨fun i r o => ∃ x2 x3 : Option Z, r = [some (zts ts), some (.int (grI 0 (ts.take i))), x2, x3] ∧ o = [], ⟨_, _, rfl, rfl⟩, ?_, ?_⟩
  · rintro i z r o hz ⟨x2, x3, rfl, rfl⟩
    obtain ⟨t, ht, rfl⟩ : ∃ t, ts[i]? = some t ∧ zt t = z := by simpa [List.getElem?_map] using hz
    have htl : t.length ≤ 1000 := hs.2 t (List.mem_of_getElem? ht)
    repeat walk_at "z"
    refine we_lcG (j := 3) (fun z y => ∃ n, z = .int n ∧ y = .int (bitsI n)) ?_
    repeat walk_at "z"
    refine ⟨by rw [List.length_map]; omega, ?_, ?_⟩
    · intro z hz
      obtain ⟨n, hn, rfl⟩ := List.mem_map.mp hz
      repeat walk_at "z"
      exact ⟨rfl, n, rfl, rfl, rfl, n, rfl, rfl⟩
    · intro ys hy
      rw [each_ints hy]
      repeat walk_at "z"
      refine ⟨_, _, by rw [grI_more ht]; rfl, rfl⟩
  · rintro r o ⟨x2, x3, rfl, rfl⟩
    rw [List.length_map, List.take_length]
    repeat walk_at "z"
    refine ⟨rfl, _, rfl, rfl, ?_⟩
    repeat walk_at "z"
    rw [List.length_map]
    exact fin0 k
abbrev tz_law_need : TZ := tz_need_of
abbrev st_law_need : Stmt := top 424
abbrev N_law_need : List Str := ["terms", "greatest", "term", "factor"]
theorem sc_law_need : FnScope N_law_need ["terms"] (defScope st_law_need) := ⟨rfl, rfl, rfl, by decide +kernel, rfl, by decide +kernel, by decide +kernel⟩
theorem c_law_need {JC : Addr} (T : Tx K mg) (J : TJ K mg JC) : Cal P0 w K mg base "_law_need" 1 ["terms"] (tz_law_need) := by
  refine Cal.mk T.d__law_need sc_law_need (fun _ _ _ _ _ _ us hl => match us, hl with | [_], _ => rfl) fun f cdv A outer s H E hr => ?_
  refine ⟨_, (pss_cons (ps_set (i := 1) sc_law_need.nd rfl (Or.inl rfl) pe_int)
    (pss_cons (ps_for PassesOwn.never rfl (pi_tupK (K := K) (pv 0)) (pg_name (i := 2) sc_law_need.nd rfl (Or.inl rfl)) (pss_one (ps_set (i := 1) sc_law_need.nd rfl (Or.inl rfl) (pe_callB (call_max2 rfl) (by rfl) T.b_max (by decide +kernel) (pa_cons (pv 1) (pa_cons (pe_callB (cr_sumK (K := K) rfl) (by rfl) T.b_sum (by decide +kernel) (pa_cons (pe_lc (own := [("factor", 3)]) (g := gName 3) rfl sc_law_need.nd (pi_tupK (K := K) (pv 2)) (blkOk_by (N := N_law_need) (sc := defScope st_law_need) (by decide +kernel)) (fun _ _ _ _ _ => pg_name (i := 3) sc_law_need.nd rfl (Or.inl rfl)) (fun _ _ _ _ _ => pts_nil) (fun _ _ _ _ _ => (pe_bits (pe_callB call_abs (by rfl) T.b_abs (by decide +kernel) (pa_cons (pv 3) pa_nil))))) pa_nil)) pa_nil))))))
    (pss_one (ps_ret (pe_op op_add (pv 1) (pe_bits (pe_callB (call_lenK (K := K)) (by rfl) T.b_len (by decide +kernel) (pa_cons (pv 0) pa_nil)))))))), ?_⟩
  try dsimp only [cxK]
  rintro zs o R ⟨ts, rfl, rfl, hs, k⟩
  repeat walk_at "z"
  refine ⟨fun i r o => ∃ x2 x3 : Option Z, r = [some (zts ts), some (.int (grI 0 (ts.take i))), x2, x3] ∧ o = [], ⟨_, _, rfl, rfl⟩, ?_, ?_⟩
  · rintro i z r o hz ⟨x2, x3, rfl, rfl⟩
    obtain ⟨t, ht, rfl⟩ : ∃ t, ts[i]? = some t ∧ zt t = z := by simpa [List.getElem?_map] using hz
    have htl : t.length ≤ 1000 := hs.2 t (List.mem_of_getElem? ht)
    repeat walk_at "z"
    refine we_lcG (j := 3) (fun z y => ∃ n, z = .int n ∧ y = .int (bitsI n)) ?_
    repeat walk_at "z"
    refine ⟨by rw [List.length_map]; omega, ?_, ?_⟩
    · intro z hz
      obtain ⟨n, hn, rfl⟩ := List.mem_map.mp hz
      repeat walk_at "z"
      rw [bits_abs]
      exact ⟨rfl, n, rfl, rfl⟩
    · intro ys hy
      rw [each_ints hy]
      repeat walk_at "z"
      refine ⟨_, _, by rw [grI_more ht]; rfl, rfl⟩
  · rintro r o ⟨x2, x3, rfl, rfl⟩
    rw [List.length_map, List.take_length]
    repeat walk_at "z"
    rw [List.length_map]
    exact fin0 k
def prodI (t : List Int) : Int := t.foldl (fun a b => a * b) 1
def totI (ts : List (List Int)) : Int := ts.foldl (fun a t => a + prodI t) 0
/-- what may be multiplied: numbers below 2 ^ 3000, at most 9 a term -/
def MulTs (ts : List (List Int)) : Prop := ∀ t, t ∈ ts → t.length ≤ 70 ∧ ∀ n, n ∈ t → n.natAbs < 2 ^ 5000
theorem prod_more {t : List Int} {i : Nat} {n : Int} (h : t[i]? = some n) : prodI (t.take (i + 1)) = prodI (t.take i) * n := by
  unfold prodI
  rw [take_more h, List.foldl_append]
  rfl
theorem tot_more {ts : List (List Int)} {i : Nat} {t : List Int} (h : ts[i]? = some t) : totI (ts.take (i + 1)) = totI (ts.take i) + prodI t := by
  unfold totI
  rw [take_more h, List.foldl_append]
  rfl
theorem prod_lt {t : List Int} (hb : ∀ n, n ∈ t → n.natAbs < 2 ^ 5000) : ∀ i, i ≤ t.length → (prodI (t.take i)).natAbs < 2 ^ (5000 * i + 1)
  | 0, _ => by
    rw [List.take_zero]
    decide
  | i + 1, h => by
    obtain ⟨n, hn⟩ : ∃ n, t[i]? = some n := ⟨_, List.getElem?_eq_getElem (by omega)⟩
    rw [prod_more hn, Int.natAbs_mul]
    have h1 := prod_lt hb i (by omega)
    have h2 := hb n (List.mem_of_getElem? hn)
    have h3 : (2 : Nat) ^ (5000 * (i + 1) + 1) = 2 ^ (5000 * i + 1) * 2 ^ 5000 := by
      rw [← Nat.pow_add]
      exact congrArg (2 ^ ·) (by omega)
    rw [h3]
    exact Nat.mul_lt_mul'' h1 h2
def tz_law_total : TZ := fun zs o R => ∃ ts, zs = [zts ts] ∧ o = [] ∧ MulTs ts ∧ R (.int (totI ts)) []
abbrev st_law_total : Stmt := top 425
abbrev N_law_total : List Str := ["terms", "total", "term", "product", "factor"]
theorem sc_law_total : FnScope N_law_total ["terms"] (defScope st_law_total) := ⟨rfl, rfl, rfl, by decide +kernel, rfl, by decide +kernel, by decide +kernel⟩
theorem c_law_total {JC : Addr} (T : Tx K mg) (J : TJ K mg JC) : Cal P0 w K mg base "_law_total" 1 ["terms"] (tz_law_total) := by
  refine Cal.mk T.d__law_total sc_law_total (fun _ _ _ _ _ _ us hl => match us, hl with | [_], _ => rfl) fun f cdv A outer s H E hr => ?_
  refine ⟨_, (pss_cons (ps_set (i := 1) sc_law_total.nd rfl (Or.inl rfl) pe_int)
    (pss_cons (ps_for PassesOwn.never rfl (pi_tupK (K := K) (pv 0)) (pg_name (i := 2) sc_law_total.nd rfl (Or.inl rfl)) (pss_cons (ps_set (i := 3) sc_law_total.nd rfl (Or.inl rfl) pe_int)
    (pss_cons (ps_for PassesOwn.never rfl (pi_tupK (K := K) (pv 2)) (pg_name (i := 4) sc_law_total.nd rfl (Or.inl rfl)) (pss_one (ps_set (i := 3) sc_law_total.nd rfl (Or.inl rfl) (pe_op op_mulW (pv 3) (pv 4)))))
    (pss_one (ps_set (i := 1) sc_law_total.nd rfl (Or.inl rfl) (pe_op op_add (pv 1) (pv 3)))))))
    (pss_one (ps_ret (pv 1))))), ?_⟩
  try dsimp only [cxK]
  rintro zs o R ⟨ts, rfl, rfl, hs, k⟩
  repeat walk_at "z"
  refine ⟨fun i r o => ∃ x2 x3 x4 : Option Z, r = [some (zts ts), some (.int (totI (ts.take i))), x2, x3, x4] ∧ o = [], ⟨_, _, _, rfl, rfl⟩, ?_, ?_⟩
  · rintro i z r o hz ⟨x2, x3, x4, rfl, rfl⟩
    obtain ⟨t, ht, rfl⟩ : ∃ t, ts[i]? = some t ∧ zt t = z := by simpa [List.getElem?_map] using hz
    obtain ⟨htl, hb⟩ := hs t (List.mem_of_getElem? ht)
    repeat walk_at "z"
    refine ⟨fun j r o => ∃ x4 : Option Z, r = [some (zts ts), some (.int (totI (ts.take i))), some (zt t), some (.int (prodI (t.take j))), x4] ∧ o = [], ⟨_, rfl, rfl⟩, ?_, ?_⟩
    · rintro j z r o hz ⟨x4, rfl, rfl⟩
      obtain ⟨n, hn, rfl⟩ : ∃ n, t[j]? = some n ∧ Z.int n = z := by simpa [List.getElem?_map] using hz
      have hj := (List.getElem?_eq_some_iff.mp hn).1
      repeat walk_at "z"
      refine zo_i (wide_mul (prod_lt hb j (by omega)) (hb n (List.mem_of_getElem? hn)) (by omega) (by omega) (by omega)) ?_
      exact ⟨_, by rw [prod_more hn]; rfl, rfl⟩
    · rintro r o ⟨x4, rfl, rfl⟩
      rw [List.length_map, List.take_length]
      repeat walk_at "z"
      exact ⟨_, _, _, by rw [tot_more ht]; rfl, rfl⟩
  · rintro r o ⟨x2, x3, x4, rfl, rfl⟩
    rw [List.length_map, List.take_length]
    repeat walk_at "z"
    exact fin0 k
/-- how many of the first points weigh the need -/
def usedN (need : Int) : List Nat → Int → Nat → Option Nat
  | [], w, k => if w ≥ need then some k else none
  | p :: ps, w, k => if w ≥ need then some k else usedN need ps (w + bitsI (p : Int) - 1) (k + 1)
def usedI (ps : List Nat) (need : Int) : Option Nat := usedN need ps 0 0
theorem usedN_yes {need : Int} {l : List Nat} {w : Int} {k : Nat} (h : w ≥ need) : usedN need l w k = some k := by
  cases l with
  | nil => exact if_pos h
  | cons p l => exact if_pos h
theorem usedN_nil {need : Int} {w : Int} {k : Nat} (h : ¬ w ≥ need) : usedN need [] w k = none := if_neg h
theorem usedN_no {need : Int} {ps : List Nat} {i p : Nat} {w : Int} (hp : ps[i]? = some p) (h : ¬ w ≥ need) : usedN need (ps.drop i) w i = usedN need (ps.drop (i + 1)) (w + bitsI (p : Int) - 1) (i + 1) := by
  obtain ⟨hl, e⟩ := List.getElem?_eq_some_iff.mp hp
  rw [List.drop_eq_getElem_cons hl, e]
  exact if_neg h
/-- points, as the program lays them -/
abbrev zn (ps : List Nat) : Z := .tup (nz ps)
theorem nz_get {ps : List Nat} {i : Nat} {z : Z} (h : (nz ps)[i]? = some z) : ∃ p, ps[i]? = some p ∧ z = .int (p : Int) := by
  unfold nz at h
  rw [List.getElem?_map] at h
  cases e : ps[i]? with
  | none => rw [e] at h; cases h
  | some p =>
    rw [e] at h
    cases h
    exact ⟨p, rfl, rfl⟩
theorem nz_at {ps : List Nat} {i p : Nat} (h : ps[i]? = some p) : (nz ps)[i]? = some (.int (p : Int)) := by
  unfold nz
  rw [List.getElem?_map, h]
  rfl
theorem atI_nz {ps : List Nat} {i p : Nat} (h : ps[i]? = some p) : atI (nz ps) (i : Int) = some (.int (p : Int)) := atI_nat (nz_at h)
def tz_law_used : TZ := fun zs o R => ∃ ps need, zs = [zn ps, .int need] ∧ o = [] ∧ ps.length ≤ 1000 ∧ R (.int (match usedI ps need with | some k => (k : Int) | none => -1)) []
abbrev st_law_used : Stmt := top 426
abbrev N_law_used : List Str := ["points", "need", "weight", "k"]
theorem sc_law_used : FnScope N_law_used ["points", "need"] (defScope st_law_used) := ⟨rfl, rfl, rfl, by decide +kernel, rfl, by decide +kernel, by decide +kernel⟩
theorem c_law_used {JC : Addr} (T : Tx K mg) (J : TJ K mg JC) : Cal P0 w K mg base "_law_used" 1 ["points", "need"] (tz_law_used) := by
  refine Cal.mk T.d__law_used sc_law_used (fun _ _ _ _ _ _ us hl => match us, hl with | [_, _], _ => rfl) fun f cdv A outer s H E hr => ?_
  refine ⟨_, (pss_cons (ps_set (i := 2) sc_law_used.nd rfl (Or.inl rfl) pe_int)
    (pss_cons (ps_for PassesOwn.never rfl (pi_range1 (by rfl) T.b_range (pa_cons (pe_callB (call_lenK (K := K)) (by rfl) T.b_len (by decide +kernel) (pa_cons (pv 0) pa_nil)) pa_nil)) (pg_name (i := 3) sc_law_used.nd rfl (Or.inl rfl)) (pss_cons (ps_if (pt_cmpR op_ge (pv 2) (pv 1) (nomark _)) (pss_one (ps_ret (pv 3))) pss_nil)
    (pss_one (ps_set (i := 2) sc_law_used.nd rfl (Or.inl rfl) (pe_op op_sub (pe_op op_add (pv 2) (pe_bits (pe_ix (ix_tupK (K := K)) (pv 0) (pv 3) (fun _ _ => rfl)))) pe_int)))))
    (pss_one (ps_ret (pe_ifExp (pt_cmpR op_ge (pv 2) (pv 1) (nomark _)) (pe_callB (call_lenK (K := K)) (by rfl) T.b_len (by decide +kernel) (pa_cons (pv 0) pa_nil)) (pe_un un_neg pe_int)))))), ?_⟩
  try dsimp only [cxK]
  rintro zs o R ⟨ps, need, rfl, rfl, hl, k⟩
  repeat walk_at "z"
  refine ⟨_, rfl, by omega, by rw [nz_len]; omega, ?_⟩
  refine ⟨fun i r o => ∃ (w : Int) (x3 : Option Z), r = [some (zn ps), some (.int need), some (.int w), x3] ∧ o = [] ∧ usedI ps need = usedN need (ps.drop i) w i, ⟨_, _, rfl, rfl, rfl⟩, ?_, ?_⟩
  · rintro i z r o hz ⟨w, x3, rfl, rfl, hu⟩
    obtain ⟨hi, rfl⟩ := upFrom_of hz
    have e : (0 : Int) + (i : Int) * 1 = (i : Int) := by omega
    rw [e]
    rw [Int.toNat_natCast, nz_len] at hi
    obtain ⟨p, hp⟩ : ∃ p, ps[i]? = some p := ⟨_, List.getElem?_eq_getElem hi⟩
    repeat walk_at "z"
    refine ⟨fun h => ?_, fun h => ?_⟩
    · have h1 := dec_t h
      rw [hu, usedN_yes (by omega)] at k
      repeat walk_at "z"
      exact fin0 k
    · have h1 := dec_f h
      rw [usedN_no hp (by omega)] at hu
      repeat walk_at "z"
      refine zo_ixT (atI_nz hp) ?_
      repeat walk_at "z"
      exact ⟨_, _, rfl, rfl, hu⟩
  · rintro r o ⟨w, x3, rfl, rfl, hu⟩
    rw [upFrom_len, Int.toNat_natCast, nz_len, List.drop_length] at hu
    repeat walk_at "z"
    refine ⟨fun h => ?_, fun h => ?_⟩
    · have h1 := dec_t h
      rw [hu, usedN_yes (by omega)] at k
      repeat walk_at "z"
      rw [nz_len]
      exact fin0 k
    · have h1 := dec_f h
      rw [hu, usedN_nil (by omega)] at k
      repeat walk_at "z"
      exact fin0 k
end

/-! ## B4 -/
section
variable {w : World} {K : PySem.W.Frag} {mg : Str → Option Value} {base : Heap}
def tz_law_is_truth : TZ := fun zs o R => ∃ a b : Bool, zs = [.bl a, .bl b] ∧ o = [] ∧ R (.bl (decide (a = b))) []
theorem isA_bl (a : Bool) : (Z.bl a).isA "bool" = some true := by show kitB "bool" "bool" = _; decide +kernel
abbrev st_law_is_truth : Stmt := top 434
abbrev N_law_is_truth : List Str := ["told", "due"]
theorem sc_law_is_truth : FnScope N_law_is_truth ["told", "due"] (defScope st_law_is_truth) := ⟨rfl, rfl, rfl, by decide +kernel, rfl, by decide +kernel, by decide +kernel⟩
theorem c_law_is_truth {JC : Addr} (T : Tx K mg) (J : TJ K mg JC) : Cal P0 w K mg base "_law_is_truth" 1 ["told", "due"] (tz_law_is_truth) := by
  refine Cal.mk T.d__law_is_truth sc_law_is_truth (fun _ _ _ _ _ _ us hl => match us, hl with | [_, _], _ => rfl) fun f cdv A outer s H E hr => ?_
  refine ⟨_, (pss_one (ps_ret (pe_and (pe_callB (call_isiK2 (K := K)) (by rfl) T.b_isinstance (by decide +kernel) (pa_cons (pv 0) (pa_cons (pe_bltn (v := .ty "bool") (by rfl) T.b_bool (by decide +kernel) rfl) pa_nil))) (pe_one (pe_cmpR op_eq (pv 0) (pv 1) (nomark _)))))), ?_⟩
  try dsimp only [cxK]
  rintro zs o R ⟨a, b, rfl, rfl, k⟩
  repeat walk_at "z"
  refine ⟨true, isA_bl _, true, rfl, fun _ => ?_, fun h => nomatch h⟩
  repeat walk_at "z"
  have e : decide ((Z.bl a).v = (Z.bl b).v) = decide (a = b) := by cases a <;> cases b <;> rfl
  rw [e]
  exact fin0 k
def tz_law_points : TZ := fun zs o R => ∃ (s : List Int) (p : Int) (b : Nat), zs = [.scr s, .int p, .int b] ∧ o = [] ∧ (8 ≤ b ∧ b ≤ 16) ∧ ∀ ps : List Nat, Desc (2 ^ b) ps → ps.length ≤ 200 → R (zn ps) []
abbrev st_law_points : Stmt := top 421
abbrev N_law_points : List Str := ["script", "place", "bits", "way", "more", "start", "skip", "many", "below", "k"]
theorem sc_law_points : FnScope N_law_points ["script", "place", "bits"] (defScope st_law_points) := ⟨rfl, rfl, rfl, by decide +kernel, rfl, by decide +kernel, by decide +kernel⟩
theorem c_law_points {JC : Addr} (T : Tx K mg) (J : TJ K mg JC) : Cal P0 w K mg base "_law_points" 3 ["script", "place", "bits"] (tz_law_points) := by
  refine Cal.mk T.d__law_points sc_law_points (fun _ _ _ _ _ _ us hl => match us, hl with | [_, _, _], _ => rfl) fun f cdv A outer s H E hr => ?_
  have c_law_primes := @c_law_primes w K mg base JC T J
  have c_law_row := @c_law_row w K mg base JC T J
  refine ⟨_, (pss_cons (ps_asg (pe_callZ c_law_row (hr.mono (by decide)) (pa_cons (pv 0) (pa_cons (pv 1) (pa_cons pe_int (pa_cons pe_int pa_nil))))) (pg_lst rfl (pgs_cons (pg_name (i := 3) sc_law_points.nd rfl (Or.inl rfl)) (pgs_cons (pg_name (i := 4) sc_law_points.nd rfl (Or.inl rfl)) (pgs_cons (pg_name (i := 5) sc_law_points.nd rfl (Or.inl rfl)) (pgs_cons (pg_name (i := 6) sc_law_points.nd rfl (Or.inr rfl)) pgs_nil))))))
    (pss_cons (ps_set (i := 7) sc_law_points.nd rfl (Or.inl rfl) (pe_op op_modN (pe_callTy call_int1 (by rfl) T.b_int (by decide +kernel) (pa_cons (pv 4) pa_nil)) pe_int))
    (pss_cons (ps_if (pt_cmpR op_eq (pe_op op_modN (pe_callTy call_int1 (by rfl) T.b_int (by decide +kernel) (pa_cons (pe_op op_fdivN (pv 4) pe_int) pa_nil)) pe_int) pe_int (nomark _)) (pss_one (ps_set (i := 7) sc_law_points.nd rfl (Or.inl rfl) (pe_op op_modN (pe_callTy call_int1 (by rfl) T.b_int (by decide +kernel) (pa_cons (pe_op op_fdivN (pv 4) pe_int) pa_nil)) pe_int))) pss_nil)
    (pss_cons (ps_if (pt_cmpR op_lt (pe_op op_modN (pe_callTy call_int1 (by rfl) T.b_int (by decide +kernel) (pa_cons (pv 3) pa_nil)) pe_int) pe_int (nomark _)) (pss_one (ps_ret (pe_callTy (call_tupK (K := K)) (by rfl) T.b_tuple (by decide +kernel) (pa_cons (pe_callZ c_law_primes (hr.mono (by decide)) (pa_cons (pe_op op_shl pe_int (pv 2)) (pa_cons (pv 7) pa_nil))) pa_nil)))) pss_nil)
    (pss_cons (ps_if (pt_cmpR op_eq (pe_op op_modN (pe_callTy call_int1 (by rfl) T.b_int (by decide +kernel) (pa_cons (pv 3) pa_nil)) pe_int) pe_int (nomark _)) (pss_one (ps_ret (pe_callTy (call_tupK (K := K)) (by rfl) T.b_tuple (by decide +kernel) (pa_cons (pe_callZ c_law_primes (hr.mono (by decide)) (pa_cons (pe_op op_add pe_int (pe_op op_modN (pe_callTy call_int1 (by rfl) T.b_int (by decide +kernel) (pa_cons (pv 5) pa_nil)) pe_int)) (pa_cons (pv 7) pa_nil))) pa_nil)))) pss_nil)
    (pss_cons (ps_set (i := 8) sc_law_points.nd rfl (Or.inr rfl) (pe_callZ c_law_primes (hr.mono (by decide)) (pa_cons (pe_op op_add pe_int (pe_op op_modN (pe_callTy call_int1 (by rfl) T.b_int (by decide +kernel) (pa_cons (pv 5) pa_nil)) (pe_op op_sub (pe_op op_shl pe_int (pv 2)) pe_int))) (pa_cons (pe_op op_mul pe_int (pv 7)) pa_nil))))
    (pss_one (ps_ret (pe_callTy (call_tupK (K := K)) (by rfl) T.b_tuple (by decide +kernel) (pa_cons (pe_lc (own := [("k", 9)]) (g := gName 9) rfl sc_law_points.nd (pi_range1 (by rfl) T.b_range (pa_cons (pe_callB (call_lenK (K := K)) (by rfl) T.b_len (by decide +kernel) (pa_cons (pv 8) pa_nil)) pa_nil)) (blkOk_by (N := N_law_points) (sc := defScope st_law_points) (by decide +kernel)) (fun _ _ _ _ _ => pg_name (i := 9) sc_law_points.nd rfl (Or.inl rfl)) (fun _ _ _ _ _ => (pts_one (pt_cmpR op_gt (pe_op op_modN (pe_callTy call_int1 (by rfl) T.b_int (by decide +kernel) (pa_cons (pe_op op_fdivN (pv 6) (pe_op op_add (pv 9) pe_int)) pa_nil)) pe_int) pe_int (nomark _)))) (fun _ _ _ _ _ => (pe_ix (ix_listK (K := K)) (pv 8) (pv 9) (fun _ _ => rfl)))) pa_nil)))))))))), ?_⟩
  try dsimp only [cxK]
  rintro zs o R ⟨s, p, b, rfl, rfl, hb, k⟩
  repeat walk_at "y"
  refine ⟨rfl, s, p, 4, 65536, rfl, rfl, by decide, by decide, fun xs h1 h2 => ?_⟩
  obtain ⟨way, more, start, skip, rfl⟩ : ∃ a b c d, xs = [a, b, c, d] := by
    match xs, h1 with
    | [a, b, c, d], _ => exact ⟨a, b, c, d, rfl⟩
  have hw := h2 way (by simp)
  have hm := h2 more (by simp)
  have hst := h2 start (by simp)
  have hsk := h2 skip (by simp)
  dsimp only [List.map]
  repeat walk_at "y"
  refine ws_mid (fun r o => ∃ m : Int, (0 ≤ m ∧ m < 60) ∧ r = [some (.scr s), some (.int p), some (.int b), some (.int way), some (.int more), some (.int start), some (.int skip), some (.int m), none, none] ∧ o = []) ?_ ?_
  · repeat walk_at "z"
    refine ⟨fun h => ?_, fun h => ?_⟩
    · repeat walk_at "z"
      exact ⟨_, ⟨Int.fmod_nonneg_of_pos _ (by decide), Int.fmod_lt_of_pos _ (by decide)⟩, rfl, rfl⟩
    · repeat walk_at "z"
      exact ⟨_, ⟨Int.fmod_nonneg_of_pos _ (by decide), Int.lt_trans (Int.fmod_lt_of_pos _ (by decide)) (by decide)⟩, rfl, rfl⟩
  rintro r o ⟨m, hm60, rfl, rfl⟩
  have hB : (1 : Int) * 2 ^ (b : Int).toNat = ((2 ^ b : Nat) : Int) := by rw [Int.one_mul, Int.toNat_natCast]; norm_cast
  have hB1 : 2 ^ b ≤ 65536 := Nat.pow_le_pow_right (by omega) hb.2
  have hB2 : 256 ≤ 2 ^ b := Nat.pow_le_pow_right (n := 2) (i := 8) (by omega) hb.1
  have pl : ∀ t : Nat, t ≤ 2 ^ b → R (zn (pbl t m.toNat)) [] := fun t ht => k _ ((pbl_desc t _).mono ht) (Nat.le_trans (pbl_len _ _) (by omega))
  repeat walk_at "z"
  refine ⟨fun h => ?_, fun h => ?_⟩
  · repeat walk_at "z"
    rw [hB]
    refine ⟨rfl, _, _, rfl, rfl, by omega, by omega, ?_⟩
    rw [Int.toNat_natCast]
    repeat walk_at "z"
    exact fin0 (pl _ (Nat.le_refl _))
  · repeat walk_at "z"
    have s1 := Int.fmod_nonneg_of_pos start (b := 60) (by decide)
    have s2 := Int.fmod_lt_of_pos start (b := 60) (by decide)
    refine ⟨fun h => ?_, fun h => ?_⟩
    · repeat walk_at "z"
      refine ⟨rfl, _, _, rfl, rfl, by omega, by omega, ?_⟩
      repeat walk_at "z"
      exact fin0 (pl _ (by omega))
    · repeat walk_at "z"
      rw [hB]
      have t1 := Int.fmod_nonneg_of_pos start (b := ((2 ^ b : Nat) : Int) - 2) (by omega)
      have t2 := Int.fmod_lt_of_pos start (b := ((2 ^ b : Nat) : Int) - 2) (by omega)
      refine ⟨rfl, _, _, rfl, rfl, by omega, by omega, ?_⟩
      obtain ⟨l, hl, hd, hn⟩ : ∃ l, l = pbl (3 + start.fmod (((2 ^ b : Nat) : Int) - 2)).toNat (2 * m).toNat ∧ Desc (2 ^ b) l ∧ l.length ≤ 120 := ⟨_, rfl, (pbl_desc _ _).mono (by omega), Nat.le_trans (pbl_len _ _) (by omega)⟩
      rw [← hl]
      repeat walk_at "z"
      refine we_lc (j := 9) ?_
      repeat walk_at "z"
      refine ⟨_, rfl, by omega, by rw [nz_len]; omega, by rw [upFrom_len, nz_len]; omega, fun i acc o => o = [] ∧ ∃ l', acc = nz l' ∧ l'.Sublist (l.take i), ⟨rfl, [], rfl, List.nil_sublist _⟩, ?_, ?_⟩
      · rintro i z acc o hz ⟨rfl, l', rfl, hs⟩
        obtain ⟨hi, rfl⟩ := upFrom_of hz
        rw [Int.toNat_natCast, nz_len] at hi
        have e : (0 : Int) + (i : Int) * 1 = (i : Int) := by omega
        rw [e]
        obtain ⟨q, hq⟩ : ∃ q, l[i]? = some q := ⟨_, List.getElem?_eq_getElem hi⟩
        repeat walk_at "z"
        refine ⟨fun h => ?_, fun h => ?_⟩
        · repeat walk_at "z"
          refine zo_ixL (atI_nz hq) ?_
          exact ⟨rfl, l' ++ [q], (nz_app _ _), by rw [take_more hq]; exact hs.append (List.Sublist.refl _)⟩
        · exact ⟨rfl, l', rfl, hs.trans (by rw [take_more hq]; exact List.sublist_append_left _ _)⟩
      · rintro acc o ⟨rfl, l', rfl, hs⟩
        repeat walk_at "z"
        rw [upFrom_len, Int.toNat_natCast, nz_len, List.take_length] at hs
        exact fin0 (k l' (Desc.sub hs hd) (Nat.le_trans hs.length_le (by omega)))
end

/-! ## B5 -/
section
variable {w : World} {K : PySem.W.Frag} {mg : Str → Option Value} {base : Heap}
theorem row2 {xs : List Int} (h : xs.length = 2) : ∃ a b, xs = [a, b] := by
  match xs, h with
  | [a, b], _ => exact ⟨a, b, rfl⟩
theorem row3 {xs : List Int} (h : xs.length = 3) : ∃ a b c, xs = [a, b, c] := by
  match xs, h with
  | [a, b, c], _ => exact ⟨a, b, c, rfl⟩
theorem row4 {xs : List Int} (h : xs.length = 4) : ∃ a b c d, xs = [a, b, c, d] := by
  match xs, h with
  | [a, b, c, d], _ => exact ⟨a, b, c, d, rfl⟩
theorem pow_nat (j : Int) : (1 : Int) * 2 ^ j.toNat = ((2 ^ j.toNat : Nat) : Int) := by rw [Int.one_mul]; norm_cast
theorem pow_lt {j : Int} {n : Nat} (h : j ≤ (n : Int)) : 2 ^ j.toNat ≤ 2 ^ n := Nat.pow_le_pow_right (by omega) (by omega)
def tz_law_number : TZ := fun zs o R => ∃ (s : List Int) (p b : Int), zs = [.scr s, .int p, .int b] ∧ o = [] ∧ (1 ≤ b ∧ b ≤ 16) ∧ ∀ x : Int, x.natAbs < 2 ^ 700 → R (.int x) []
abbrev st_law_number : Stmt := top 422
abbrev N_law_number : List Str := ["script", "place", "bits", "way", "sign", "size", "more", "number", "digit"]
theorem sc_law_number : FnScope N_law_number ["script", "place", "bits"] (defScope st_law_number) := ⟨rfl, rfl, rfl, by decide +kernel, rfl, by decide +kernel, by decide +kernel⟩
theorem c_law_number {JC : Addr} (T : Tx K mg) (J : TJ K mg JC) : Cal P0 w K mg base "_law_number" 3 ["script", "place", "bits"] (tz_law_number) := by
  refine Cal.mk T.d__law_number sc_law_number (fun _ _ _ _ _ _ us hl => match us, hl with | [_, _, _], _ => rfl) fun f cdv A outer s H E hr => ?_
  have c_law_row := @c_law_row w K mg base JC T J
  refine ⟨_, (pss_cons (ps_asg (pe_callZ c_law_row (hr.mono (by decide)) (pa_cons (pv 0) (pa_cons (pv 1) (pa_cons pe_int (pa_cons pe_int pa_nil))))) (pg_lst rfl (pgs_cons (pg_name (i := 3) sc_law_number.nd rfl (Or.inl rfl)) (pgs_cons (pg_name (i := 4) sc_law_number.nd rfl (Or.inl rfl)) (pgs_cons (pg_name (i := 5) sc_law_number.nd rfl (Or.inl rfl)) (pgs_cons (pg_name (i := 6) sc_law_number.nd rfl (Or.inl rfl)) pgs_nil))))))
    (pss_cons (ps_set (i := 7) sc_law_number.nd rfl (Or.inl rfl) (pe_op op_modN (pe_callTy call_int1 (by rfl) T.b_int (by decide +kernel) (pa_cons (pv 6) pa_nil)) pe_int))
    (pss_cons (ps_if (pt_cmpR op_eq (pe_op op_modN (pe_callTy call_int1 (by rfl) T.b_int (by decide +kernel) (pa_cons (pv 3) pa_nil)) pe_int) pe_int (nomark _)) (pss_one (ps_set (i := 7) sc_law_number.nd rfl (Or.inl rfl) (pe_op op_sub (pe_op op_add (pe_op op_shl pe_int (pe_op op_mul (pv 2) (pe_op op_add pe_int (pe_op op_modN (pe_callTy call_int1 (by rfl) T.b_int (by decide +kernel) (pa_cons (pv 5) pa_nil)) pe_int)))) (pe_op op_modN (pe_callTy call_int1 (by rfl) T.b_int (by decide +kernel) (pa_cons (pv 6) pa_nil)) pe_int)) pe_int))) pss_nil)
    (pss_cons (ps_if (pt_cmpR op_eq (pe_op op_modN (pe_callTy call_int1 (by rfl) T.b_int (by decide +kernel) (pa_cons (pv 3) pa_nil)) pe_int) pe_int (nomark _)) (pss_one (ps_set (i := 7) sc_law_number.nd rfl (Or.inl rfl) (pe_op op_sub (pe_op op_add (pe_op op_shl pe_int (pe_op op_modN (pe_callTy call_int1 (by rfl) T.b_int (by decide +kernel) (pa_cons (pv 5) pa_nil)) pe_int)) (pe_op op_modN (pe_callTy call_int1 (by rfl) T.b_int (by decide +kernel) (pa_cons (pv 6) pa_nil)) pe_int)) pe_int))) pss_nil)
    (pss_cons (ps_if (pt_cmpR op_eq (pe_op op_modN (pe_callTy call_int1 (by rfl) T.b_int (by decide +kernel) (pa_cons (pv 3) pa_nil)) pe_int) pe_int (nomark _)) (pss_one (ps_for PassesOwn.never rfl (pi_listK (K := K) (pe_callZ c_law_row (hr.mono (by decide)) (pa_cons (pv 0) (pa_cons (pe_op op_add (pv 1) pe_int) (pa_cons (pe_op op_add pe_int (pe_op op_modN (pe_callTy call_int1 (by rfl) T.b_int (by decide +kernel) (pa_cons (pv 5) pa_nil)) (pe_ifExp (pt_cmpR op_eq (pe_op op_modN (pe_callTy call_int1 (by rfl) T.b_int (by decide +kernel) (pa_cons (pe_op op_fdivN (pv 4) pe_int) pa_nil)) pe_int) pe_int (nomark _)) pe_int pe_int))) (pa_cons (pe_op op_pow pe_int pe_int) pa_nil)))))) (pg_name (i := 8) sc_law_number.nd rfl (Or.inl rfl)) (pss_one (ps_set (i := 7) sc_law_number.nd rfl (Or.inl rfl) (pe_op op_add (pe_op op_mul (pv 7) (pe_op op_pow pe_int pe_int)) (pv 8)))))) pss_nil)
    (pss_cons (ps_if (pt_cmpR op_eq (pe_op op_modN (pe_callTy call_int1 (by rfl) T.b_int (by decide +kernel) (pa_cons (pv 3) pa_nil)) pe_int) pe_int (nomark _)) (pss_one (ps_set (i := 7) sc_law_number.nd rfl (Or.inl rfl) (pe_op op_add (pe_op op_mul (pv 6) pe_int) (pv 5)))) pss_nil)
    (pss_one (ps_ret (pe_ifExp (pt_cmpR op_eq (pe_op op_modN (pe_callTy call_int1 (by rfl) T.b_int (by decide +kernel) (pa_cons (pv 4) pa_nil)) pe_int) pe_int (nomark _)) (pe_un un_neg (pv 7)) (pv 7)))))))))), ?_⟩
  try dsimp only [cxK]
  rintro zs o R ⟨s, p, b, rfl, rfl, hb, k⟩
  repeat walk_at "y"
  refine ⟨rfl, s, p, 4, 1000, rfl, rfl, by decide, by decide, fun xs h1 h2 => ?_⟩
  obtain ⟨way, sign, size, more, rfl⟩ := row4 h1
  have hw := h2 way (by simp)
  have hsg := h2 sign (by simp)
  have hsz := h2 size (by simp)
  have hm := h2 more (by simp)
  clear h2
  dsimp only [List.map]
  repeat walk_at "y"
  have big : (2 : Nat) ^ 131 ≤ 2 ^ 200 := Nat.pow_le_pow_right (by decide) (by decide)
  refine ws_mid (fun r o => ∃ (x : Int), x.natAbs < 2 ^ 200 ∧ r = [some (.scr s), some (.int p), some (.int b), some (.int way), some (.int sign), some (.int size), some (.int more), some (.int x), none] ∧ o = []) ?_ ?_
  · repeat walk_at "z"
    have m1 := Int.fmod_nonneg_of_pos more (b := 10) (by decide)
    have m2 := Int.fmod_lt_of_pos more (b := 10) (by decide)
    have m3 := Int.fmod_nonneg_of_pos more (b := 3) (by decide)
    have m4 := Int.fmod_lt_of_pos more (b := 3) (by decide)
    have m5 := Int.fmod_nonneg_of_pos size (b := 4) (by decide)
    have m6 := Int.fmod_lt_of_pos size (b := 4) (by decide)
    have p1 : (1 : Nat) ≤ 2 ^ 131 := Nat.one_le_two_pow
    have q0 : 0 ≤ b * (1 + size.fmod 4) := Int.mul_nonneg (by omega) (by omega)
    have q1 : b * (1 + size.fmod 4) ≤ 16 * 4 := Int.mul_le_mul (by omega) (by omega) (by omega) (by omega)
    refine ⟨fun h => ?_, fun h => ?_⟩
    · repeat walk_at "z"
      rw [pow_nat]
      have := pow_lt (n := 64) (j := b * (1 + size.fmod 4)) (by omega)
      have pp := Nat.two_pow_pos (b * (1 + size.fmod 4)).toNat
      exact ⟨_, by omega, rfl, rfl⟩
    · repeat walk_at "z"
      exact ⟨_, by omega, rfl, rfl⟩
  rintro r o ⟨x, hx, rfl, rfl⟩
  refine ws_mid (fun r o => ∃ (x : Int), x.natAbs < 2 ^ 200 ∧ r = [some (.scr s), some (.int p), some (.int b), some (.int way), some (.int sign), some (.int size), some (.int more), some (.int x), none] ∧ o = []) ?_ ?_
  · repeat walk_at "z"
    have m3 := Int.fmod_nonneg_of_pos more (b := 3) (by decide)
    have m4 := Int.fmod_lt_of_pos more (b := 3) (by decide)
    have m5 := Int.fmod_nonneg_of_pos size (b := 130) (by decide)
    have m6 := Int.fmod_lt_of_pos size (b := 130) (by decide)
    refine ⟨fun h => ?_, fun h => ?_⟩
    · repeat walk_at "z"
      rw [pow_nat]
      have := pow_lt (n := 130) (j := size.fmod 130) (by omega)
      have pp := Nat.two_pow_pos (size.fmod 130).toNat
      exact ⟨_, by omega, rfl, rfl⟩
    · repeat walk_at "z"
      exact ⟨_, by omega, rfl, rfl⟩
  rintro r o ⟨x, hx, rfl, rfl⟩
  refine ws_mid (fun r o => ∃ (x : Int) (x8 : Option Z), x.natAbs < 2 ^ 699 ∧ r = [some (.scr s), some (.int p), some (.int b), some (.int way), some (.int sign), some (.int size), some (.int more), some (.int x), x8] ∧ o = []) ?_ ?_
  · refine ws_if ?_
    repeat walk_at "z"
    refine ⟨fun h => ?_, fun h => ?_⟩
    · refine ws_for ?_
      repeat walk_at "y"
      refine WE.imp (P := fun z o1 => o1 = [] ∧ ∃ c : Int, z = .int c ∧ 1 ≤ c ∧ c ≤ 24) (we_if ?_) ?_
      · repeat walk_at "z"
        refine ⟨fun h => ?_, fun h => ?_⟩
        · repeat walk_at "z"
          exact ⟨rfl, _, rfl, by decide, by decide⟩
        · repeat walk_at "z"
          exact ⟨rfl, _, rfl, by decide, by decide⟩
      rintro z o ⟨rfl, c, rfl, c1, c2⟩
      have m5 := Int.fmod_nonneg_of_pos size (b := c) (by omega)
      have m6 := Int.fmod_lt_of_pos size (b := c) (by omega)
      repeat walk_at "y"
      refine ⟨rfl, _, _, _, _, rfl, rfl, by omega, by decide, fun ds hd1 hd2 => ?_⟩
      repeat walk_at "y"
      refine ⟨fun i r o => ∃ (x : Int) (x8 : Option Z), x.natAbs < 2 ^ (200 + 20 * i) ∧ r = [some (.scr s), some (.int p), some (.int b), some (.int way), some (.int sign), some (.int size), some (.int more), some (.int x), x8] ∧ o = [], ⟨x, _, hx, rfl, rfl⟩, ?_, ?_⟩
      · rintro i z r o hz ⟨x, x8, hx, rfl, rfl⟩
        obtain ⟨d, hd, rfl⟩ : ∃ d, ds[i]? = some d ∧ Z.int d = z := by simpa [List.getElem?_map] using hz
        have hb := hd2 d (List.mem_of_getElem? hd)
        repeat walk_at "z"
        refine zo_i (Or.inr (by decide)) ?_
        repeat walk_at "z"
        refine ⟨_, _, ?_, rfl, rfl⟩
        have e1 : (10 : Int) ^ Int.toNat 6 = 1000000 := by decide
        rw [e1] at hb ⊢
        have e2 : (2 : Nat) ^ (200 + 20 * (i + 1)) = 2 ^ (200 + 20 * i) * 1048576 := by
          rw [show 200 + 20 * (i + 1) = 200 + 20 * i + 20 from by omega, Nat.pow_add]
        rw [e2]
        omega
      · rintro r o ⟨x, x8, hx, rfl, rfl⟩
        rw [List.length_map, hd1] at hx
        refine ⟨x, x8, Nat.lt_of_lt_of_le hx (Nat.pow_le_pow_right (by decide) (by omega)), rfl, rfl⟩
    · repeat walk_at "z"
      exact ⟨_, _, Nat.lt_of_lt_of_le hx (Nat.pow_le_pow_right (by decide) (by decide)), rfl, rfl⟩
  rintro r o ⟨x, x8, hx, rfl, rfl⟩
  refine ws_mid (fun r o => ∃ (x : Int) (x8 : Option Z), x.natAbs < 2 ^ 699 ∧ r = [some (.scr s), some (.int p), some (.int b), some (.int way), some (.int sign), some (.int size), some (.int more), some (.int x), x8] ∧ o = []) ?_ ?_
  · repeat walk_at "z"
    refine ⟨fun h => ?_, fun h => ?_⟩
    · repeat walk_at "z"
      refine ⟨_, _, Nat.lt_of_lt_of_le (show _ < 2 ^ 30 from ?_) (Nat.pow_le_pow_right (by decide) (by decide)), rfl, rfl⟩
      omega
    · repeat walk_at "z"
      exact ⟨_, _, hx, rfl, rfl⟩
  rintro r o ⟨x, x8, hx, rfl, rfl⟩
  have h7 : (2 : Nat) ^ 699 ≤ 2 ^ 700 := Nat.pow_le_pow_right (by decide) (by decide)
  repeat walk_at "z"
  refine ⟨fun h => ?_, fun h => ?_⟩
  · repeat walk_at "z"
    exact fin0 (k _ (by rw [Int.natAbs_neg]; exact Nat.lt_of_lt_of_le hx h7))
  · repeat walk_at "z"
    exact fin0 (k _ (Nat.lt_of_lt_of_le hx h7))
def tz_law_near : TZ := fun zs o R => ∃ (s : List Int) (p n b : Int), zs = [.scr s, .int p, .int n, .int b] ∧ o = [] ∧ (1 ≤ b ∧ b ≤ 16) ∧ n.natAbs < 2 ^ 700 ∧ ∀ x : Int, x.natAbs < 2 ^ 702 → R (.int x) []
theorem near_small {x n : Int} (hn : n.natAbs < 2 ^ 700) (hx : x.natAbs ≤ n.natAbs + 2 ^ 49) : x.natAbs < 2 ^ 702 := by
  have h1 : (2 : Nat) ^ 702 = 2 ^ 700 * 4 := by rw [show (702 : Nat) = 700 + 2 from rfl, Nat.pow_add]
  have h2 : (2 : Nat) ^ 49 ≤ 2 ^ 700 := Nat.pow_le_pow_right (by decide) (by decide)
  omega
abbrev st_law_near : Stmt := top 432
abbrev N_law_near : List Str := ["script", "place", "number", "bits", "step", "rows"]
theorem sc_law_near : FnScope N_law_near ["script", "place", "number", "bits"] (defScope st_law_near) := ⟨rfl, rfl, rfl, by decide +kernel, rfl, by decide +kernel, by decide +kernel⟩
theorem c_law_near {JC : Addr} (T : Tx K mg) (J : TJ K mg JC) : Cal P0 w K mg base "_law_near" 4 ["script", "place", "number", "bits"] (tz_law_near) := by
  refine Cal.mk T.d__law_near sc_law_near (fun _ _ _ _ _ _ us hl => match us, hl with | [_, _, _, _], _ => rfl) fun f cdv A outer s H E hr => ?_
  have c_law_number := @c_law_number w K mg base JC T J
  have c_law_one := @c_law_one w K mg base JC T J
  refine ⟨_, (pss_cons (ps_set (i := 4) sc_law_near.nd rfl (Or.inl rfl) (pe_op op_shl pe_int (pe_op op_mul (pv 3) (pe_callZ c_law_one (hr.mono (by decide)) (pa_cons (pv 0) (pa_cons (pe_op op_add (pv 1) pe_int) (pa_cons pe_int pa_nil)))))))
    (pss_cons (ps_set (i := 5) sc_law_near.nd rfl (Or.inl rfl) (pe_lst (pa_cons (pv 2) (pa_cons (pe_op op_add (pv 2) pe_int) (pa_cons (pe_op op_sub (pv 2) pe_int) (pa_cons (pe_un un_neg (pv 2)) (pa_cons (pe_op op_add (pv 2) (pv 4)) (pa_cons (pe_op op_sub (pv 2) (pv 4)) (pa_cons (pe_op op_sub pe_int (pv 2)) (pa_cons (pe_callZ c_law_number (hr.mono (by decide)) (pa_cons (pv 0) (pa_cons (pe_op op_add (pv 1) pe_int) (pa_cons (pv 3) pa_nil)))) pa_nil))))))))))
    (pss_one (ps_ret (pe_ix (ix_listK (K := K)) (pv 5) (pe_callZ c_law_one (hr.mono (by decide)) (pa_cons (pv 0) (pa_cons (pv 1) (pa_cons pe_int pa_nil)))) (fun _ _ => rfl)))))), ?_⟩
  try dsimp only [cxK]
  rintro zs o R ⟨s, p, n, b, rfl, rfl, hb, hn, k⟩
  repeat walk_at "z"
  refine ⟨rfl, s, p + 1, 4, rfl, rfl, by decide, fun d hd => ?_⟩
  repeat walk_at "z"
  have q0 : 0 ≤ b * d := Int.mul_nonneg (by omega) (by omega)
  have q1 : b * d ≤ 16 * 3 := Int.mul_le_mul (by omega) (by omega) (by omega) (by omega)
  refine zo_i (show CPow 1 (b * d) from ⟨q0, by omega, by decide⟩) ?_
  rw [pow_nat]
  have q2 := pow_lt (n := 48) (j := b * d) (by omega)
  have q3 := Nat.two_pow_pos (b * d).toNat
  generalize 2 ^ (b * d).toNat = B at q2 q3
  repeat walk_at "z"
  refine ⟨rfl, s, p + 2, b, rfl, rfl, hb, fun y hy => ?_⟩
  repeat walk_at "z"
  refine ⟨rfl, s, p, 8, rfl, rfl, by decide, fun j hj => ?_⟩
  have key : ∃ x : Int, atI ([Z.int n, .int (n + 1), .int (n - 1), .int (-n), .int (n + (B : Int)), .int (n - (B : Int)), .int (1 - n), .int y]) j = some (.int x) ∧ x.natAbs < 2 ^ 702 := by
    have hj' : j = 0 ∨ j = 1 ∨ j = 2 ∨ j = 3 ∨ j = 4 ∨ j = 5 ∨ j = 6 ∨ j = 7 := by omega
    have h49 : (2 : Nat) ^ 48 ≤ 2 ^ 49 := by decide
    have h48 : (1 : Nat) ≤ 2 ^ 49 := by decide
    rcases hj' with rfl | rfl | rfl | rfl | rfl | rfl | rfl | rfl
    · exact ⟨_, rfl, near_small hn (by omega)⟩
    · exact ⟨_, rfl, near_small hn (by omega)⟩
    · exact ⟨_, rfl, near_small hn (by omega)⟩
    · exact ⟨_, rfl, near_small hn (by omega)⟩
    · exact ⟨_, rfl, near_small hn (by omega)⟩
    · exact ⟨_, rfl, near_small hn (by omega)⟩
    · exact ⟨_, rfl, near_small hn (by omega)⟩
    · exact ⟨_, rfl, near_small hy (by omega)⟩
  obtain ⟨x, hx, hxb⟩ := key
  repeat walk_at "z"
  refine zo_ixL hx ?_
  exact fin0 (k x hxb)
def tz_law_fractions : TZ := fun zs o R => ∃ (s : List Int) (p b : Int), zs = [.scr s, .int p, .int b] ∧ o = [] ∧ (1 ≤ b ∧ b ≤ 16) ∧ ∀ x1 x2 y1 y2 : Int, x1.natAbs < 2 ^ 1500 → x2.natAbs < 2 ^ 1500 → y1.natAbs < 2 ^ 1500 → y2.natAbs < 2 ^ 1500 → 0 < x2 → 0 < y2 → R (.tup [.tup [.int x1, .int x2], .tup [.int y1, .int y2]]) []
abbrev st_law_fractions : Stmt := top 433
abbrev N_law_fractions : List Str := ["script", "place", "bits", "first", "factor", "way"]
theorem sc_law_fractions : FnScope N_law_fractions ["script", "place", "bits"] (defScope st_law_fractions) := ⟨rfl, rfl, rfl, by decide +kernel, rfl, by decide +kernel, by decide +kernel⟩
theorem c_law_fractions {JC : Addr} (T : Tx K mg) (J : TJ K mg JC) : Cal P0 w K mg base "_law_fractions" 4 ["script", "place", "bits"] (tz_law_fractions) := by
  refine Cal.mk T.d__law_fractions sc_law_fractions (fun _ _ _ _ _ _ us hl => match us, hl with | [_, _, _], _ => rfl) fun f cdv A outer s H E hr => ?_
  have c_law_number := @c_law_number w K mg base JC T J
  have c_law_one := @c_law_one w K mg base JC T J
  refine ⟨_, (pss_cons (ps_set (i := 3) sc_law_fractions.nd rfl (Or.inl rfl) (pe_tup (pa_cons (pe_callZ c_law_number (hr.mono (by decide)) (pa_cons (pv 0) (pa_cons (pv 1) (pa_cons (pv 2) pa_nil)))) (pa_cons (pe_op op_add pe_int (pe_callB call_abs (by rfl) T.b_abs (by decide +kernel) (pa_cons (pe_callZ c_law_number (hr.mono (by decide)) (pa_cons (pv 0) (pa_cons (pe_op op_add (pv 1) pe_int) (pa_cons (pv 2) pa_nil)))) pa_nil))) pa_nil))))
    (pss_cons (ps_set (i := 4) sc_law_fractions.nd rfl (Or.inl rfl) (pe_op op_add pe_int (pe_callB call_abs (by rfl) T.b_abs (by decide +kernel) (pa_cons (pe_callZ c_law_number (hr.mono (by decide)) (pa_cons (pv 0) (pa_cons (pe_op op_add (pv 1) pe_int) (pa_cons (pv 2) pa_nil)))) pa_nil))))
    (pss_cons (ps_set (i := 5) sc_law_fractions.nd rfl (Or.inl rfl) (pe_callZ c_law_one (hr.mono (by decide)) (pa_cons (pv 0) (pa_cons (pe_op op_add (pv 1) pe_int) (pa_cons pe_int pa_nil)))))
    (pss_cons (ps_if (pt_cmpR op_lt (pv 5) pe_int (nomark _)) (pss_one (ps_ret (pe_tup (pa_cons (pv 3) (pa_cons (pe_tup (pa_cons (pe_op op_sub (pe_op op_add (pe_op op_mulW (pe_ix (ix_tupK (K := K)) (pv 3) pe_int (fun _ _ => rfl)) (pv 4)) (pv 5)) pe_int) (pa_cons (pe_op op_mulW (pe_ix (ix_tupK (K := K)) (pv 3) pe_int (fun _ _ => rfl)) (pv 4)) pa_nil))) pa_nil))))) pss_nil)
    (pss_cons (ps_if (pt_cmpR op_eq (pv 5) pe_int (nomark _)) (pss_one (ps_ret (pe_tup (pa_cons (pe_tup (pa_cons (pe_op op_add (pe_op op_mulW (pe_ix (ix_tupK (K := K)) (pv 3) pe_int (fun _ _ => rfl)) (pv 4)) pe_int) (pa_cons (pe_op op_mulW (pe_ix (ix_tupK (K := K)) (pv 3) pe_int (fun _ _ => rfl)) (pv 4)) pa_nil))) (pa_cons (pv 3) pa_nil))))) pss_nil)
    (pss_cons (ps_if (pt_cmpR op_eq (pv 5) pe_int (nomark _)) (pss_one (ps_ret (pe_tup (pa_cons (pv 3) (pa_cons (pe_tup (pa_cons (pe_un un_neg (pe_ix (ix_tupK (K := K)) (pv 3) pe_int (fun _ _ => rfl))) (pa_cons (pe_ix (ix_tupK (K := K)) (pv 3) pe_int (fun _ _ => rfl)) pa_nil))) pa_nil))))) pss_nil)
    (pss_one (ps_ret (pe_tup (pa_cons (pv 3) (pa_cons (pe_tup (pa_cons (pe_callZ c_law_number (hr.mono (by decide)) (pa_cons (pv 0) (pa_cons (pe_op op_add (pv 1) pe_int) (pa_cons (pv 2) pa_nil)))) (pa_cons (pv 4) pa_nil))) pa_nil))))))))))), ?_⟩
  try dsimp only [cxK]
  rintro zs o R ⟨s, p, b, rfl, rfl, hb, k⟩
  repeat walk_at "z"
  refine ⟨rfl, s, p, b, rfl, rfl, hb, fun n hn => ?_⟩
  repeat walk_at "z"
  refine ⟨rfl, s, p + 3, b, rfl, rfl, hb, fun m hm => ?_⟩
  repeat walk_at "z"
  refine ⟨rfl, s, p + 6, b, rfl, rfl, hb, fun c hc => ?_⟩
  repeat walk_at "z"
  refine ⟨rfl, s, p + 9, 6, rfl, rfl, by decide, fun w hw => ?_⟩
  have e1 := abs_nat m
  have e2 := abs_nat c
  have b7 : (2 : Nat) ^ 701 = 2 ^ 700 * 2 := by rw [show (701 : Nat) = 700 + 1 from rfl, Nat.pow_add]
  have o7 : 1 ≤ (2 : Nat) ^ 700 := Nat.one_le_two_pow
  rw [e1, e2]
  have hM : (1 + (m.natAbs : Int)).natAbs < 2 ^ 701 := by omega
  have hC : (1 + (c.natAbs : Int)).natAbs < 2 ^ 701 := by omega
  have hM0 : 0 < 1 + (m.natAbs : Int) := by omega
  have hC0 : 0 < 1 + (c.natAbs : Int) := by omega
  generalize 1 + (m.natAbs : Int) = M at hM hM0
  generalize 1 + (c.natAbs : Int) = C at hC hC0
  have w1 : CMulW n C := wide_mul hn hC (by decide) (by decide) (by decide)
  have w2 : CMulW M C := wide_mul hM hC (by decide) (by decide) (by decide)
  have g1 : (n * C).natAbs < 2 ^ 1402 := by
    rw [Int.natAbs_mul, show (1402 : Nat) = 701 + 701 from rfl, Nat.pow_add]
    exact Nat.mul_lt_mul'' (by omega) hC
  have g2 : (M * C).natAbs < 2 ^ 1402 := by
    rw [Int.natAbs_mul, show (1402 : Nat) = 701 + 701 from rfl, Nat.pow_add]
    exact Nat.mul_lt_mul'' hM hC
  have g3 : 0 < M * C := Int.mul_pos hM0 hC0
  have up : ∀ {x : Int} {j : Nat}, j ≤ 1499 → x.natAbs < 2 ^ j + 10 → x.natAbs < 2 ^ 1500 := fun {x} {j} hj hx => by
    have h1 : (2 : Nat) ^ j ≤ 2 ^ 1499 := Nat.pow_le_pow_right (by decide) hj
    have h2 : (2 : Nat) ^ 1500 = 2 ^ 1499 * 2 := by rw [show (1500 : Nat) = 1499 + 1 from rfl, Nat.pow_add]
    have h3 : (2 : Nat) ^ 10 ≤ 2 ^ 1499 := Nat.pow_le_pow_right (by decide) (by decide)
    omega
  repeat walk_at "z"
  refine ⟨fun h => ?_, fun h => ?_⟩
  · repeat walk_at "z"
    refine zo_ixT (z := .int n) rfl ?_
    repeat walk_at "z"
    refine zo_ixT (z := .int M) rfl ?_
    repeat walk_at "z"
    exact fin0 (k _ _ _ _ (up (j := 700) (by decide) (by omega)) (up (j := 701) (by decide) (by omega)) (up (j := 1402) (by decide) (by omega)) (up (j := 1402) (by decide) (by omega)) hM0 g3)
  · repeat walk_at "z"
    refine ⟨fun h => ?_, fun h => ?_⟩
    · repeat walk_at "z"
      refine zo_ixT (z := .int n) rfl ?_
      repeat walk_at "z"
      refine zo_ixT (z := .int M) rfl ?_
      repeat walk_at "z"
      exact fin0 (k _ _ _ _ (up (j := 1402) (by decide) (by omega)) (up (j := 1402) (by decide) (by omega)) (up (j := 700) (by decide) (by omega)) (up (j := 701) (by decide) (by omega)) g3 hM0)
    · repeat walk_at "z"
      refine ⟨fun h => ?_, fun h => ?_⟩
      · repeat walk_at "z"
        refine zo_ixT (z := .int n) rfl ?_
        repeat walk_at "z"
        refine zo_ixT (z := .int M) rfl ?_
        repeat walk_at "z"
        exact fin0 (k _ _ _ _ (up (j := 700) (by decide) (by omega)) (up (j := 701) (by decide) (by omega)) (up (j := 700) (by decide) (by omega)) (up (j := 701) (by decide) (by omega)) hM0 hM0)
      · repeat walk_at "z"
        refine ⟨rfl, s, p + 12, b, rfl, rfl, hb, fun y hy => ?_⟩
        repeat walk_at "z"
        exact fin0 (k _ _ _ _ (up (j := 700) (by decide) (by omega)) (up (j := 701) (by decide) (by omega)) (up (j := 700) (by decide) (by omega)) (up (j := 701) (by decide) (by omega)) hM0 hC0)
end

/-! ## B6 -/
section
variable {w : World} {K : PySem.W.Frag} {mg : Str → Option Value} {base : Heap}
/-- a drawn sum -/
def GoodTs (ts : List (List Int)) : Prop := ts.length ≤ 20 ∧ ∀ t, t ∈ ts → t.length ≤ 20 ∧ ∀ n, n ∈ t → n.natAbs < 2 ^ 5000
def PtsOk (ps : List Nat) : Prop := ps.length ≤ 200 ∧ ∀ p, p ∈ ps → 1 ≤ p ∧ p < 65536
theorem bits_rng {p : Nat} (h1 : 1 ≤ p) (h2 : p < 65536) : 0 ≤ bitsI (p : Int) - 1 ∧ bitsI (p : Int) - 1 ≤ 15 := by
  have e : bitsI (p : Int) = ((p.log2 + 1 : Nat) : Int) := by
    unfold bitsI Builtin.Int.intBits
    rw [if_neg (by simp; omega)]
    rfl
  have : p.log2 < 16 := (Nat.log2_lt (by omega)).mpr h2
  omega
theorem sum_rng : ∀ {l : List Int}, (∀ x, x ∈ l → 0 ≤ x ∧ x ≤ 15) → 0 ≤ l.sum ∧ l.sum ≤ 15 * l.length
  | [], _ => by decide
  | x :: l, h => by
    have h1 := h x (by simp)
    have h2 := sum_rng (l := l) fun y hy => h y (by simp [hy])
    rw [List.sum_cons, List.length_cons]
    omega
theorem cut_nz {ps : List Nat} {i : Int} (h0 : 0 ≤ i) : cutZ (nz ps) none (some i) = nz (ps.take i.toNat) := by
  unfold cutZ
  rw [HT.sIx_none]
  obtain ⟨n, rfl⟩ := Int.eq_ofNat_of_zero_le h0
  rw [HT.sIx_nat, Int.toNat_natCast, List.drop_zero, Nat.sub_zero, nz_len]
  unfold nz
  rw [← List.map_take]
  by_cases c : n ≤ ps.length
  · rw [Nat.min_eq_left c]
  · rw [Nat.min_eq_right (by omega), List.take_length, List.take_of_length_le (by omega)]
theorem each_int {G : Z → Z → Prop} {B : Int → Prop} (h : ∀ z y, G z y → ∃ i, y = Z.int i ∧ B i) : ∀ {zs ys : List Z}, Each G zs ys → ∃ ns : List Int, ys = ns.map Z.int ∧ ns.length = zs.length ∧ ∀ x, x ∈ ns → B x
  | _, _, .nil => ⟨[], rfl, rfl, fun x hx => nomatch hx⟩
  | _, _, .cons a r => by
    obtain ⟨i, e1, hb⟩ := h _ _ a
    obtain ⟨ns, e2, e3, e4⟩ := each_int h r
    exact ⟨i :: ns, by rw [e1, e2]; rfl, by rw [List.length_cons, List.length_cons, e3], fun x hx => by
      rcases List.mem_cons.mp hx with rfl | hx
      · exact hb
      · exact e4 x hx⟩
def tz_law_exact : TZ := fun zs o R => ∃ (s : List Int) (p : Int) (ps : List Nat), zs = [.scr s, .int p, zn ps] ∧ o = [] ∧ PtsOk ps ∧ ∀ ts, GoodTs ts → R (zts ts) []
theorem good_two {a b c : Int} (ha : a.natAbs < 2 ^ 4000) (hb : b.natAbs < 2 ^ 4000) (hc : c.natAbs < 2 ^ 4000) : GoodTs [[a, b], [c]] ∧ GoodTs [[c], [a, b]] := by
  have h : (2 : Nat) ^ 4000 ≤ 2 ^ 5000 := Nat.pow_le_pow_right (by decide) (by decide)
  refine ⟨⟨by simp, fun t ht => ?_⟩, ⟨by simp, fun t ht => ?_⟩⟩ <;>
  · simp only [List.mem_cons, List.not_mem_nil, or_false] at ht
    rcases ht with rfl | rfl <;>
    · refine ⟨by simp, fun n hn => ?_⟩
      simp only [List.mem_cons, List.not_mem_nil, or_false] at hn
      omega
abbrev st_law_exact : Stmt := top 427
abbrev N_law_exact : List Str := ["script", "place", "points", "pick", "more", "point", "wanted", "k", "number"]
theorem sc_law_exact : FnScope N_law_exact ["script", "place", "points"] (defScope st_law_exact) := ⟨rfl, rfl, rfl, by decide +kernel, rfl, by decide +kernel, by decide +kernel⟩
theorem c_law_exact {JC : Addr} (T : Tx K mg) (J : TJ K mg JC) : Cal P0 w K mg base "_law_exact" 3 ["script", "place", "points"] (tz_law_exact) := by
  refine Cal.mk T.d__law_exact sc_law_exact (fun _ _ _ _ _ _ us hl => match us, hl with | [_, _, _], _ => rfl) fun f cdv A outer s H E hr => ?_
  have c_law_row := @c_law_row w K mg base JC T J
  refine ⟨_, (pss_cons (ps_asg (pe_callZ c_law_row (hr.mono (by decide)) (pa_cons (pv 0) (pa_cons (pv 1) (pa_cons pe_int (pa_cons (pe_op op_pow pe_int pe_int) pa_nil))))) (pg_lst rfl (pgs_cons (pg_name (i := 3) sc_law_exact.nd rfl (Or.inl rfl)) (pgs_cons (pg_name (i := 4) sc_law_exact.nd rfl (Or.inl rfl)) pgs_nil))))
    (pss_cons (ps_set (i := 6) sc_law_exact.nd rfl (Or.inl rfl) (pe_op op_add (pe_callB (cr_sumK (K := K) rfl) (by rfl) T.b_sum (by decide +kernel) (pa_cons (pe_lc (own := [("point", 5)]) (g := gName 5) rfl sc_law_exact.nd (pi_tupK (K := K) (pe_slice (sl_tupK (K := K)) (pv 2) po_none (po_some (pe_op op_modN (pe_callTy call_int1 (by rfl) T.b_int (by decide +kernel) (pa_cons (pv 3) pa_nil)) (pe_op op_add (pe_callB (call_lenK (K := K)) (by rfl) T.b_len (by decide +kernel) (pa_cons (pv 2) pa_nil)) pe_int))))) (blkOk_by (N := N_law_exact) (sc := defScope st_law_exact) (by decide +kernel)) (fun _ _ _ _ _ => pg_name (i := 5) sc_law_exact.nd rfl (Or.inl rfl)) (fun _ _ _ _ _ => pts_nil) (fun _ _ _ _ _ => (pe_op op_sub (pe_bits (pv 5)) pe_int))) pa_nil)) (pe_op op_modN (pe_callTy call_int1 (by rfl) T.b_int (by decide +kernel) (pa_cons (pv 4) pa_nil)) pe_int)))
    (pss_cons (ps_if (pt_cmpR op_eq (pv 6) pe_int (nomark _)) (pss_one (ps_ret (pe_tup pa_nil))) pss_nil)
    (pss_cons (ps_if (pt_cmpR op_lt (pv 6) pe_int (nomark _)) (pss_one (ps_ret (pe_callTy (call_tupK (K := K)) (by rfl) T.b_tuple (by decide +kernel) (pa_cons (pe_lc (own := [("k", 7)]) (g := gName 7) rfl sc_law_exact.nd (pi_range1 (by rfl) T.b_range (pa_cons (pe_op op_shl pe_int (pe_op op_sub (pv 6) pe_int)) pa_nil)) (blkOk_by (N := N_law_exact) (sc := defScope st_law_exact) (by decide +kernel)) (fun _ _ _ _ _ => pg_name (i := 7) sc_law_exact.nd rfl (Or.inl rfl)) (fun _ _ _ _ _ => pts_nil) (fun _ _ _ _ _ => (pe_tup (pa_cons pe_int pa_nil)))) pa_nil)))) pss_nil)
    (pss_cons (ps_set (i := 8) sc_law_exact.nd rfl (Or.inl rfl) (pe_op op_add (pe_op op_shl pe_int (pe_op op_sub (pv 6) pe_int)) (pe_op op_modN (pe_callTy call_int1 (by rfl) T.b_int (by decide +kernel) (pa_cons (pe_op op_fdivN (pv 4) pe_int) pa_nil)) (pe_op op_shl pe_int (pe_op op_sub (pv 6) pe_int)))))
    (pss_cons (ps_if (pt_cmpR op_eq (pe_op op_modN (pe_callTy call_int1 (by rfl) T.b_int (by decide +kernel) (pa_cons (pv 4) pa_nil)) pe_int) pe_int (nomark _)) (pss_one (ps_ret (pe_tup (pa_cons (pe_tup (pa_cons (pe_un un_neg pe_int) (pa_cons (pv 8) pa_nil))) (pa_cons (pe_tup (pa_cons (pv 8) pa_nil)) pa_nil))))) pss_nil)
    (pss_one (ps_ret (pe_tup (pa_cons (pe_tup (pa_cons (pv 8) pa_nil)) (pa_cons (pe_tup (pa_cons (pe_un un_neg pe_int) (pa_cons (pv 8) pa_nil))) pa_nil))))))))))), ?_⟩
  try dsimp only [cxK]
  rintro zs o R ⟨s, p, ps, rfl, rfl, hp, k⟩
  repeat walk_at "z"
  refine ⟨rfl, s, p, 2, 1000000, rfl, rfl, by decide, by decide, fun xs h1 h2 => ?_⟩
  obtain ⟨pick, more, rfl⟩ := row2 h1
  have hpk := h2 pick (by simp)
  have hm := h2 more (by simp)
  dsimp only [List.map]
  repeat walk_at "z"
  refine we_lcG (j := 5) (fun z y => ∃ q : Nat, q ∈ ps ∧ z = .int q ∧ y = .int (bitsI (q : Int) - 1)) ?_
  repeat walk_at "z"
  have f1 := Int.fmod_nonneg_of_pos pick (b := ((nz ps).length : Int) + 1) (by omega)
  rw [cut_nz f1]
  generalize (pick.fmod (((nz ps).length : Int) + 1)).toNat = cut
  refine ⟨by rw [nz_len, List.length_take]; have := hp.1; omega, ?_, ?_⟩
  · intro z hz
    obtain ⟨q, hq, rfl⟩ := List.mem_map.mp hz
    repeat walk_at "z"
    exact ⟨rfl, q, List.mem_of_mem_take hq, rfl, rfl⟩
  · intro ys hy
    obtain ⟨ns, rfl, hns⟩ : ∃ ns : List Int, ys = ns.map Z.int ∧ ns.length ≤ 200 ∧ ∀ x, x ∈ ns → 0 ≤ x ∧ x ≤ 15 := by
      obtain ⟨ns, h1, h2, h3⟩ := each_int (B := fun x => 0 ≤ x ∧ x ≤ 15) (fun z y ⟨q, hq, _, e⟩ => ⟨_, e, bits_rng (hp.2 q hq).1 (hp.2 q hq).2⟩) hy
      rw [nz_len, List.length_take] at h2
      exact ⟨ns, h1, by have := hp.1; omega, h3⟩
    have hsum := sum_rng hns.2
    repeat walk_at "z"
    have m1 := Int.fmod_nonneg_of_pos more (b := 2) (by decide)
    have m2 := Int.fmod_lt_of_pos more (b := 2) (by decide)
    obtain ⟨W, hW, w0, w1⟩ : ∃ W, W = ns.sum + more.fmod 2 ∧ 0 ≤ W ∧ W ≤ 3001 := ⟨_, rfl, by omega, by omega⟩
    rw [← hW]
    refine ⟨fun h => ?_, fun h => ?_⟩
    · repeat walk_at "z"
      exact fin0 (k [] ⟨by decide, fun t ht => nomatch ht⟩)
    have n0 := vn h
    repeat walk_at "z"
    refine ⟨fun h => ?_, fun h => ?_⟩
    · have n1 := dec_t h
      repeat walk_at "z"
      refine we_lcF (j := 7) (fun _ => .tup [.int 0]) ?_
      repeat walk_at "z"
      rw [pow_nat]
      have q1 := pow_lt (n := 2) (j := W - 1) (by omega)
      generalize 2 ^ (W - 1).toNat = B at q1
      refine ⟨_, rfl, by omega, by omega, by rw [upFrom_len]; omega, ?_, ?_⟩
      · intro z hz
        repeat walk_at "z"
        exact ⟨rfl, rfl⟩
      · repeat walk_at "z"
        have e : (upFrom 0 1 ((B : Int)).toNat).map (fun _ => Z.tup [.int 0]) = (List.replicate B [(0 : Int)]).map zt := by
          rw [List.map_replicate]
          unfold upFrom
          rw [List.map_map, Int.toNat_natCast]
          exact (List.map_const' ..).trans (by rw [List.length_range]; rfl)
        rw [e]
        refine fin0 (k _ ⟨by rw [List.length_replicate]; omega, fun t ht => ?_⟩)
        rw [(List.mem_replicate.mp ht).2]
        exact ⟨by decide, fun n hn => by rw [List.mem_singleton.mp hn]; exact Nat.two_pow_pos 5000⟩
    · have n1 := dec_f h
      repeat walk_at "z"
      have q1 := pow_lt (n := 3000) (j := W - 4) (by omega)
      have q2 := Nat.two_pow_pos (W - 4).toNat
      have e := pow_nat (W - 4)
      rw [e]
      generalize 2 ^ (W - 4).toNat = B at q1 q2 e
      have t1 := Int.fmod_nonneg_of_pos (more.fdiv 2) (b := (B : Int)) (by omega)
      have t2 := Int.fmod_lt_of_pos (more.fdiv 2) (b := (B : Int)) (by omega)
      repeat walk_at "z"
      have hN : ((B : Int) + (more.fdiv 2).fmod (B : Int)).natAbs < 2 ^ 4000 := by
        have g1 : (2 : Nat) ^ 3001 = 2 ^ 3000 * 2 := by rw [show (3001 : Nat) = 3000 + 1 from rfl, Nat.pow_add]
        have g2 : (2 : Nat) ^ 3001 ≤ 2 ^ 4000 := Nat.pow_le_pow_right (by decide) (by decide)
        omega
      have h1' : (-1 : Int).natAbs < 2 ^ 4000 := Nat.lt_of_lt_of_le (show _ < 2 ^ 1 from by decide) (Nat.pow_le_pow_right (by decide) (by decide))
      refine ⟨fun h => ?_, fun h => ?_⟩
      · repeat walk_at "z"
        exact fin0 (k _ (good_two h1' hN hN).1)
      · repeat walk_at "z"
        exact fin0 (k _ (good_two h1' hN hN).2)
def tz_law_hidden : TZ := tz_law_exact
abbrev st_law_hidden : Stmt := top 428
abbrev N_law_hidden : List Str := ["script", "place", "points", "pick", "more", "way", "many", "left", "k", "factors", "product", "factor"]
theorem sc_law_hidden : FnScope N_law_hidden ["script", "place", "points"] (defScope st_law_hidden) := ⟨rfl, rfl, rfl, by decide +kernel, rfl, by decide +kernel, by decide +kernel⟩
theorem c_law_hidden {JC : Addr} (T : Tx K mg) (J : TJ K mg JC) : Cal P0 w K mg base "_law_hidden" 3 ["script", "place", "points"] (tz_law_hidden) := by
  refine Cal.mk T.d__law_hidden sc_law_hidden (fun _ _ _ _ _ _ us hl => match us, hl with | [_, _, _], _ => rfl) fun f cdv A outer s H E hr => ?_
  have c_law_row := @c_law_row w K mg base JC T J
  refine ⟨_, (pss_cons (ps_asg (pe_callZ c_law_row (hr.mono (by decide)) (pa_cons (pv 0) (pa_cons (pv 1) (pa_cons pe_int (pa_cons (pe_op op_pow pe_int pe_int) pa_nil))))) (pg_lst rfl (pgs_cons (pg_name (i := 3) sc_law_hidden.nd rfl (Or.inl rfl)) (pgs_cons (pg_name (i := 4) sc_law_hidden.nd rfl (Or.inl rfl)) (pgs_cons (pg_name (i := 5) sc_law_hidden.nd rfl (Or.inl rfl)) pgs_nil)))))
    (pss_cons (ps_set (i := 6) sc_law_hidden.nd rfl (Or.inl rfl) (pe_callB (call_min2 rfl) (by rfl) T.b_min (by decide +kernel) (pa_cons (pe_callB (call_lenK (K := K)) (by rfl) T.b_len (by decide +kernel) (pa_cons (pv 2) pa_nil)) (pa_cons (pe_op op_add pe_int (pe_op op_modN (pe_callTy call_int1 (by rfl) T.b_int (by decide +kernel) (pa_cons (pv 3) pa_nil)) pe_int)) pa_nil))))
    (pss_cons (ps_set (i := 7) sc_law_hidden.nd rfl (Or.inr rfl) (pe_op op_modN (pe_callTy call_int1 (by rfl) T.b_int (by decide +kernel) (pa_cons (pv 4) pa_nil)) (pe_op op_add (pv 6) pe_int)))
    (pss_cons (ps_setLc (i := 9) (own := [("k", 8)]) (g := gName 8) rfl sc_law_hidden.nd rfl rfl (sw_true rfl rfl rfl (by decide +kernel)) (pi_range1 (by rfl) T.b_range (pa_cons (pv 6) pa_nil)) (blkOk_by (N := N_law_hidden) (sc := defScope st_law_hidden) (by decide +kernel)) (fun _ _ _ _ _ => pg_name (i := 8) sc_law_hidden.nd rfl (Or.inl rfl)) (fun _ _ _ _ _ => (pts_one (pt_cmpR op_ne (pv 8) (pv 7) (nomark _)))) (fun _ _ _ _ _ => (pe_ix (ix_tupK (K := K)) (pv 2) (pv 8) (fun _ _ => rfl))))
    (pss_cons (ps_set (i := 10) sc_law_hidden.nd rfl (Or.inl rfl) (pe_op op_add pe_int (pe_op op_modN (pe_callTy call_int1 (by rfl) T.b_int (by decide +kernel) (pa_cons (pe_op op_fdivN (pv 4) pe_int) pa_nil)) pe_int)))
    (pss_cons (ps_for PassesOwn.never rfl (pi_listK (K := K) (pv 9)) (pg_name (i := 11) sc_law_hidden.nd rfl (Or.inl rfl)) (pss_one (ps_set (i := 10) sc_law_hidden.nd rfl (Or.inl rfl) (pe_op op_mul (pv 10) (pv 11)))))
    (pss_cons (ps_if (pt_cmpR op_eq (pe_op op_modN (pe_callTy call_int1 (by rfl) T.b_int (by decide +kernel) (pa_cons (pv 5) pa_nil)) pe_int) pe_int (nomark _)) (pss_one (ps_ret (pe_tup (pa_cons (pe_tup (pa_cons (pv 10) pa_nil)) pa_nil)))) pss_nil)
    (pss_cons (ps_if (pt_cmpR op_eq (pe_op op_modN (pe_callTy call_int1 (by rfl) T.b_int (by decide +kernel) (pa_cons (pv 5) pa_nil)) pe_int) pe_int (nomark _)) (pss_one (ps_ret (pe_tup (pa_cons (pe_tup (pa_cons (pe_op op_add (pv 10) pe_int) pa_nil)) (pa_cons (pe_tup (pa_cons (pe_un un_neg pe_int) (pa_cons pe_int pa_nil))) pa_nil))))) pss_nil)
    (pss_one (ps_ret (pe_tup (pa_cons (pe_op (op_catK (K := K)) (pe_callTy (call_tupK (K := K)) (by rfl) T.b_tuple (by decide +kernel) (pa_cons (pv 9) pa_nil)) (pe_tup (pa_cons (pe_op op_add pe_int (pe_op op_modN (pe_callTy call_int1 (by rfl) T.b_int (by decide +kernel) (pa_cons (pe_op op_fdivN (pv 4) pe_int) pa_nil)) pe_int)) pa_nil))) (pa_cons (pe_tup (pa_cons pe_int (pa_cons pe_int pa_nil))) pa_nil))))))))))))), ?_⟩
  try dsimp only [cxK]
  rintro zs o R ⟨s, p, ps, rfl, rfl, hp, k⟩
  repeat walk_at "z"
  refine ⟨rfl, s, p, 3, 1000000, rfl, rfl, by decide, by decide, fun xs h1 h2 => ?_⟩
  obtain ⟨pick, more, way, rfl⟩ := row3 h1
  have hpk := h2 pick (by simp)
  have hm := h2 more (by simp)
  dsimp only [List.map]
  repeat walk_at "y"
  have f1 := Int.fmod_nonneg_of_pos pick (b := 7) (by decide)
  have f2 := Int.fmod_lt_of_pos pick (b := 7) (by decide)
  rw [nz_len]
  obtain ⟨M, hM, m0, m7, ml⟩ : ∃ M : Int, M = (if 1 + pick.fmod 7 < (ps.length : Int) then 1 + pick.fmod 7 else (ps.length : Int)) ∧ 0 ≤ M ∧ M ≤ 7 ∧ M ≤ ps.length := ⟨_, rfl, by split <;> omega, by split <;> omega, by split <;> omega⟩
  rw [← hM]
  repeat walk_at "y"
  refine we_lc (j := 8) ?_
  repeat walk_at "y"
  refine ⟨_, rfl, by omega, by omega, by rw [upFrom_len]; omega, fun i acc o => o = [] ∧ ∃ l : List Nat, acc = nz l ∧ l.length ≤ i ∧ ∀ q, q ∈ l → q < 65536, ⟨rfl, [], rfl, Nat.le_refl _, fun q hq => nomatch hq⟩, ?_, ?_⟩
  · rintro i z acc o hz ⟨rfl, l, rfl, hl, hq⟩
    obtain ⟨hi, rfl⟩ := upFrom_of hz
    have e : (0 : Int) + (i : Int) * 1 = (i : Int) := by omega
    rw [e]
    obtain ⟨q, hqi⟩ : ∃ q, ps[i]? = some q := ⟨_, List.getElem?_eq_getElem (by omega)⟩
    repeat walk_at "z"
    refine ⟨fun h => ?_, fun h => ?_⟩
    · repeat walk_at "z"
      refine zo_ixT (atI_nz hqi) ?_
      refine ⟨rfl, l ++ [q], nz_app _ _, by rw [List.length_append]; exact Nat.succ_le_succ hl, fun x hx => ?_⟩
      rcases List.mem_append.mp hx with hx | hx
      · exact hq x hx
      · rw [List.mem_singleton.mp hx]
        exact (hp.2 q (List.mem_of_getElem? hqi)).2
    · exact ⟨rfl, l, rfl, by omega, hq⟩
  rintro acc o ⟨rfl, l, rfl, hl, hq⟩
  rw [upFrom_len] at hl
  have hl7 : l.length ≤ 7 := by omega
  have c1 := Int.fmod_nonneg_of_pos (more.fdiv 8) (b := 3) (by decide)
  have c2 := Int.fmod_lt_of_pos (more.fdiv 8) (b := 3) (by decide)
  obtain ⟨c, hc, c3, c4⟩ : ∃ c : Int, c = 1 + (more.fdiv 8).fmod 3 ∧ 1 ≤ c ∧ c ≤ 3 := ⟨_, rfl, by omega, by omega⟩
  repeat walk_at "y"
  rw [← hc]
  refine ws_mid (fun r o => ∃ (x : Int) (x11 : Option Z), x.natAbs < 2 ^ 300 ∧ r = [some (.scr s), some (.int p), some (zn ps), some (.int pick), some (.int more), some (.int way), some (.int M), some (.int (more.fmod (M + 1))), none, some (.lst (nz l)), some (.int x), x11] ∧ o = []) ?_ ?_
  · refine ws_for ?_
    repeat walk_at "z"
    refine ⟨fun i r o => ∃ (x : Int) (x11 : Option Z), x.natAbs < 2 ^ (2 + 16 * i) ∧ r = [some (.scr s), some (.int p), some (zn ps), some (.int pick), some (.int more), some (.int way), some (.int M), some (.int (more.fmod (M + 1))), none, some (.lst (nz l)), some (.int x), x11] ∧ o = [], ⟨c, _, by omega, rfl, rfl⟩, ?_, ?_⟩
    · rintro i z r o hz ⟨x, x11, hx, rfl, rfl⟩
      obtain ⟨q, hqi, rfl⟩ := nz_get hz
      have hq' := hq q (List.mem_of_getElem? hqi)
      repeat walk_at "z"
      refine ⟨_, _, ?_, rfl, rfl⟩
      rw [show 2 + 16 * (i + 1) = (2 + 16 * i) + 16 from by omega, Nat.pow_add, Int.natAbs_mul]
      exact Nat.mul_lt_mul'' hx (by simpa using hq')
    · rintro r o ⟨x, x11, hx, rfl, rfl⟩
      rw [nz_len] at hx
      exact ⟨x, x11, Nat.lt_of_lt_of_le hx (Nat.pow_le_pow_right (by decide) (by omega)), rfl, rfl⟩
  rintro r o ⟨x, x11, hx, rfl, rfl⟩
  have h5 : (2 : Nat) ^ 300 ≤ 2 ^ 301 := Nat.pow_le_pow_right (by decide) (by decide)
  have h6 : (2 : Nat) ^ 301 = 2 ^ 300 * 2 := by rw [show (301 : Nat) = 300 + 1 from rfl, Nat.pow_add]
  have h7 : (2 : Nat) ^ 301 ≤ 2 ^ 4000 := Nat.pow_le_pow_right (by decide) (by decide)
  have h8 : (2 : Nat) ^ 4000 ≤ 2 ^ 5000 := Nat.pow_le_pow_right (by decide) (by decide)
  have h9 : (2 : Nat) ^ 17 ≤ 2 ^ 300 := Nat.pow_le_pow_right (by decide) (by decide)
  repeat walk_at "z"
  refine ⟨fun h => ?_, fun h => ?_⟩
  · repeat walk_at "z"
    refine fin0 (k [[x]] ⟨by simp, fun t ht => ?_⟩)
    rw [List.mem_singleton.mp ht]
    refine ⟨by simp, fun n hn => ?_⟩
    rw [List.mem_singleton.mp hn]
    omega
  · repeat walk_at "z"
    refine ⟨fun h => ?_, fun h => ?_⟩
    · repeat walk_at "z"
      exact fin0 (k [[x + 5], [-1, 5]] (good_two (by omega) (by omega) (by omega)).2)
    · repeat walk_at "z"
      rw [← hc]
      refine ⟨by rw [nz_len]; simp; omega, ?_⟩
      repeat walk_at "z"
      have e : nz l ++ [Z.int c] = (l.map (fun q : Nat => (q : Int)) ++ [c]).map Z.int := by
        unfold nz
        rw [List.map_append, List.map_map]
        rfl
      rw [e]
      refine fin0 (k [l.map (fun q : Nat => (q : Int)) ++ [c], [0, 7]] ⟨by simp, fun t ht => ?_⟩)
      rcases List.mem_cons.mp ht with rfl | ht
      · refine ⟨by rw [List.length_append, List.length_map]; simp; omega, fun n hn => ?_⟩
        rcases List.mem_append.mp hn with hn | hn
        · obtain ⟨q, hq1, rfl⟩ := List.mem_map.mp hn
          have := hq q hq1
          omega
        · rw [List.mem_singleton.mp hn]
          omega
      · rw [List.mem_singleton.mp ht]
        refine ⟨by simp, fun n hn => ?_⟩
        simp only [List.mem_cons, List.not_mem_nil, or_false] at hn
        omega
end

/-! ## B7 -/
section
variable {w : World} {K : PySem.W.Frag} {mg : Str → Option Value} {base : Heap}
def tz_law_totalL : TZ := fun zs o R => ∃ ts, zs = [.lst (ts.map zt)] ∧ o = [] ∧ MulTs ts ∧ R (.int (totI ts)) []
abbrev st_law_totalL : Stmt := top 425
abbrev N_law_totalL : List Str := ["terms", "total", "term", "product", "factor"]
theorem sc_law_totalL : FnScope N_law_totalL ["terms"] (defScope st_law_totalL) := ⟨rfl, rfl, rfl, by decide +kernel, rfl, by decide +kernel, by decide +kernel⟩
theorem c_law_totalL {JC : Addr} (T : Tx K mg) (J : TJ K mg JC) : Cal P0 w K mg base "_law_total" 1 ["terms"] (tz_law_totalL) := by
  refine Cal.mk T.d__law_total sc_law_totalL (fun _ _ _ _ _ _ us hl => match us, hl with | [_], _ => rfl) fun f cdv A outer s H E hr => ?_
  refine ⟨_, (pss_cons (ps_set (i := 1) sc_law_totalL.nd rfl (Or.inl rfl) pe_int)
    (pss_cons (ps_for PassesOwn.never rfl (pi_listK (K := K) (pv 0)) (pg_name (i := 2) sc_law_totalL.nd rfl (Or.inl rfl)) (pss_cons (ps_set (i := 3) sc_law_totalL.nd rfl (Or.inl rfl) pe_int)
    (pss_cons (ps_for PassesOwn.never rfl (pi_tupK (K := K) (pv 2)) (pg_name (i := 4) sc_law_totalL.nd rfl (Or.inl rfl)) (pss_one (ps_set (i := 3) sc_law_totalL.nd rfl (Or.inl rfl) (pe_op op_mulW (pv 3) (pv 4)))))
    (pss_one (ps_set (i := 1) sc_law_totalL.nd rfl (Or.inl rfl) (pe_op op_add (pv 1) (pv 3)))))))
    (pss_one (ps_ret (pv 1))))), ?_⟩
  try dsimp only [cxK]
  rintro zs o R ⟨ts, rfl, rfl, hs, k⟩
  repeat walk_at "z"
  refine ⟨fun i r o => ∃ x2 x3 x4 : Option Z, r = [some (.lst (ts.map zt)), some (.int (totI (ts.take i))), x2, x3, x4] ∧ o = [], ⟨_, _, _, rfl, rfl⟩, ?_, ?_⟩
  · rintro i z r o hz ⟨x2, x3, x4, rfl, rfl⟩
    obtain ⟨t, ht, rfl⟩ : ∃ t, ts[i]? = some t ∧ zt t = z := by simpa [List.getElem?_map] using hz
    obtain ⟨htl, hb⟩ := hs t (List.mem_of_getElem? ht)
    repeat walk_at "z"
    refine ⟨fun j r o => ∃ x4 : Option Z, r = [some (.lst (ts.map zt)), some (.int (totI (ts.take i))), some (zt t), some (.int (prodI (t.take j))), x4] ∧ o = [], ⟨_, rfl, rfl⟩, ?_, ?_⟩
    · rintro j z r o hz ⟨x4, rfl, rfl⟩
      obtain ⟨n, hn, rfl⟩ : ∃ n, t[j]? = some n ∧ Z.int n = z := by simpa [List.getElem?_map] using hz
      have hj := (List.getElem?_eq_some_iff.mp hn).1
      repeat walk_at "z"
      refine zo_i (wide_mul (prod_lt hb j (by omega)) (hb n (List.mem_of_getElem? hn)) (by omega) (by omega) (by omega)) ?_
      exact ⟨_, by rw [prod_more hn]; rfl, rfl⟩
    · rintro r o ⟨x4, rfl, rfl⟩
      rw [List.length_map, List.take_length]
      repeat walk_at "z"
      exact ⟨_, _, _, by rw [tot_more ht]; rfl, rfl⟩
  · rintro r o ⟨x2, x3, x4, rfl, rfl⟩
    rw [List.length_map, List.take_length]
    repeat walk_at "z"
    exact fin0 k
theorem prod_ltG {t : List Int} {B : Nat} (hb : ∀ n, n ∈ t → n.natAbs < 2 ^ B) : ∀ i, i ≤ t.length → (prodI (t.take i)).natAbs < 2 ^ (B * i + 1)
  | 0, _ => by
    rw [List.take_zero, Nat.mul_zero]
    decide
  | i + 1, h => by
    obtain ⟨n, hn⟩ : ∃ n, t[i]? = some n := ⟨_, List.getElem?_eq_getElem (by omega)⟩
    rw [prod_more hn, Int.natAbs_mul, show B * (i + 1) + 1 = (B * i + 1) + B from by rw [Nat.mul_succ]; omega, Nat.pow_add]
    exact Nat.mul_lt_mul'' (prod_ltG hb i (by omega)) (hb n (List.mem_of_getElem? hn))
theorem tot_le {ts : List (List Int)} {X : Nat} (h : ∀ t, t ∈ ts → (prodI t).natAbs ≤ X) : ∀ i, i ≤ ts.length → (totI (ts.take i)).natAbs ≤ i * X
  | 0, _ => by
    rw [List.take_zero]
    show (0 : Int).natAbs ≤ _
    omega
  | i + 1, hi => by
    obtain ⟨t, ht⟩ : ∃ t, ts[i]? = some t := ⟨_, List.getElem?_eq_getElem (by omega)⟩
    rw [tot_more ht, Nat.succ_mul]
    have h1 := tot_le h i (by omega)
    have h2 := h t (List.mem_of_getElem? ht)
    omega
def tz_law_drawn : TZ := fun zs o R => ∃ (s : List Int) (p b : Int) (c : Bool), zs = [.scr s, .int p, .int b, .bl c] ∧ o = [] ∧ (1 ≤ b ∧ b ≤ 16) ∧ ∀ ts, GoodTs ts → R (zts ts) []
abbrev st_law_drawn : Stmt := top 429
abbrev N_law_drawn : List Str := ["script", "place", "bits", "cancel", "pick", "more", "terms", "k", "many", "j"]
theorem sc_law_drawn : FnScope N_law_drawn ["script", "place", "bits", "cancel"] (defScope st_law_drawn) := ⟨rfl, rfl, rfl, by decide +kernel, rfl, by decide +kernel, by decide +kernel⟩
theorem c_law_drawn {JC : Addr} (T : Tx K mg) (J : TJ K mg JC) : Cal P0 w K mg base "_law_drawn" 4 ["script", "place", "bits", "cancel"] (tz_law_drawn) := by
  refine Cal.mk T.d__law_drawn sc_law_drawn (fun _ _ _ _ _ _ us hl => match us, hl with | [_, _, _, _], _ => rfl) fun f cdv A outer s H E hr => ?_
  have c_law_number := @c_law_number w K mg base JC T J
  have c_law_row := @c_law_row w K mg base JC T J
  have c_law_total := @c_law_total w K mg base JC T J
  have c_law_totalL := @c_law_totalL w K mg base JC T J
  refine ⟨_, (pss_cons (ps_asg (pe_callZ c_law_row (hr.mono (by decide)) (pa_cons (pv 0) (pa_cons (pv 1) (pa_cons pe_int (pa_cons (pe_op op_pow pe_int pe_int) pa_nil))))) (pg_lst rfl (pgs_cons (pg_name (i := 4) sc_law_drawn.nd rfl (Or.inl rfl)) (pgs_cons (pg_name (i := 5) sc_law_drawn.nd rfl (Or.inl rfl)) pgs_nil))))
    (pss_cons (ps_set (i := 6) sc_law_drawn.nd rfl (Or.inl rfl) (pe_lst pa_nil))
    (pss_cons (ps_for PassesOwn.never rfl (pi_range1 (by rfl) T.b_range (pa_cons (pe_op op_modN (pe_callTy call_int1 (by rfl) T.b_int (by decide +kernel) (pa_cons (pv 4) pa_nil)) pe_int) pa_nil)) (pg_name (i := 7) sc_law_drawn.nd rfl (Or.inr rfl)) (pss_cons (ps_set (i := 8) sc_law_drawn.nd rfl (Or.inl rfl) (pe_op op_modN (pe_callTy call_int1 (by rfl) T.b_int (by decide +kernel) (pa_cons (pe_op op_fdivN (pv 5) (pe_op op_add (pv 7) pe_int)) pa_nil)) pe_int))
    (pss_one (ps_expr (pe_bm PySem.F.plainAttrs_list PySem.F.slot_list_append PySem.F.type_list_append mt_append (pv 6) (pa_cons (pe_callTy (call_tupK (K := K)) (by rfl) T.b_tuple (by decide +kernel) (pa_cons (pe_lc (own := [("j", 9)]) (g := gName 9) rfl sc_law_drawn.nd (pi_range1 (by rfl) T.b_range (pa_cons (pv 8) pa_nil)) (blkOk_by (N := N_law_drawn) (sc := defScope st_law_drawn) (by decide +kernel)) (fun _ _ _ _ _ => pg_name (i := 9) sc_law_drawn.nd rfl (Or.inl rfl)) (fun _ _ _ _ _ => pts_nil) (fun _ _ _ _ _ => (pe_callZ c_law_number (hr.mono (by decide)) (pa_cons (pv 0) (pa_cons (pe_op op_add (pe_op op_add (pe_op op_add (pv 1) (pe_op op_mul pe_int (pv 7))) (pe_op op_mul pe_int (pv 9))) pe_int) (pa_cons (pv 2) pa_nil)))))) pa_nil)) pa_nil))))))
    (pss_cons (ps_if (pt_val (pv 3)) (pss_one (ps_expr (pe_bm PySem.F.plainAttrs_list PySem.F.slot_list_append PySem.F.type_list_append mt_append (pv 6) (pa_cons (pe_tup (pa_cons (pe_un un_neg pe_int) (pa_cons (pe_callZ c_law_totalL (hr.mono (by decide)) (pa_cons (pv 6) pa_nil)) pa_nil))) pa_nil)))) pss_nil)
    (pss_one (ps_ret (pe_callTy (call_tupK (K := K)) (by rfl) T.b_tuple (by decide +kernel) (pa_cons (pv 6) pa_nil)))))))), ?_⟩
  try dsimp only [cxK]
  rintro zs o R ⟨s, p, b, c, rfl, rfl, hb, k⟩
  repeat walk_at "y"
  refine ⟨rfl, s, p, 2, 1000000, rfl, rfl, by decide, by decide, fun xs h1 h2 => ?_⟩
  obtain ⟨pick, more, rfl⟩ := row2 h1
  dsimp only [List.map]
  repeat walk_at "y"
  intro a
  have f1 := Int.fmod_nonneg_of_pos pick (b := 9) (by decide)
  have f2 := Int.fmod_lt_of_pos pick (b := 9) (by decide)
  refine ws_mid (fun r o => ∃ (ts : List (List Int)) (x7 x8 : Option Z), r = [some (.scr s), some (.int p), some (.int b), some (.bl c), some (.int pick), some (.int more), some (.ref a), x7, x8, none] ∧ o = [(a, .lst (ts.map zt))] ∧ ts.length ≤ 8 ∧ ∀ t, t ∈ ts → t.length ≤ 3 ∧ ∀ n, n ∈ t → n.natAbs < 2 ^ 700) ?_ ?_
  · refine ws_for ?_
    repeat walk_at "z"
    refine ⟨_, rfl, by omega, by omega, ?_⟩
    refine ⟨fun i r o => ∃ (ts : List (List Int)) (x7 x8 : Option Z), r = [some (.scr s), some (.int p), some (.int b), some (.bl c), some (.int pick), some (.int more), some (.ref a), x7, x8, none] ∧ o = [(a, .lst (ts.map zt))] ∧ ts.length = i ∧ ∀ t, t ∈ ts → t.length ≤ 3 ∧ ∀ n, n ∈ t → n.natAbs < 2 ^ 700, ⟨[], _, _, rfl, rfl, rfl, fun t ht => nomatch ht⟩, ?_, ?_⟩
    · rintro i z r o hz ⟨ts, x7, x8, rfl, rfl, hl, hts⟩
      obtain ⟨hi, rfl⟩ := upFrom_of hz
      repeat walk_at "z"
      have g1 := Int.fmod_nonneg_of_pos (more.fdiv (0 + (i : Int) * 1 + 1)) (b := 4) (by decide)
      have g2 := Int.fmod_lt_of_pos (more.fdiv (0 + (i : Int) * 1 + 1)) (b := 4) (by decide)
      generalize (more.fdiv (0 + (i : Int) * 1 + 1)).fmod 4 = M at g1 g2
      refine we_lcG (j := 9) (fun z y => ∃ n, y = .int n ∧ n.natAbs < 2 ^ 700) ?_
      repeat walk_at "z"
      refine ⟨_, rfl, by omega, by omega, by rw [upFrom_len]; omega, ?_, ?_⟩
      · intro z hz
        obtain ⟨j, hj⟩ := List.getElem?_of_mem hz
        obtain ⟨_, rfl⟩ := upFrom_of hj
        repeat walk_at "z"
        exact ⟨rfl, _, _, _, rfl, rfl, hb, fun x hx => ⟨rfl, x, rfl, hx⟩⟩
      · intro ys hy
        obtain ⟨ns, rfl, hn1, hn2⟩ := each_int (B := fun n => n.natAbs < 2 ^ 700) (fun z y h => h) hy
        rw [upFrom_len] at hn1
        repeat walk_at "z"
        refine ⟨_, rfl, by rw [List.length_map]; omega, ?_⟩
        refine ⟨ts ++ [ns], _, _, rfl, by rw [List.map_append]; rfl, by simp [hl], fun t ht => ?_⟩
        rcases List.mem_append.mp ht with ht | ht
        · exact hts t ht
        · rw [List.mem_singleton.mp ht]
          exact ⟨by omega, hn2⟩
    · rintro r o ⟨ts, x7, x8, rfl, rfl, hl, hts⟩
      rw [upFrom_len] at hl
      exact ⟨ts, x7, x8, rfl, rfl, by omega, hts⟩
  rintro r o ⟨ts, x7, x8, rfl, rfl, hl, hts⟩
  have up : (2 : Nat) ^ 700 ≤ 2 ^ 5000 := Nat.pow_le_pow_right (by decide) (by decide)
  have up2 : 8 * (2 : Nat) ^ 2101 < 2 ^ 5000 := by
    rw [show 8 * (2 : Nat) ^ 2101 = 2 ^ 2104 from by rw [show (2104 : Nat) = 3 + 2101 from rfl, Nat.pow_add]]
    exact Nat.pow_lt_pow_right (by decide) (by decide)
  have good : GoodTs ts := ⟨by omega, fun t ht => ⟨by have := (hts t ht).1; omega, fun n hn => Nat.lt_of_lt_of_le ((hts t ht).2 n hn) up⟩⟩
  have tot : (totI ts).natAbs < 2 ^ 5000 := by
    have h := tot_le (ts := ts) (X := 2 ^ 2101) (fun t ht => ?_) ts.length (Nat.le_refl _)
    · rw [List.take_length] at h
      have : ts.length * 2 ^ 2101 ≤ 8 * 2 ^ 2101 := Nat.mul_le_mul_right _ hl
      omega
    · have h := prod_ltG (hts t ht).2 t.length (Nat.le_refl _)
      rw [List.take_length] at h
      have h3 := (hts t ht).1
      exact Nat.le_of_lt (Nat.lt_of_lt_of_le h (Nat.pow_le_pow_right (by decide) (by omega)))
  refine ws_seq (ws_if ?_)
  repeat walk_at "x"
  refine ⟨fun h => ?_, fun h => ?_⟩
  · repeat walk_at "x"
    refine we_lend rfl ?_
    repeat walk_at "x"
    refine ⟨0, a, ts.map zt, rfl, rfl, ts, rfl, rfl, fun t ht => ?_, rfl, ?_⟩
    · exact ⟨by have := (hts t ht).1; omega, fun n hn => Nat.lt_of_lt_of_le ((hts t ht).2 n hn) up⟩
    · repeat walk_at "x"
      refine ⟨_, rfl, by rw [List.length_map]; omega, ?_⟩
      repeat walk_at "x"
      have e : ts.map zt ++ [Z.tup [.int (-1), .int (totI ts)]] = (ts ++ [[-1, totI ts]]).map zt := by rw [List.map_append]; rfl
      rw [e]
      refine fin0 (k (ts ++ [[-1, totI ts]]) ⟨by rw [List.length_append]; simp; omega, fun t ht => ?_⟩)
      rcases List.mem_append.mp ht with ht | ht
      · exact good.2 t ht
      · rw [List.mem_singleton.mp ht]
        refine ⟨by simp, fun n hn => ?_⟩
        rcases List.mem_cons.mp hn with rfl | hn
        · exact Nat.lt_of_lt_of_le (show _ < 2 ^ 1 from by decide) (Nat.pow_le_pow_right (by decide) (by decide))
        · rw [List.mem_singleton.mp hn]
          exact tot
  · repeat walk_at "z"
    exact fin0 (k ts good)
def tz_law_terms : TZ := fun zs o R => ∃ (s : List Int) (p b : Int) (ps : List Nat), zs = [.scr s, .int p, .int b, zn ps] ∧ o = [] ∧ (1 ≤ b ∧ b ≤ 16) ∧ PtsOk ps ∧ ∀ ts, GoodTs ts → R (zts ts) []
abbrev st_law_terms : Stmt := top 430
abbrev N_law_terms : List Str := ["script", "place", "bits", "points", "way"]
theorem sc_law_terms : FnScope N_law_terms ["script", "place", "bits", "points"] (defScope st_law_terms) := ⟨rfl, rfl, rfl, by decide +kernel, rfl, by decide +kernel, by decide +kernel⟩
theorem c_law_terms {JC : Addr} (T : Tx K mg) (J : TJ K mg JC) : Cal P0 w K mg base "_law_terms" 5 ["script", "place", "bits", "points"] (tz_law_terms) := by
  refine Cal.mk T.d__law_terms sc_law_terms (fun _ _ _ _ _ _ us hl => match us, hl with | [_, _, _, _], _ => rfl) fun f cdv A outer s H E hr => ?_
  have c_law_drawn := @c_law_drawn w K mg base JC T J
  have c_law_exact := @c_law_exact w K mg base JC T J
  have c_law_hidden := @c_law_hidden w K mg base JC T J
  have c_law_one := @c_law_one w K mg base JC T J
  refine ⟨_, (pss_cons (ps_set (i := 4) sc_law_terms.nd rfl (Or.inl rfl) (pe_callZ c_law_one (hr.mono (by decide)) (pa_cons (pv 0) (pa_cons (pv 1) (pa_cons pe_int pa_nil)))))
    (pss_cons (ps_if (pt_cmpR op_lt (pv 4) pe_int (nomark _)) (pss_one (ps_ret (pe_callZ c_law_exact (hr.mono (by decide)) (pa_cons (pv 0) (pa_cons (pe_op op_add (pv 1) pe_int) (pa_cons (pv 3) pa_nil)))))) pss_nil)
    (pss_cons (ps_if (pt_cmpR op_lt (pv 4) pe_int (nomark _)) (pss_one (ps_ret (pe_callZ c_law_hidden (hr.mono (by decide)) (pa_cons (pv 0) (pa_cons (pe_op op_add (pv 1) pe_int) (pa_cons (pv 3) pa_nil)))))) pss_nil)
    (pss_one (ps_ret (pe_callZ c_law_drawn (hr.mono (by decide)) (pa_cons (pv 0) (pa_cons (pe_op op_add (pv 1) pe_int) (pa_cons (pv 2) (pa_cons (pe_cmpR op_lt (pv 4) pe_int (nomark _)) pa_nil)))))))))), ?_⟩
  try dsimp only [cxK]
  rintro zs o R ⟨s, p, b, ps, rfl, rfl, hb, hp, k⟩
  repeat walk_at "z"
  refine ⟨rfl, s, p, 8, rfl, rfl, by decide, fun w hw => ?_⟩
  repeat walk_at "z"
  refine ⟨fun h => ?_, fun h => ?_⟩
  · repeat walk_at "z"
    exact ⟨rfl, s, _, ps, rfl, rfl, hp, fun ts ht => fin0 (k ts ht)⟩
  · repeat walk_at "z"
    refine ⟨fun h => ?_, fun h => ?_⟩
    · repeat walk_at "z"
      exact ⟨rfl, s, _, ps, rfl, rfl, hp, fun ts ht => fin0 (k ts ht)⟩
    · repeat walk_at "z"
      exact ⟨rfl, s, _, b, _, rfl, rfl, hb, fun ts ht => fin0 (k ts ht)⟩
end

/-! ## B8 -/
section
variable {w : World} {K : PySem.W.Frag} {mg : Str → Option Value} {base : Heap}
def tz_words_of : TZ := fun zs o R => ∃ (n : Int) (b : Nat), zs = [.int n, .int b] ∧ o = [] ∧ (1 ≤ b ∧ b ≤ 29) ∧ n.natAbs.log2 < 90000 ∧ R (zn (wd b n.natAbs)) []
abbrev st_words_of : Stmt := top 6
abbrev N_words_of : List Str := ["number", "bits", "rest", "base", "words"]
theorem sc_words_of : FnScope N_words_of ["number", "bits"] (defScope st_words_of) := ⟨rfl, rfl, rfl, by decide +kernel, rfl, by decide +kernel, by decide +kernel⟩
theorem c_words_of {JC : Addr} (T : Tx K mg) (J : TJ K mg JC) : Cal P0 w K mg base "words_of" 1 ["number", "bits"] (tz_words_of) := by
  refine Cal.mk T.d_words_of sc_words_of (fun _ _ _ _ _ _ us hl => match us, hl with | [_, _], _ => rfl) fun f cdv A outer s H E hr => ?_
  refine ⟨_, (pss_cons (ps_set (i := 2) sc_words_of.nd rfl (Or.inl rfl) (pe_callB call_abs (by rfl) T.b_abs (by decide +kernel) (pa_cons (pv 0) pa_nil)))
    (pss_cons (ps_set (i := 3) sc_words_of.nd rfl (Or.inl rfl) (pe_op op_shl pe_int (pv 1)))
    (pss_cons (ps_set (i := 4) sc_words_of.nd rfl (Or.inl rfl) (pe_lst pa_nil))
    (pss_cons (ps_while PassesOwn.never (pt_cmpR op_gt (pv 2) pe_int (nomark _)) (pss_cons (ps_expr (pe_bm PySem.F.plainAttrs_list PySem.F.slot_list_append PySem.F.type_list_append mt_append (pv 4) (pa_cons (pe_op op_modN (pv 2) (pv 3)) pa_nil)))
    (pss_one (ps_set (i := 2) sc_words_of.nd rfl (Or.inl rfl) (pe_op op_fdivN (pv 2) (pv 3))))))
    (pss_one (ps_ret (pe_callTy (call_tupK (K := K)) (by rfl) T.b_tuple (by decide +kernel) (pa_cons (pv 4) pa_nil)))))))), ?_⟩
  try dsimp only [cxK]
  rintro zs o R ⟨n, b, rfl, rfl, hb, hlog, k⟩
  repeat walk_at "z"
  intro p
  rw [abs_nat]
  repeat walk_at "z"
  have e2 : (1 : Int) * 2 ^ (b : Int).toNat = ((2 ^ b : Nat) : Int) := by rw [Int.one_mul, Int.toNat_natCast]; norm_cast
  rw [e2]
  have hB : 0 < 2 ^ b := Nat.two_pow_pos b
  have hB2 : 2 ^ b < 1073741824 := Nat.lt_of_le_of_lt (Nat.pow_le_pow_right (by omega) hb.2) (by decide)
  refine ws_while (fun m r o => ∃ done, r = [some (.int n), some (.int b), some (.int (m : Nat)), some (.int (2 ^ b : Nat)), some (.ref p)] ∧ o = [(p, .lst (nz done))] ∧ done ++ wd b m = wd b n.natAbs) n.natAbs ⟨[], rfl, rfl, rfl⟩ ?_
  rintro m r o ⟨done, rfl, rfl, hd⟩
  have hlen : done.length + (wd b m).length ≤ 90001 := by
    rw [← List.length_append, hd]
    exact Nat.le_trans (wd_len (by omega)) (Nat.succ_le_succ (Nat.le_of_lt hlog))
  have hB1 : 1 < 2 ^ b := Nat.one_lt_two_pow (by omega)
  have hw : ∀ {m : Nat}, 0 < m → wd b m = m % 2 ^ b :: wd b (m / 2 ^ b) := wd_pos (by omega)
  generalize 2 ^ b = B at *
  repeat walk_at "z"
  refine ⟨fun h => ?_, fun h => ?_⟩
  · have hm : 0 < m := by simpa using h
    repeat walk_at "z"
    refine ⟨_, rfl, by unfold nz; rw [List.length_map]; omega, ?_⟩
    repeat walk_at "z"
    rw [fdiv_nat, fmod_nat]
    refine ⟨m / B, Nat.div_lt_self hm hB1, done ++ [m % B], rfl, ?_, ?_⟩
    · unfold nz
      rw [List.map_append]
      rfl
    · rw [List.append_assoc, ← hd, hw hm]
      rfl
  · have hm : m = 0 := by
      have := of_decide_eq_false h
      omega
    subst hm
    repeat walk_at "z"
    rw [wd_zero, List.append_nil] at hd
    rw [hd]
    exact fin0 k

def tz_is_whole : TZ := fun zs o R => ∃ n : Int, zs = [.int n] ∧ o = [] ∧ R (.bl true) []
theorem isA_int (n : Int) : (Z.int n).isA "int" = some true := by show kitB "int" "int" = _; decide +kernel
theorem isA_intb (n : Int) : (Z.int n).isA "bool" = some false := by show kitB "int" "bool" = _; decide +kernel
theorem isA_tup (l : List Z) : (Z.tup l).isA "tuple" = some true := by show kitB "tuple" "tuple" = _; decide +kernel
abbrev st_is_whole : Stmt := top 4
abbrev N_is_whole : List Str := ["value"]
theorem sc_is_whole : FnScope N_is_whole ["value"] (defScope st_is_whole) := ⟨rfl, rfl, rfl, by decide +kernel, rfl, by decide +kernel, by decide +kernel⟩
theorem c_is_whole {JC : Addr} (T : Tx K mg) (J : TJ K mg JC) : Cal P0 w K mg base "is_whole" 1 ["value"] (tz_is_whole) := by
  refine Cal.mk T.d_is_whole sc_is_whole (fun _ _ _ _ _ _ us hl => match us, hl with | [_], _ => rfl) fun f cdv A outer s H E hr => ?_
  refine ⟨_, (pss_one (ps_ret (pe_and (pe_callB (call_isiK2 (K := K)) (by rfl) T.b_isinstance (by decide +kernel) (pa_cons (pv 0) (pa_cons (pe_bltn (v := .ty "int") (by rfl) T.b_int (by decide +kernel) rfl) pa_nil))) (pe_one (pe_not (pe_callB (call_isiK2 (K := K)) (by rfl) T.b_isinstance (by decide +kernel) (pa_cons (pv 0) (pa_cons (pe_bltn (v := .ty "bool") (by rfl) T.b_bool (by decide +kernel) rfl) pa_nil)))))))), ?_⟩
  try dsimp only [cxK]
  rintro zs o R ⟨n, rfl, rfl, k⟩
  repeat walk_at "z"
  refine ⟨true, isA_int n, true, rfl, fun _ => ?_, fun h => nomatch h⟩
  repeat walk_at "z"
  refine ⟨false, isA_intb n, false, rfl, ?_⟩
  exact fin0 k
def tz_are_good_points : TZ := fun zs o R => ∃ (l : List Int) (b : Nat), zs = [.tup (l.map Z.int), .int b] ∧ o = [] ∧ b ≤ 29 ∧ (∀ p, p ∈ l → p < 2 ^ 60) ∧ R (.bl (goodB ((2 ^ b : Nat) : Int) l)) []
abbrev st_are_good_points : Stmt := top 10
abbrev N_are_good_points : List Str := ["points", "bits", "last", "point"]
theorem sc_are_good_points : FnScope N_are_good_points ["points", "bits"] (defScope st_are_good_points) := ⟨rfl, rfl, rfl, by decide +kernel, rfl, by decide +kernel, by decide +kernel⟩
theorem c_are_good_points {JC : Addr} (T : Tx K mg) (J : TJ K mg JC) : Cal P0 w K mg base "are_good_points" 2 ["points", "bits"] (tz_are_good_points) := by
  refine Cal.mk T.d_are_good_points sc_are_good_points (fun _ _ _ _ _ _ us hl => match us, hl with | [_, _], _ => rfl) fun f cdv A outer s H E hr => ?_
  have c_is_whole := @c_is_whole w K mg base JC T J
  have c_is_word_prime := @c_is_word_prime w K mg base JC T J
  refine ⟨_, (pss_cons (ps_if (pt_not (pt_val (pe_callB (call_isiK2 (K := K)) (by rfl) T.b_isinstance (by decide +kernel) (pa_cons (pv 0) (pa_cons (pe_bltn (v := .ty "tuple") (by rfl) T.b_tuple (by decide +kernel) rfl) pa_nil))))) (pss_one (ps_ret pe_bl)) pss_nil)
    (pss_cons (ps_set (i := 2) sc_are_good_points.nd rfl (Or.inl rfl) (pe_op op_shl pe_int (pv 1)))
    (pss_cons (ps_for PassesOwn.never rfl (pi_tupK (K := K) (pv 0)) (pg_name (i := 3) sc_are_good_points.nd rfl (Or.inl rfl)) (pss_cons (ps_if (PW.pt (pw_or (pt_not (pt_val (pe_callZ c_is_whole (hr.mono (by decide)) (pa_cons (pv 3) pa_nil)))) (pw_or (pt_cmpR op_ge (pv 3) (pv 2) (nomark _)) (pw_or1 (pt_not (pt_val (pe_callZ c_is_word_prime (hr.mono (by decide)) (pa_cons (pv 3) pa_nil)))))))) (pss_one (ps_ret pe_bl)) pss_nil)
    (pss_one (ps_set (i := 2) sc_are_good_points.nd rfl (Or.inl rfl) (pv 3)))))
    (pss_one (ps_ret pe_bl))))), ?_⟩
  try dsimp only [cxK]
  rintro zs o R ⟨l, b, rfl, rfl, hb, hl, k⟩
  repeat walk_at "z"
  refine ⟨true, isA_tup _, true, rfl, ?_⟩
  refine ⟨fun h => (nomatch h), fun _ => ?_⟩
  repeat walk_at "y"
  have e : (1 : Int) * 2 ^ (b : Int).toNat = ((2 ^ b : Nat) : Int) := by rw [Int.one_mul, Int.toNat_natCast]; norm_cast
  rw [e]
  generalize hL : ((2 ^ b : Nat) : Int) = L at k
  refine ws_seq (ws_for ?_)
  repeat walk_at "z"
  refine ⟨fun i r o => ∃ (last : Int) (x3 : Option Z), r = [some (.tup (l.map Z.int)), some (.int b), some (.int last), x3] ∧ o = [] ∧ goodB L l = goodB last (l.drop i), ⟨_, _, rfl, rfl, by rw [List.drop_zero]⟩, ?_, ?_⟩
  · rintro i z r o hz ⟨last, x3, rfl, rfl, hg⟩
    obtain ⟨q, hq, rfl⟩ : ∃ q, l[i]? = some q ∧ Z.int q = z := by simpa [List.getElem?_map] using hz
    obtain ⟨hi, eq⟩ := List.getElem?_eq_some_iff.mp hq
    rw [List.drop_eq_getElem_cons hi, eq] at hg
    have hg2 : goodB L l = (decide (q < last) && (prB q.toNat && goodB q (l.drop (i + 1)))) := hg
    repeat walk_at "z"
    refine ⟨rfl, q, rfl, rfl, ?_⟩
    repeat walk_at "z"
    refine ⟨fun _ => ?_, fun h => (nomatch h)⟩
    repeat walk_at "z"
    refine ⟨fun h1 => ?_, fun h1 => ?_⟩
    · have h2 := dec_f h1
      repeat walk_at "z"
      refine ⟨rfl, q, rfl, rfl, hl q (List.mem_of_getElem? hq), ?_⟩
      repeat walk_at "z"
      rw [decide_eq_true (show q < last by omega), Bool.true_and] at hg2
      refine ⟨fun h3 => ?_, fun h3 => ?_⟩
      · have h4 : prB q.toNat = false := by simpa using h3
        rw [h4, Bool.false_and] at hg2
        repeat walk_at "z"
        rw [hg2] at k
        exact fin0 k
      · have h4 : prB q.toNat = true := by simpa using h3
        rw [h4, Bool.true_and] at hg2
        repeat walk_at "z"
        exact ⟨_, _, rfl, rfl, hg2⟩
    · have h2 := dec_t h1
      rw [decide_eq_false (show ¬ q < last by omega), Bool.false_and] at hg2
      refine ⟨fun _ => ?_, fun h => (nomatch h)⟩
      repeat walk_at "z"
      rw [hg2] at k
      exact fin0 k
  · rintro r o ⟨last, x3, rfl, rfl, hg⟩
    rw [List.length_map, List.drop_length] at hg
    repeat walk_at "z"
    rw [hg] at k
    exact fin0 k
def tz_trimmed : TZ := fun zs o R => ∃ l : List Nat, zs = [.lst (nz l)] ∧ o = [] ∧ l.length ≤ 90000 ∧ ∀ e, e ≤ l.length → (∀ (j x : Nat), e ≤ j → l[j]? = some x → x = 0) → (∀ x : Nat, l[e - 1]? = some x → e = 0 ∨ x ≠ 0) → R (zn (l.take e)) []
theorem cutL_nz {ps : List Nat} {n : Nat} : cutZ (nz ps) none (some (n : Int)) = nz (ps.take n) := by
  unfold cutZ
  rw [HT.sIx_none, HT.sIx_nat, List.drop_zero, Nat.sub_zero, nz_len]
  unfold nz
  rw [← List.map_take]
  by_cases c : n ≤ ps.length
  · rw [Nat.min_eq_left c]
  · rw [Nat.min_eq_right (by omega), List.take_length, List.take_of_length_le (by omega)]
abbrev st_trimmed : Stmt := top 14
abbrev N_trimmed : List Str := ["numbers", "end"]
theorem sc_trimmed : FnScope N_trimmed ["numbers"] (defScope st_trimmed) := ⟨rfl, rfl, rfl, by decide +kernel, rfl, by decide +kernel, by decide +kernel⟩
theorem c_trimmed {JC : Addr} (T : Tx K mg) (J : TJ K mg JC) : Cal P0 w K mg base "trimmed" 1 ["numbers"] (tz_trimmed) := by
  refine Cal.mk T.d_trimmed sc_trimmed (fun _ _ _ _ _ _ us hl => match us, hl with | [_], _ => rfl) fun f cdv A outer s H E hr => ?_
  refine ⟨_, (pss_cons (ps_set (i := 1) sc_trimmed.nd rfl (Or.inl rfl) (pe_callB (call_lenK (K := K)) (by rfl) T.b_len (by decide +kernel) (pa_cons (pv 0) pa_nil)))
    (pss_cons (ps_while PassesOwn.never (PW.pt (pw_and (pt_cmpR op_gt (pv 1) pe_int (nomark _)) (pw_and1 (pt_cmpR op_eq (pe_ix (ix_listK (K := K)) (pv 0) (pe_op op_sub (pv 1) pe_int) (fun _ _ => rfl)) pe_int (nomark _))))) (pss_one (ps_set (i := 1) sc_trimmed.nd rfl (Or.inl rfl) (pe_op op_sub (pv 1) pe_int))))
    (pss_one (ps_ret (pe_callTy (call_tupK (K := K)) (by rfl) T.b_tuple (by decide +kernel) (pa_cons (pe_slice (sl_listK (K := K)) (pv 0) po_none (po_some (pv 1))) pa_nil)))))), ?_⟩
  try dsimp only [cxK]
  rintro zs o R ⟨l, rfl, rfl, hl, k⟩
  repeat walk_at "z"
  refine ws_while (fun m r o => r = [some (.lst (nz l)), some (.int (m : Nat))] ∧ o = [] ∧ m ≤ l.length ∧ ∀ (j x : Nat), m ≤ j → l[j]? = some x → x = 0) l.length ⟨by rw [nz_len]; rfl, rfl, Nat.le_refl _, fun j x hj hx => ?_⟩ ?_
  · rw [List.getElem?_eq_none hj] at hx
    cases hx
  rintro m r o ⟨rfl, rfl, hm, hz⟩
  have fin : (∀ x : Nat, l[m - 1]? = some x → m = 0 ∨ x ≠ 0) → R (zn (l.take m)) [] := k m hm hz
  repeat walk_at "z"
  refine ⟨fun h => ?_, fun h => ?_⟩
  · have h1 := dec_t h
    obtain ⟨x, hx⟩ : ∃ x, l[m - 1]? = some x := ⟨_, List.getElem?_eq_getElem (by omega)⟩
    have e : (m : Int) - 1 = ((m - 1 : Nat) : Int) := by omega
    repeat walk_at "z"
    rw [e]
    refine zo_ixL (atI_nz hx) ?_
    repeat walk_at "z"
    refine ⟨fun h => ?_, fun h => ?_⟩
    · have h2 := vi h
      repeat walk_at "z"
      rw [e]
      refine ⟨m - 1, by omega, rfl, rfl, by omega, fun j y hj hy => ?_⟩
      by_cases c : j = m - 1
      · subst c
        rw [hx] at hy
        cases hy
        omega
      · exact hz j y (by omega) hy
    · have h2 := vn h
      repeat walk_at "z"
      rw [cutL_nz]
      exact fin0 (fin fun y hy => .inr (by rw [hx] at hy; cases hy; omega))
  · have h1 := dec_f h
    have m0 : m = 0 := by omega
    subst m0
    refine ⟨fun h => (nomatch h), fun _ => ?_⟩
    repeat walk_at "z"
    rw [cutL_nz]
    exact fin0 (fin fun y hy => .inl rfl)
end

/-! ## B9 -/
section
variable {w : World} {K : PySem.W.Frag} {mg : Str → Option Value} {base : Heap}
def wholeV (op : Str) (x y : Int) : Option Z :=
  if op = "add" then some (.int (x + y)) else if op = "sub" then some (.int (x - y)) else if op = "mul" then some (.int (x * y)) else
  if op = "less" then some (.bl (decide (x < y))) else if op = "same" then some (.bl (decide (x = y))) else
  if op = "quotient" then some (if y < 1 then .non else .int (x / y)) else if op = "rest" then some (if y < 1 then .non else .int (x.fmod y)) else none
def tz_plain_whole : TZ := fun zs o R => ∃ (op : Str) (x y : Int) (v : Z), zs = [.str op, .non, .tup [.int x, .int y]] ∧ o = [] ∧ x.natAbs < 2 ^ 2000 ∧ y.natAbs < 2 ^ 2000 ∧ wholeV op x y = some v ∧ R v []
abbrev st_plain_whole : Stmt := top 372
abbrev N_plain_whole : List Str := ["op", "extra", "args", "x", "y"]
theorem sc_plain_whole : FnScope N_plain_whole ["op", "extra", "args"] (defScope st_plain_whole) := ⟨rfl, rfl, rfl, by decide +kernel, rfl, by decide +kernel, by decide +kernel⟩
theorem c_plain_whole {JC : Addr} (T : Tx K mg) (J : TJ K mg JC) : Cal P0 w K mg base "plain_whole" 1 ["op", "extra", "args"] (tz_plain_whole) := by
  refine Cal.mk T.d_plain_whole sc_plain_whole (fun _ _ _ _ _ _ us hl => match us, hl with | [_, _, _], _ => rfl) fun f cdv A outer s H E hr => ?_
  refine ⟨_, (pss_cons (ps_if (pt_cmpR op_eq (pv 0) pe_str (nomark _)) (pss_one (ps_ret (pv 1))) pss_nil)
    (pss_cons (ps_set (i := 3) sc_plain_whole.nd rfl (Or.inl rfl) (pe_ix (ix_tupK (K := K)) (pv 2) pe_int (fun _ _ => rfl)))
    (pss_cons (ps_if (pt_cmpR op_eq (pv 0) pe_str (nomark _)) (pss_one (ps_ret (pe_un un_neg (pv 3)))) pss_nil)
    (pss_cons (ps_if (pt_cmpR op_eq (pv 0) pe_str (nomark _)) pss_never pss_nil)
    (pss_cons (ps_if (pt_cmpR op_eq (pv 0) pe_str (nomark _)) (pss_one (ps_ret (pe_not (pv 3)))) pss_nil)
    (pss_cons (ps_set (i := 4) sc_plain_whole.nd rfl (Or.inl rfl) (pe_ix (ix_tupK (K := K)) (pv 2) pe_int (fun _ _ => rfl)))
    (pss_cons (ps_if (pt_cmpR (op_inK (K := K)) (pv 0) (pe_tup (pa_cons pe_str (pa_cons pe_str pa_nil))) (by rfl)) (pss_cons (ps_if (pt_cmpR op_lt (pv 4) pe_int (nomark _)) (pss_one (ps_ret pe_non)) pss_nil)
    (pss_one (ps_ret (pe_ifExp (pt_cmpR op_eq (pv 0) pe_str (nomark _)) (pe_op op_fdivW (pv 3) (pv 4)) (pe_op op_modN (pv 3) (pv 4)))))) pss_nil)
    (pss_cons (ps_if (pt_cmpR op_eq (pv 0) pe_str (nomark _)) (pss_one (ps_ret (pe_op op_add (pv 3) (pv 4)))) pss_nil)
    (pss_cons (ps_if (pt_cmpR op_eq (pv 0) pe_str (nomark _)) (pss_one (ps_ret (pe_op op_sub (pv 3) (pv 4)))) pss_nil)
    (pss_cons (ps_if (pt_cmpR op_eq (pv 0) pe_str (nomark _)) (pss_one (ps_ret (pe_op op_mulW (pv 3) (pv 4)))) pss_nil)
    (pss_cons (ps_if (pt_cmpR op_eq (pv 0) pe_str (nomark _)) (pss_one (ps_ret (pe_cmpR op_lt (pv 3) (pv 4) (nomark _)))) pss_nil)
    (pss_cons (ps_if (pt_cmpR op_eq (pv 0) pe_str (nomark _)) (pss_one (ps_ret (pe_and (pv 3) (pe_one (pv 4))))) pss_nil)
    (pss_cons (ps_if (pt_cmpR op_eq (pv 0) pe_str (nomark _)) (pss_one (ps_ret (pe_or (pv 3) (pe_one (pv 4))))) pss_nil)
    (pss_one (ps_ret (pe_cmpR op_eq (pv 3) (pv 4) (nomark _))))))))))))))))), ?_⟩
  try dsimp only [cxK]
  rintro zs o R ⟨op, x, y, v, rfl, rfl, hx, hy, hv, k⟩
  have ops : op = "add" ∨ op = "sub" ∨ op = "mul" ∨ op = "less" ∨ op = "same" ∨ op = "quotient" ∨ op = "rest" := by
    unfold wholeV at hv
    by_cases h1 : op = "add"; · exact .inl h1
    by_cases h2 : op = "sub"; · exact .inr (.inl h2)
    by_cases h3 : op = "mul"; · exact .inr (.inr (.inl h3))
    by_cases h4 : op = "less"; · exact .inr (.inr (.inr (.inl h4)))
    by_cases h5 : op = "same"; · exact .inr (.inr (.inr (.inr (.inl h5))))
    by_cases h6 : op = "quotient"; · exact .inr (.inr (.inr (.inr (.inr (.inl h6)))))
    by_cases h7 : op = "rest"; · exact .inr (.inr (.inr (.inr (.inr (.inr h7)))))
    rw [if_neg h1, if_neg h2, if_neg h3, if_neg h4, if_neg h5, if_neg h6, if_neg h7] at hv
    cases hv
  rcases ops with rfl | rfl | rfl | rfl | rfl | rfl | rfl
  · have e : v = .int (x + y) := (Option.some.inj hv).symm
    subst e
    repeat walk_at "k"
    exact fin0 k
  · have e : v = .int (x - y) := (Option.some.inj hv).symm
    subst e
    repeat walk_at "k"
    exact fin0 k
  · have e : v = .int (x * y) := (Option.some.inj hv).symm
    subst e
    repeat walk_at "k"
    refine zo_i (wide_mul hx hy (by decide) (by decide) (by decide)) ?_
    exact fin0 k
  · have e : v = .bl (decide (x < y)) := (Option.some.inj hv).symm
    subst e
    repeat walk_at "k"
    exact fin0 k
  · have e : v = .bl (decide (x = y)) := (Option.some.inj hv).symm
    subst e
    repeat walk_at "k"
    have e : decide ((Z.int x).v = (Z.int y).v) = decide (x = y) := by simp [Z.v]
    rw [e]
    exact fin0 k
  · have e : v = (if y < 1 then .non else .int (x / y)) := (Option.some.inj hv).symm
    subst e
    repeat walk_at "k"
    refine ⟨fun h => ?_, fun h => ?_⟩
    · rw [if_pos (dec_t h)] at k
      repeat walk_at "k"
      exact fin0 k
    · have h1 := dec_f h
      rw [if_neg h1] at k
      repeat walk_at "k"
      refine zo_i (wide_div (by omega) hy (by decide) (by decide)) ?_
      exact fin0 k
  · have e : v = (if y < 1 then .non else .int (x.fmod y)) := (Option.some.inj hv).symm
    subst e
    repeat walk_at "k"
    refine ⟨fun h => ?_, fun h => ?_⟩
    · rw [if_pos (dec_t h)] at k
      repeat walk_at "k"
      exact fin0 k
    · have h1 := dec_f h
      rw [if_neg h1] at k
      repeat walk_at "k"
      exact fin0 k
end

/-! ## B10 -/
section
variable {w : World} {K : PySem.W.Frag} {mg : Str → Option Value} {base : Heap}
def tz_is_parts : TZ := fun zs o R => ∃ (l : List Z) (n : Nat), zs = [.tup l, .int n] ∧ o = [] ∧ R (.bl (decide (l.length = n))) []
theorem isA_tup' (l : List Z) : (Z.tup l).isA "tuple" = some true := by show kitB "tuple" "tuple" = _; decide +kernel
abbrev st_is_parts : Stmt := top 19
abbrev N_is_parts : List Str := ["value", "many"]
theorem sc_is_parts : FnScope N_is_parts ["value", "many"] (defScope st_is_parts) := ⟨rfl, rfl, rfl, by decide +kernel, rfl, by decide +kernel, by decide +kernel⟩
theorem c_is_parts {JC : Addr} (T : Tx K mg) (J : TJ K mg JC) : Cal P0 w K mg base "is_parts" 1 ["value", "many"] (tz_is_parts) := by
  refine Cal.mk T.d_is_parts sc_is_parts (fun _ _ _ _ _ _ us hl => match us, hl with | [_, _], _ => rfl) fun f cdv A outer s H E hr => ?_
  refine ⟨_, (pss_one (ps_ret (pe_and (pe_callB (call_isiK2 (K := K)) (by rfl) T.b_isinstance (by decide +kernel) (pa_cons (pv 0) (pa_cons (pe_bltn (v := .ty "tuple") (by rfl) T.b_tuple (by decide +kernel) rfl) pa_nil))) (pe_one (pe_cmpR op_eq (pe_callB (call_lenK (K := K)) (by rfl) T.b_len (by decide +kernel) (pa_cons (pv 0) pa_nil)) (pv 1) (nomark _)))))), ?_⟩
  try dsimp only [cxK]
  rintro zs o R ⟨l, n, rfl, rfl, k⟩
  repeat walk_at "z"
  refine ⟨true, isA_tup' _, true, rfl, fun _ => ?_, fun h => nomatch h⟩
  repeat walk_at "z"
  have e : decide ((Z.int (l.length : Nat)).v = (Z.int (n : Nat)).v) = decide (l.length = n) := by
    by_cases c : l.length = n
    · rw [c, decide_eq_true rfl, decide_eq_true rfl]
    · rw [decide_eq_false c, decide_eq_false]
      intro h
      exact c (by have := V.int.inj h; omega)
  rw [e]
  exact fin0 k
theorem each_true : ∀ {zs ys : List Z}, Each (fun _ y => y = Z.bl true) zs ys → ys = (List.replicate zs.length true).map Z.bl
  | _, _, .nil => rfl
  | _, _, .cons a r => by
    rw [a, each_true r]
    rfl
def tz_is_numbers : TZ := fun zs o R => ∃ (l : List Int) (n : Nat), zs = [.tup (l.map Z.int), .int n] ∧ o = [] ∧ l.length ≤ 1000 ∧ R (.bl (decide (l.length = n))) []
abbrev st_is_numbers : Stmt := top 20
abbrev N_is_numbers : List Str := ["value", "many", "part"]
theorem sc_is_numbers : FnScope N_is_numbers ["value", "many"] (defScope st_is_numbers) := ⟨rfl, rfl, rfl, by decide +kernel, rfl, by decide +kernel, by decide +kernel⟩
theorem c_is_numbers {JC : Addr} (T : Tx K mg) (J : TJ K mg JC) : Cal P0 w K mg base "is_numbers" 2 ["value", "many"] (tz_is_numbers) := by
  refine Cal.mk T.d_is_numbers sc_is_numbers (fun _ _ _ _ _ _ us hl => match us, hl with | [_, _], _ => rfl) fun f cdv A outer s H E hr => ?_
  have c_is_parts := @c_is_parts w K mg base JC T J
  have c_is_whole := @c_is_whole w K mg base JC T J
  refine ⟨_, (pss_one (ps_ret (pe_and (pe_callZ c_is_parts (hr.mono (by decide)) (pa_cons (pv 0) (pa_cons (pv 1) pa_nil))) (pe_one (pe_callB (cr_allK (K := K) rfl) (by rfl) T.b_all (by decide +kernel) (pa_cons (pe_lc (own := [("part", 2)]) (g := gName 2) rfl sc_is_numbers.nd (pi_tupK (K := K) (pv 0)) (blkOk_by (N := N_is_numbers) (sc := defScope st_is_numbers) (by decide +kernel)) (fun _ _ _ _ _ => pg_name (i := 2) sc_is_numbers.nd rfl (Or.inl rfl)) (fun _ _ _ _ _ => pts_nil) (fun _ _ _ _ _ => (pe_callZ c_is_whole (hr.mono (by decide)) (pa_cons (pv 2) pa_nil)))) pa_nil)))))), ?_⟩
  try dsimp only [cxK]
  rintro zs o R ⟨l, n, rfl, rfl, hl, k⟩
  repeat walk_at "z"
  refine ⟨rfl, _, n, rfl, rfl, _, rfl, fun h => ?_, fun h => ?_⟩
  · rw [List.length_map] at h
    rw [h] at k
    repeat walk_at "z"
    refine we_lcG (j := 2) (fun _ y => y = Z.bl true) ?_
    repeat walk_at "z"
    refine ⟨by rw [List.length_map]; omega, fun z hz => ?_, fun ys hy => ?_⟩
    · obtain ⟨q, _, rfl⟩ := List.mem_map.mp hz
      repeat walk_at "z"
      exact ⟨rfl, q, rfl, rfl, rfl, rfl⟩
    · rw [each_true hy]
      repeat walk_at "z"
      refine zc_all ?_
      have e : (List.replicate (l.map Z.int).length true).all id = true := by simp
      rw [e]
      exact fin0 k
  · rw [List.length_map] at h
    rw [h] at k
    exact fin0 k
end

/-! ## M2 -/
section
variable {w : World} {K : PySem.W.Frag} {mg : Str → Option Value} {base : Heap}
/-! zero by rests -/
abbrev bN (n : Int) : Nat := PySem.Builtin.Int.intBits n
theorem bits_lt (n : Int) : n.natAbs < 2 ^ bN n := by
  unfold bN PySem.Builtin.Int.intBits
  by_cases h : n = 0
  · subst h; decide
  · rw [if_neg (by simpa using h)]
    exact Nat.lt_log2_self
theorem bits_nat {p : Nat} (h : 1 ≤ p) : bN (p : Int) = p.log2 + 1 := by
  unfold bN PySem.Builtin.Int.intBits
  rw [if_neg (by simp; omega)]
  rfl
theorem bits_low {n : Int} (h : n ≠ 0) : 2 ^ (bN n - 1) ≤ n.natAbs := by
  unfold bN PySem.Builtin.Int.intBits
  rw [if_neg (by simpa using h), Nat.add_sub_cancel]
  exact Nat.log2_self_le (by omega)
def tbN (t : List Int) : Nat := (t.map bN).sum
theorem tbits_nat : ∀ t : List Int, tbits t = (tbN t : Int)
  | [] => rfl
  | n :: t => by
    have ih := tbits_nat t
    unfold tbits tbN at *
    rw [List.map_cons, List.map_cons, List.sum_cons, List.sum_cons, ih]
    push_cast
    rfl
theorem prod_bd : ∀ (t : List Int) (a : Int), (t.foldl (fun a b => a * b) a).natAbs ≤ a.natAbs * 2 ^ tbN t
  | [], a => by simp [tbN]
  | n :: t, a => by
    have ih := prod_bd t (a * n)
    rw [List.foldl_cons]
    refine Nat.le_trans ih ?_
    unfold tbN
    rw [List.map_cons, List.sum_cons, Nat.pow_add, Int.natAbs_mul, ← Nat.mul_assoc]
    exact Nat.mul_le_mul_right _ (Nat.mul_le_mul_left _ (Nat.le_of_lt (bits_lt n)))
theorem prodI_bd (t : List Int) : (prodI t).natAbs ≤ 2 ^ tbN t := by
  have := prod_bd t 1
  rw [show (1 : Int).natAbs = 1 from rfl, Nat.one_mul] at this
  exact this
theorem grI_ge : ∀ (ts : List (List Int)) (g : Int), g ≤ grI g ts ∧ ∀ t, t ∈ ts → tbits t ≤ grI g ts
  | [], g => ⟨Int.le_refl _, fun t h => nomatch h⟩
  | s :: ts, g => by
    obtain ⟨h1, h2⟩ := grI_ge ts (if tbits s > g then tbits s else g)
    have h3 : g ≤ (if tbits s > g then tbits s else g) ∧ tbits s ≤ (if tbits s > g then tbits s else g) := by split <;> omega
    refine ⟨Int.le_trans h3.1 h1, fun t ht => ?_⟩
    rcases List.mem_cons.mp ht with rfl | ht
    · exact Int.le_trans h3.2 h1
    · exact h2 t ht
theorem tot_bd {X : Nat} : ∀ (ts : List (List Int)) (a : Int), (∀ t, t ∈ ts → (prodI t).natAbs ≤ X) → (ts.foldl (fun a t => a + prodI t) a).natAbs ≤ a.natAbs + ts.length * X
  | [], a, _ => by simp
  | s :: ts, a, h => by
    have ih := tot_bd ts (a + prodI s) fun t ht => h t (List.mem_cons_of_mem _ ht)
    have h1 := h s List.mem_cons_self
    rw [List.foldl_cons, List.length_cons, Nat.succ_mul]
    omega
theorem need_nn (ts : List (List Int)) : 0 ≤ needI ts := by
  have := (grI_ge ts 0).1
  unfold needI
  have : (0 : Int) ≤ bitsI ts.length := Int.natCast_nonneg _
  omega
theorem tot_need (ts : List (List Int)) : (totI ts).natAbs < 2 ^ (needI ts).toNat := by
  have g0 := (grI_ge ts 0).1
  have g1 := (grI_ge ts 0).2
  have h := tot_bd (X := 2 ^ (grI 0 ts).toNat) ts 0 fun t ht => by
    refine Nat.le_trans (prodI_bd t) (Nat.pow_le_pow_right (by decide) ?_)
    have := g1 t ht
    rw [tbits_nat] at this
    omega
  rw [show (0 : Int).natAbs = 0 from rfl, Nat.zero_add] at h
  have h2 : ts.length < 2 ^ bN (ts.length : Int) := bits_lt (ts.length : Int)
  have e : (needI ts).toNat = bN (ts.length : Int) + (grI 0 ts).toNat := by
    unfold needI
    show (grI 0 ts + ((bN (ts.length : Int) : Nat) : Int)).toNat = _
    omega
  rw [e, Nat.pow_add]
  exact Nat.lt_of_le_of_lt h (Nat.mul_lt_mul_of_pos_right h2 (Nat.two_pow_pos _))
def prodN : List Nat → Nat
  | [] => 1
  | p :: l => p * prodN l
def wN : List Nat → Nat
  | [] => 0
  | p :: l => p.log2 + wN l
theorem wN_le : ∀ {l : List Nat}, (∀ p, p ∈ l → 1 ≤ p) → 2 ^ wN l ≤ prodN l
  | [], _ => Nat.le_refl _
  | p :: l, h => by
    unfold wN prodN
    rw [Nat.pow_add]
    have := h p List.mem_cons_self
    exact Nat.mul_le_mul (Nat.log2_self_le (by omega)) (wN_le fun q hq => h q (List.mem_cons_of_mem _ hq))
theorem usedN_some {need : Int} : ∀ {l : List Nat} {w : Int} {k u : Nat}, (∀ p, p ∈ l → 1 ≤ p) → usedN need l w k = some u → k ≤ u ∧ u ≤ k + l.length ∧ need ≤ w + wN (l.take (u - k))
  | [], w, k, u, _, h => by
    unfold usedN at h
    split at h
    · cases h
      rw [Nat.sub_self]
      refine ⟨Nat.le_refl _, Nat.le_refl _, ?_⟩
      show need ≤ w + ((0 : Nat) : Int)
      omega
    · cases h
  | p :: l, w, k, u, hl, h => by
    unfold usedN at h
    split at h
    · cases h
      rw [Nat.sub_self]
      refine ⟨Nat.le_refl _, by omega, ?_⟩
      show need ≤ w + ((0 : Nat) : Int)
      omega
    · obtain ⟨h1, h2, h3⟩ := usedN_some (fun q hq => hl q (List.mem_cons_of_mem _ hq)) h
      refine ⟨by omega, by rw [List.length_cons]; omega, ?_⟩
      have e : u - k = (u - (k + 1)) + 1 := by omega
      rw [e, List.take_succ_cons]
      have hb := bits_nat (hl p List.mem_cons_self)
      have hb' : bitsI (p : Int) = ((p.log2 + 1 : Nat) : Int) := by
        show ((bN (p : Int) : Nat) : Int) = _
        rw [hb]
      rw [hb'] at h3
      show need ≤ w + ((p.log2 + wN (l.take (u - (k + 1))) : Nat) : Int)
      omega
theorem pr_dvd {q g : Nat} (h : Pr q) (hd : g ∣ q) : g = 1 ∨ g = q := by
  obtain ⟨e, rfl⟩ := hd
  obtain ⟨h1, h2⟩ := h
  by_cases g1 : g = 1
  · exact .inl g1
  by_cases e1 : e = 1
  · subst e1
    exact .inr (Nat.mul_one g).symm
  have g0 : g ≠ 0 := fun z => by subst z; omega
  have e0 : e ≠ 0 := fun z => by subst z; omega
  by_cases c : g ≤ e
  · exact absurd (Nat.mul_mod_right g e) (h2 g (by omega) (Nat.mul_le_mul_left g c))
  · exact absurd (Nat.mul_mod_left g e) (h2 e (by omega) (Nat.mul_le_mul_right e (by omega)))
theorem pr_cop {p q : Nat} (hp : Pr p) (hq : Pr q) (h : p ≠ q) : Nat.Coprime p q := by
  rcases pr_dvd hp (Nat.gcd_dvd_left p q) with h1 | h1
  · exact h1
  rcases pr_dvd hq (Nat.gcd_dvd_right p q) with h2 | h2
  · exact h2
  exact absurd (h1.symm.trans h2) h
theorem Desc.pr : ∀ {l : List Nat} {a p : Nat}, Desc a l → p ∈ l → p < a ∧ Pr p
  | q :: l, a, p, ⟨h1, h2, h3⟩, hm => by
    rcases List.mem_cons.mp hm with rfl | hm
    · exact ⟨h1, (prB_iff p).mp h2⟩
    · obtain ⟨h4, h5⟩ := h3.pr hm
      exact ⟨Nat.lt_trans h4 h1, h5⟩
theorem cop_prod {p : Nat} (hp : Pr p) : ∀ {l : List Nat}, (∀ q, q ∈ l → Pr q ∧ p ≠ q) → Nat.Coprime p (prodN l)
  | [], _ => Nat.coprime_one_right p
  | q :: l, h => Nat.Coprime.mul_right (pr_cop hp (h q List.mem_cons_self).1 (h q List.mem_cons_self).2) (cop_prod hp fun r hr => h r (List.mem_cons_of_mem _ hr))
theorem prod_dvd {n : Nat} : ∀ {l : List Nat} {a : Nat}, Desc a l → (∀ p, p ∈ l → p ∣ n) → prodN l ∣ n
  | [], _, _, _ => Nat.one_dvd n
  | p :: l, a, h, hd => by
    refine Nat.Coprime.mul_dvd_of_dvd_of_dvd (cop_prod (h.pr List.mem_cons_self).2 fun q hq => ?_) (hd p List.mem_cons_self) (prod_dvd h.2.2 fun q hq => hd q (List.mem_cons_of_mem _ hq))
    obtain ⟨h1, h2⟩ := Desc.pr h.2.2 hq
    exact ⟨h2, by omega⟩
/-- the rests at the used points tell whether the sum is 0 -/
theorem zero_math {l : List Nat} {L u : Nat} {ts : List (List Int)} (hd : Desc L l) (hu : usedI l (needI ts) = some u) : (∀ p, p ∈ l.take u → totI ts % (p : Int) = 0) ↔ totI ts = 0 := by
  refine ⟨fun h => ?_, fun h p _ => by rw [h]; rfl⟩
  have hp : ∀ p, p ∈ l → 1 ≤ p := fun p hp => by
    have := (hd.pr hp).2.1
    omega
  obtain ⟨_, h1, h2⟩ := usedN_some hp hu
  rw [Nat.sub_zero] at h2
  have hs : Desc L (l.take u) := Desc.sub (List.take_sublist u l) hd
  have h3 : prodN (l.take u) ∣ (totI ts).natAbs := prod_dvd hs fun p hp => by
    have := h p hp
    have hz := Int.dvd_of_emod_eq_zero this
    have := Int.natAbs_dvd_natAbs.mpr hz
    simpa using this
  have h4 := wN_le (l := l.take u) fun p hp' => hp p (List.mem_of_mem_take hp')
  have h5 : 2 ^ (needI ts).toNat ≤ 2 ^ wN (l.take u) := Nat.pow_le_pow_right (by decide) (by omega)
  have h6 := tot_need ts
  by_cases c : totI ts = 0
  · exact c
  · have := Nat.le_of_dvd (by omega) h3
    omega
theorem used_le {l : List Nat} {need : Int} {u : Nat} (hp : ∀ p, p ∈ l → 1 ≤ p) (hu : usedI l need = some u) : u ≤ l.length := by
  have := (usedN_some hp hu).2.1
  omega
/-! words -/
def wval (b : Nat) : List Nat → Nat
  | [] => 0
  | w :: ws => w + 2 ^ b * wval b ws
theorem wval_cons (b w : Nat) (l : List Nat) : wval b (w :: l) = w + 2 ^ b * wval b l := rfl
theorem wval_wd {b : Nat} (hb : 0 < b) (n : Nat) : wval b (wd b n) = n := by
  induction n using Nat.strongRecOn with
  | ind n ih =>
    by_cases h : n = 0
    · subst h
      rw [wd_zero]
      rfl
    · rw [wd_pos hb (by omega), wval_cons]
      rw [ih _ (Nat.div_lt_self (by omega) (Nat.one_lt_two_pow (by omega)))]
      exact Nat.mod_add_div n (2 ^ b)
theorem wd_lt {b : Nat} (hb : 0 < b) (n : Nat) : ∀ w, w ∈ wd b n → w < 2 ^ b := by
  induction n using Nat.strongRecOn with
  | ind n ih =>
    intro w hw
    by_cases h : n = 0
    · subst h
      rw [wd_zero] at hw
      cases hw
    · rw [wd_pos hb (by omega)] at hw
      rcases List.mem_cons.mp hw with rfl | hw
      · exact Nat.mod_lt _ (Nat.two_pow_pos b)
      · exact ih _ (Nat.div_lt_self (by omega) (Nat.one_lt_two_pow (by omega))) w hw
theorem wval_lt {b : Nat} : ∀ {l : List Nat}, (∀ w, w ∈ l → w < 2 ^ b) → wval b l < 2 ^ (b * l.length)
  | [], _ => by rw [List.length_nil, Nat.mul_zero]; exact Nat.one_pos
  | w :: l, h => by
    have ih := wval_lt (l := l) fun x hx => h x (List.mem_cons_of_mem _ hx)
    have h1 := h w List.mem_cons_self
    rw [wval_cons]
    rw [List.length_cons, Nat.mul_succ, Nat.add_comm (b * l.length) b, Nat.pow_add]
    have : 2 ^ b * (wval b l + 1) ≤ 2 ^ b * 2 ^ (b * l.length) := Nat.mul_le_mul_left _ ih
    rw [Nat.mul_add, Nat.mul_one] at this
    omega
/-- words laid well: each below the base, the last one not 0 -/
def Nrm (b : Nat) : List Nat → Prop
  | [] => True
  | [w] => 0 < w ∧ w < 2 ^ b
  | w :: l => w < 2 ^ b ∧ Nrm b l
theorem nrm_cons {b w x : Nat} {l : List Nat} : Nrm b (w :: x :: l) ↔ w < 2 ^ b ∧ Nrm b (x :: l) := Iff.rfl
theorem nrm_pos {b : Nat} : ∀ {l : List Nat}, Nrm b l → l ≠ [] → 2 ^ (b * (l.length - 1)) ≤ wval b l
  | [], _, h => absurd rfl h
  | [w], h, _ => by
    have := h.1
    rw [wval_cons]
    simp
    omega
  | w :: x :: l, h, _ => by
    have ih := nrm_pos (l := x :: l) h.2 (by simp)
    rw [wval_cons]
    have e : b * ((w :: x :: l).length - 1) = b + b * ((x :: l).length - 1) := by
      simp only [List.length_cons, Nat.add_sub_cancel]
      rw [Nat.mul_succ, Nat.add_comm]
    rw [e, Nat.pow_add]
    have := Nat.mul_le_mul_left (2 ^ b) ih
    omega
theorem nrm_wd {b : Nat} (hb : 0 < b) (n : Nat) : Nrm b (wd b n) := by
  induction n using Nat.strongRecOn with
  | ind n ih =>
    by_cases h : n = 0
    · subst h
      rw [wd_zero]
      trivial
    · rw [wd_pos hb (by omega)]
      have ih2 := ih _ (Nat.div_lt_self (by omega) (Nat.one_lt_two_pow (n := b) (by omega)))
      have hm := Nat.mod_lt n (Nat.two_pow_pos b)
      by_cases h2 : n / 2 ^ b = 0
      · rw [h2, wd_zero]
        have := Nat.mod_add_div n (2 ^ b)
        rw [h2, Nat.mul_zero, Nat.add_zero] at this
        exact ⟨by rw [this]; exact Nat.pos_of_ne_zero h, hm⟩
      · rw [wd_pos hb (Nat.pos_of_ne_zero h2)] at ih2 ⊢
        exact ⟨hm, ih2⟩
theorem nrm_lt {b : Nat} : ∀ {l : List Nat}, Nrm b l → ∀ w, w ∈ l → w < 2 ^ b
  | [], _, w, h => nomatch h
  | [x], h, w, hw => by
    rw [List.mem_singleton.mp hw]
    exact h.2
  | x :: y :: l, h, w, hw => by
    rcases List.mem_cons.mp hw with rfl | hw
    · exact h.1
    · exact nrm_lt (l := y :: l) h.2 w hw
theorem nrm_uniq {b : Nat} (hb : 0 < b) : ∀ {l : List Nat}, Nrm b l → l = wd b (wval b l)
  | [], _ => (wd_zero b).symm
  | w :: l, h => by
    have hw : w < 2 ^ b := nrm_lt h w List.mem_cons_self
    have hp : 0 < wval b (w :: l) := Nat.lt_of_lt_of_le (Nat.two_pow_pos _) (nrm_pos h (by simp))
    have hl : Nrm b l := by
      cases l with
      | nil => trivial
      | cons x l => exact h.2
    rw [wd_pos hb hp]
    have e1 : wval b (w :: l) % 2 ^ b = w := by
      rw [wval_cons, Nat.add_mul_mod_self_left, Nat.mod_eq_of_lt hw]
    have e2 : wval b (w :: l) / 2 ^ b = wval b l := by
      rw [wval_cons, Nat.add_mul_div_left _ _ (Nat.two_pow_pos b), Nat.div_eq_of_lt hw, Nat.zero_add]
    rw [e1, e2, ← nrm_uniq hb hl]
theorem wval_app {b : Nat} : ∀ (x y : List Nat), wval b (x ++ y) = wval b x + 2 ^ (b * x.length) * wval b y
  | [], y => by simp [wval]
  | w :: x, y => by
    rw [List.cons_append, wval_cons, wval_cons]
    rw [wval_app x y, List.length_cons, Nat.mul_succ, Nat.add_comm (b * x.length) b, Nat.pow_add, Nat.mul_add, Nat.mul_assoc]
    omega
theorem wval_set {b : Nat} : ∀ {l : List Nat} {i w v : Nat}, l[i]? = some w → wval b (l.set i v) + 2 ^ (b * i) * w = wval b l + 2 ^ (b * i) * v
  | [], i, w, v, h => by simp at h
  | x :: l, 0, w, v, h => by
    have e : x = w := Option.some.inj h
    subst e
    show v + 2 ^ b * wval b l + 2 ^ (b * 0) * x = x + 2 ^ b * wval b l + 2 ^ (b * 0) * v
    rw [Nat.mul_zero, Nat.pow_zero]
    omega
  | x :: l, i + 1, w, v, h => by
    have ih := wval_set (b := b) (l := l) (i := i) (w := w) (v := v) h
    show x + 2 ^ b * wval b (l.set i v) + 2 ^ (b * (i + 1)) * w = x + 2 ^ b * wval b l + 2 ^ (b * (i + 1)) * v
    have e : 2 ^ (b * (i + 1)) = 2 ^ b * 2 ^ (b * i) := by rw [Nat.mul_succ, Nat.add_comm, Nat.pow_add]
    have := congrArg (2 ^ b * ·) ih
    simp only [Nat.mul_add] at this
    rw [e, Nat.mul_assoc, Nat.mul_assoc]
    omega
/-- fewer words, less -/
theorem wd_shorter {b x y : Nat} (hb : 0 < b) (h : (wd b x).length < (wd b y).length) : x < y := by
  have h1 := wval_lt (wd_lt hb x)
  rw [wval_wd hb] at h1
  have h2 := nrm_pos (nrm_wd hb y) (fun z => by rw [z] at h; simp at h)
  rw [wval_wd hb] at h2
  refine Nat.lt_of_lt_of_le h1 (Nat.le_trans (Nat.pow_le_pow_right (by decide) (Nat.mul_le_mul_left b (by omega))) h2)
/-- the greatest unlike words tell -/
theorem top_differs {b : Nat} {x y : List Nat} {i v w : Nat} (hx : ∀ w, w ∈ x → w < 2 ^ b) (hy : ∀ w, w ∈ y → w < 2 ^ b) (h : x.drop (i + 1) = y.drop (i + 1)) (hv : x[i]? = some v) (hw : y[i]? = some w) (hlt : v < w) : wval b x < wval b y := by
  obtain ⟨hi, ei⟩ := List.getElem?_eq_some_iff.mp hv
  obtain ⟨hj, ej⟩ := List.getElem?_eq_some_iff.mp hw
  have e1 : x = x.take i ++ v :: x.drop (i + 1) := by
    rw [← ei, ← List.drop_eq_getElem_cons hi, List.take_append_drop]
  have e2 : y = y.take i ++ w :: y.drop (i + 1) := by
    rw [← ej, ← List.drop_eq_getElem_cons hj, List.take_append_drop]
  have h1 := wval_lt (b := b) (l := x.take i) fun w hw => hx w (List.mem_of_mem_take hw)
  rw [e1, e2, wval_app, wval_app, h, wval_cons, wval_cons]
  have l1 : (x.take i).length = i := by rw [List.length_take]; omega
  have l2 : (y.take i).length = i := by rw [List.length_take]; omega
  rw [l1, l2]
  rw [l1] at h1
  have h2 : 2 ^ (b * i) * (v + 1) ≤ 2 ^ (b * i) * w := Nat.mul_le_mul_left _ hlt
  rw [Nat.mul_add, Nat.mul_one] at h2
  rw [Nat.mul_add, Nat.mul_add]
  omega
theorem wd_cnt {b : Nat} (hb : 0 < b) (n : Nat) : (wd b n).length = (bN (n : Int) + b - 1) / b := by
  by_cases h : n = 0
  · subst h
    rw [wd_zero]
    show 0 = (0 + b - 1) / b
    rw [Nat.div_eq_of_lt (by omega)]
  · rw [bits_nat (by omega)]
    have h1 := wval_lt (wd_lt hb n)
    rw [wval_wd hb] at h1
    have hne : wd b n ≠ [] := fun z => by rw [wd_pos hb (by omega)] at z; cases z
    have hl : 0 < (wd b n).length := List.length_pos_iff.mpr hne
    have h2 := nrm_pos (nrm_wd hb n) hne
    rw [wval_wd hb] at h2
    generalize (wd b n).length = len at h1 h2 hl
    have h3 : n.log2 < b * len := (Nat.log2_lt h).mpr h1
    have h4 : b * (len - 1) ≤ n.log2 := (Nat.le_log2 h).mpr h2
    obtain ⟨m, rfl⟩ : ∃ m, len = m + 1 := ⟨len - 1, by omega⟩
    rw [Nat.add_sub_cancel] at h4
    rw [Nat.mul_succ] at h3
    symm
    rw [show n.log2 + 1 + b - 1 = n.log2 + b from by omega, Nat.add_div_right _ hb]
    congr 1
    refine Nat.div_eq_of_lt_le ?_ ?_
    · rw [Nat.mul_comm]; exact h4
    · rw [Nat.mul_comm, Nat.mul_succ]; exact h3
end

/-! ## M3 -/
section
variable {w : World} {K : PySem.W.Frag} {mg : Str → Option Value} {base : Heap}
theorem take_wval {b : Nat} {l : List Nat} {i x : Nat} (h : l[i]? = some x) : wval b (l.take (i + 1)) = wval b (l.take i) + 2 ^ (b * i) * x := by
  have hi := (List.getElem?_eq_some_iff.mp h).1
  rw [take_more h, wval_app, List.length_take, Nat.min_eq_left (by omega), wval_cons]
  show _ + _ * (x + 2 ^ b * 0) = _
  rw [Nat.mul_zero, Nat.add_zero]
theorem row_step {b i q x y w high A Y : Nat} {ws : List Nat} (hw : ws[i + q]? = some w) (inv : wval b ws + 2 ^ (b * (i + q)) * high = A + 2 ^ (b * i) * (x * Y)) :
    wval b (ws.set (i + q) ((x * y + w + high) % 2 ^ b)) + 2 ^ (b * (i + (q + 1))) * ((x * y + w + high) / 2 ^ b) = A + 2 ^ (b * i) * (x * (Y + 2 ^ (b * q) * y)) := by
  have h1 := wval_set (b := b) (v := (x * y + w + high) % 2 ^ b) hw
  have h2 := Nat.mod_add_div (x * y + w + high) (2 ^ b)
  have e1 : 2 ^ (b * (i + (q + 1))) = 2 ^ (b * (i + q)) * 2 ^ b := by rw [← Nat.pow_add, ← Nat.mul_succ]; rfl
  have e2 : 2 ^ (b * i) * (x * (Y + 2 ^ (b * q) * y)) = 2 ^ (b * i) * (x * Y) + 2 ^ (b * (i + q)) * (x * y) := by
    rw [Nat.mul_add, Nat.mul_add, Nat.mul_add b i q, Nat.pow_add]
    congr 1
    rw [Nat.mul_left_comm x, Nat.mul_assoc]
  have h3 : 2 ^ (b * (i + q)) * ((x * y + w + high) % 2 ^ b) + 2 ^ (b * (i + q)) * (2 ^ b * ((x * y + w + high) / 2 ^ b)) = 2 ^ (b * (i + q)) * (x * y) + 2 ^ (b * (i + q)) * w + 2 ^ (b * (i + q)) * high := by
    rw [← Nat.mul_add, h2, Nat.mul_add, Nat.mul_add]
  rw [e1, e2, Nat.mul_assoc]
  omega
theorem nrm_of {b : Nat} : ∀ {l : List Nat}, (∀ w, w ∈ l → w < 2 ^ b) → (∀ x, l[l.length - 1]? = some x → x ≠ 0) → Nrm b l
  | [], _, _ => trivial
  | [w], h, h2 => ⟨Nat.pos_of_ne_zero (h2 w rfl), h w List.mem_cons_self⟩
  | w :: x :: l, h, h2 => ⟨h w List.mem_cons_self, nrm_of (l := x :: l) (fun v hv => h v (List.mem_cons_of_mem _ hv)) fun v hv => h2 v (by simpa using hv)⟩
theorem wval_zero {b : Nat} : ∀ {l : List Nat}, (∀ x, x ∈ l → x = 0) → wval b l = 0
  | [], _ => rfl
  | w :: l, h => by
    rw [wval_cons, h w List.mem_cons_self, wval_zero fun x hx => h x (List.mem_cons_of_mem _ hx), Nat.mul_zero]
theorem trim_math {b e : Nat} {l : List Nat} (hb : 0 < b) (he : e ≤ l.length) (hl : ∀ w, w ∈ l → w < 2 ^ b) (hz : ∀ (j x : Nat), e ≤ j → l[j]? = some x → x = 0) (hn : ∀ x : Nat, l[e - 1]? = some x → e = 0 ∨ x ≠ 0) : l.take e = wd b (wval b l) := by
  have h1 : wval b l = wval b (l.take e) := by
    have : l = l.take e ++ l.drop e := (List.take_append_drop e l).symm
    conv => lhs; rw [this]
    rw [wval_app, wval_zero (l := l.drop e) fun x hx => ?_, Nat.mul_zero, Nat.add_zero]
    obtain ⟨j, hj⟩ := List.getElem?_of_mem hx
    rw [List.getElem?_drop] at hj
    exact hz _ x (by omega) hj
  have h2 : Nrm b (l.take e) := nrm_of (fun w hw => hl w (List.mem_of_mem_take hw)) fun x hx => by
    rw [List.length_take, Nat.min_eq_left he] at hx
    have e0 : e ≠ 0 := fun z => by
      subst z
      simp at hx
    rw [List.getElem?_take_of_lt (by omega)] at hx
    rcases hn x hx with h | h
    · exact absurd h e0
    · exact h
  rw [h1]
  exact nrm_uniq hb h2
theorem total_lt {b x y w h : Nat} (hx : x < 2 ^ b) (hy : y < 2 ^ b) (hw : w < 2 ^ b) (hh : h < 2 ^ b) : (x * y + w + h) / 2 ^ b < 2 ^ b := by
  rw [Nat.div_lt_iff_lt_mul (Nat.two_pow_pos b)]
  generalize 2 ^ b = C at *
  obtain ⟨B, rfl⟩ : ∃ B, C = B + 1 := ⟨C - 1, by omega⟩
  have h1 : x * y ≤ B * B := Nat.mul_le_mul (by omega) (by omega)
  have h2 : (B + 1) * (B + 1) = B * B + B + B + 1 := by rw [Nat.add_mul, Nat.mul_add]; omega
  omega
end

/-! ## ZM -/
section
variable {w : World} {K : PySem.W.Frag} {mg : Str → Option Value} {base : Heap}
/-- a judge's points: none, good ones, bad ones -/
inductive JP where
  | no | good (l : List Nat) | bad (l : List Int)
def JP.z : JP → Z
  | .no => .non | .good l => zn l | .bad l => .tup (l.map Z.int)
def JP.g : JP → Bool
  | .bad _ => false | _ => true
def jF (b : Nat) (jp : JP) (st mo : Int) : List (Str × Z) := [("bits", .int b), ("points", jp.z), ("steps", .int st), ("most", .int mo), ("good", .bl jp.g)]
def jO (JC dx : Addr) (b : Nat) (jp : JP) (st mo : Int) : OZ := .ins JC dx (jF b jp st mo)
structure JOk (b : Nat) (jp : JP) : Prop where
  hb : 1 ≤ b ∧ b ≤ 16
  hg : ∀ l, jp = .good l → Desc (2 ^ b) l ∧ l.length ≤ 200
  hx : ∀ l, jp = .bad l → goodB ((2 ^ b : Nat) : Int) l = false ∧ ∀ p, p ∈ l → p < 2 ^ 60
def AtJ (JC : Addr) (r : RR) (o : OO) (i : Nat) (k : Addr → Addr → Nat → JP → Int → Int → Prop) : Prop := ∃ (a dx : Addr) (b : Nat) (jp : JP) (st mo : Int), r[i]? = some (some (.ref a)) ∧ o[0]? = some (a, jO JC dx b jp st mo) ∧ k a dx b jp st mo
theorem atJ {JC : Addr} {r : RR} {o : OO} {i : Nat} {k : Addr → Addr → Nat → JP → Int → Int → Prop} (h : ∃ (a dx : Addr) (b : Nat) (jp : JP) (st mo : Int), r[i]? = some (some (.ref a)) ∧ o[0]? = some (a, jO JC dx b jp st mo) ∧ k a dx b jp st mo) : AtJ JC r o i k := h
section
variable {K : PySem.W.Frag} {mg : Str → Option Value} {JC : Addr} {te : TE} {r : RR} {o : OO} {P : Z → OO → Prop} {nx : NN} {rt : RT} {bk ct : NN} {i : Nat}
theorem we_fB (J : TJ K mg JC) (h : ∃ (a dx : Addr) (b : Nat) (jp : JP) (st mo : Int), r[i]? = some (some (.ref a)) ∧ o[0]? = some (a, jO JC dx b jp st mo) ∧ P (.int b) o) : WE K (tFld K (tVar i) "bits") r o P := by
  obtain ⟨a, dx, b, jp, st, mo, h1, h2, h3⟩ := h
  exact we_fld (we_var h1 ⟨0, a, JC, dx, _, _, rfl, h2, J.cl, J.n_bits, rfl, h3⟩)
theorem we_fP (J : TJ K mg JC) (h : ∃ (a dx : Addr) (b : Nat) (jp : JP) (st mo : Int), r[i]? = some (some (.ref a)) ∧ o[0]? = some (a, jO JC dx b jp st mo) ∧ P jp.z o) : WE K (tFld K (tVar i) "points") r o P := by
  obtain ⟨a, dx, b, jp, st, mo, h1, h2, h3⟩ := h
  exact we_fld (we_var h1 ⟨0, a, JC, dx, _, _, rfl, h2, J.cl, J.n_points, rfl, h3⟩)
theorem we_fS (J : TJ K mg JC) (h : ∃ (a dx : Addr) (b : Nat) (jp : JP) (st mo : Int), r[i]? = some (some (.ref a)) ∧ o[0]? = some (a, jO JC dx b jp st mo) ∧ P (.int st) o) : WE K (tFld K (tVar i) "steps") r o P := by
  obtain ⟨a, dx, b, jp, st, mo, h1, h2, h3⟩ := h
  exact we_fld (we_var h1 ⟨0, a, JC, dx, _, _, rfl, h2, J.cl, J.n_steps, rfl, h3⟩)
theorem we_fM (J : TJ K mg JC) (h : ∃ (a dx : Addr) (b : Nat) (jp : JP) (st mo : Int), r[i]? = some (some (.ref a)) ∧ o[0]? = some (a, jO JC dx b jp st mo) ∧ P (.int mo) o) : WE K (tFld K (tVar i) "most") r o P := by
  obtain ⟨a, dx, b, jp, st, mo, h1, h2, h3⟩ := h
  exact we_fld (we_var h1 ⟨0, a, JC, dx, _, _, rfl, h2, J.cl, J.n_most, rfl, h3⟩)
theorem we_fG (J : TJ K mg JC) (h : ∃ (a dx : Addr) (b : Nat) (jp : JP) (st mo : Int), r[i]? = some (some (.ref a)) ∧ o[0]? = some (a, jO JC dx b jp st mo) ∧ P (.bl jp.g) o) : WE K (tFld K (tVar i) "good") r o P := by
  obtain ⟨a, dx, b, jp, st, mo, h1, h2, h3⟩ := h
  exact we_fld (we_var h1 ⟨0, a, JC, dx, _, _, rfl, h2, J.cl, J.n_good, rfl, h3⟩)
theorem ws_fS (J : TJ K mg JC) (h : WE K te r o fun y o1 => ∃ n, y = .int n ∧ AtJ JC r o1 i fun a dx b jp _ mo => nx r (o1.set 0 (a, jO JC dx b jp n mo))) : WS K (sFld K (tVar i) te "steps") nx rt bk ct r o := ws_fld (h.imp fun y o1 ⟨n, e, a, dx, b, jp, st, mo, h1, h2, h3⟩ => by
  subst e
  exact we_var h1 ⟨0, a, JC, dx, _, rfl, h2, J.cl, J.n_steps, by show (5 : Nat) < 1000; decide, h3⟩)
theorem ws_fM (J : TJ K mg JC) (h : WE K te r o fun y o1 => ∃ n, y = .int n ∧ AtJ JC r o1 i fun a dx b jp st _ => nx r (o1.set 0 (a, jO JC dx b jp st n))) : WS K (sFld K (tVar i) te "most") nx rt bk ct r o := ws_fld (h.imp fun y o1 ⟨n, e, a, dx, b, jp, st, mo, h1, h2, h3⟩ => by
  subst e
  exact we_var h1 ⟨0, a, JC, dx, _, rfl, h2, J.cl, J.n_most, by show (5 : Nat) < 1000; decide, h3⟩)
end
theorem good_desc : ∀ {l : List Nat} {a : Nat}, Desc a l → goodB (a : Int) (l.map fun n : Nat => (n : Int)) = true
  | [], _, _ => rfl
  | p :: l, a, ⟨h1, h2, h3⟩ => by
    show (decide ((p : Int) < (a : Int)) && (prB (p : Int).toNat && goodB (p : Int) (l.map fun n : Nat => (n : Int)))) = true
    rw [decide_eq_true (by omega), Int.toNat_natCast, h2, good_desc h3]
    rfl
theorem nz_ints (l : List Nat) : nz l = (l.map fun n : Nat => (n : Int)).map Z.int := by
  unfold nz
  rw [List.map_map]
  rfl
theorem ws_fN {K : PySem.W.Frag} {mg : Str → Option Value} {JC : Addr} {te : TE} {r : RR} {o : OO} {nx : NN} {rt : RT} {bk ct : NN} {i : Nat} {f : Str} (J : TJ K mg JC) (hn : NoAttr K JC f) (h : WE K te r o fun y o1 => ∃ (a dx : Addr) (fs : List (Str × Z)), r[i]? = some (some (.ref a)) ∧ o1[0]? = some (a, .ins JC dx fs) ∧ fs.length < 1000 ∧ nx r (o1.set 0 (a, .ins JC dx (putZ f y fs)))) :
    WS K (sFld K (tVar i) te f) nx rt bk ct r o := ws_fld (h.imp fun y o1 ⟨a, dx, fs, h1, h2, hl, h3⟩ => we_var h1 ⟨0, a, JC, dx, fs, rfl, h2, J.cl, hn, hl, h3⟩)
theorem dec_iff {p q : Prop} [Decidable p] [Decidable q] (h : p ↔ q) : decide p = decide q := by
  by_cases c : p
  · rw [decide_eq_true c, decide_eq_true (h.mp c)]
  · rw [decide_eq_false c, decide_eq_false fun z => c (h.mpr z)]
theorem deq (a b : Int) : decide ((Z.int a).v = (Z.int b).v) = decide (a = b) := dec_iff ⟨fun h => V.int.inj h, fun h => congrArg V.int h⟩
theorem deqB (a b : Bool) : decide ((Z.bl a).v = (Z.bl b).v) = decide (a = b) := dec_iff ⟨fun h => V.bl.inj h, fun h => congrArg V.bl h⟩
theorem finJ {R : Z → OO → Prop} {j : Addr} {c c' : OZ} {v : Z} (h : R v [(j, c')]) : FinZ R [(j, c)] v [(j, c')] := ⟨[(j, c')], [], rfl, rfl, h⟩
theorem oneJ {j : Addr} {c c' : OZ} (h : ([(j, c)] : OO) = [(j, c')]) : c = c' := by
  cases h
  rfl
section
variable {K : PySem.W.Frag} {te tb : TE} {r : RR} {o : OO} {nx : NN} {rt : RT} {bk ct : NN}
theorem ws_unpT {n : Nat} {gs : TGs} (h : WE K te r o fun z o1 => WG K (gTup K n gs) z r o1 fun r' => nx r' o1) : WS K (tAsg te (gTup K n gs)) nx rt bk ct r o := ws_unp h
theorem ws_unpL {n : Nat} {gs : TGs} (h : WE K te r o fun z o1 => WG K (gLst K n gs) z r o1 fun r' => nx r' o1) : WS K (tAsg te (gLst K n gs)) nx rt bk ct r o := ws_unp h
/-- xs[e] = v, xs the j-th of ours -/
theorem ws_six0 {i : Nat} (h : ∃ a, r[i]? = some (some (.ref a)) ∧ WE K te r o fun y o1 => WE K tb r o1 fun n o2 => ∃ j xs k l, n = .int k ∧ o2[j]? = some (a, .lst xs) ∧ ixN xs.length k = some l ∧ nx r (o2.set j (a, .lst (xs.set l y)))) :
    WS K (tAsg te (gSub (tVar i) tb rSetL)) nx rt bk ct r o := by
  obtain ⟨a, h1, h2⟩ := h
  exact fun _ _ σ Hb O H D C S =>
    h2 _ _ σ Hb O H S _ fun v y o1 Hb1 O1 H1 e1 S1 d1 k1 => by
      obtain ⟨w, hw, dw⟩ := S1.sl i _ h1
      cases dw
      refine ⟨_, hw, k1 _ _ σ Hb1 O1 H1 S1 _ fun vn n o2 Hb2 O2 H2 e2 S2 d2 k2 => ?_⟩
      obtain ⟨j, xs, k, l, rfl, hx, hl, k3⟩ := k2
      cases d2
      obtain ⟨_, h1, hb1, vs, rfl, db⟩ := S2.ow j a _ hx
      exact ⟨a, vs, k, l, rfl, rfl, S2.lay.oh _ _ hb1, by rw [db.len]; exact hl, C.cn _ _ _ Hb2 _ _ (S2.sto hx (c' := .lst (xs.set l y)) (h' := .lst (vs.set l v)) ⟨_, rfl, db.set l (d1.mono e2)⟩) k3⟩
end
/-- a comprehension told item by item -/
theorem we_lcI {K : PySem.W.Frag} {r : RR} {o : OO} {P : Z → OO → Prop} {te : TE} {wi : TI} {j : Nat} (ys : List Z) (h : WI K wi r o fun zs o1 => zs.length ≤ 99999 ∧ ys.length = zs.length ∧ (∀ (i : Nat) (z : Z), zs[i]? = some z → WE K te (r.set j (some z)) o1 fun y o2 => o2 = o1 ∧ ys[i]? = some y) ∧ P (.lst ys) o1) :
    WE K (tLc wi (gName j) tYes te [j]) r o P := we_lc fun _ _ σ Hb O H S R q => h _ _ σ Hb O H S R fun J zs o1 Hb1 O1 H1 e1 S1 w k => q J zs o1 Hb1 O1 H1 e1 S1 w
  ⟨k.1, fun i acc o' => o' = o1 ∧ acc = ys.take i, ⟨rfl, rfl⟩, fun i z acc o' hz ⟨ho, ha⟩ => wt_yes ⟨fun _ => by
      subst ho
      refine (k.2.2.1 i z hz).imp fun y o2 ⟨h1, h2⟩ => ⟨h1, ?_⟩
      rw [take_more h2, ha], fun e => nomatch e⟩, fun acc o' ⟨ho, ha⟩ => by
      subst ho
      rw [ha, ← k.2.1, List.take_length]
      exact k.2.2.2⟩
theorem map_at {α β : Type} {f : α → β} {l : List α} {i : Nat} {a : α} (h : l[i]? = some a) : (l.map f)[i]? = some (f a) := by
  rw [List.getElem?_map, h]
  rfl
theorem map_of {α β : Type} {f : α → β} {l : List α} {i : Nat} {b : β} (h : (l.map f)[i]? = some b) : ∃ a, l[i]? = some a ∧ b = f a := by
  rw [List.getElem?_map] at h
  cases e : l[i]? with
  | none => rw [e] at h; cases h
  | some a =>
    rw [e] at h
    cases h
    exact ⟨a, rfl, rfl⟩
section
variable {K : PySem.W.Frag} {mg : Str → Option Value} {r : RR} {o : OO} {P : Z → OO → Prop}
theorem we_glA {a : Addr} {x : Str} {ss : List Str} (h : mg x = some (.ref a) ∧ ∀ H : Hp, SqT K H a (ss.map V.str)) (k : P (.tup (ss.map Z.str)) o) : WE K (tC (.ref a)) r o P := we_gl h.2 k
theorem eqv_nil (l : List Int) : PyData.eqv (Z.tup (l.map Z.int)).d (Z.tup []).d = decide (l = []) := by
  cases l with
  | nil => rfl
  | cons a l => 
    simp only [List.map_cons, Z.d, Z.ds, PyData.eqv, PyData.eqvAll]
    rfl
theorem zo_ne0 {l : List Int} (k : P (.bl (!decide (l = []))) o) : ZO K (rNeD K) (.tup (l.map Z.int)) (.tup []) r o P := zo_neD ⟨ints_plain l, rfl, ints_shaped l, ints_shaped [], by rw [eqv_nil]; exact k⟩
theorem zo_eq0 {l : List Int} (k : P (.bl (decide (l = []))) o) : ZO K (rEqD K) (.tup (l.map Z.int)) (.tup []) r o P := zo_eqD ⟨ints_plain l, rfl, ints_shaped l, ints_shaped [], by rw [eqv_nil]; exact k⟩
end
end

end K76

namespace K76
open PySem PySem.W PyProof.Rows L2 Evl
/-- the side conditions -/
local macro_rules | `(tactic| walk_at "side") => `(tactic| first | decide | omega | (unfold CMul; omega) | (unfold CDivN; omega) | (unfold CPow; omega))
local macro_rules | `(tactic| walk_at "z") => `(tactic| first
  | ((with_reducible refine isWE ?_); first
      | ((with_reducible refine we_varE ?_); refine ⟨_, rfl, ?_⟩)
      | with_reducible refine we_int ?_
      | with_reducible refine we_op ?_
      | with_reducible refine we_str ?_
      | (with_reducible refine we_tup ?_)
      | ((with_reducible refine we_fB (by assumption) ?_); refine ⟨_, _, _, _, _, _, rfl, rfl, ?_⟩)
      | ((with_reducible refine we_fP (by assumption) ?_); refine ⟨_, _, _, _, _, _, rfl, rfl, ?_⟩)
      | ((with_reducible refine we_fS (by assumption) ?_); refine ⟨_, _, _, _, _, _, rfl, rfl, ?_⟩)
      | ((with_reducible refine we_fM (by assumption) ?_); refine ⟨_, _, _, _, _, _, rfl, rfl, ?_⟩)
      | ((with_reducible refine we_fG (by assumption) ?_); refine ⟨_, _, _, _, _, _, rfl, rfl, ?_⟩)
      | ((with_reducible refine we_mJ ?_); refine ⟨_, _, _, rfl, rfl, rfl, ?_⟩)
      | with_reducible refine we_slT ?_
      | with_reducible refine we_slL ?_
      | with_reducible refine we_lst ?_
      | with_reducible refine we_isi ?_
      | with_reducible refine we_bl ?_
      | with_reducible refine we_non ?_
      | with_reducible refine we_neg ?_
      | with_reducible refine we_if ?_
      | with_reducible refine we_notV ?_
      | with_reducible refine we_andV ?_
      | with_reducible refine we_orV ?_
      | with_reducible refine we_isN ?_
      | with_reducible refine we_notN ?_
      | with_reducible refine we_cb ?_
      | with_reducible refine we_call ?_
      | with_reducible refine we_bits ?_)
  | ((with_reducible refine isWS ?_); first
      | with_reducible refine ws_seq ?_
      | with_reducible refine ws_fS (by assumption) ?_
      | with_reducible refine ws_fM (by assumption) ?_
      | with_reducible refine ws_own0 ?_
      | with_reducible refine ws_asg ?_
      | ((with_reducible refine ws_retOE ?_); refine ⟨rfl, ?_⟩)
      | with_reducible refine ws_ret ?_
      | with_reducible refine ws_next ?_
      | with_reducible refine ws_if ?_
      | with_reducible refine ws_unpT ?_
      | with_reducible refine ws_unpL ?_
      | ((with_reducible refine ws_six0 ?_); refine ⟨_, rfl, ?_⟩)
      | with_reducible refine ws_brk ?_
      | with_reducible refine ws_cont ?_
      | ((with_reducible refine ws_app0 ?_); refine ⟨_, _, rfl, rfl, ?_⟩)
      | with_reducible refine ws_drop ?_
      | with_reducible refine ws_for ?_)
  | ((with_reducible refine isWA ?_); first
      | with_reducible refine wa_cons ?_
      | with_reducible refine wa_nil ?_)
  | ((with_reducible refine isZO ?_); first
      | with_reducible refine zo_isB ?_
      | with_reducible refine zo_notB ?_
      | with_reducible refine zo_catTE ?_
      | with_reducible refine zo_catLE ?_
      | with_reducible refine zo_i0 ?_
      | with_reducible refine zo_b0 ?_
      | ((with_reducible refine zo_iE ?_); refine ⟨by walk_at "side", ?_⟩)
      | ((with_reducible refine zo_eqE ?_); refine ⟨rfl, rfl, rfl, ?_⟩)
      | ((with_reducible refine zo_neE ?_); refine ⟨rfl, rfl, rfl, ?_⟩))
  | ((with_reducible refine isWT ?_); first
      | with_reducible refine wt_yes ?_
      | with_reducible refine wt_test ?_
      | with_reducible refine wt_B ?_
      | with_reducible refine wt_and ?_
      | with_reducible refine wt_or ?_
      | with_reducible refine wt_not ?_)
  | ((with_reducible refine isZC ?_); first
      | with_reducible refine zc_abs ?_
      | with_reducible refine zc_int ?_
      | with_reducible refine zc_max ?_
      | with_reducible refine zc_min ?_
      | with_reducible refine zc_tupL ?_
      | with_reducible refine zc_tupT ?_
      | with_reducible refine zc_lstT ?_
      | ((with_reducible refine zc_tupO0 ?_); refine ⟨_, rfl, ?_⟩)
      | ((with_reducible refine zc_lenO0 ?_); refine ⟨_, rfl, ?_⟩)
      | with_reducible refine zc_sum ?_
      | with_reducible refine zc_lenL ?_
      | with_reducible refine zc_lenT ?_
      | with_reducible refine zc_lenS ?_)
  | ((with_reducible refine isWI ?_); first
      | with_reducible refine wi_enumT ?_
      | with_reducible refine wi_rev ?_
      | with_reducible refine wi_zipRR ?_
      | with_reducible refine wi_list ?_
      | with_reducible refine wi_tup ?_
      | with_reducible refine wi_r1 ?_
      | with_reducible refine wi_r2 ?_
      | with_reducible refine wi_r3 ?_)
  | ((with_reducible refine atJ ?_); refine ⟨_, _, _, _, _, _, rfl, rfl, ?_⟩)
  | ((with_reducible refine wg_lstE ?_); refine ⟨rfl, ?_⟩)
  | ((with_reducible refine wg_tupE ?_); refine ⟨rfl, ?_⟩)
  | with_reducible refine wgs_cons ?_
  | with_reducible refine wgs_nil ?_
  | with_reducible refine wo_none ?_
  | with_reducible refine wo_some ?_
  | with_reducible refine wg_name ?_
  | with_reducible refine exL ?_
  | with_reducible refine exT ?_
  | with_reducible refine len_and (by simp) ?_
  | with_reducible refine exI ?_
  | with_reducible refine exB ?_)

local macro_rules | `(tactic| walk_at "q") => `(tactic| first
  | ((with_reducible refine isWE ?_); first
      | ((with_reducible refine we_varE ?_); refine ⟨_, rfl, ?_⟩)
      | with_reducible refine we_int ?_
      | with_reducible refine we_op ?_
      | with_reducible refine we_str ?_
      | (with_reducible refine we_tup ?_)
      | ((with_reducible refine we_fB (by assumption) ?_); refine ⟨_, _, _, _, _, _, rfl, rfl, ?_⟩)
      | ((with_reducible refine we_fP (by assumption) ?_); refine ⟨_, _, _, _, _, _, rfl, rfl, ?_⟩)
      | ((with_reducible refine we_fS (by assumption) ?_); refine ⟨_, _, _, _, _, _, rfl, rfl, ?_⟩)
      | ((with_reducible refine we_fM (by assumption) ?_); refine ⟨_, _, _, _, _, _, rfl, rfl, ?_⟩)
      | ((with_reducible refine we_fG (by assumption) ?_); refine ⟨_, _, _, _, _, _, rfl, rfl, ?_⟩)
      | ((with_reducible refine we_mJ ?_); refine ⟨_, _, _, rfl, rfl, rfl, ?_⟩)
      | with_reducible refine we_slT ?_
      | with_reducible refine we_slL ?_
      | with_reducible refine we_lst ?_
      | with_reducible refine we_isi ?_
      | with_reducible refine we_bl ?_
      | with_reducible refine we_non ?_
      | with_reducible refine we_neg ?_
      | with_reducible refine we_if ?_
      | with_reducible refine we_notV ?_
      | with_reducible refine we_andV ?_
      | with_reducible refine we_orV ?_
      | with_reducible refine we_isN ?_
      | with_reducible refine we_notN ?_
      | with_reducible refine we_cb ?_
      | with_reducible refine we_bits ?_
      | with_reducible refine we_glA (by assumption) ?_)
  | ((with_reducible refine isWS ?_); first
      | with_reducible refine ws_seq ?_
      | with_reducible refine ws_fS (by assumption) ?_
      | with_reducible refine ws_fM (by assumption) ?_
      | with_reducible refine ws_own0 ?_
      | with_reducible refine ws_asg ?_
      | ((with_reducible refine ws_retOE ?_); refine ⟨rfl, ?_⟩)
      | with_reducible refine ws_ret ?_
      | with_reducible refine ws_next ?_
      | with_reducible refine ws_if ?_
      | with_reducible refine ws_unpT ?_
      | with_reducible refine ws_unpL ?_
      | ((with_reducible refine ws_six0 ?_); refine ⟨_, rfl, ?_⟩)
      | with_reducible refine ws_brk ?_
      | with_reducible refine ws_cont ?_
      | ((with_reducible refine ws_app0 ?_); refine ⟨_, _, rfl, rfl, ?_⟩)
      | with_reducible refine ws_drop ?_
      | with_reducible refine ws_for ?_)
  | ((with_reducible refine isWA ?_); first
      | with_reducible refine wa_cons ?_
      | with_reducible refine wa_nil ?_)
  | ((with_reducible refine isZO ?_); first
      | with_reducible refine zo_isB ?_
      | with_reducible refine zo_notB ?_
      | with_reducible refine zo_catTE ?_
      | with_reducible refine zo_catLE ?_
      | with_reducible refine zo_i0 ?_
      | with_reducible refine zo_b0 ?_
      | ((with_reducible refine zo_iE ?_); refine ⟨by walk_at "side", ?_⟩)
      | ((with_reducible refine zo_eqE ?_); refine ⟨rfl, rfl, rfl, ?_⟩)
      | ((with_reducible refine zo_neE ?_); refine ⟨rfl, rfl, rfl, ?_⟩)
      | with_reducible refine zo_ne0 ?_
      | with_reducible refine zo_eq0 ?_
      | ((with_reducible refine zo_inE ?_); refine ⟨rfl, rfl, ?_⟩)
      | ((with_reducible refine zo_ixTE ?_); refine ⟨_, rfl, ?_⟩)
      | ((with_reducible refine zo_ixLE ?_); refine ⟨_, rfl, ?_⟩))
  | ((with_reducible refine isWT ?_); first
      | with_reducible refine wt_yes ?_
      | with_reducible refine wt_test ?_
      | with_reducible refine wt_B ?_
      | with_reducible refine wt_and ?_
      | with_reducible refine wt_or ?_
      | with_reducible refine wt_not ?_)
  | ((with_reducible refine isZC ?_); first
      | with_reducible refine zc_abs ?_
      | with_reducible refine zc_int ?_
      | with_reducible refine zc_max ?_
      | with_reducible refine zc_min ?_
      | with_reducible refine zc_tupL ?_
      | with_reducible refine zc_tupT ?_
      | with_reducible refine zc_lstT ?_
      | ((with_reducible refine zc_tupO0 ?_); refine ⟨_, rfl, ?_⟩)
      | ((with_reducible refine zc_lenO0 ?_); refine ⟨_, rfl, ?_⟩)
      | with_reducible refine zc_sum ?_
      | with_reducible refine zc_lenL ?_
      | with_reducible refine zc_lenT ?_
      | with_reducible refine zc_lenS ?_)
  | ((with_reducible refine isWI ?_); first
      | with_reducible refine wi_enumT ?_
      | with_reducible refine wi_rev ?_
      | with_reducible refine wi_zipRR ?_
      | with_reducible refine wi_list ?_
      | with_reducible refine wi_tup ?_
      | with_reducible refine wi_r1 ?_
      | with_reducible refine wi_r2 ?_
      | with_reducible refine wi_r3 ?_)
  | ((with_reducible refine atJ ?_); refine ⟨_, _, _, _, _, _, rfl, rfl, ?_⟩)
  | ((with_reducible refine wg_lstE ?_); refine ⟨rfl, ?_⟩)
  | ((with_reducible refine wg_tupE ?_); refine ⟨rfl, ?_⟩)
  | with_reducible refine wgs_cons ?_
  | with_reducible refine wgs_nil ?_
  | with_reducible refine wo_none ?_
  | with_reducible refine wo_some ?_
  | with_reducible refine wg_name ?_
  | with_reducible refine exL ?_
  | with_reducible refine exT ?_
  | with_reducible refine len_and (by simp) ?_
  | with_reducible refine exI ?_
  | with_reducible refine exB ?_
  | refine known_t (by decide) ?_
  | refine known_f (by decide) ?_
  | refine known_t' (by decide) ?_
  | refine known_f' (by decide) ?_)

local macro_rules | `(tactic| walk_at "y") => `(tactic| first
  | ((with_reducible refine isWE ?_); first
      | ((with_reducible refine we_varE ?_); refine ⟨_, rfl, ?_⟩)
      | with_reducible refine we_int ?_
      | with_reducible refine we_op ?_
      | with_reducible refine we_str ?_
      | (with_reducible refine we_tup ?_)
      | ((with_reducible refine we_fB (by assumption) ?_); refine ⟨_, _, _, _, _, _, rfl, rfl, ?_⟩)
      | ((with_reducible refine we_fP (by assumption) ?_); refine ⟨_, _, _, _, _, _, rfl, rfl, ?_⟩)
      | ((with_reducible refine we_fS (by assumption) ?_); refine ⟨_, _, _, _, _, _, rfl, rfl, ?_⟩)
      | ((with_reducible refine we_fM (by assumption) ?_); refine ⟨_, _, _, _, _, _, rfl, rfl, ?_⟩)
      | ((with_reducible refine we_fG (by assumption) ?_); refine ⟨_, _, _, _, _, _, rfl, rfl, ?_⟩)
      | ((with_reducible refine we_mJ ?_); refine ⟨_, _, _, rfl, rfl, rfl, ?_⟩)
      | with_reducible refine we_slT ?_
      | with_reducible refine we_slL ?_
      | with_reducible refine we_lst ?_
      | with_reducible refine we_isi ?_
      | with_reducible refine we_bl ?_
      | with_reducible refine we_non ?_
      | with_reducible refine we_neg ?_
      | with_reducible refine we_notV ?_
      | with_reducible refine we_andV ?_
      | with_reducible refine we_orV ?_
      | with_reducible refine we_isN ?_
      | with_reducible refine we_notN ?_
      | with_reducible refine we_cb ?_
      | with_reducible refine we_call ?_
      | with_reducible refine we_bits ?_)
  | ((with_reducible refine isWS ?_); first
      | with_reducible refine ws_fS (by assumption) ?_
      | with_reducible refine ws_fM (by assumption) ?_
      | with_reducible refine ws_seqA ?_
      | with_reducible refine ws_seqD ?_
      | with_reducible refine ws_own0 ?_
      | with_reducible refine ws_asg ?_
      | ((with_reducible refine ws_retOE ?_); refine ⟨rfl, ?_⟩)
      | with_reducible refine ws_ret ?_
      | with_reducible refine ws_next ?_
      | with_reducible refine ws_unpT ?_
      | with_reducible refine ws_unpL ?_
      | ((with_reducible refine ws_six0 ?_); refine ⟨_, rfl, ?_⟩)
      | with_reducible refine ws_brk ?_
      | with_reducible refine ws_cont ?_
      | ((with_reducible refine ws_app0 ?_); refine ⟨_, _, rfl, rfl, ?_⟩)
      | with_reducible refine ws_drop ?_)
  | ((with_reducible refine isWA ?_); first
      | with_reducible refine wa_cons ?_
      | with_reducible refine wa_nil ?_)
  | ((with_reducible refine isZO ?_); first
      | with_reducible refine zo_isB ?_
      | with_reducible refine zo_notB ?_
      | with_reducible refine zo_catTE ?_
      | with_reducible refine zo_catLE ?_
      | with_reducible refine zo_i0 ?_
      | with_reducible refine zo_b0 ?_
      | ((with_reducible refine zo_iE ?_); refine ⟨by walk_at "side", ?_⟩)
      | ((with_reducible refine zo_eqE ?_); refine ⟨rfl, rfl, rfl, ?_⟩)
      | ((with_reducible refine zo_neE ?_); refine ⟨rfl, rfl, rfl, ?_⟩))
  | ((with_reducible refine isWT ?_); first
      | with_reducible refine wt_yes ?_
      | with_reducible refine wt_test ?_
      | with_reducible refine wt_B ?_
      | with_reducible refine wt_and ?_
      | with_reducible refine wt_or ?_
      | with_reducible refine wt_not ?_)
  | ((with_reducible refine isZC ?_); first
      | with_reducible refine zc_abs ?_
      | with_reducible refine zc_int ?_
      | with_reducible refine zc_max ?_
      | with_reducible refine zc_min ?_
      | with_reducible refine zc_tupL ?_
      | with_reducible refine zc_tupT ?_
      | with_reducible refine zc_lstT ?_
      | ((with_reducible refine zc_tupO0 ?_); refine ⟨_, rfl, ?_⟩)
      | ((with_reducible refine zc_lenO0 ?_); refine ⟨_, rfl, ?_⟩)
      | with_reducible refine zc_sum ?_
      | with_reducible refine zc_lenL ?_
      | with_reducible refine zc_lenT ?_
      | with_reducible refine zc_lenS ?_)
  | ((with_reducible refine isWI ?_); first
      | with_reducible refine wi_enumT ?_
      | with_reducible refine wi_rev ?_
      | with_reducible refine wi_zipRR ?_
      | with_reducible refine wi_list ?_
      | with_reducible refine wi_tup ?_
      | with_reducible refine wi_r1 ?_
      | with_reducible refine wi_r2 ?_
      | with_reducible refine wi_r3 ?_)
  | ((with_reducible refine atJ ?_); refine ⟨_, _, _, _, _, _, rfl, rfl, ?_⟩)
  | ((with_reducible refine wg_lstE ?_); refine ⟨rfl, ?_⟩)
  | ((with_reducible refine wg_tupE ?_); refine ⟨rfl, ?_⟩)
  | with_reducible refine wgs_cons ?_
  | with_reducible refine wgs_nil ?_
  | with_reducible refine wo_none ?_
  | with_reducible refine wo_some ?_
  | with_reducible refine wg_name ?_
  | with_reducible refine exL ?_
  | with_reducible refine exT ?_
  | with_reducible refine len_and (by simp) ?_
  | with_reducible refine exI ?_
  | with_reducible refine exB ?_)

local macro_rules | `(tactic| walk_at "x") => `(tactic| first
  | ((with_reducible refine isWE ?_); first
      | ((with_reducible refine we_varE ?_); refine ⟨_, rfl, ?_⟩)
      | with_reducible refine we_int ?_
      | with_reducible refine we_op ?_
      | with_reducible refine we_str ?_
      | (with_reducible refine we_tup ?_)
      | ((with_reducible refine we_fB (by assumption) ?_); refine ⟨_, _, _, _, _, _, rfl, rfl, ?_⟩)
      | ((with_reducible refine we_fP (by assumption) ?_); refine ⟨_, _, _, _, _, _, rfl, rfl, ?_⟩)
      | ((with_reducible refine we_fS (by assumption) ?_); refine ⟨_, _, _, _, _, _, rfl, rfl, ?_⟩)
      | ((with_reducible refine we_fM (by assumption) ?_); refine ⟨_, _, _, _, _, _, rfl, rfl, ?_⟩)
      | ((with_reducible refine we_fG (by assumption) ?_); refine ⟨_, _, _, _, _, _, rfl, rfl, ?_⟩)
      | with_reducible refine we_slT ?_
      | with_reducible refine we_slL ?_
      | with_reducible refine we_lst ?_
      | with_reducible refine we_isi ?_
      | with_reducible refine we_bl ?_
      | with_reducible refine we_non ?_
      | with_reducible refine we_neg ?_
      | with_reducible refine we_notV ?_
      | with_reducible refine we_andV ?_
      | with_reducible refine we_orV ?_
      | with_reducible refine we_isN ?_
      | with_reducible refine we_notN ?_
      | with_reducible refine we_cb ?_
      | with_reducible refine we_bits ?_)
  | ((with_reducible refine isWS ?_); first
      | with_reducible refine ws_fS (by assumption) ?_
      | with_reducible refine ws_fM (by assumption) ?_
      | with_reducible refine ws_seqA ?_
      | with_reducible refine ws_seqD ?_
      | with_reducible refine ws_own0 ?_
      | with_reducible refine ws_asg ?_
      | ((with_reducible refine ws_retOE ?_); refine ⟨rfl, ?_⟩)
      | with_reducible refine ws_ret ?_
      | with_reducible refine ws_next ?_
      | with_reducible refine ws_unpT ?_
      | with_reducible refine ws_unpL ?_
      | ((with_reducible refine ws_six0 ?_); refine ⟨_, rfl, ?_⟩)
      | with_reducible refine ws_brk ?_
      | with_reducible refine ws_cont ?_
      | ((with_reducible refine ws_app0 ?_); refine ⟨_, _, rfl, rfl, ?_⟩)
      | with_reducible refine ws_drop ?_)
  | ((with_reducible refine isWA ?_); first
      | with_reducible refine wa_cons ?_
      | with_reducible refine wa_nil ?_)
  | ((with_reducible refine isZO ?_); first
      | with_reducible refine zo_isB ?_
      | with_reducible refine zo_notB ?_
      | with_reducible refine zo_catTE ?_
      | with_reducible refine zo_catLE ?_
      | with_reducible refine zo_i0 ?_
      | with_reducible refine zo_b0 ?_
      | ((with_reducible refine zo_iE ?_); refine ⟨by walk_at "side", ?_⟩)
      | ((with_reducible refine zo_eqE ?_); refine ⟨rfl, rfl, rfl, ?_⟩)
      | ((with_reducible refine zo_neE ?_); refine ⟨rfl, rfl, rfl, ?_⟩))
  | ((with_reducible refine isWT ?_); first
      | with_reducible refine wt_yes ?_
      | with_reducible refine wt_test ?_
      | with_reducible refine wt_B ?_
      | with_reducible refine wt_and ?_
      | with_reducible refine wt_or ?_
      | with_reducible refine wt_not ?_)
  | ((with_reducible refine isZC ?_); first
      | with_reducible refine zc_abs ?_
      | with_reducible refine zc_int ?_
      | with_reducible refine zc_max ?_
      | with_reducible refine zc_min ?_
      | with_reducible refine zc_tupL ?_
      | with_reducible refine zc_tupT ?_
      | with_reducible refine zc_lstT ?_
      | ((with_reducible refine zc_tupO0 ?_); refine ⟨_, rfl, ?_⟩)
      | ((with_reducible refine zc_lenO0 ?_); refine ⟨_, rfl, ?_⟩)
      | with_reducible refine zc_sum ?_
      | with_reducible refine zc_lenL ?_
      | with_reducible refine zc_lenT ?_
      | with_reducible refine zc_lenS ?_)
  | ((with_reducible refine isWI ?_); first
      | with_reducible refine wi_enumT ?_
      | with_reducible refine wi_rev ?_
      | with_reducible refine wi_zipRR ?_
      | with_reducible refine wi_list ?_
      | with_reducible refine wi_tup ?_
      | with_reducible refine wi_r1 ?_
      | with_reducible refine wi_r2 ?_
      | with_reducible refine wi_r3 ?_)
  | ((with_reducible refine atJ ?_); refine ⟨_, _, _, _, _, _, rfl, rfl, ?_⟩)
  | ((with_reducible refine wg_lstE ?_); refine ⟨rfl, ?_⟩)
  | ((with_reducible refine wg_tupE ?_); refine ⟨rfl, ?_⟩)
  | with_reducible refine wgs_cons ?_
  | with_reducible refine wgs_nil ?_
  | with_reducible refine wo_none ?_
  | with_reducible refine wo_some ?_
  | with_reducible refine wg_name ?_
  | with_reducible refine exL ?_
  | with_reducible refine exT ?_
  | with_reducible refine len_and (by simp) ?_
  | with_reducible refine exI ?_
  | with_reducible refine exB ?_)

local macro_rules | `(tactic| walk_at "k") => `(tactic| first | walk_at "z" | ((with_reducible refine zo_inE ?_); refine ⟨rfl, rfl, ?_⟩) | ((with_reducible refine zo_ixTE ?_); refine ⟨_, rfl, ?_⟩) | ((with_reducible refine zo_ixLE ?_); refine ⟨_, rfl, ?_⟩) | refine known_t (by decide) ?_ | refine known_f (by decide) ?_ | refine known_t' (by decide) ?_ | refine known_f' (by decide) ?_)

/-! ## B11 -/
section
variable {w : World} {K : PySem.W.Frag} {mg : Str → Option Value} {base : Heap}
def tz_Judge_init (JC : Addr) : TZ := fun zs o R => ∃ (j dx : Addr) (b : Nat) (jp : JP), zs = [.ref j, .int b, jp.z] ∧ o = [(j, .ins JC dx [])] ∧ JOk b jp ∧ R .non [(j, jO JC dx b jp 0 0)]
abbrev st_Judge_init : Stmt := inClass (top 17) 0
abbrev N_Judge_init : List Str := ["self", "bits", "points"]
theorem sc_Judge_init : FnScope N_Judge_init ["self", "bits", "points"] (defScope st_Judge_init) := ⟨rfl, rfl, rfl, by decide +kernel, rfl, by decide +kernel, by decide +kernel⟩
theorem c_Judge {JC : Addr} (T : Tx K mg) (J : TJ K mg JC) : CalC P0 w K mg base "Judge" JC 3 ["self", "bits", "points"] (tz_Judge_init JC) := by
  refine CalC.mk J.g J.m_init sc_Judge_init (fun _ _ _ _ _ _ us hl => match us, hl with | [_, _, _], _ => rfl) fun f cdv A outer s H E hr => ?_
  have c_are_good_points := @c_are_good_points w K mg base JC T J
  refine ⟨_, (pss_cons (ps_fld (pv 0) (pv 1) rfl)
    (pss_cons (ps_fld (pv 0) (pv 2) rfl)
    (pss_cons (ps_fld (pv 0) pe_int rfl)
    (pss_cons (ps_fld (pv 0) pe_int rfl)
    (pss_one (ps_fld (pv 0) (pe_or (pe_cmp (pc_isN (pv 2)) rfl) (pe_one (pe_callZ c_are_good_points (hr.mono (by decide)) (pa_cons (pv 2) (pa_cons (pv 1) pa_nil))))) rfl)))))), ?_⟩
  try dsimp only [cxK]
  rintro zs o R ⟨j, dx, b, jp, rfl, rfl, ok, k⟩
  refine ws_seq (ws_fN J J.n_bits ?_)
  repeat walk_at "z"
  refine ⟨j, dx, [], rfl, rfl, by show 0 < 1000; decide, ?_⟩
  refine ws_seq (ws_fN J J.n_points ?_)
  repeat walk_at "z"
  refine ⟨j, dx, _, rfl, rfl, by show 1 < 1000; decide, ?_⟩
  refine ws_seq (ws_fN J J.n_steps ?_)
  repeat walk_at "z"
  refine ⟨j, dx, _, rfl, rfl, by show 2 < 1000; decide, ?_⟩
  refine ws_seq (ws_fN J J.n_most ?_)
  repeat walk_at "z"
  refine ⟨j, dx, _, rfl, rfl, by show 3 < 1000; decide, ?_⟩
  refine (ws_fN J J.n_good ?_)
  have fin : ∀ o', o' = [(j, jO JC dx b jp 0 0)] → FinZ R [(j, OZ.ins JC dx [])] .non o' := fun o' e => ⟨[(j, jO JC dx b jp 0 0)], [], by rw [e]; rfl, rfl, k⟩
  repeat walk_at "z"
  refine ⟨fun h => ?_, fun h => ?_⟩
  · obtain ⟨l, hl, hz⟩ : ∃ l : List Int, jp.z = .tup (l.map Z.int) ∧ goodB ((2 ^ b : Nat) : Int) l = jp.g ∧ ∀ p, p ∈ l → p < 2 ^ 60 := by
      cases jp with
      | no => cases h
      | good l =>
        refine ⟨_, congrArg Z.tup (nz_ints l), good_desc (ok.hg l rfl).1, fun p hp => ?_⟩
        obtain ⟨q, hq, rfl⟩ := List.mem_map.mp hp
        have h1 := (Desc.pr (ok.hg l rfl).1 hq).1
        have h2 : 2 ^ b ≤ 2 ^ 16 := Nat.pow_le_pow_right (by decide) ok.hb.2
        omega
      | bad l => exact ⟨l, rfl, ok.hx l rfl⟩
    repeat walk_at "z"
    refine ⟨rfl, l, b, by rw [hl], rfl, by have := ok.hb; omega, hz.2, ?_⟩
    rw [hz.1]
    exact ⟨j, dx, _, rfl, rfl, by show 4 < 1000; decide, fin _ rfl⟩
  · have e : jp = .no := by
      cases jp with
      | no => rfl
      | good l => cases h
      | bad l => cases h
    subst e
    exact ⟨j, dx, _, rfl, rfl, by show 4 < 1000; decide, fin _ rfl⟩
def tz_Judge_rest_of (JC : Addr) : TZ := fun zs o R => ∃ (j dx : Addr) (b : Nat) (jp : JP) (st mo : Int) (n : Int) (ws : List Nat) (p : Nat), zs = [.ref j, .int n, zn ws, .int p] ∧ o = [(j, jO JC dx b jp st mo)] ∧ b ≤ 16 ∧ 1 ≤ p ∧ p < 2 ^ 30 ∧ ws.length ≤ 90001 ∧ wval b ws = n.natAbs ∧ R (.int (n % (p : Int))) o
theorem rest_math {n : Int} {p : Nat} (hp : 1 ≤ p) : n % (p : Int) = if n < 0 ∧ 0 < n.natAbs % p then (p : Int) - (n.natAbs % p : Nat) else ((n.natAbs % p : Nat) : Int) := by
  have hm : n.natAbs % p < p := Nat.mod_lt _ hp
  have hd := Nat.mod_add_div n.natAbs p
  by_cases h : n < 0
  · by_cases h2 : 0 < n.natAbs % p
    · rw [if_pos ⟨h, h2⟩]
      have e : n = ((p : Int) - (n.natAbs % p : Nat)) + (p : Int) * (-((n.natAbs / p : Nat) : Int) - 1) := by
        have e1 : (n.natAbs : Int) = ((n.natAbs % p : Nat) : Int) + (p : Int) * ((n.natAbs / p : Nat) : Int) := by
          rw [← Int.natCast_mul, ← Int.natCast_add, hd]
        rw [Int.mul_sub, Int.mul_neg, Int.mul_one]
        omega
      generalize n.natAbs % p = m at *
      generalize n.natAbs / p = q at *
      rw [e, Int.add_mul_emod_self_left]
      exact Int.emod_eq_of_lt (by omega) (by omega)
    · rw [if_neg (fun z => h2 z.2)]
      have e0 : n.natAbs % p = 0 := by omega
      rw [e0]
      have : (p : Int) ∣ n := Int.dvd_natAbs.mp (Int.natCast_dvd_natCast.mpr (Nat.dvd_of_mod_eq_zero e0))
      exact Int.emod_eq_zero_of_dvd this
  · rw [if_neg (fun z => h z.1)]
    have e : n = (n.natAbs : Int) := by omega
    conv => lhs; rw [e]
    rw [Int.natCast_emod]
abbrev st_Judge_rest_of : Stmt := inClass (top 17) 1
abbrev N_Judge_rest_of : List Str := ["self", "number", "words", "point", "rest", "word"]
theorem sc_Judge_rest_of : FnScope N_Judge_rest_of ["self", "number", "words", "point"] (defScope st_Judge_rest_of) := ⟨rfl, rfl, rfl, by decide +kernel, rfl, by decide +kernel, by decide +kernel⟩
theorem m_rest_of {JC : Addr} (T : Tx K mg) (J : TJ K mg JC) : CalM P0 w K mg base JC "rest_of" 1 ["self", "number", "words", "point"] (tz_Judge_rest_of JC) := by
  refine CalM.mk J.m_rest_of sc_Judge_rest_of (fun _ _ _ _ _ _ us hl => match us, hl with | [_, _, _, _], _ => rfl) fun f cdv A outer s H E hr => ?_
  refine ⟨_, (pss_cons (ps_set (i := 4) sc_Judge_rest_of.nd rfl (Or.inl rfl) pe_int)
    (pss_cons (ps_for PassesOwn.never rfl (pi_reversed (by rfl) T.b_reversed (pa_cons (pe_callTy (call_lstK (K := K)) (by rfl) T.b_list (by decide +kernel) (pa_cons (pv 2) pa_nil)) pa_nil)) (pg_name (i := 5) sc_Judge_rest_of.nd rfl (Or.inl rfl)) (pss_one (ps_set (i := 4) sc_Judge_rest_of.nd rfl (Or.inl rfl) (pe_op op_modN (pe_op op_add (pe_op op_shl (pv 4) (pe_fldK (K := K) (pv 0) rfl)) (pv 5)) (pv 3)))))
    (pss_cons (ps_if (PW.pt (pw_and (pt_cmpR op_lt (pv 1) pe_int (nomark _)) (pw_and1 (pt_cmpR op_gt (pv 4) pe_int (nomark _))))) (pss_one (ps_ret (pe_op op_sub (pv 3) (pv 4)))) pss_nil)
    (pss_one (ps_ret (pv 4)))))), ?_⟩
  try dsimp only [cxK]
  rintro zs o R ⟨j, dx, b, jp, st, mo, n, ws, p, rfl, rfl, hb, hp, hp2, hl, hw, k⟩
  repeat walk_at "y"
  refine ws_seq (ws_for (wi_rev ?_))
  repeat walk_at "z"
  refine ⟨nz ws, rfl, fun i r o => ∃ x5 : Option Z, r = [some (.ref j), some (.int n), some (zn ws), some (.int p), some (.int (wval b (ws.drop (ws.length - i)) % p : Nat)), x5] ∧ o = [(j, jO JC dx b jp st mo)], ⟨none, ?_, rfl⟩, ?_, ?_⟩
  · rw [Nat.sub_zero, List.drop_length]
    show _ = [_, _, _, _, some (Z.int ((0 % p : Nat) : Int)), none]
    rw [Nat.zero_mod]
    rfl
  · rintro i z r o hz ⟨x5, rfl, rfl⟩
    have hi : i < ws.length := by
      have := (List.getElem?_eq_some_iff.mp hz).1
      rw [List.length_reverse, nz_len] at this
      exact this
    rw [List.getElem?_reverse (by rw [nz_len]; exact hi), nz_len] at hz
    obtain ⟨q, hq, rfl⟩ := nz_get hz
    repeat walk_at "z"
    have hlt : wval b (ws.drop (ws.length - i)) % p < p := Nat.mod_lt _ (by omega)
    have hdrop : ws.drop (ws.length - (i + 1)) = q :: ws.drop (ws.length - i) := by
      have e1 : ws.length - (i + 1) = ws.length - 1 - i := by omega
      obtain ⟨hl1, e2⟩ := List.getElem?_eq_some_iff.mp hq
      rw [e1, List.drop_eq_getElem_cons hl1, e2]
      have e3 : ws.length - 1 - i + 1 = ws.length - i := by omega
      rw [e3]
    have hW : wval b (ws.drop (ws.length - (i + 1))) = q + 2 ^ b * wval b (ws.drop (ws.length - i)) := by rw [hdrop, wval_cons]
    generalize wval b (ws.drop (ws.length - i)) = W at hlt hW ⊢
    refine zo_i (show CPow ((W % p : Nat) : Int) (b : Int) from ⟨by omega, by omega, by omega⟩) ?_
    repeat walk_at "z"
    have e4 : ((W % p : Nat) : Int) * 2 ^ (b : Int).toNat + (q : Int) = (((W % p) * 2 ^ b + q : Nat) : Int) := by
      rw [Int.toNat_natCast]
      norm_cast
    rw [e4, fmod_nat]
    have e5 : ((W % p) * 2 ^ b + q) % p = (q + 2 ^ b * W) % p := by
      rw [Nat.add_mod, Nat.mul_mod, Nat.mod_mod, ← Nat.mul_mod, ← Nat.add_mod, Nat.mul_comm W, Nat.add_comm]
    rw [e5, ← hW]
    exact ⟨_, rfl, rfl⟩
  · rintro r o ⟨x5, rfl, rfl⟩
    rw [List.length_reverse, nz_len, Nat.sub_self, List.drop_zero, hw]
    have k2 := k
    rw [rest_math hp] at k2
    repeat walk_at "z"
    have fin : ∀ v, R v [(j, jO JC dx b jp st mo)] → FinZ R [(j, jO JC dx b jp st mo)] v [(j, jO JC dx b jp st mo)] := fun v h => ⟨_, [], rfl, rfl, h⟩
    refine ⟨fun h => ?_, fun h => ?_⟩
    · have h1 := dec_t h
      repeat walk_at "z"
      refine ⟨fun h => ?_, fun h => ?_⟩
      · have h2 := dec_t h
        rw [if_pos ⟨by omega, by omega⟩] at k2
        repeat walk_at "z"
        exact fin _ k2
      · have h2 := dec_f h
        rw [if_neg (fun z => h2 (by omega))] at k2
        repeat walk_at "z"
        exact fin _ k2
    · have h1 := dec_f h
      rw [if_neg (fun z => h1 z.1)] at k2
      refine ⟨fun h => (nomatch h), fun _ => ?_⟩
      repeat walk_at "z"
      exact fin _ k2
end

/-! ## B12 -/
section
variable {w : World} {K : PySem.W.Frag} {mg : Str → Option Value} {base : Heap}
/-- terms, read: each factor with its words -/
abbrev readT (b : Nat) (t : List Int) : Z := .lst (t.map fun n => .tup [.int n, zn (wd b n.natAbs)])
abbrev readZ (b : Nat) (ts : List (List Int)) : Z := .lst (ts.map (readT b))
theorem jset {j : Addr} {c c' : OZ} : ([(j, c)] : OO).set 0 (j, c') = [(j, c')] := rfl
def SmallW (ts : List (List Int)) : Prop := ∀ t, t ∈ ts → ∀ n, n ∈ t → n.natAbs.log2 < 90000
def tz_Judge_leaves_none (JC : Addr) : TZ := fun zs o R => ∃ (j dx : Addr) (b : Nat) (jp : JP) (st mo : Int) (ts : List (List Int)) (p : Nat), zs = [.ref j, readZ b ts, .int p] ∧ o = [(j, jO JC dx b jp st mo)] ∧ (1 ≤ b ∧ b ≤ 16) ∧ 2 ≤ p ∧ p < 2 ^ 30 ∧ SmallW ts ∧ R (.bl (decide (totI ts % (p : Int) = 0))) o
abbrev st_Judge_leaves_none : Stmt := inClass (top 17) 2
abbrev N_Judge_leaves_none : List Str := ["self", "read", "point", "total", "term", "product", "number", "words"]
theorem sc_Judge_leaves_none : FnScope N_Judge_leaves_none ["self", "read", "point"] (defScope st_Judge_leaves_none) := ⟨rfl, rfl, rfl, by decide +kernel, rfl, by decide +kernel, by decide +kernel⟩
theorem m_leaves_none {JC : Addr} (T : Tx K mg) (J : TJ K mg JC) : CalM P0 w K mg base JC "leaves_none" 2 ["self", "read", "point"] (tz_Judge_leaves_none JC) := by
  refine CalM.mk J.m_leaves_none sc_Judge_leaves_none (fun _ _ _ _ _ _ us hl => match us, hl with | [_, _, _], _ => rfl) fun f cdv A outer s H E hr => ?_
  have m_rest_of := @m_rest_of w K mg base JC T J
  refine ⟨_, (pss_cons (ps_set (i := 3) sc_Judge_leaves_none.nd rfl (Or.inl rfl) pe_int)
    (pss_cons (ps_for PassesOwn.never rfl (pi_listK (K := K) (pv 1)) (pg_name (i := 4) sc_Judge_leaves_none.nd rfl (Or.inl rfl)) (pss_cons (ps_set (i := 5) sc_Judge_leaves_none.nd rfl (Or.inl rfl) pe_int)
    (pss_cons (ps_for PassesOwn.never rfl (pi_listK (K := K) (pv 4)) (pg_tup rfl (pgs_cons (pg_name (i := 6) sc_Judge_leaves_none.nd rfl (Or.inl rfl)) (pgs_cons (pg_name (i := 7) sc_Judge_leaves_none.nd rfl (Or.inl rfl)) pgs_nil))) (pss_one (ps_set (i := 5) sc_Judge_leaves_none.nd rfl (Or.inl rfl) (pe_op op_modN (pe_op op_mul (pv 5) (pe_methZ J.cl m_rest_of (hr.mono (by decide)) (pv 0) (pa_cons (pv 6) (pa_cons (pv 7) (pa_cons (pv 2) pa_nil))))) (pv 2)))))
    (pss_one (ps_set (i := 3) sc_Judge_leaves_none.nd rfl (Or.inl rfl) (pe_op op_modN (pe_op op_add (pv 3) (pv 5)) (pv 2)))))))
    (pss_one (ps_ret (pe_cmpR op_eq (pv 3) pe_int (nomark _)))))), ?_⟩
  try dsimp only [cxK]
  rintro zs o R ⟨j, dx, b, jp, st, mo, ts, p, rfl, rfl, hb, hp, hp2, hs, k⟩
  repeat walk_at "z"
  refine ⟨fun i r o => ∃ x4 x5 x6 x7 : Option Z, r = [some (.ref j), some (readZ b ts), some (.int p), some (.int (totI (ts.take i) % (p : Int))), x4, x5, x6, x7] ∧ o = [(j, jO JC dx b jp st mo)], ⟨none, none, none, none, ?_, rfl⟩, ?_, ?_⟩
  · show _ = [_, _, _, some (Z.int ((0 : Int) % (p : Int))), none, none, none, none]
    rw [Int.zero_emod]
    rfl
  · rintro i z r o hz ⟨x4, x5, x6, x7, rfl, rfl⟩
    obtain ⟨t, ht, rfl⟩ : ∃ t, ts[i]? = some t ∧ readT b t = z := by simpa [List.getElem?_map] using hz
    have htm := List.mem_of_getElem? ht
    have p1 : ((1 : Int) % (p : Int)) = 1 := Int.emod_eq_of_lt (by decide) (by omega)
    repeat walk_at "z"
    refine ⟨fun m r o => ∃ x6 x7 : Option Z, r = [some (.ref j), some (readZ b ts), some (.int p), some (.int (totI (ts.take i) % (p : Int))), some (readT b t), some (.int (prodI (t.take m) % (p : Int))), x6, x7] ∧ o = [(j, jO JC dx b jp st mo)], ⟨x6, x7, ?_, rfl⟩, ?_, ?_⟩
    · show _ = [_, _, _, _, _, some (Z.int ((1 : Int) % (p : Int))), _, _]
      rw [p1]
      rfl
    · rintro m z r o hz ⟨x6, x7, rfl, rfl⟩
      obtain ⟨n, hn, rfl⟩ : ∃ n, t[m]? = some n ∧ Z.tup [.int n, zn (wd b n.natAbs)] = z := by simpa [List.getElem?_map] using hz
      have hnm := List.mem_of_getElem? hn
      have hlog := hs t htm n hnm
      repeat walk_at "z"
      refine ⟨rfl, _, rfl, ?_⟩
      refine ⟨j, dx, b, jp, st, mo, n, wd b n.natAbs, p, rfl, rfl, hb.2, by omega, hp2, Nat.le_trans (wd_len hb.1) (by omega), wval_wd hb.1 _, fun c' hc => ?_⟩
      cases oneJ hc
      have hm0 := Int.emod_nonneg (prodI (t.take m)) (show (p : Int) ≠ 0 by omega)
      have hm1 := Int.emod_lt_of_pos (prodI (t.take m)) (show (0 : Int) < (p : Int) by omega)
      have e : ((prodI (t.take m) % (p : Int)) * (n % (p : Int))).fmod (p : Int) = prodI (t.take (m + 1)) % (p : Int) := by
        rw [Int.fmod_eq_emod_of_nonneg _ (Int.natCast_nonneg p), prod_more hn, ← Int.mul_emod]
      generalize prodI (t.take m) % (p : Int) = W at hm0 hm1 e ⊢
      repeat walk_at "z"
      rw [e]
      exact ⟨_, _, rfl, rfl⟩
    · rintro r o ⟨x6, x7, rfl, rfl⟩
      rw [List.length_map, List.take_length]
      repeat walk_at "z"
      have e : (totI (ts.take i) % (p : Int) + prodI t % (p : Int)).fmod (p : Int) = totI (ts.take (i + 1)) % (p : Int) := by
        rw [Int.fmod_eq_emod_of_nonneg _ (Int.natCast_nonneg p), tot_more ht, ← Int.add_emod]
      rw [e]
      exact ⟨_, _, _, _, rfl, rfl⟩
  · rintro r o ⟨x4, x5, x6, x7, rfl, rfl⟩
    rw [List.length_map, List.take_length]
    repeat walk_at "z"
    rw [deq]
    exact finJ k
def tz_Judge_size_less (JC : Addr) : TZ := fun zs o R => ∃ (j : Addr) (c : OZ) (b x y : Nat), zs = [.ref j, zn (wd b x), zn (wd b y)] ∧ o = [(j, c)] ∧ 1 ≤ b ∧ R (.bl (decide (x < y))) o
theorem nz_pairs {xs ys : List Nat} {i : Nat} {z : Z} (h : ys.length = xs.length) (hz : (pairsR (nz xs) (nz ys))[i]? = some z) : i < xs.length ∧ ∃ x y : Nat, xs[xs.length - 1 - i]? = some x ∧ ys[xs.length - 1 - i]? = some y ∧ z = .tup [.int x, .int y] := by
  obtain ⟨h1, x, y, h2, h3, h4⟩ := pairsR_of (by rw [nz_len, nz_len, h]) hz
  rw [nz_len] at h1 h2 h3
  obtain ⟨p, hp, rfl⟩ := nz_get h2
  obtain ⟨q, hq, rfl⟩ := nz_get h3
  exact ⟨h1, p, q, hp, hq, h4⟩
theorem drop_step {l : List Nat} {i q : Nat} (hi : i < l.length) (hq : l[l.length - 1 - i]? = some q) : l.drop (l.length - (i + 1)) = q :: l.drop (l.length - i) := by
  have e1 : l.length - (i + 1) = l.length - 1 - i := by omega
  obtain ⟨hl1, e2⟩ := List.getElem?_eq_some_iff.mp hq
  have e3 : l.length - 1 - i + 1 = l.length - i := by omega
  rw [e1, List.drop_eq_getElem_cons hl1, e2, e3]
abbrev st_Judge_size_less : Stmt := inClass (top 17) 4
abbrev N_Judge_size_less : List Str := ["self", "left", "right", "word", "other"]
theorem sc_Judge_size_less : FnScope N_Judge_size_less ["self", "left", "right"] (defScope st_Judge_size_less) := ⟨rfl, rfl, rfl, by decide +kernel, rfl, by decide +kernel, by decide +kernel⟩
theorem m_size_less {JC : Addr} (T : Tx K mg) (J : TJ K mg JC) : CalM P0 w K mg base JC "size_less" 1 ["self", "left", "right"] (tz_Judge_size_less JC) := by
  refine CalM.mk J.m_size_less sc_Judge_size_less (fun _ _ _ _ _ _ us hl => match us, hl with | [_, _, _], _ => rfl) fun f cdv A outer s H E hr => ?_
  refine ⟨_, (pss_cons (ps_if (pt_cmpR op_ne (pe_callB (call_lenK (K := K)) (by rfl) T.b_len (by decide +kernel) (pa_cons (pv 1) pa_nil)) (pe_callB (call_lenK (K := K)) (by rfl) T.b_len (by decide +kernel) (pa_cons (pv 2) pa_nil)) (nomark _)) (pss_one (ps_ret (pe_cmpR op_lt (pe_callB (call_lenK (K := K)) (by rfl) T.b_len (by decide +kernel) (pa_cons (pv 1) pa_nil)) (pe_callB (call_lenK (K := K)) (by rfl) T.b_len (by decide +kernel) (pa_cons (pv 2) pa_nil)) (nomark _)))) pss_nil)
    (pss_cons (ps_for PassesOwn.never rfl (K76W.pi_zipRR (K := K) (by rfl) T.b_zip (by rfl) T.b_reversed (pe_callTy (call_lstK (K := K)) (by rfl) T.b_list (by decide +kernel) (pa_cons (pv 1) pa_nil)) (pe_callTy (call_lstK (K := K)) (by rfl) T.b_list (by decide +kernel) (pa_cons (pv 2) pa_nil))) (pg_tup rfl (pgs_cons (pg_name (i := 3) sc_Judge_size_less.nd rfl (Or.inl rfl)) (pgs_cons (pg_name (i := 4) sc_Judge_size_less.nd rfl (Or.inl rfl)) pgs_nil))) (pss_one (ps_if (pt_cmpR op_ne (pv 3) (pv 4) (nomark _)) (pss_one (ps_ret (pe_cmpR op_lt (pv 3) (pv 4) (nomark _)))) pss_nil)))
    (pss_one (ps_ret pe_bl)))), ?_⟩
  try dsimp only [cxK]
  rintro zs o R ⟨j, c, b, x, y, rfl, rfl, hb, k⟩
  repeat walk_at "z"
  rw [nz_len, nz_len]
  have wx := wval_wd hb x
  have wy := wval_wd hb y
  have bx := wd_lt hb x
  have bY := wd_lt hb y
  have sx : (wd b x).length < (wd b y).length → x < y := wd_shorter hb
  have sy : (wd b y).length < (wd b x).length → y < x := wd_shorter hb
  generalize wd b x = xs at *
  generalize wd b y = ys at *
  refine ⟨fun h => ?_, fun h => ?_⟩
  · have h1 : xs.length ≠ ys.length := fun z => by rw [z] at h; simp at h
    repeat walk_at "z"
    rw [nz_len, nz_len, dec_iff (q := x < y) ⟨fun h => sx (by omega), fun h => by
      by_cases c : xs.length < ys.length
      · omega
      · have := sy (by omega)
        omega⟩]
    exact finJ k
  · have h1 : ys.length = xs.length := by
      have : decide ((Z.int (xs.length : Nat)).v = (Z.int (ys.length : Nat)).v) = true := by simpa using h
      have := vi this
      omega
    repeat walk_at "z"
    refine ⟨by rw [nz_len, nz_len, h1], ?_⟩
    refine ⟨fun i r o => ∃ x3 x4 : Option Z, r = [some (.ref j), some (zn xs), some (zn ys), x3, x4] ∧ o = [(j, c)] ∧ xs.drop (xs.length - i) = ys.drop (xs.length - i), ⟨_, _, rfl, rfl, ?_⟩, ?_, ?_⟩
    · rw [Nat.sub_zero, List.drop_length, ← h1, List.drop_length]
    · rintro i z r o hz ⟨x3, x4, rfl, rfl, hd⟩
      obtain ⟨hi, p, q, hp, hq, rfl⟩ := nz_pairs h1 hz
      have d1 := drop_step hi hp
      have d2 : ys.drop (xs.length - (i + 1)) = q :: ys.drop (xs.length - i) := by
        have := drop_step (l := ys) (i := i) (by omega) (by rw [h1]; exact hq)
        rw [h1] at this
        exact this
      have e0 : xs.length - i = xs.length - 1 - i + 1 := by omega
      have hd2 := hd
      rw [e0] at hd2
      repeat walk_at "z"
      refine ⟨fun h => ?_, fun h => ?_⟩
      · have hne : p ≠ q := fun z => by rw [z] at h; simp at h
        repeat walk_at "z"
        have e : decide ((p : Int) < (q : Int)) = decide (x < y) := dec_iff ⟨fun h => by
          have := top_differs bx bY hd2 hp hq (by omega)
          rw [wx, wy] at this
          exact this, fun h => by
          by_cases c : p < q
          · omega
          · have := top_differs bY bx hd2.symm hq hp (by omega)
            rw [wx, wy] at this
            omega⟩
        rw [e]
        exact finJ k
      · have hpq : p = q := by
          have : decide ((Z.int (p : Nat)).v = (Z.int (q : Nat)).v) = true := by simpa using h
          have := vi this
          omega
        repeat walk_at "z"
        exact ⟨_, _, rfl, rfl, by rw [d1, d2, hd, hpq]⟩
    · rintro r o ⟨x3, x4, rfl, rfl, hd⟩
      rw [pairsR_len (by rw [nz_len, nz_len, h1]), nz_len, Nat.sub_self, List.drop_zero, List.drop_zero] at hd
      rw [hd] at wx
      rw [decide_eq_false (show ¬ x < y by omega)] at k
      repeat walk_at "z"
      exact finJ k
end

/-! ## B13 -/
section
variable {w : World} {K : PySem.W.Frag} {mg : Str → Option Value} {base : Heap}
def tz_used_points : TZ := fun zs o R => ∃ ps need, zs = [zn ps, .int need] ∧ o = [] ∧ ps.length ≤ 1000 ∧ R (match usedI ps need with | some k => .int (k : Nat) | none => .non) []
abbrev st_used_points : Stmt := top 11
abbrev N_used_points : List Str := ["points", "need", "weight", "used", "point"]
theorem sc_used_points : FnScope N_used_points ["points", "need"] (defScope st_used_points) := ⟨rfl, rfl, rfl, by decide +kernel, rfl, by decide +kernel, by decide +kernel⟩
theorem c_used_points {JC : Addr} (T : Tx K mg) (J : TJ K mg JC) : Cal P0 w K mg base "used_points" 3 ["points", "need"] (tz_used_points) := by
  refine Cal.mk T.d_used_points sc_used_points (fun _ _ _ _ _ _ us hl => match us, hl with | [_, _], _ => rfl) fun f cdv A outer s H E hr => ?_
  have c_weight_of := @c_weight_of w K mg base JC T J
  refine ⟨_, (pss_cons (ps_set (i := 2) sc_used_points.nd rfl (Or.inl rfl) pe_int)
    (pss_cons (ps_for PassesOwn.never rfl (K76W.pi_enumT (K := K) (by rfl) T.b_enumerate (pa_cons (pv 0) pa_nil)) (pg_tup rfl (pgs_cons (pg_name (i := 3) sc_used_points.nd rfl (Or.inl rfl)) (pgs_cons (pg_name (i := 4) sc_used_points.nd rfl (Or.inl rfl)) pgs_nil))) (pss_cons (ps_if (pt_cmpR op_ge (pv 2) (pv 1) (nomark _)) (pss_one (ps_ret (pv 3))) pss_nil)
    (pss_one (ps_set (i := 2) sc_used_points.nd rfl (Or.inl rfl) (pe_op op_add (pv 2) (pe_callZ c_weight_of (hr.mono (by decide)) (pa_cons (pv 4) pa_nil)))))))
    (pss_one (ps_ret (pe_ifExp (pt_cmpR op_ge (pv 2) (pv 1) (nomark _)) (pe_callB (call_lenK (K := K)) (by rfl) T.b_len (by decide +kernel) (pa_cons (pv 0) pa_nil)) pe_non))))), ?_⟩
  try dsimp only [cxK]
  rintro zs o R ⟨ps, need, rfl, rfl, hl, k⟩
  repeat walk_at "z"
  refine ⟨_, rfl, fun i r o => ∃ (w : Int) (x3 x4 : Option Z), r = [some (zn ps), some (.int need), some (.int w), x3, x4] ∧ o = [] ∧ usedI ps need = usedN need (ps.drop i) w i, ⟨_, _, _, rfl, rfl, rfl⟩, ?_, ?_⟩
  · rintro i z r o hz ⟨w, x3, x4, rfl, rfl, hu⟩
    obtain ⟨z, hz2, rfl⟩ := enumZ_of hz
    obtain ⟨p, hp, rfl⟩ := nz_get hz2
    repeat walk_at "z"
    refine ⟨fun h => ?_, fun h => ?_⟩
    · have h1 := dec_t h
      rw [hu, usedN_yes (by omega)] at k
      repeat walk_at "z"
      exact fin0 k
    · have h1 := dec_f h
      rw [usedN_no hp (by omega)] at hu
      repeat walk_at "z"
      refine ⟨rfl, _, rfl, rfl, ?_⟩
      repeat walk_at "z"
      have e : w + (bitsI (p : Int) - 1) = w + bitsI (p : Int) - 1 := by omega
      rw [e]
      exact ⟨_, _, _, rfl, rfl, hu⟩
  · rintro r o ⟨w, x3, x4, rfl, rfl, hu⟩
    rw [enumZ_len, nz_len, List.drop_length] at hu
    repeat walk_at "z"
    refine ⟨fun h => ?_, fun h => ?_⟩
    · have h1 := dec_t h
      rw [hu, usedN_yes (by omega)] at k
      repeat walk_at "z"
      rw [nz_len]
      exact fin0 k
    · have h1 := dec_f h
      rw [hu, usedN_nil (by omega)] at k
      repeat walk_at "z"
      exact fin0 k
/-- [..] * n, a list that will change -/
theorem zo_repO {K : PySem.W.Frag} {r : RR} {o : OO} {P : Z → OO → Prop} {zs : List Z} {k : Nat} (hz : zs.length * k ≤ 100000) (hk : k < 2 ^ 62) (h : ∀ p, P (.ref p) (o ++ [(p, .lst (List.replicate k zs).flatten)])) : ZO K rRep (.lst zs) (.int (k : Int)) r o P := fun _ _ σ Hb O H S vx vy d1 d2 Q q => by
  cases d2
  cases d1 with
  | @lst l vs _ ha da =>
    refine ⟨l, (k : Int), vs, rfl, rfl, S.lay.bh _ _ ha, by omega, by omega, sz_of (by rw [Int.toNat_natCast, da.len]; exact hz), fun p hp => ?_⟩
    rw [Int.toNat_natCast]
    exact q _ _ _ Hb _ _ (Ex.refl _) (S.newO hp (c := .lst (List.replicate k zs).flatten) (h := .lst (List.replicate k vs).flatten) ⟨_, rfl, da.flat k⟩) (.ref p) (h p)
def tz_product_words : TZ := fun zs o R => ∃ (l r : Int) (b : Nat), zs = [.int l, .int r, .int b] ∧ o = [] ∧ (1 ≤ b ∧ b ≤ 16) ∧ l.natAbs.log2 < 20000 ∧ r.natAbs.log2 < 20000 ∧ R (zn (wd b (l.natAbs * r.natAbs))) []
theorem nz_rep (n : Nat) : (List.replicate n [Z.int 0]).flatten = nz (List.replicate n 0) := by
  unfold nz
  rw [List.map_replicate]
  induction n with
  | zero => rfl
  | succ n ih => rw [List.replicate_succ, List.replicate_succ, List.flatten_cons, ih]; rfl
theorem nz_set (l : List Nat) (i v : Nat) : (nz l).set i (Z.int (v : Int)) = nz (l.set i v) := by
  unfold nz
  rw [List.map_set]
theorem set_lt {l : List Nat} {B i v : Nat} (h : ∀ w, w ∈ l → w < B) (hv : v < B) : ∀ w, w ∈ l.set i v → w < B := fun w hw => by
  rcases List.mem_or_eq_of_mem_set hw with h1 | h1
  · exact h w h1
  · rw [h1]; exact hv
theorem ix_nz {ps : List Nat} {i : Nat} {k : Int} (h : i < ps.length) (hk : k = (i : Int)) : ixN (nz ps).length k = some i := by
  rw [nz_len, hk]
  exact ixN_nat h
theorem atI_nzK {ps : List Nat} {i p : Nat} {k : Int} (h : ps[i]? = some p) (hk : k = (i : Int)) : atI (nz ps) k = some (.int (p : Int)) := by
  rw [hk]
  exact atI_nz h
abbrev st_product_words : Stmt := top 16
abbrev N_product_words : List Str := ["left", "right", "bits", "xs", "ys", "base", "words", "low", "x", "high", "place", "y", "total"]
theorem sc_product_words : FnScope N_product_words ["left", "right", "bits"] (defScope st_product_words) := ⟨rfl, rfl, rfl, by decide +kernel, rfl, by decide +kernel, by decide +kernel⟩
theorem c_product_words {JC : Addr} (T : Tx K mg) (J : TJ K mg JC) : Cal P0 w K mg base "product_words" 2 ["left", "right", "bits"] (tz_product_words) := by
  refine Cal.mk T.d_product_words sc_product_words (fun _ _ _ _ _ _ us hl => match us, hl with | [_, _, _], _ => rfl) fun f cdv A outer s H E hr => ?_
  have c_trimmed := @c_trimmed w K mg base JC T J
  have c_words_of := @c_words_of w K mg base JC T J
  refine ⟨_, (pss_cons (ps_set (i := 3) sc_product_words.nd rfl (Or.inl rfl) (pe_callZ c_words_of (hr.mono (by decide)) (pa_cons (pv 0) (pa_cons (pv 2) pa_nil))))
    (pss_cons (ps_set (i := 4) sc_product_words.nd rfl (Or.inl rfl) (pe_callZ c_words_of (hr.mono (by decide)) (pa_cons (pv 1) (pa_cons (pv 2) pa_nil))))
    (pss_cons (ps_set (i := 5) sc_product_words.nd rfl (Or.inl rfl) (pe_op op_shl pe_int (pv 2)))
    (pss_cons (ps_set (i := 6) sc_product_words.nd rfl (Or.inl rfl) (pe_op op_rep (pe_lst (pa_cons pe_int pa_nil)) (pe_op op_add (pe_callB (call_lenK (K := K)) (by rfl) T.b_len (by decide +kernel) (pa_cons (pv 3) pa_nil)) (pe_callB (call_lenK (K := K)) (by rfl) T.b_len (by decide +kernel) (pa_cons (pv 4) pa_nil)))))
    (pss_cons (ps_for PassesOwn.never rfl (K76W.pi_enumT (K := K) (by rfl) T.b_enumerate (pa_cons (pv 3) pa_nil)) (pg_tup rfl (pgs_cons (pg_name (i := 7) sc_product_words.nd rfl (Or.inl rfl)) (pgs_cons (pg_name (i := 8) sc_product_words.nd rfl (Or.inl rfl)) pgs_nil))) (pss_cons (ps_set (i := 9) sc_product_words.nd rfl (Or.inl rfl) pe_int)
    (pss_cons (ps_for PassesOwn.never rfl (K76W.pi_enumT (K := K) (by rfl) T.b_enumerate (pa_cons (pv 4) pa_nil)) (pg_tup rfl (pgs_cons (pg_name (i := 10) sc_product_words.nd rfl (Or.inl rfl)) (pgs_cons (pg_name (i := 11) sc_product_words.nd rfl (Or.inl rfl)) pgs_nil))) (pss_cons (ps_set (i := 12) sc_product_words.nd rfl (Or.inl rfl) (pe_op op_add (pe_op op_add (pe_op op_mul (pv 8) (pv 11)) (pe_ix (ix_listK (K := K)) (pv 6) (pe_op op_add (pv 7) (pv 10)) (fun _ _ => rfl))) (pv 9)))
    (pss_cons (ps_asg (pe_op op_modN (pv 12) (pv 5)) (pg_sub (pv 6) (pe_op op_add (pv 7) (pv 10)) set_list))
    (pss_one (ps_set (i := 9) sc_product_words.nd rfl (Or.inl rfl) (pe_op op_fdivN (pv 12) (pv 5)))))))
    (pss_one (ps_asg (pv 9) (pg_sub (pv 6) (pe_op op_add (pv 7) (pe_callB (call_lenK (K := K)) (by rfl) T.b_len (by decide +kernel) (pa_cons (pv 4) pa_nil))) set_list))))))
    (pss_one (ps_ret (pe_callZ c_trimmed (hr.mono (by decide)) (pa_cons (pv 6) pa_nil))))))))), ?_⟩
  try dsimp only [cxK]
  rintro zs o R ⟨l, r, b, rfl, rfl, hb, hl, hr, k⟩
  repeat walk_at "z"
  refine ⟨rfl, l, b, rfl, rfl, by omega, by omega, ?_⟩
  repeat walk_at "z"
  refine ⟨rfl, r, b, rfl, rfl, by omega, by omega, ?_⟩
  repeat walk_at "y"
  have e2 : (1 : Int) * 2 ^ (b : Int).toNat = ((2 ^ b : Nat) : Int) := by rw [Int.one_mul, Int.toNat_natCast]; norm_cast
  rw [e2]
  have lx := wd_len hb.1 (n := l.natAbs)
  have ly := wd_len hb.1 (n := r.natAbs)
  have vx := wval_wd hb.1 l.natAbs
  have vy := wval_wd hb.1 r.natAbs
  have bx := wd_lt hb.1 l.natAbs
  have bY := wd_lt hb.1 r.natAbs
  generalize wd b l.natAbs = xs at *
  generalize wd b r.natAbs = ys at *
  have hB : 2 ^ b ≤ 65536 := Nat.pow_le_pow_right (by omega) hb.2
  have hB0 := Nat.two_pow_pos b
  rw [nz_len, nz_len]
  have e3 : (xs.length : Int) + (ys.length : Int) = ((xs.length + ys.length : Nat) : Int) := by omega
  rw [e3]
  refine zo_repO (by show 1 * _ ≤ _; omega) (by omega) fun a => ?_
  rw [nz_rep]
  refine ws_seq (ws_for ?_)
  repeat walk_at "y"
  refine ⟨_, rfl, fun i r' o => ∃ (ws : List Nat) (x7 x8 x9 x10 x11 x12 : Option Z), r' = [some (.int l), some (.int r), some (.int b), some (zn xs), some (zn ys), some (.int (2 ^ b : Nat)), some (.ref a), x7, x8, x9, x10, x11, x12] ∧ o = [(a, .lst (nz ws))] ∧ ws.length = xs.length + ys.length ∧ (∀ w, w ∈ ws → w < 2 ^ b) ∧ wval b ws = wval b (xs.take i) * wval b ys ∧ (∀ k v, i + ys.length ≤ k → ws[k]? = some v → v = 0), ⟨List.replicate (xs.length + ys.length) 0, _, _, _, _, _, _, rfl, rfl, List.length_replicate, fun w hw => ?_, ?_, fun k v _ hv => ?_⟩, ?_, ?_⟩
  · rw [(List.mem_replicate.mp hw).2]
    exact hB0
  · rw [wval_zero fun x hx => (List.mem_replicate.mp hx).2]
    show 0 = 0 * _
    rw [Nat.zero_mul]
  · exact (List.mem_replicate.mp (List.mem_of_getElem? hv)).2
  · rintro i z r' o hz ⟨ws, x7, x8, x9, x10, x11, x12, rfl, rfl, hlen, hlt, hval, hzero⟩
    obtain ⟨z, hz2, rfl⟩ := enumZ_of hz
    obtain ⟨x, hx, rfl⟩ := nz_get hz2
    have hi := (List.getElem?_eq_some_iff.mp hx).1
    have hxB := bx x (List.mem_of_getElem? hx)
    repeat walk_at "y"
    refine ws_mid (fun r' o => ∃ (ws : List Nat) (high : Nat) (x10 x11 x12 : Option Z), r' = [some (.int l), some (.int r), some (.int b), some (zn xs), some (zn ys), some (.int (2 ^ b : Nat)), some (.ref a), some (.int (i : Nat)), some (.int x), some (.int (high : Nat)), x10, x11, x12] ∧ o = [(a, .lst (nz ws))] ∧ high < 2 ^ b ∧ ws.length = xs.length + ys.length ∧ (∀ w, w ∈ ws → w < 2 ^ b) ∧ wval b ws + 2 ^ (b * (i + ys.length)) * high = wval b (xs.take i) * wval b ys + 2 ^ (b * i) * (x * wval b ys) ∧ (∀ k v, i + ys.length ≤ k → ws[k]? = some v → v = 0)) ?_ ?_
    · refine ws_for ?_
      repeat walk_at "y"
      refine ⟨_, rfl, fun q r' o => ∃ (ws : List Nat) (high : Nat) (x10 x11 x12 : Option Z), r' = [some (.int l), some (.int r), some (.int b), some (zn xs), some (zn ys), some (.int (2 ^ b : Nat)), some (.ref a), some (.int (i : Nat)), some (.int x), some (.int (high : Nat)), x10, x11, x12] ∧ o = [(a, .lst (nz ws))] ∧ high < 2 ^ b ∧ ws.length = xs.length + ys.length ∧ (∀ w, w ∈ ws → w < 2 ^ b) ∧ wval b ws + 2 ^ (b * (i + q)) * high = wval b (xs.take i) * wval b ys + 2 ^ (b * i) * (x * wval b (ys.take q)) ∧ (∀ k v, i + ys.length ≤ k → ws[k]? = some v → v = 0), ⟨ws, 0, _, _, _, rfl, rfl, hB0, hlen, hlt, ?_, hzero⟩, ?_, ?_⟩
      · rw [hval, List.take_zero]
        show _ = _ + 2 ^ (b * i) * (x * 0)
        rw [Nat.mul_zero, Nat.mul_zero, Nat.mul_zero]
      · rintro q z r' o hz ⟨ws, high, x10, x11, x12, rfl, rfl, hh, hlen, hlt, hval, hzero⟩
        obtain ⟨z, hz2, rfl⟩ := enumZ_of hz
        obtain ⟨y, hy, rfl⟩ := nz_get hz2
        have hq := (List.getElem?_eq_some_iff.mp hy).1
        have hyB := bY y (List.mem_of_getElem? hy)
        obtain ⟨w, hw⟩ : ∃ w, ws[i + q]? = some w := ⟨_, List.getElem?_eq_getElem (by omega)⟩
        have hwB := hlt w (List.mem_of_getElem? hw)
        have hstep := row_step (y := y) hw hval
        rw [← take_wval hy] at hstep
        have hhB := total_lt (b := b) hxB hyB hwB hh
        have hmB := Nat.mod_lt (x * y + w + high) hB0
        repeat walk_at "y"
        refine zo_ixO (i := 0) rfl (atI_nzK hw (by omega)) ?_
        repeat walk_at "y"
        have e3 : ((x : Int)) * (y : Int) + (w : Int) + (high : Int) = ((x * y + w + high : Nat) : Int) := by norm_cast
        rw [e3]
        refine ⟨0, nz ws, _, i + q, rfl, rfl, ix_nz (by omega) (by omega), ?_⟩
        repeat walk_at "y"
        rw [fmod_nat, fdiv_nat, nz_set]
        refine ⟨ws.set (i + q) ((x * y + w + high) % 2 ^ b), (x * y + w + high) / 2 ^ b, _, _, _, rfl, rfl, hhB, by rw [List.length_set, hlen], set_lt hlt hmB, hstep, fun k v hk hv => ?_⟩
        rw [List.getElem?_set_ne (by omega)] at hv
        exact hzero k v hk hv
      · rintro r' o ⟨ws, high, x10, x11, x12, rfl, rfl, hh, hlen, hlt, hval, hzero⟩
        rw [enumZ_len, nz_len, List.take_length] at hval
        exact ⟨ws, high, x10, x11, x12, rfl, rfl, hh, hlen, hlt, hval, hzero⟩
    · rintro r' o ⟨ws, high, x10, x11, x12, rfl, rfl, hh, hlen, hlt, hval, hzero⟩
      obtain ⟨w, hw⟩ : ∃ w, ws[i + ys.length]? = some w := ⟨_, List.getElem?_eq_getElem (by omega)⟩
      have w0 := hzero _ w (Nat.le_refl _) hw
      subst w0
      have hs := wval_set (b := b) (v := high) hw
      repeat walk_at "y"
      rw [nz_len]
      refine ⟨0, nz ws, _, i + ys.length, rfl, rfl, ix_nz (by omega) (by omega), ?_⟩
      rw [nz_set]
      refine ⟨ws.set (i + ys.length) high, _, _, _, _, _, _, rfl, rfl, by rw [List.length_set, hlen], set_lt hlt hh, ?_, fun k v hk hv => ?_⟩
      · rw [take_wval hx, Nat.add_mul, Nat.mul_assoc]
        omega
      · rw [List.getElem?_set_ne (by omega)] at hv
        exact hzero k v (by omega) hv
  · rintro r' o ⟨ws, x7, x8, x9, x10, x11, x12, rfl, rfl, hlen, hlt, hval, hzero⟩
    rw [enumZ_len, nz_len, List.take_length, vx, vy] at hval
    refine ws_ret (we_still (o := []) (i := 6) rfl ?_)
    repeat walk_at "y"
    refine ⟨rfl, ws, rfl, rfl, by omega, fun e h1 h2 h3 => ?_⟩
    rw [trim_math hb.1 h1 hlt h2 h3, hval]
    exact fin0 k
end

/-! ## B14 -/
section
variable {w : World} {K : PySem.W.Frag} {mg : Str → Option Value} {base : Heap}
def wlen (b : Nat) (n : Int) : Int := (bitsI n + (b : Int) - 1).fdiv (b : Int)
theorem wlen_nat {b : Nat} (hb : 1 ≤ b) (n : Int) : ((wd b n.natAbs).length : Int) = wlen b n := by
  rw [wd_cnt hb]
  unfold wlen
  have e : bN (n.natAbs : Int) = bN n := by
    unfold bN Builtin.Int.intBits
    by_cases h : n = 0
    · subst h; rfl
    · rw [if_neg (by simpa using h), if_neg (by simpa using h)]
      rfl
  rw [e]
  show _ = (((bN n : Nat) : Int) + (b : Int) - 1).fdiv (b : Int)
  have e2 : ((bN n : Nat) : Int) + (b : Int) - 1 = ((bN n + b - 1 : Nat) : Int) := by omega
  rw [e2, fdiv_nat]
def stepW (b : Nat) (ts : List (List Int)) : Int := (ts.map fun t => (t.map fun n => wlen b n + 1).sum).sum
def zeroV (jp : JP) (ts : List (List Int)) : Bool := match jp with
  | .no => true
  | .bad _ => false
  | .good l => match usedI l (needI ts) with
    | none => false
    | some _ => decide (totI ts = 0)
def stV (b : Nat) (jp : JP) (st : Int) (ts : List (List Int)) : Int := match jp with
  | .good l => match usedI l (needI ts) with
    | none => st
    | some u => st + (u : Int) * stepW b ts
  | _ => st
def moV (mo : Int) (ts : List (List Int)) : Int := if needI ts > mo then needI ts else mo
def tz_Judge_zero (JC : Addr) : TZ := fun zs o R => ∃ (j dx : Addr) (b : Nat) (jp : JP) (st mo : Int) (ts : List (List Int)), zs = [.ref j, zts ts] ∧ o = [(j, jO JC dx b jp st mo)] ∧ JOk b jp ∧ GoodTs ts ∧ R (.bl (zeroV jp ts)) [(j, jO JC dx b jp (stV b jp st ts) (moV mo ts))]
abbrev st_Judge_zero : Stmt := inClass (top 17) 3
abbrev N_Judge_zero : List Str := ["self", "terms", "need", "used", "term", "factor", "read", "pair", "point"]
theorem sc_Judge_zero : FnScope N_Judge_zero ["self", "terms"] (defScope st_Judge_zero) := ⟨rfl, rfl, rfl, by decide +kernel, rfl, by decide +kernel, by decide +kernel⟩
theorem m_zero {JC : Addr} (T : Tx K mg) (J : TJ K mg JC) : CalM P0 w K mg base JC "zero" 4 ["self", "terms"] (tz_Judge_zero JC) := by
  refine CalM.mk J.m_zero sc_Judge_zero (fun _ _ _ _ _ _ us hl => match us, hl with | [_, _], _ => rfl) fun f cdv A outer s H E hr => ?_
  have m_leaves_none := @m_leaves_none w K mg base JC T J
  have c_need_of := @c_need_of w K mg base JC T J
  have c_used_points := @c_used_points w K mg base JC T J
  have c_words_of := @c_words_of w K mg base JC T J
  refine ⟨_, (pss_cons (ps_set (i := 2) sc_Judge_zero.nd rfl (Or.inl rfl) (pe_callZ c_need_of (hr.mono (by decide)) (pa_cons (pv 1) pa_nil)))
    (pss_cons (ps_fld (pv 0) (pe_callB (call_max2 rfl) (by rfl) T.b_max (by decide +kernel) (pa_cons (pe_fldK (K := K) (pv 0) rfl) (pa_cons (pv 2) pa_nil))) rfl)
    (pss_cons (ps_if (pt_cmp (pc_isN (pe_fldK (K := K) (pv 0) rfl)) rfl) (pss_one (ps_ret pe_bl)) pss_nil)
    (pss_cons (ps_if (pt_not (pt_val (pe_fldK (K := K) (pv 0) rfl))) (pss_one (ps_ret pe_bl)) pss_nil)
    (pss_cons (ps_set (i := 3) sc_Judge_zero.nd rfl (Or.inl rfl) (pe_callZ c_used_points (hr.mono (by decide)) (pa_cons (pe_fldK (K := K) (pv 0) rfl) (pa_cons (pv 2) pa_nil))))
    (pss_cons (ps_if (pt_cmp (pc_isN (pv 3)) rfl) (pss_one (ps_ret pe_bl)) pss_nil)
    (pss_cons (ps_setLc (i := 6) (own := [("term", 4)]) (g := gName 4) rfl sc_Judge_zero.nd rfl rfl (sw_true rfl rfl rfl (by decide +kernel)) (pi_tupK (K := K) (pv 1)) (blkOk_by (N := N_Judge_zero) (sc := defScope st_Judge_zero) (by decide +kernel)) (fun _ _ _ _ _ => pg_name (i := 4) sc_Judge_zero.nd rfl (Or.inl rfl)) (fun _ _ _ _ _ => pts_nil) (fun _ _ _ _ _ => (pe_lc (own := [("factor", 5)]) (g := gName 5) rfl sc_Judge_zero.nd (pi_tupK (K := K) (pv 4)) (blkOk_by (N := N_Judge_zero) (by kernel_rfl)) (fun _ _ _ _ _ => pg_name (i := 5) sc_Judge_zero.nd rfl (Or.inl rfl)) (fun _ _ _ _ _ => pts_nil) (fun _ _ _ _ _ => (pe_tup (pa_cons (pv 5) (pa_cons (pe_callZ c_words_of (hr.mono (by decide)) (pa_cons (pv 5) (pa_cons (pe_fldK (K := K) (pv 0) rfl) pa_nil))) pa_nil)))))))
    (pss_cons (ps_fld (pv 0) (pe_op op_add (pe_fldK (K := K) (pv 0) rfl) (pe_op op_mul (pv 3) (pe_callB (cr_sumK (K := K) rfl) (by rfl) T.b_sum (by decide +kernel) (pa_cons (pe_lc (own := [("term", 4)]) (g := gName 4) rfl sc_Judge_zero.nd (pi_listK (K := K) (pv 6)) (blkOk_by (N := N_Judge_zero) (sc := defScope st_Judge_zero) (by decide +kernel)) (fun _ _ _ _ _ => pg_name (i := 4) sc_Judge_zero.nd rfl (Or.inl rfl)) (fun _ _ _ _ _ => pts_nil) (fun _ _ _ _ _ => (pe_callB (cr_sumK (K := K) rfl) (by rfl) T.b_sum (by decide +kernel) (pa_cons (pe_lc (own := [("pair", 7)]) (g := gName 7) rfl sc_Judge_zero.nd (pi_listK (K := K) (pv 4)) (blkOk_by (N := N_Judge_zero) (by kernel_rfl)) (fun _ _ _ _ _ => pg_name (i := 7) sc_Judge_zero.nd rfl (Or.inl rfl)) (fun _ _ _ _ _ => pts_nil) (fun _ _ _ _ _ => (pe_op op_add (pe_callB (call_lenK (K := K)) (by rfl) T.b_len (by decide +kernel) (pa_cons (pe_ix (ix_tupK (K := K)) (pv 7) pe_int (fun _ _ => rfl)) pa_nil)) pe_int))) pa_nil)))) pa_nil)))) rfl)
    (pss_cons (ps_for PassesOwn.never rfl (pi_tupK (K := K) (pe_slice (sl_tupK (K := K)) (pe_fldK (K := K) (pv 0) rfl) po_none (po_some (pv 3)))) (pg_name (i := 8) sc_Judge_zero.nd rfl (Or.inl rfl)) (pss_one (ps_if (pt_not (pt_val (pe_methZ J.cl m_leaves_none (hr.mono (by decide)) (pv 0) (pa_cons (pv 6) (pa_cons (pv 8) pa_nil))))) (pss_one (ps_ret pe_bl)) pss_nil)))
    (pss_one (ps_ret pe_bl))))))))))), ?_⟩
  try dsimp only [cxK]
  rintro zs o R ⟨j, dx, b, jp, st, mo, ts, rfl, rfl, ok, ht, k⟩
  repeat walk_at "z"
  refine ⟨rfl, ts, rfl, rfl, ⟨by have := ht.1; omega, fun t h => by have := (ht.2 t h).1; omega⟩, ?_⟩
  repeat walk_at "z"
  cases jp with
  | no =>
    refine ⟨fun _ => ?_, fun h => nomatch h⟩
    repeat walk_at "z"
    exact finJ k
  | bad l =>
    refine ⟨fun h => (nomatch h), fun _ => ?_⟩
    repeat walk_at "z"
    refine ⟨fun _ => ?_, fun h => nomatch h⟩
    repeat walk_at "z"
    exact finJ k
  | good l =>
    refine ⟨fun h => (nomatch h), fun _ => ?_⟩
    repeat walk_at "z"
    refine ⟨fun h => (nomatch h), fun _ => ?_⟩
    repeat walk_at "z"
    obtain ⟨hd, hl⟩ := ok.hg l rfl
    have hb := ok.hb
    refine ⟨rfl, l, needI ts, rfl, rfl, by omega, ?_⟩
    cases hu : usedI l (needI ts) with
    | none =>
      have k1 : R (.bl false) [(j, jO JC dx b (.good l) st (moV mo ts))] := by
        have e1 : zeroV (.good l) ts = false := by unfold zeroV; dsimp only; rw [hu]
        have e2 : stV b (.good l) st ts = st := by unfold stV; dsimp only; rw [hu]
        rw [e1, e2] at k
        exact k
      repeat walk_at "z"
      refine ⟨fun _ => ?_, fun h => nomatch h⟩
      repeat walk_at "z"
      exact finJ k1
    | some u =>
      have k1 : R (.bl (decide (totI ts = 0))) [(j, jO JC dx b (.good l) (st + (u : Int) * stepW b ts) (moV mo ts))] := by
        have e1 : zeroV (.good l) ts = decide (totI ts = 0) := by unfold zeroV; dsimp only; rw [hu]
        have e2 : stV b (.good l) st ts = st + (u : Int) * stepW b ts := by unfold stV; dsimp only; rw [hu]
        rw [e1, e2] at k
        exact k
      have hp1 : ∀ p, p ∈ l → 1 ≤ p := fun p hp => by have := (hd.pr hp).2.1; omega
      have hul := used_le hp1 hu
      have h2b : 2 ^ b ≤ 2 ^ 16 := Nat.pow_le_pow_right (by decide) hb.2
      repeat walk_at "z"
      refine ⟨fun h => (nomatch h), fun _ => ?_⟩
      repeat walk_at "z"
      refine we_lcI (j := 4) (ts.map (readT b)) ?_
      repeat walk_at "z"
      refine ⟨by rw [List.length_map]; have := ht.1; omega, by rw [List.length_map, List.length_map], fun i z hz => ?_, ?_⟩
      · obtain ⟨t, hti, rfl⟩ := map_of hz
        have htm := ht.2 t (List.mem_of_getElem? hti)
        refine we_lcI (j := 5) (t.map fun n => .tup [.int n, zn (wd b n.natAbs)]) ?_
        repeat walk_at "z"
        refine ⟨by rw [List.length_map]; omega, by rw [List.length_map, List.length_map], fun i z hz => ?_, rfl, map_at hti⟩
        obtain ⟨n, hni, rfl⟩ := map_of hz
        have hn := htm.2 n (List.mem_of_getElem? hni)
        repeat walk_at "z"
        refine ⟨rfl, n, b, rfl, rfl, by omega, by
          by_cases c : n.natAbs = 0
          · rw [c]; decide
          · exact Nat.lt_trans ((Nat.log2_lt c).mpr hn) (by decide), ?_⟩
        repeat walk_at "z"
        exact ⟨rfl, map_at hni⟩
      · repeat walk_at "z"
        refine we_lcI (j := 4) ((ts.map fun t => (t.map fun n => wlen b n + 1).sum).map Z.int) ?_
        repeat walk_at "z"
        refine ⟨by rw [List.length_map]; have := ht.1; omega, by rw [List.length_map, List.length_map, List.length_map], fun i z hz => ?_, ?_⟩
        · obtain ⟨t, hti, rfl⟩ := map_of hz
          have htm := ht.2 t (List.mem_of_getElem? hti)
          repeat walk_at "z"
          refine we_lcI (j := 7) ((t.map fun n => wlen b n + 1).map Z.int) ?_
          repeat walk_at "z"
          refine ⟨by rw [List.length_map]; omega, by rw [List.length_map, List.length_map, List.length_map], fun i z hz => ?_, ?_⟩
          · obtain ⟨n, hni, rfl⟩ := map_of hz
            repeat walk_at "z"
            refine zo_ixT (z := zn (wd b n.natAbs)) rfl ?_
            repeat walk_at "z"
            rw [nz_len, wlen_nat hb.1]
            exact ⟨rfl, map_at (map_at hni)⟩
          · repeat walk_at "z"
            exact ⟨rfl, map_at (map_at hti)⟩
        · repeat walk_at "z"
          refine ⟨nz l, rfl, ?_⟩
          repeat walk_at "z"
          rw [show cutZ (nz l) none (some (u : Int)) = nz (l.take u) from cutL_nz]
          refine ⟨fun i r o => ∃ x8 : Option Z, r = [some (.ref j), some (zts ts), some (.int (needI ts)), some (.int (u : Nat)), none, none, some (readZ b ts), none, x8] ∧ o = [(j, jO JC dx b (.good l) (st + (u : Int) * stepW b ts) (moV mo ts))] ∧ ∀ m p, m < i → (l.take u)[m]? = some p → totI ts % (p : Int) = 0, ⟨none, rfl, rfl, fun m p h => absurd h (Nat.not_lt_zero m)⟩, ?_, ?_⟩
          · rintro i z r o hz ⟨x8, rfl, rfl, hall⟩
            obtain ⟨p, hp, rfl⟩ := nz_get hz
            obtain ⟨hpb, hpp⟩ := hd.pr (List.mem_of_mem_take (List.mem_of_getElem? hp))
            have hp2 := hpp.1
            repeat walk_at "z"
            refine ⟨rfl, _, rfl, j, dx, b, .good l, _, _, ts, p, rfl, rfl, hb, hp2, by omega, fun t h1 n h2 => ?_, fun c' hc => ?_⟩
            · have hn := (ht.2 t h1).2 n h2
              by_cases c : n.natAbs = 0
              · rw [c]; decide
              · exact Nat.lt_trans ((Nat.log2_lt c).mpr hn) (by decide)
            cases oneJ hc
            repeat walk_at "z"
            refine ⟨fun h => ?_, fun h => ?_⟩
            · have h1 : ¬ totI ts % (p : Int) = 0 := by simpa using h
              repeat walk_at "z"
              have h2 : ¬ totI ts = 0 := fun z => h1 (by rw [z]; exact Int.zero_emod _)
              rw [decide_eq_false h2] at k1
              exact finJ k1
            · have h1 : totI ts % (p : Int) = 0 := by simpa using h
              repeat walk_at "z"
              refine ⟨_, rfl, rfl, fun m q hm hq => ?_⟩
              by_cases c : m < i
              · exact hall m q c hq
              · have : m = i := by omega
                subst this
                rw [hp] at hq
                cases hq
                exact h1
          · rintro r o ⟨x8, rfl, rfl, hall⟩
            rw [nz_len] at hall
            have h0 : totI ts = 0 := (zero_math hd hu).mp fun p hp => by
              obtain ⟨m, hm⟩ := List.getElem?_of_mem hp
              exact hall m p (List.getElem?_eq_some_iff.mp hm).1 hm
            rw [decide_eq_true h0] at k1
            repeat walk_at "z"
            exact finJ k1
end

/-! ## B15 -/
section
variable {w : World} {K : PySem.W.Frag} {mg : Str → Option Value} {base : Heap}
def mxI (i j : Int) : Int := if j > i then j else i
def Sz (n : Int) : Prop := n.natAbs < 2 ^ 6000
theorem Sz.log {n : Int} (h : Sz n) : n.natAbs.log2 < 6000 := by
  by_cases c : n.natAbs = 0
  · rw [c]; decide
  · exact (Nat.log2_lt c).mpr h
def tz_Judge_less (JC : Addr) : TZ := fun zs o R => ∃ (j dx : Addr) (b : Nat) (jp : JP) (st mo : Int) (x y : Int), zs = [.ref j, .int x, .int y] ∧ o = [(j, jO JC dx b jp st mo)] ∧ JOk b jp ∧ Sz x ∧ Sz y ∧ R (.bl (jp.g && decide (x < y))) [(j, jO JC dx b jp (st + mxI (wlen b x) (wlen b y) + 1) mo)]
abbrev st_Judge_less : Stmt := inClass (top 17) 5
abbrev N_Judge_less : List Str := ["self", "left", "right", "left_words", "right_words"]
theorem sc_Judge_less : FnScope N_Judge_less ["self", "left", "right"] (defScope st_Judge_less) := ⟨rfl, rfl, rfl, by decide +kernel, rfl, by decide +kernel, by decide +kernel⟩
theorem m_less {JC : Addr} (T : Tx K mg) (J : TJ K mg JC) : CalM P0 w K mg base JC "less" 2 ["self", "left", "right"] (tz_Judge_less JC) := by
  refine CalM.mk J.m_less sc_Judge_less (fun _ _ _ _ _ _ us hl => match us, hl with | [_, _, _], _ => rfl) fun f cdv A outer s H E hr => ?_
  have m_size_less := @m_size_less w K mg base JC T J
  have c_words_of := @c_words_of w K mg base JC T J
  refine ⟨_, (pss_cons (ps_set (i := 3) sc_Judge_less.nd rfl (Or.inl rfl) (pe_callZ c_words_of (hr.mono (by decide)) (pa_cons (pv 1) (pa_cons (pe_fldK (K := K) (pv 0) rfl) pa_nil))))
    (pss_cons (ps_set (i := 4) sc_Judge_less.nd rfl (Or.inl rfl) (pe_callZ c_words_of (hr.mono (by decide)) (pa_cons (pv 2) (pa_cons (pe_fldK (K := K) (pv 0) rfl) pa_nil))))
    (pss_cons (ps_fld (pv 0) (pe_op op_add (pe_op op_add (pe_fldK (K := K) (pv 0) rfl) (pe_callB (call_max2 rfl) (by rfl) T.b_max (by decide +kernel) (pa_cons (pe_callB (call_lenK (K := K)) (by rfl) T.b_len (by decide +kernel) (pa_cons (pv 3) pa_nil)) (pa_cons (pe_callB (call_lenK (K := K)) (by rfl) T.b_len (by decide +kernel) (pa_cons (pv 4) pa_nil)) pa_nil)))) pe_int) rfl)
    (pss_cons (ps_if (pt_not (pt_val (pe_fldK (K := K) (pv 0) rfl))) (pss_one (ps_ret pe_bl)) pss_nil)
    (pss_cons (ps_if (PW.pt (pw_and (pt_cmpR op_lt (pv 1) pe_int (nomark _)) (pw_and1 (pt_cmpR op_lt (pv 2) pe_int (nomark _))))) (pss_one (ps_ret (pe_methZ J.cl m_size_less (hr.mono (by decide)) (pv 0) (pa_cons (pv 4) (pa_cons (pv 3) pa_nil))))) pss_nil)
    (pss_cons (ps_if (PW.pt (pw_or (pt_cmpR op_lt (pv 1) pe_int (nomark _)) (pw_or1 (pt_cmpR op_lt (pv 2) pe_int (nomark _))))) (pss_one (ps_ret (pe_cmpR op_lt (pv 1) pe_int (nomark _)))) pss_nil)
    (pss_one (ps_ret (pe_methZ J.cl m_size_less (hr.mono (by decide)) (pv 0) (pa_cons (pv 3) (pa_cons (pv 4) pa_nil))))))))))), ?_⟩
  try dsimp only [cxK]
  rintro zs o R ⟨j, dx, b, jp, st, mo, x, y, rfl, rfl, ok, hx, hy, k⟩
  have hb := ok.hb
  repeat walk_at "z"
  refine ⟨rfl, x, b, rfl, rfl, by omega, Nat.lt_trans hx.log (by decide), ?_⟩
  repeat walk_at "z"
  refine ⟨rfl, y, b, rfl, rfl, by omega, Nat.lt_trans hy.log (by decide), ?_⟩
  repeat walk_at "z"
  rw [nz_len, nz_len, wlen_nat hb.1, wlen_nat hb.1]
  refine ⟨fun h => ?_, fun h => ?_⟩
  · have hg : jp.g = false := by simpa using h
    rw [hg, Bool.false_and] at k
    repeat walk_at "z"
    exact finJ k
  · have hg : jp.g = true := by simpa using h
    rw [hg, Bool.true_and] at k
    repeat walk_at "z"
    refine ⟨fun h => ?_, fun h => ?_⟩
    · have h1 := dec_t h
      repeat walk_at "z"
      refine ⟨fun h => ?_, fun h => ?_⟩
      · have h2 := dec_t h
        repeat walk_at "z"
        refine ⟨rfl, _, rfl, j, _, b, y.natAbs, x.natAbs, rfl, rfl, hb.1, fun c' hc => ?_⟩
        cases oneJ hc
        rw [dec_iff (q := x < y) (by omega)]
        exact finJ k
      · have h2 := dec_f h
        repeat walk_at "z"
        refine ⟨fun h => absurd h1 (dec_f h), fun _ => ⟨fun _ => ?_, fun h => (nomatch h)⟩⟩
        repeat walk_at "z"
        rw [dec_iff (q := x < y) (by omega)]
        exact finJ k
    · have h1 := dec_f h
      refine ⟨fun h => (nomatch h), fun _ => ?_⟩
      repeat walk_at "z"
      refine ⟨fun _ => ?_, fun h => absurd (dec_t h) h1⟩
      repeat walk_at "z"
      refine ⟨fun h => ?_, fun h => ?_⟩
      · have h2 := dec_t h
        repeat walk_at "z"
        rw [dec_iff (q := x < y) (by omega)]
        exact finJ k
      · have h2 := dec_f h
        repeat walk_at "z"
        refine ⟨rfl, _, rfl, j, _, b, x.natAbs, y.natAbs, rfl, rfl, hb.1, fun c' hc => ?_⟩
        cases oneJ hc
        rw [dec_iff (q := x < y) (by omega)]
        exact finJ k
def tz_Judge_fraction_less (JC : Addr) : TZ := fun zs o R => ∃ (j dx : Addr) (b : Nat) (jp : JP) (st mo : Int) (a d c e : Int), zs = [.ref j, .tup [.int a, .int d], .tup [.int c, .int e]] ∧ o = [(j, jO JC dx b jp st mo)] ∧ JOk b jp ∧ Sz a ∧ Sz d ∧ Sz c ∧ Sz e ∧ 0 < d ∧ 0 < e ∧
  R (.bl (jp.g && decide (a * e < c * d))) [(j, jO JC dx b jp (st + wlen b (a * e) + wlen b (c * d) + 1) mo)]
abbrev st_Judge_fraction_less : Stmt := inClass (top 17) 6
abbrev N_Judge_fraction_less : List Str := ["self", "left", "right", "first", "second"]
theorem sc_Judge_fraction_less : FnScope N_Judge_fraction_less ["self", "left", "right"] (defScope st_Judge_fraction_less) := ⟨rfl, rfl, rfl, by decide +kernel, rfl, by decide +kernel, by decide +kernel⟩
theorem m_fraction_less {JC : Addr} (T : Tx K mg) (J : TJ K mg JC) : CalM P0 w K mg base JC "fraction_less" 3 ["self", "left", "right"] (tz_Judge_fraction_less JC) := by
  refine CalM.mk J.m_fraction_less sc_Judge_fraction_less (fun _ _ _ _ _ _ us hl => match us, hl with | [_, _, _], _ => rfl) fun f cdv A outer s H E hr => ?_
  have m_size_less := @m_size_less w K mg base JC T J
  have c_product_words := @c_product_words w K mg base JC T J
  refine ⟨_, (pss_cons (ps_set (i := 3) sc_Judge_fraction_less.nd rfl (Or.inl rfl) (pe_callZ c_product_words (hr.mono (by decide)) (pa_cons (pe_ix (ix_tupK (K := K)) (pv 1) pe_int (fun _ _ => rfl)) (pa_cons (pe_ix (ix_tupK (K := K)) (pv 2) pe_int (fun _ _ => rfl)) (pa_cons (pe_fldK (K := K) (pv 0) rfl) pa_nil)))))
    (pss_cons (ps_set (i := 4) sc_Judge_fraction_less.nd rfl (Or.inl rfl) (pe_callZ c_product_words (hr.mono (by decide)) (pa_cons (pe_ix (ix_tupK (K := K)) (pv 2) pe_int (fun _ _ => rfl)) (pa_cons (pe_ix (ix_tupK (K := K)) (pv 1) pe_int (fun _ _ => rfl)) (pa_cons (pe_fldK (K := K) (pv 0) rfl) pa_nil)))))
    (pss_cons (ps_fld (pv 0) (pe_op op_add (pe_op op_add (pe_op op_add (pe_fldK (K := K) (pv 0) rfl) (pe_callB (call_lenK (K := K)) (by rfl) T.b_len (by decide +kernel) (pa_cons (pv 3) pa_nil))) (pe_callB (call_lenK (K := K)) (by rfl) T.b_len (by decide +kernel) (pa_cons (pv 4) pa_nil))) pe_int) rfl)
    (pss_cons (ps_if (pt_not (pt_val (pe_fldK (K := K) (pv 0) rfl))) (pss_one (ps_ret pe_bl)) pss_nil)
    (pss_cons (ps_if (PW.pt (pw_and (pt_cmpR op_lt (pe_ix (ix_tupK (K := K)) (pv 1) pe_int (fun _ _ => rfl)) pe_int (nomark _)) (pw_and1 (pt_cmpR op_lt (pe_ix (ix_tupK (K := K)) (pv 2) pe_int (fun _ _ => rfl)) pe_int (nomark _))))) (pss_one (ps_ret (pe_methZ J.cl m_size_less (hr.mono (by decide)) (pv 0) (pa_cons (pv 4) (pa_cons (pv 3) pa_nil))))) pss_nil)
    (pss_cons (ps_if (PW.pt (pw_or (pt_cmpR op_lt (pe_ix (ix_tupK (K := K)) (pv 1) pe_int (fun _ _ => rfl)) pe_int (nomark _)) (pw_or1 (pt_cmpR op_lt (pe_ix (ix_tupK (K := K)) (pv 2) pe_int (fun _ _ => rfl)) pe_int (nomark _))))) (pss_one (ps_ret (pe_cmpR op_lt (pe_ix (ix_tupK (K := K)) (pv 1) pe_int (fun _ _ => rfl)) pe_int (nomark _)))) pss_nil)
    (pss_one (ps_ret (pe_methZ J.cl m_size_less (hr.mono (by decide)) (pv 0) (pa_cons (pv 3) (pa_cons (pv 4) pa_nil))))))))))), ?_⟩
  try dsimp only [cxK]
  rintro zs o R ⟨j, dx, b, jp, st, mo, a, d, c, e, rfl, rfl, ok, ha, hd, hc, he, d0, e0, k⟩
  have hb := ok.hb
  repeat walk_at "z"
  refine zo_ixT (z := .int a) rfl ?_
  repeat walk_at "z"
  refine zo_ixT (z := .int e) rfl ?_
  repeat walk_at "z"
  refine ⟨rfl, a, e, b, rfl, rfl, hb, Nat.lt_trans ha.log (by decide), Nat.lt_trans he.log (by decide), ?_⟩
  repeat walk_at "z"
  refine zo_ixT (z := .int c) rfl ?_
  repeat walk_at "z"
  refine zo_ixT (z := .int d) rfl ?_
  repeat walk_at "z"
  refine ⟨rfl, c, d, b, rfl, rfl, hb, Nat.lt_trans hc.log (by decide), Nat.lt_trans hd.log (by decide), ?_⟩
  rw [← Int.natAbs_mul, ← Int.natAbs_mul]
  repeat walk_at "z"
  rw [nz_len, nz_len, wlen_nat hb.1, wlen_nat hb.1]
  have na : a < 0 → a * e < 0 := fun h => Int.mul_neg_of_neg_of_pos h e0
  have pa : ¬ a < 0 → 0 ≤ a * e := fun h => Int.mul_nonneg (by omega) (by omega)
  have nc : c < 0 → c * d < 0 := fun h => Int.mul_neg_of_neg_of_pos h d0
  have pc : ¬ c < 0 → 0 ≤ c * d := fun h => Int.mul_nonneg (by omega) (by omega)
  generalize a * e = x at *
  generalize c * d = y at *
  refine ⟨fun h => ?_, fun h => ?_⟩
  · have hg : jp.g = false := by simpa using h
    rw [hg, Bool.false_and] at k
    repeat walk_at "z"
    exact finJ k
  · have hg : jp.g = true := by simpa using h
    rw [hg, Bool.true_and] at k
    repeat walk_at "z"
    refine zo_ixT (z := .int a) rfl ?_
    repeat walk_at "z"
    refine ⟨fun h => ?_, fun h => ?_⟩
    · have h1 := dec_t h
      have h1' := na h1
      repeat walk_at "z"
      refine zo_ixT (z := .int c) rfl ?_
      repeat walk_at "z"
      refine ⟨fun h => ?_, fun h => ?_⟩
      · have h2 := nc (dec_t h)
        repeat walk_at "z"
        refine ⟨rfl, _, rfl, j, _, b, y.natAbs, x.natAbs, rfl, rfl, hb.1, fun c' hc => ?_⟩
        cases oneJ hc
        rw [dec_iff (q := x < y) (by omega)]
        exact finJ k
      · have h2 := pc (dec_f h)
        repeat walk_at "z"
        refine zo_ixT (z := .int a) rfl ?_
        repeat walk_at "z"
        refine ⟨fun h => absurd h1 (dec_f h), fun _ => ⟨fun _ => ?_, fun h => (nomatch h)⟩⟩
        repeat walk_at "z"
        refine zo_ixT (z := .int a) rfl ?_
        repeat walk_at "z"
        rw [dec_iff (q := x < y) (by omega)]
        exact finJ k
    · have h1 := dec_f h
      have h1' := pa h1
      refine ⟨fun h => (nomatch h), fun _ => ?_⟩
      repeat walk_at "z"
      refine zo_ixT (z := .int a) rfl ?_
      repeat walk_at "z"
      refine ⟨fun _ => ?_, fun h => absurd (dec_t h) h1⟩
      repeat walk_at "z"
      refine zo_ixT (z := .int c) rfl ?_
      repeat walk_at "z"
      refine ⟨fun h => ?_, fun h => ?_⟩
      · have h2 := nc (dec_t h)
        repeat walk_at "z"
        refine zo_ixT (z := .int a) rfl ?_
        repeat walk_at "z"
        rw [dec_iff (q := x < y) (by omega)]
        exact finJ k
      · have h2 := pc (dec_f h)
        repeat walk_at "z"
        refine ⟨rfl, _, rfl, j, _, b, x.natAbs, y.natAbs, rfl, rfl, hb.1, fun c' hc => ?_⟩
        cases oneJ hc
        rw [dec_iff (q := x < y) (by omega)]
        exact finJ k
def tz_Judge_most_of (JC : Addr) : TZ := fun zs o R => ∃ (j dx : Addr) (b : Nat) (jp : JP) (st mo : Int) (x y : Int), zs = [.ref j, .int x, .int y] ∧ o = [(j, jO JC dx b jp st mo)] ∧ JOk b jp ∧ Sz x ∧ Sz y ∧ ∀ st', R (.bl (jp.g && decide (x ≤ y))) [(j, jO JC dx b jp st' mo)]
abbrev st_Judge_most_of : Stmt := inClass (top 17) 7
abbrev N_Judge_most_of : List Str := ["self", "left", "right"]
theorem sc_Judge_most_of : FnScope N_Judge_most_of ["self", "left", "right"] (defScope st_Judge_most_of) := ⟨rfl, rfl, rfl, by decide +kernel, rfl, by decide +kernel, by decide +kernel⟩
theorem m_most_of {JC : Addr} (T : Tx K mg) (J : TJ K mg JC) : CalM P0 w K mg base JC "most_of" 3 ["self", "left", "right"] (tz_Judge_most_of JC) := by
  refine CalM.mk J.m_most_of sc_Judge_most_of (fun _ _ _ _ _ _ us hl => match us, hl with | [_, _, _], _ => rfl) fun f cdv A outer s H E hr => ?_
  have m_less := @m_less w K mg base JC T J
  refine ⟨_, (pss_one (ps_ret (pe_and (pe_fldK (K := K) (pv 0) rfl) (pe_one (pe_not (pe_methZ J.cl m_less (hr.mono (by decide)) (pv 0) (pa_cons (pv 2) (pa_cons (pv 1) pa_nil)))))))), ?_⟩
  try dsimp only [cxK]
  rintro zs o R ⟨j, dx, b, jp, st, mo, x, y, rfl, rfl, ok, hx, hy, k⟩
  repeat walk_at "z"
  refine ⟨fun h => ?_, fun h => ?_⟩
  · rw [h, Bool.true_and] at k
    repeat walk_at "z"
    refine ⟨rfl, _, rfl, j, dx, b, jp, st, mo, y, x, rfl, rfl, ok, hy, hx, fun c' hc => ?_⟩
    cases oneJ hc
    rw [h, Bool.true_and]
    repeat walk_at "z"
    have e : (!decide (y < x)) = decide (x ≤ y) := by
      by_cases c : y < x
      · rw [decide_eq_true c, decide_eq_false (by omega)]; rfl
      · rw [decide_eq_false c, decide_eq_true (by omega)]; rfl
    rw [e]
    exact finJ (k _)
  · rw [h, Bool.false_and] at k
    exact finJ (k _)
def tz_Judge_between (JC : Addr) : TZ := fun zs o R => ∃ (j dx : Addr) (b : Nat) (jp : JP) (st mo : Int) (x y : Int), zs = [.ref j, .int x, .int y] ∧ o = [(j, jO JC dx b jp st mo)] ∧ JOk b jp ∧ Sz x ∧ Sz y ∧ ∀ st', R (.bl (jp.g && (decide (0 ≤ x) && decide (x < y)))) [(j, jO JC dx b jp st' mo)]
abbrev st_Judge_between : Stmt := inClass (top 17) 8
abbrev N_Judge_between : List Str := ["self", "number", "bound"]
theorem sc_Judge_between : FnScope N_Judge_between ["self", "number", "bound"] (defScope st_Judge_between) := ⟨rfl, rfl, rfl, by decide +kernel, rfl, by decide +kernel, by decide +kernel⟩
theorem m_between {JC : Addr} (T : Tx K mg) (J : TJ K mg JC) : CalM P0 w K mg base JC "between" 4 ["self", "number", "bound"] (tz_Judge_between JC) := by
  refine CalM.mk J.m_between sc_Judge_between (fun _ _ _ _ _ _ us hl => match us, hl with | [_, _, _], _ => rfl) fun f cdv A outer s H E hr => ?_
  have m_less := @m_less w K mg base JC T J
  have m_most_of := @m_most_of w K mg base JC T J
  refine ⟨_, (pss_one (ps_ret (pe_and (pe_methZ J.cl m_most_of (hr.mono (by decide)) (pv 0) (pa_cons pe_int (pa_cons (pv 1) pa_nil))) (pe_one (pe_methZ J.cl m_less (hr.mono (by decide)) (pv 0) (pa_cons (pv 1) (pa_cons (pv 2) pa_nil))))))), ?_⟩
  try dsimp only [cxK]
  rintro zs o R ⟨j, dx, b, jp, st, mo, x, y, rfl, rfl, ok, hx, hy, k⟩
  repeat walk_at "z"
  refine ⟨rfl, _, rfl, j, dx, b, jp, st, mo, 0, x, rfl, rfl, ok, Nat.two_pow_pos 6000, hx, fun st' c' hc => ?_⟩
  cases oneJ hc
  repeat walk_at "z"
  refine ⟨fun h => ?_, fun h => ?_⟩
  · rw [Bool.and_eq_true] at h
    repeat walk_at "z"
    refine ⟨rfl, _, rfl, j, dx, b, jp, st', mo, x, y, rfl, rfl, ok, hx, hy, fun c' hc => ?_⟩
    cases oneJ hc
    rw [h.1, h.2] at k
    rw [h.1]
    exact finJ (k _)
  · have e : (jp.g && (decide (0 ≤ x) && decide (x < y))) = false := by rw [← Bool.and_assoc, h, Bool.false_and]
    rw [e] at k
    exact finJ (k _)
/-- left - right as one sum -/
def diffT (ls rs : List (List Int)) : List (List Int) := ls ++ rs.map fun t => -1 :: t
def tz_Judge_equal (JC : Addr) : TZ := fun zs o R => ∃ (j dx : Addr) (b : Nat) (jp : JP) (st mo : Int) (ls rs : List (List Int)), zs = [.ref j, zts ls, zts rs] ∧ o = [(j, jO JC dx b jp st mo)] ∧ JOk b jp ∧ GoodTs (diffT ls rs) ∧ ∀ st' mo', R (.bl (zeroV jp (diffT ls rs))) [(j, jO JC dx b jp st' mo')]
abbrev st_Judge_equal : Stmt := inClass (top 17) 9
abbrev N_Judge_equal : List Str := ["self", "left", "right", "term"]
theorem sc_Judge_equal : FnScope N_Judge_equal ["self", "left", "right"] (defScope st_Judge_equal) := ⟨rfl, rfl, rfl, by decide +kernel, rfl, by decide +kernel, by decide +kernel⟩
theorem m_equal {JC : Addr} (T : Tx K mg) (J : TJ K mg JC) : CalM P0 w K mg base JC "equal" 5 ["self", "left", "right"] (tz_Judge_equal JC) := by
  refine CalM.mk J.m_equal sc_Judge_equal (fun _ _ _ _ _ _ us hl => match us, hl with | [_, _, _], _ => rfl) fun f cdv A outer s H E hr => ?_
  have m_zero := @m_zero w K mg base JC T J
  refine ⟨_, (pss_one (ps_ret (pe_methZ J.cl m_zero (hr.mono (by decide)) (pv 0) (pa_cons (pe_op (op_catK (K := K)) (pe_callTy (call_tupK (K := K)) (by rfl) T.b_tuple (by decide +kernel) (pa_cons (pv 1) pa_nil)) (pe_callTy (call_tupK (K := K)) (by rfl) T.b_tuple (by decide +kernel) (pa_cons (pe_lc (own := [("term", 3)]) (g := gName 3) rfl sc_Judge_equal.nd (pi_tupK (K := K) (pv 2)) (blkOk_by (N := N_Judge_equal) (sc := defScope st_Judge_equal) (by decide +kernel)) (fun _ _ _ _ _ => pg_name (i := 3) sc_Judge_equal.nd rfl (Or.inl rfl)) (fun _ _ _ _ _ => pts_nil) (fun _ _ _ _ _ => (pe_op (op_catK (K := K)) (pe_tup (pa_cons (pe_un un_neg pe_int) pa_nil)) (pv 3)))) pa_nil))) pa_nil)))), ?_⟩
  try dsimp only [cxK]
  rintro zs o R ⟨j, dx, b, jp, st, mo, ls, rs, rfl, rfl, ok, ht, k⟩
  have hl := ht.1
  unfold diffT at hl
  rw [List.length_append, List.length_map] at hl
  repeat walk_at "z"
  refine we_lcI (j := 3) (rs.map fun t => zt (-1 :: t)) ?_
  repeat walk_at "z"
  refine ⟨by rw [List.length_map]; omega, by rw [List.length_map, List.length_map], fun i z hz => ?_, ?_⟩
  · obtain ⟨t, hti, rfl⟩ := map_of hz
    have htl := (ht.2 (-1 :: t) (by unfold diffT; exact List.mem_append_right _ (List.mem_map.mpr ⟨t, List.mem_of_getElem? hti, rfl⟩))).1
    rw [List.length_cons] at htl
    repeat walk_at "z"
    refine ⟨by rw [List.length_map]; simp; omega, ?_⟩
    repeat walk_at "z"
    exact ⟨rfl, map_at hti⟩
  · repeat walk_at "z"
    refine ⟨by rw [List.length_map, List.length_map]; omega, ?_⟩
    repeat walk_at "z"
    have e : ls.map zt ++ rs.map (fun t => zt (-1 :: t)) = (diffT ls rs).map zt := by
      unfold diffT
      rw [List.map_append, List.map_map]
      rfl
    rw [e]
    refine ⟨rfl, _, rfl, j, dx, b, jp, st, mo, diffT ls rs, rfl, rfl, ok, ht, fun c' hc => ?_⟩
    cases oneJ hc
    exact finJ (k _ _)
end

/-! ## B16 -/
section
variable {w : World} {K : PySem.W.Frag} {mg : Str → Option Value} {base : Heap}
def Sm (n : Int) : Prop := n.natAbs < 2 ^ 2000
theorem Sm.sz {n : Int} (h : Sm n) : Sz n := Nat.lt_of_lt_of_le h (Nat.pow_le_pow_right (by decide) (by decide))
theorem sm_m1 : Sm (-1) := Nat.lt_of_lt_of_le (show 1 < 2 ^ 1 from by decide) (Nat.pow_le_pow_right (by decide) (by decide))
theorem sm_0 : Sm 0 := Nat.two_pow_pos 2000
theorem sm_1 : Sm 1 := Nat.lt_of_lt_of_le (show 1 < 2 ^ 1 from by decide) (Nat.pow_le_pow_right (by decide) (by decide))
theorem we_nev {K : PySem.W.Frag} {r : RR} {o : OO} {P : Z → OO → Prop} (h : False) : WE K (fun _ _ _ => False) r o P := h.elim
theorem pe_nev {X : Cx} {e : Expr} : PE X e (fun _ _ _ => False) := ⟨fun _ _ _ _ _ _ h => h.elim⟩
theorem good_sm {ts : List (List Int)} (h1 : ts.length ≤ 20) (h2 : ∀ t, t ∈ ts → t.length ≤ 20) (h3 : ∀ n, n ∈ ts.flatten → Sm n) : GoodTs ts := ⟨h1, fun t ht => ⟨h2 t ht, fun n hn => Nat.lt_of_lt_of_le (h3 n (List.mem_flatten.mpr ⟨t, ht, hn⟩)) (Nat.pow_le_pow_right (by decide) (by decide))⟩⟩
theorem good_add {x y v : Int} (hx : Sm x) (hy : Sm y) (hv : Sm v) : GoodTs (diffT [[x], [y]] [[v]]) := good_sm (by simp [diffT]) (by simp [diffT]) (by
  simp only [diffT, List.map_cons, List.map_nil, List.cons_append, List.nil_append, List.flatten_cons, List.flatten_nil, List.mem_cons, List.not_mem_nil, or_false]
  rintro n (rfl | rfl | rfl | rfl) <;> first | assumption | exact sm_m1)
theorem good_sub {x y v : Int} (hx : Sm x) (hy : Sm y) (hv : Sm v) : GoodTs [[x], [-1, y], [-1, v]] := good_sm (by simp) (by simp) (by
  simp only [List.cons_append, List.nil_append, List.flatten_cons, List.flatten_nil, List.mem_cons, List.not_mem_nil, or_false]
  rintro n (rfl | rfl | rfl | rfl | rfl) <;> first | assumption | exact sm_m1)
theorem good_mul {x y v : Int} (hx : Sm x) (hy : Sm y) (hv : Sm v) : GoodTs (diffT [[x, y]] [[v]]) := good_sm (by simp [diffT]) (by simp [diffT]) (by
  simp only [diffT, List.map_cons, List.map_nil, List.cons_append, List.nil_append, List.flatten_cons, List.flatten_nil, List.mem_cons, List.not_mem_nil, or_false]
  rintro n (rfl | rfl | rfl | rfl) <;> first | assumption | exact sm_m1)
theorem good_div {q y r x : Int} (hq : Sm q) (hy : Sm y) (hr : Sm r) (hx : Sm x) : GoodTs (diffT [[q, y], [r]] [[x]]) := good_sm (by simp [diffT]) (by simp [diffT]) (by
  simp only [diffT, List.map_cons, List.map_nil, List.cons_append, List.nil_append, List.flatten_cons, List.flatten_nil, List.mem_cons, List.not_mem_nil, or_false]
  rintro n (rfl | rfl | rfl | rfl | rfl) <;> first | assumption | exact sm_m1)
def divB (jp : JP) (q r x y : Int) : Bool := (jp.g && decide (0 < y)) && ((jp.g && (decide (0 ≤ r) && decide (r < y))) && zeroV jp (diffT [[q, y], [r]] [[x]]))
def divL (jp : JP) (op : Str) (x y v : Int) : List Int → Bool
  | [p] => if op = "quotient" then divB jp v p x y else divB jp p v x y
  | _ => false
/-- what the judge says of a value of x op y with the paper l -/
inductive WhT (jp : JP) (x y : Int) (l : List Int) : Str → Z → Bool → Prop
  | add (v : Int) : Sm v → WhT jp x y l "add" (.int v) (decide (l = []) && zeroV jp (diffT [[x], [y]] [[v]]))
  | sub (v : Int) : Sm v → WhT jp x y l "sub" (.int v) (decide (l = []) && zeroV jp [[x], [-1, y], [-1, v]])
  | mul (v : Int) : Sm v → WhT jp x y l "mul" (.int v) (decide (l = []) && zeroV jp (diffT [[x, y]] [[v]]))
  | quo (v : Int) : Sm v → WhT jp x y l "quotient" (.int v) (divL jp "quotient" x y v l)
  | rst (v : Int) : Sm v → WhT jp x y l "rest" (.int v) (divL jp "rest" x y v l)
  | les (v : Bool) : WhT jp x y l "less" (.bl v) (decide (l = []) && decide (v = (jp.g && decide (x < y))))
  | sam (v : Bool) : WhT jp x y l "same" (.bl v) (decide (l = []) && decide (v = decide (x = y)))
structure TkA (JC : Addr) (o : OO) (j dx : Addr) (b : Nat) (jp : JP) (st mo : Int) (x y : Int) (l : List Int) : Prop where
  ho : o = [(j, jO JC dx b jp st mo)]
  ok : JOk b jp
  sx : Sm x
  sy : Sm y
  sl : ∀ p, p ∈ l → Sm p
abbrev argZ (x y : Int) : Z := .tup [.int x, .int y]
abbrev papZ (l : List Int) : Z := .tup (l.map Z.int)
def tz_takes_ring (JC : Addr) : TZ := fun zs o R =>
  (∃ (j dx : Addr) (b : Nat) (jp : JP) (st mo x y v : Int) (l : List Int) (op : Str) (res : Bool), zs = [.ref j, .str op, .non, argZ x y, .int v, papZ l] ∧ TkA JC o j dx b jp st mo x y l ∧ (op = "add" ∨ op = "sub" ∨ op = "mul") ∧ WhT jp x y l op (.int v) res ∧ ∀ st' mo', R (.bl res) [(j, jO JC dx b jp st' mo')])
  ∨ ∃ (j dx : Addr) (b : Nat) (jp : JP) (st mo v : Int) (l : List Int), zs = [.ref j, .str "number", .int v, .tup [], .int v, papZ l] ∧ o = [(j, jO JC dx b jp st mo)] ∧ l = [] ∧ R (.bl true) [(j, jO JC dx b jp st mo)]
abbrev st_takes_ring : Stmt := top 164
abbrev N_takes_ring : List Str := ["judge", "op", "extra", "args", "value", "paper", "x", "y"]
theorem sc_takes_ring : FnScope N_takes_ring ["judge", "op", "extra", "args", "value", "paper"] (defScope st_takes_ring) := ⟨rfl, rfl, rfl, by decide +kernel, rfl, by decide +kernel, by decide +kernel⟩
theorem c_takes_ring {JC : Addr} (T : Tx K mg) (J : TJ K mg JC) : Cal P0 w K mg base "takes_ring" 6 ["judge", "op", "extra", "args", "value", "paper"] (tz_takes_ring JC) := by
  refine Cal.mk T.d_takes_ring sc_takes_ring (fun _ _ _ _ _ _ us hl => match us, hl with | [_, _, _, _, _, _], _ => rfl) fun f cdv A outer s H E hr => ?_
  have m_equal := @m_equal w K mg base JC T J
  have m_zero := @m_zero w K mg base JC T J
  refine ⟨_, (pss_cons (ps_if (pt_cmpR (op_neK (K := K) hr.units) (pv 5) (pe_tup pa_nil) (nomark _)) (pss_one (ps_ret pe_bl)) pss_nil)
    (pss_cons (ps_if (pt_cmpR op_eq (pv 1) pe_str (nomark _)) (pss_one (ps_ret (pe_cmpR op_eq (pv 4) (pv 2) (nomark _)))) pss_nil)
    (pss_cons (ps_set (i := 6) sc_takes_ring.nd rfl (Or.inl rfl) (pe_ix (ix_tupK (K := K)) (pv 3) pe_int (fun _ _ => rfl)))
    (pss_cons (ps_if (pt_cmpR op_eq (pv 1) pe_str (nomark _)) (pss_one (ps_ret (pe_methZ J.cl m_zero (hr.mono (by decide)) (pv 0) (pa_cons (pe_tup (pa_cons (pe_tup (pa_cons (pv 4) pa_nil)) (pa_cons (pe_tup (pa_cons (pv 6) pa_nil)) pa_nil))) pa_nil)))) pss_nil)
    (pss_cons (ps_if (pt_cmpR op_eq (pv 1) pe_str (nomark _)) (pss_cons (ps_if (pt_cmpR op_eq (pv 2) pe_int (nomark _)) (pss_one (ps_ret (pe_cmpR op_eq (pv 4) pe_int (nomark _)))) pss_nil)
    pss_never) pss_nil)
    (pss_cons (ps_set (i := 7) sc_takes_ring.nd rfl (Or.inl rfl) (pe_ix (ix_tupK (K := K)) (pv 3) pe_int (fun _ _ => rfl)))
    (pss_cons (ps_if (pt_cmpR op_eq (pv 1) pe_str (nomark _)) (pss_one (ps_ret (pe_methZ J.cl m_equal (hr.mono (by decide)) (pv 0) (pa_cons (pe_tup (pa_cons (pe_tup (pa_cons (pv 6) pa_nil)) (pa_cons (pe_tup (pa_cons (pv 7) pa_nil)) pa_nil))) (pa_cons (pe_tup (pa_cons (pe_tup (pa_cons (pv 4) pa_nil)) pa_nil)) pa_nil))))) pss_nil)
    (pss_cons (ps_if (pt_cmpR op_eq (pv 1) pe_str (nomark _)) (pss_one (ps_ret (pe_methZ J.cl m_zero (hr.mono (by decide)) (pv 0) (pa_cons (pe_tup (pa_cons (pe_tup (pa_cons (pv 6) pa_nil)) (pa_cons (pe_tup (pa_cons (pe_un un_neg pe_int) (pa_cons (pv 7) pa_nil))) (pa_cons (pe_tup (pa_cons (pe_un un_neg pe_int) (pa_cons (pv 4) pa_nil))) pa_nil)))) pa_nil)))) pss_nil)
    (pss_one (ps_ret (pe_methZ J.cl m_equal (hr.mono (by decide)) (pv 0) (pa_cons (pe_tup (pa_cons (pe_tup (pa_cons (pv 6) (pa_cons (pv 7) pa_nil))) pa_nil)) (pa_cons (pe_tup (pa_cons (pe_tup (pa_cons (pv 4) pa_nil)) pa_nil)) pa_nil))))))))))))), ?_⟩
  try dsimp only [cxK]
  rintro zs o R (⟨j, dx, b, jp, st, mo, x, y, v, l, op, res, rfl, A, hop, hw, k⟩ | ⟨j, dx, b, jp, st, mo, v, l, rfl, rfl, rfl, k⟩)
  · obtain ⟨rfl, ok, sx, sy, sl⟩ := A
    by_cases hl : l = []
    · subst hl
      cases hw with
      | add v sv =>
        rw [decide_eq_true rfl, Bool.true_and] at k
        repeat walk_at "q"
        refine ⟨rfl, _, rfl, j, dx, b, jp, st, mo, [[x], [y]], [[v]], rfl, rfl, ok, good_add sx sy sv, fun st' mo' c' hc => ?_⟩
        cases oneJ hc
        exact finJ (k _ _)
      | sub v sv =>
        rw [decide_eq_true rfl, Bool.true_and] at k
        repeat walk_at "q"
        refine ⟨rfl, _, rfl, j, dx, b, jp, st, mo, [[x], [-1, y], [-1, v]], rfl, rfl, ok, good_sub sx sy sv, fun c' hc => ?_⟩
        cases oneJ hc
        exact finJ (k _ _)
      | mul v sv =>
        rw [decide_eq_true rfl, Bool.true_and] at k
        repeat walk_at "q"
        refine ⟨rfl, _, rfl, j, dx, b, jp, st, mo, [[x, y]], [[v]], rfl, rfl, ok, good_mul sx sy sv, fun st' mo' c' hc => ?_⟩
        cases oneJ hc
        exact finJ (k _ _)
      | quo v sv => exact absurd hop (by decide)
      | rst v sv => exact absurd hop (by decide)
    · have hres : res = false := by
        cases hw with
        | add v sv => rw [decide_eq_false hl, Bool.false_and]
        | sub v sv => rw [decide_eq_false hl, Bool.false_and]
        | mul v sv => rw [decide_eq_false hl, Bool.false_and]
        | quo v sv => exact absurd hop (by decide)
        | rst v sv => exact absurd hop (by decide)
      subst hres
      repeat walk_at "q"
      rw [decide_eq_false hl]
      repeat walk_at "q"
      exact finJ (k _ _)
  · repeat walk_at "q"
    rw [decide_eq_true rfl]
    exact finJ k
def tz_takes_division (JC : Addr) : TZ := fun zs o R => ∃ (j dx : Addr) (b : Nat) (jp : JP) (st mo x y v : Int) (l : List Int) (op : Str), zs = [.ref j, .str op, argZ x y, .int v, papZ l] ∧ TkA JC o j dx b jp st mo x y l ∧ l.length ≤ 1000 ∧ Sm v ∧ (op = "quotient" ∨ op = "rest") ∧ ∀ st' mo', R (.bl (divL jp op x y v l)) [(j, jO JC dx b jp st' mo')]
abbrev st_takes_division : Stmt := top 165
abbrev N_takes_division : List Str := ["judge", "op", "args", "value", "paper", "x", "y", "quotient", "rest"]
theorem sc_takes_division : FnScope N_takes_division ["judge", "op", "args", "value", "paper"] (defScope st_takes_division) := ⟨rfl, rfl, rfl, by decide +kernel, rfl, by decide +kernel, by decide +kernel⟩
theorem c_takes_division {JC : Addr} (T : Tx K mg) (J : TJ K mg JC) : Cal P0 w K mg base "takes_division" 6 ["judge", "op", "args", "value", "paper"] (tz_takes_division JC) := by
  refine Cal.mk T.d_takes_division sc_takes_division (fun _ _ _ _ _ _ us hl => match us, hl with | [_, _, _, _, _], _ => rfl) fun f cdv A outer s H E hr => ?_
  have m_between := @m_between w K mg base JC T J
  have m_equal := @m_equal w K mg base JC T J
  have m_less := @m_less w K mg base JC T J
  have c_is_numbers := @c_is_numbers w K mg base JC T J
  refine ⟨_, (pss_cons (ps_if (pt_not (pt_val (pe_callZ c_is_numbers (hr.mono (by decide)) (pa_cons (pv 4) (pa_cons pe_int pa_nil))))) (pss_one (ps_ret pe_bl)) pss_nil)
    (pss_cons (ps_asg (pv 2) (pg_tup rfl (pgs_cons (pg_name (i := 5) sc_takes_division.nd rfl (Or.inl rfl)) (pgs_cons (pg_name (i := 6) sc_takes_division.nd rfl (Or.inl rfl)) pgs_nil))))
    (pss_cons (ps_asg (pe_ifExp (pt_cmpR op_eq (pv 1) pe_str (nomark _)) (pe_tup (pa_cons (pv 3) (pa_cons (pe_ix (ix_tupK (K := K)) (pv 4) pe_int (fun _ _ => rfl)) pa_nil))) (pe_tup (pa_cons (pe_ix (ix_tupK (K := K)) (pv 4) pe_int (fun _ _ => rfl)) (pa_cons (pv 3) pa_nil)))) (pg_tup rfl (pgs_cons (pg_name (i := 7) sc_takes_division.nd rfl (Or.inl rfl)) (pgs_cons (pg_name (i := 8) sc_takes_division.nd rfl (Or.inl rfl)) pgs_nil))))
    (pss_cons (ps_if (PW.pt (pw_or (pt_not (pt_val (pe_methZ J.cl m_less (hr.mono (by decide)) (pv 0) (pa_cons pe_int (pa_cons (pv 6) pa_nil))))) (pw_or1 (pt_not (pt_val (pe_methZ J.cl m_between (hr.mono (by decide)) (pv 0) (pa_cons (pv 8) (pa_cons (pv 6) pa_nil)))))))) (pss_one (ps_ret pe_bl)) pss_nil)
    (pss_one (ps_ret (pe_methZ J.cl m_equal (hr.mono (by decide)) (pv 0) (pa_cons (pe_tup (pa_cons (pe_tup (pa_cons (pv 7) (pa_cons (pv 6) pa_nil))) (pa_cons (pe_tup (pa_cons (pv 8) pa_nil)) pa_nil))) (pa_cons (pe_tup (pa_cons (pe_tup (pa_cons (pv 5) pa_nil)) pa_nil)) pa_nil))))))))), ?_⟩
  try dsimp only [cxK]
  rintro zs o R ⟨j, dx, b, jp, st, mo, x, y, v, l, op, rfl, A, hll, sv, hop, k⟩
  obtain ⟨rfl, ok, sx, sy, sl⟩ := A
  repeat walk_at "q"
  refine we_call ?_
  repeat walk_at "q"
  refine ⟨rfl, l, 1, rfl, rfl, hll, ?_⟩
  repeat walk_at "q"
  refine ⟨fun h => ?_, fun h => ?_⟩
  · have h1 : l.length ≠ 1 := by simpa using h
    have e : divL jp op x y v l = false := by
      match l, h1 with
      | [], _ => rfl
      | [a], h => exact absurd rfl h
      | a :: b :: l, _ => rfl
    rw [e] at k
    repeat walk_at "q"
    exact finJ (k _ _)
  · have h1 : l.length = 1 := by simpa using h
    obtain ⟨p, rfl⟩ := List.length_eq_one_iff.mp h1
    have sp := sl p (by simp)
    have k2 : ∃ q r : Int, (q, r) = (if op = "quotient" then (v, p) else (p, v)) ∧ ∀ st' mo', R (.bl (divB jp q r x y)) [(j, jO JC dx b jp st' mo')] := by
      rcases hop with rfl | rfl
      · exact ⟨v, p, rfl, k⟩
      · exact ⟨p, v, rfl, k⟩
    clear k
    rcases hop with rfl | rfl
    all_goals
      obtain ⟨q, r, hqr, k⟩ := k2
      have hq := congrArg Prod.fst hqr
      have hr := congrArg Prod.snd hqr
      first | rw [if_pos rfl] at hq hr | rw [if_neg (by decide)] at hq hr
      dsimp only at hq hr
      subst hq hr
      unfold divB at k
      repeat walk_at "q"
      refine ⟨rfl, _, rfl, j, dx, b, jp, st, mo, 0, y, rfl, rfl, ok, sm_0.sz, sy.sz, fun c' hc => ?_⟩
      cases oneJ hc
      repeat walk_at "q"
      refine ⟨fun h => ?_, fun h => ?_⟩
      · have h1 : (jp.g && decide (0 < y)) = true := by simpa using h
        rw [h1, Bool.true_and] at k
        repeat walk_at "q"
        refine ⟨rfl, _, rfl, j, dx, b, jp, _, mo, _, y, rfl, rfl, ok, by first | exact sp.sz | exact sv.sz, sy.sz, fun st' c' hc => ?_⟩
        cases oneJ hc
        repeat walk_at "q"
        refine ⟨fun h => ?_, fun h => ?_⟩
        · rw [Bool.not_eq_true'] at h
          rw [h, Bool.false_and] at k
          repeat walk_at "q"
          exact finJ (k _ _)
        · rw [Bool.not_eq_false'] at h
          rw [h, Bool.true_and] at k
          repeat walk_at "q"
          refine ⟨rfl, _, rfl, j, dx, b, jp, _, mo, [[_, y], [_]], [[x]], rfl, rfl, ok, good_div (by assumption) sy (by assumption) sx, fun st' mo' c' hc => ?_⟩
          cases oneJ hc
          exact finJ (k _ _)
      · rw [Bool.not_eq_true'] at h
        rw [h, Bool.false_and] at k
        refine ⟨fun _ => ?_, fun h => (nomatch h)⟩
        repeat walk_at "q"
        exact finJ (k _ _)
end

/-! ## B17 -/
section
variable {w : World} {K : PySem.W.Frag} {mg : Str → Option Value} {base : Heap}
def tz_takes_truth (JC : Addr) : TZ := fun zs o R => ∃ (j dx : Addr) (b : Nat) (jp : JP) (st mo x y : Int) (v : Bool) (l : List Int) (op : Str) (res : Bool), zs = [.ref j, .str op, argZ x y, .bl v, papZ l] ∧ TkA JC o j dx b jp st mo x y l ∧ (op = "less" ∨ op = "same") ∧ WhT jp x y l op (.bl v) res ∧ ∀ st' mo', R (.bl res) [(j, jO JC dx b jp st' mo')]
abbrev st_takes_truth : Stmt := top 171
abbrev N_takes_truth : List Str := ["judge", "op", "args", "value", "paper"]
theorem sc_takes_truth : FnScope N_takes_truth ["judge", "op", "args", "value", "paper"] (defScope st_takes_truth) := ⟨rfl, rfl, rfl, by decide +kernel, rfl, by decide +kernel, by decide +kernel⟩
theorem c_takes_truth {JC : Addr} (T : Tx K mg) (J : TJ K mg JC) : Cal P0 w K mg base "takes_truth" 3 ["judge", "op", "args", "value", "paper"] (tz_takes_truth JC) := by
  refine Cal.mk T.d_takes_truth sc_takes_truth (fun _ _ _ _ _ _ us hl => match us, hl with | [_, _, _, _, _], _ => rfl) fun f cdv A outer s H E hr => ?_
  have m_less := @m_less w K mg base JC T J
  refine ⟨_, (pss_cons (ps_if (pt_cmpR (op_neK (K := K) hr.units) (pv 4) (pe_tup pa_nil) (nomark _)) (pss_one (ps_ret pe_bl)) pss_nil)
    (pss_cons (ps_if (pt_cmpR op_eq (pv 1) pe_str (nomark _)) (pss_one (ps_ret (pe_cmpR op_eq (pv 3) (pe_methZ J.cl m_less (hr.mono (by decide)) (pv 0) (pa_cons (pe_ix (ix_tupK (K := K)) (pv 2) pe_int (fun _ _ => rfl)) (pa_cons (pe_ix (ix_tupK (K := K)) (pv 2) pe_int (fun _ _ => rfl)) pa_nil))) (nomark _)))) pss_nil)
    (pss_cons (ps_if (pt_cmpR op_eq (pv 1) pe_str (nomark _)) (pss_one (ps_ret (pe_cmpR op_eq (pv 3) (pe_cmpR op_eq (pe_ix (ix_tupK (K := K)) (pv 2) pe_int (fun _ _ => rfl)) (pe_ix (ix_tupK (K := K)) (pv 2) pe_int (fun _ _ => rfl)) (nomark _)) (nomark _)))) pss_nil)
    (pss_cons (ps_if (pt_cmpR op_eq (pv 1) pe_str (nomark _)) (pss_one (ps_ret (pe_cmpR op_eq (pv 3) (pe_not (pe_ix (ix_tupK (K := K)) (pv 2) pe_int (fun _ _ => rfl))) (nomark _)))) pss_nil)
    (pss_cons (ps_if (pt_cmpR op_eq (pv 1) pe_str (nomark _)) (pss_one (ps_ret (pe_cmpR op_eq (pv 3) (pe_and (pe_ix (ix_tupK (K := K)) (pv 2) pe_int (fun _ _ => rfl)) (pe_one (pe_ix (ix_tupK (K := K)) (pv 2) pe_int (fun _ _ => rfl)))) (nomark _)))) pss_nil)
    (pss_one (ps_ret (pe_cmpR op_eq (pv 3) (pe_or (pe_ix (ix_tupK (K := K)) (pv 2) pe_int (fun _ _ => rfl)) (pe_one (pe_ix (ix_tupK (K := K)) (pv 2) pe_int (fun _ _ => rfl)))) (nomark _))))))))), ?_⟩
  try dsimp only [cxK]
  rintro zs o R ⟨j, dx, b, jp, st, mo, x, y, v, l, op, res, rfl, A, hop, hw, k⟩
  obtain ⟨rfl, ok, sx, sy, sl⟩ := A
  by_cases hl : l = []
  · subst hl
    cases hw with
    | les v =>
      rw [decide_eq_true rfl, Bool.true_and] at k
      repeat walk_at "q"
      refine ⟨rfl, _, rfl, j, dx, b, jp, st, mo, x, y, rfl, rfl, ok, sx.sz, sy.sz, fun c' hc => ?_⟩
      cases oneJ hc
      repeat walk_at "q"
      rw [deqB]
      exact finJ (k _ _)
    | sam v =>
      rw [decide_eq_true rfl, Bool.true_and] at k
      repeat walk_at "q"
      rw [deqB, deq]
      exact finJ (k _ _)
  · have hres : res = false := by
      cases hw with
      | les v => rw [decide_eq_false hl, Bool.false_and]
      | sam v => rw [decide_eq_false hl, Bool.false_and]
    subst hres
    repeat walk_at "q"
    rw [decide_eq_false hl]
    repeat walk_at "q"
    exact finJ (k _ _)
def tz_takes_whole (JC : Addr) : TZ := fun zs o R =>
  (∃ (j dx : Addr) (b : Nat) (jp : JP) (st mo x y : Int) (vz : Z) (l : List Int) (op : Str) (res : Bool), zs = [.ref j, .str op, .non, argZ x y, vz, papZ l] ∧ TkA JC o j dx b jp st mo x y l ∧ l.length ≤ 1000 ∧ WhT jp x y l op vz res ∧ ∀ st' mo', R (.bl res) [(j, jO JC dx b jp st' mo')])
  ∨ ∃ (j dx : Addr) (b : Nat) (jp : JP) (st mo v : Int) (l : List Int), zs = [.ref j, .str "number", .int v, .tup [], .int v, papZ l] ∧ o = [(j, jO JC dx b jp st mo)] ∧ l = [] ∧ R (.bl true) [(j, jO JC dx b jp st mo)]
abbrev st_takes_whole : Stmt := top 174
abbrev N_takes_whole : List Str := ["judge", "op", "extra", "args", "value", "paper"]
theorem sc_takes_whole : FnScope N_takes_whole ["judge", "op", "extra", "args", "value", "paper"] (defScope st_takes_whole) := ⟨rfl, rfl, rfl, by decide +kernel, rfl, by decide +kernel, by decide +kernel⟩
theorem c_takes_whole {JC : Addr} (T : Tx K mg) (J : TJ K mg JC) : Cal P0 w K mg base "takes_whole" 7 ["judge", "op", "extra", "args", "value", "paper"] (tz_takes_whole JC) := by
  refine Cal.mk T.d_takes_whole sc_takes_whole (fun _ _ _ _ _ _ us hl => match us, hl with | [_, _, _, _, _, _], _ => rfl) fun f cdv A outer s H E hr => ?_
  have c_takes_division := @c_takes_division w K mg base JC T J
  have c_takes_ring := @c_takes_ring w K mg base JC T J
  have c_takes_truth := @c_takes_truth w K mg base JC T J
  obtain ⟨a_RING, g_RING⟩ := T.g_RING
  obtain ⟨a_TRUTHS, g_TRUTHS⟩ := T.g_TRUTHS
  refine ⟨_, (pss_cons (ps_if (pt_cmpR (op_inK (K := K)) (pv 1) (pe_glob (v := .ref a_RING) rfl g_RING.1 rfl) (by rfl)) (pss_one (ps_ret (pe_callZ c_takes_ring (hr.mono (by decide)) (pa_cons (pv 0) (pa_cons (pv 1) (pa_cons (pv 2) (pa_cons (pv 3) (pa_cons (pv 4) (pa_cons (pv 5) pa_nil))))))))) pss_nil)
    (pss_cons (ps_if (pt_cmpR (op_inK (K := K)) (pv 1) (pe_tup (pa_cons pe_str (pa_cons pe_str pa_nil))) (by rfl)) (pss_one (ps_ret (pe_callZ c_takes_division (hr.mono (by decide)) (pa_cons (pv 0) (pa_cons (pv 1) (pa_cons (pv 3) (pa_cons (pv 4) (pa_cons (pv 5) pa_nil)))))))) pss_nil)
    (pss_cons (ps_if (pt_cmpR op_eq (pv 1) pe_str (nomark _)) pss_never pss_nil)
    (pss_cons (ps_if (pt_cmpR op_eq (pv 1) pe_str (nomark _)) pss_never pss_nil)
    (pss_cons (ps_if (pt_cmpR op_eq (pv 1) pe_str (nomark _)) pss_never pss_nil)
    (pss_cons (ps_if (pt_cmpR op_eq (pv 1) pe_str (nomark _)) pss_never pss_nil)
    (pss_cons (ps_if (pt_cmpR (op_inK (K := K)) (pv 1) (pe_glob (v := .ref a_TRUTHS) rfl g_TRUTHS.1 rfl) (by rfl)) (pss_one (ps_ret (pe_callZ c_takes_truth (hr.mono (by decide)) (pa_cons (pv 0) (pa_cons (pv 1) (pa_cons (pv 3) (pa_cons (pv 4) (pa_cons (pv 5) pa_nil)))))))) pss_nil)
    pss_never))))))), ?_⟩
  try dsimp only [cxK]
  rintro zs o R (⟨j, dx, b, jp, st, mo, x, y, vz, l, op, res, rfl, A, hll, hw, k⟩ | ⟨j, dx, b, jp, st, mo, v, l, rfl, rfl, rfl, k⟩)
  · obtain ⟨rfl, ok, sx, sy, sl⟩ := A
    cases hw with
    | add v sv =>
      repeat walk_at "q"
      refine we_call1 0 ?_
      repeat walk_at "q"
      refine ⟨rfl, j, _, rfl, Or.inl ⟨j, dx, b, jp, st, mo, x, y, v, l, "add", _, rfl, ⟨rfl, ok, sx, sy, sl⟩, by decide, .add v sv, fun st' mo' c' hc => ?_⟩⟩
      cases oneJ hc
      exact finJ (k _ _)
    | sub v sv =>
      repeat walk_at "q"
      refine we_call1 0 ?_
      repeat walk_at "q"
      refine ⟨rfl, j, _, rfl, Or.inl ⟨j, dx, b, jp, st, mo, x, y, v, l, "sub", _, rfl, ⟨rfl, ok, sx, sy, sl⟩, by decide, .sub v sv, fun st' mo' c' hc => ?_⟩⟩
      cases oneJ hc
      exact finJ (k _ _)
    | mul v sv =>
      repeat walk_at "q"
      refine we_call1 0 ?_
      repeat walk_at "q"
      refine ⟨rfl, j, _, rfl, Or.inl ⟨j, dx, b, jp, st, mo, x, y, v, l, "mul", _, rfl, ⟨rfl, ok, sx, sy, sl⟩, by decide, .mul v sv, fun st' mo' c' hc => ?_⟩⟩
      cases oneJ hc
      exact finJ (k _ _)
    | quo v sv =>
      repeat walk_at "q"
      refine we_call1 0 ?_
      repeat walk_at "q"
      refine ⟨rfl, j, _, rfl, j, dx, b, jp, st, mo, x, y, v, l, "quotient", rfl, ⟨rfl, ok, sx, sy, sl⟩, hll, sv, by decide, fun st' mo' c' hc => ?_⟩
      cases oneJ hc
      exact finJ (k _ _)
    | rst v sv =>
      repeat walk_at "q"
      refine we_call1 0 ?_
      repeat walk_at "q"
      refine ⟨rfl, j, _, rfl, j, dx, b, jp, st, mo, x, y, v, l, "rest", rfl, ⟨rfl, ok, sx, sy, sl⟩, hll, sv, by decide, fun st' mo' c' hc => ?_⟩
      cases oneJ hc
      exact finJ (k _ _)
    | les v =>
      repeat walk_at "q"
      refine we_call1 0 ?_
      repeat walk_at "q"
      refine ⟨rfl, j, _, rfl, j, dx, b, jp, st, mo, x, y, v, l, "less", _, rfl, ⟨rfl, ok, sx, sy, sl⟩, by decide, .les v, fun st' mo' c' hc => ?_⟩
      cases oneJ hc
      exact finJ (k _ _)
    | sam v =>
      repeat walk_at "q"
      refine we_call1 0 ?_
      repeat walk_at "q"
      refine ⟨rfl, j, _, rfl, j, dx, b, jp, st, mo, x, y, v, l, "same", _, rfl, ⟨rfl, ok, sx, sy, sl⟩, by decide, .sam v, fun st' mo' c' hc => ?_⟩
      cases oneJ hc
      exact finJ (k _ _)
  · repeat walk_at "q"
    refine we_call1 0 ?_
    repeat walk_at "q"
    refine ⟨rfl, j, _, rfl, Or.inr ⟨j, dx, b, jp, st, mo, v, [], rfl, rfl, rfl, fun c' hc => ?_⟩⟩
    cases oneJ hc
    exact finJ k
def barV (jp : JP) (op : Str) (y : Int) (l : List Int) : Bool := if op = "quotient" ∨ op = "rest" then decide (l = []) && (jp.g && decide (y < 1)) else false
def OpS (op : Str) : Prop := op = "add" ∨ op = "sub" ∨ op = "mul" ∨ op = "less" ∨ op = "same" ∨ op = "quotient" ∨ op = "rest"
def tz_bars_whole (JC : Addr) : TZ := fun zs o R => ∃ (j dx : Addr) (b : Nat) (jp : JP) (st mo x y : Int) (l : List Int) (op : Str), zs = [.ref j, .str op, .non, argZ x y, papZ l] ∧ TkA JC o j dx b jp st mo x y l ∧ (op = "quotient" ∨ op = "rest") ∧ ∀ st' mo', R (.bl (barV jp op y l)) [(j, jO JC dx b jp st' mo')]
abbrev st_bars_whole : Stmt := top 176
abbrev N_bars_whole : List Str := ["judge", "op", "extra", "args", "paper"]
theorem sc_bars_whole : FnScope N_bars_whole ["judge", "op", "extra", "args", "paper"] (defScope st_bars_whole) := ⟨rfl, rfl, rfl, by decide +kernel, rfl, by decide +kernel, by decide +kernel⟩
theorem c_bars_whole {JC : Addr} (T : Tx K mg) (J : TJ K mg JC) : Cal P0 w K mg base "bars_whole" 3 ["judge", "op", "extra", "args", "paper"] (tz_bars_whole JC) := by
  refine Cal.mk T.d_bars_whole sc_bars_whole (fun _ _ _ _ _ _ us hl => match us, hl with | [_, _, _, _, _], _ => rfl) fun f cdv A outer s H E hr => ?_
  have m_less := @m_less w K mg base JC T J
  have c_is_parts := @c_is_parts w K mg base JC T J
  refine ⟨_, (pss_cons (ps_if (pt_cmpR (op_inK (K := K)) (pv 1) (pe_tup (pa_cons pe_str (pa_cons pe_str pa_nil))) (by rfl)) (pss_one (ps_ret (pe_and (pe_cmpR (op_eqK (K := K) hr.units) (pv 4) (pe_tup pa_nil) (nomark _)) (pe_one (pe_methZ J.cl m_less (hr.mono (by decide)) (pv 0) (pa_cons (pe_ix (ix_tupK (K := K)) (pv 3) pe_int (fun _ _ => rfl)) (pa_cons pe_int pa_nil))))))) pss_nil)
    (pss_cons (ps_if (pt_cmpR op_eq (pv 1) pe_str (nomark _)) (pss_one (ps_ret (pe_and (pe_cmpR (op_eqK (K := K) hr.units) (pv 4) (pe_tup pa_nil) (nomark _)) (pe_one (pe_or (pe_methZ J.cl m_less (hr.mono (by decide)) (pv 0) (pa_cons (pe_ix (ix_tupK (K := K)) (pv 3) pe_int (fun _ _ => rfl)) (pa_cons pe_int pa_nil))) (pe_one (pe_methZ J.cl m_less (hr.mono (by decide)) (pv 0) (pa_cons (pe_ix (ix_tupK (K := K)) (pv 3) pe_int (fun _ _ => rfl)) (pa_cons pe_int pa_nil))))))))) pss_nil)
    (pss_cons (ps_if (pt_cmpR op_eq (pv 1) pe_str (nomark _)) pss_never pss_nil)
    (pss_cons (ps_if (pt_cmpR (op_eqK (K := K) hr.units) (pv 4) (pe_tup pa_nil) (nomark _)) (pss_one (ps_ret (pe_methZ J.cl m_less (hr.mono (by decide)) (pv 0) (pa_cons (pe_ix (ix_tupK (K := K)) (pv 3) pe_int (fun _ _ => rfl)) (pa_cons pe_int pa_nil))))) pss_nil)
    (pss_cons (ps_if (PW.pt (pw_or (pt_cmpR op_ne (pv 1) pe_str (nomark _)) (pw_or1 (pt_not (pt_val (pe_callZ c_is_parts (hr.mono (by decide)) (pa_cons (pv 4) (pa_cons pe_int pa_nil)))))))) (pss_one (ps_ret pe_bl)) pss_nil)
    (pss_one (ps_ret (pe_and pe_nev (pe_one (pe_cmpR op_le (pe_callB (call_lenK (K := K)) (by rfl) T.b_len (by decide +kernel) (pa_cons (pe_ix (ix_tupK (K := K)) (pv 4) pe_int (fun _ _ => rfl)) pa_nil)) (pv 2) (nomark _))))))))))), ?_⟩
  try dsimp only [cxK]
  rintro zs o R ⟨j, dx, b, jp, st, mo, x, y, l, op, rfl, A, hop, k⟩
  obtain ⟨rfl, ok, sx, sy, sl⟩ := A
  unfold barV at k
  rw [if_pos hop] at k
  rcases hop with rfl | rfl
  · repeat walk_at "q"
    refine ⟨fun h => ?_, fun h => ?_⟩
    · rw [h, Bool.true_and] at k
      repeat walk_at "q"
      refine ⟨rfl, _, rfl, j, dx, b, jp, st, mo, y, 1, rfl, rfl, ok, sy.sz, sm_1.sz, fun c' hc => ?_⟩
      cases oneJ hc
      exact finJ (k _ _)
    · rw [h, Bool.false_and] at k
      exact finJ (k _ _)
  · repeat walk_at "q"
    refine ⟨fun h => ?_, fun h => ?_⟩
    · rw [h, Bool.true_and] at k
      repeat walk_at "q"
      refine ⟨rfl, _, rfl, j, dx, b, jp, st, mo, y, 1, rfl, rfl, ok, sy.sz, sm_1.sz, fun c' hc => ?_⟩
      cases oneJ hc
      exact finJ (k _ _)
    · rw [h, Bool.false_and] at k
      exact finJ (k _ _)
def tz_takes_value (JC : Addr) : TZ := fun zs o R =>
  (∃ (j dx : Addr) (b : Nat) (jp : JP) (st mo x y : Int) (vz : Z) (l : List Int) (op : Str) (res : Bool), zs = [.ref j, .tup [.str "value", .str op, .non, argZ x y, vz], papZ l] ∧ TkA JC o j dx b jp st mo x y l ∧ l.length ≤ 1000 ∧ WhT jp x y l op vz res ∧ ∀ st' mo', R (.bl res) [(j, jO JC dx b jp st' mo')])
  ∨ ∃ (j dx : Addr) (b : Nat) (jp : JP) (st mo v : Int) (l : List Int), zs = [.ref j, .tup [.str "value", .str "number", .int v, .tup [], .int v], papZ l] ∧ o = [(j, jO JC dx b jp st mo)] ∧ l = [] ∧ R (.bl true) [(j, jO JC dx b jp st mo)]
theorem WhT.op {jp : JP} {x y : Int} {l : List Int} {op : Str} {vz : Z} {res : Bool} (h : WhT jp x y l op vz res) : inV (.str op) ((["number", "add", "sub", "mul", "neg", "pow", "quotient", "rest", "gcd", "power", "factors", "factor", "join", "prime", "less", "same", "and", "or", "not"] : List Str).map V.str) = true := by
  cases h <;> decide
abbrev st_takes_value : Stmt := top 185
abbrev N_takes_value : List Str := ["judge", "claim", "paper", "word", "op", "extra", "args", "value"]
theorem sc_takes_value : FnScope N_takes_value ["judge", "claim", "paper"] (defScope st_takes_value) := ⟨rfl, rfl, rfl, by decide +kernel, rfl, by decide +kernel, by decide +kernel⟩
theorem c_takes_value {JC : Addr} (T : Tx K mg) (J : TJ K mg JC) : Cal P0 w K mg base "takes_value_judging" 8 ["judge", "claim", "paper"] (tz_takes_value JC) := by
  refine Cal.mkA T.d_takes_value sc_takes_value (fun _ _ _ _ _ _ us hl => match us, hl with | [_, _, _], _ => rfl) fun f cdv A outer s H E hr => ?_
  have c_takes_whole := @c_takes_whole w K mg base JC T J
  obtain ⟨a_FRACTION_RULES, g_FRACTION_RULES⟩ := T.g_FRACTION_RULES
  obtain ⟨a_POLY_RULES, g_POLY_RULES⟩ := T.g_POLY_RULES
  obtain ⟨a_ROOT_RULES, g_ROOT_RULES⟩ := T.g_ROOT_RULES
  obtain ⟨a_TABLE_RULES, g_TABLE_RULES⟩ := T.g_TABLE_RULES
  obtain ⟨a_WHOLE_RULES, g_WHOLE_RULES⟩ := T.g_WHOLE_RULES
  refine ⟨_, (pss_cons (ps_asg (pv 1) (pg_tup rfl (pgs_cons (pg_name (i := 3) sc_takes_value.nd rfl (Or.inl rfl)) (pgs_cons (pg_name (i := 4) sc_takes_value.nd rfl (Or.inl rfl)) (pgs_cons (pg_name (i := 5) sc_takes_value.nd rfl (Or.inl rfl)) (pgs_cons (pg_name (i := 6) sc_takes_value.nd rfl (Or.inl rfl)) (pgs_cons (pg_name (i := 7) sc_takes_value.nd rfl (Or.inl rfl)) pgs_nil)))))))
    (pss_cons (ps_if (pt_cmpR (op_inK (K := K)) (pv 4) (pe_glob (v := .ref a_WHOLE_RULES) rfl g_WHOLE_RULES.1 rfl) (by rfl)) (pss_one (ps_ret (pe_callZ c_takes_whole (hr.mono (by decide)) (pa_cons (pv 0) (pa_cons (pv 4) (pa_cons (pv 5) (pa_cons (pv 6) (pa_cons (pv 7) (pa_cons (pv 2) pa_nil))))))))) pss_nil)
    (pss_cons (ps_if (pt_cmpR (op_inK (K := K)) (pv 4) (pe_glob (v := .ref a_FRACTION_RULES) rfl g_FRACTION_RULES.1 rfl) (by rfl)) pss_never pss_nil)
    (pss_cons (ps_if (pt_cmpR (op_inK (K := K)) (pv 4) (pe_glob (v := .ref a_TABLE_RULES) rfl g_TABLE_RULES.1 rfl) (by rfl)) pss_never pss_nil)
    (pss_cons (ps_if (pt_cmpR (op_inK (K := K)) (pv 4) (pe_glob (v := .ref a_POLY_RULES) rfl g_POLY_RULES.1 rfl) (by rfl)) pss_never pss_nil)
    (pss_one (ps_ret (pe_and (pe_cmpR (op_inK (K := K)) (pv 4) (pe_glob (v := .ref a_ROOT_RULES) rfl g_ROOT_RULES.1 rfl) (by rfl)) (pe_one pe_nev))))))))), ?_⟩
  try dsimp only [cxK]
  rintro zs o R (⟨j, dx, b, jp, st, mo, x, y, vz, l, op, res, rfl, A, hll, hw, k⟩ | ⟨j, dx, b, jp, st, mo, v, l, rfl, rfl, rfl, k⟩)
  · obtain ⟨rfl, ok, sx, sy, sl⟩ := A
    repeat walk_at "q"
    refine ⟨fun h => ?_, fun h => Bool.noConfusion (hw.op.symm.trans h)⟩
    repeat walk_at "q"
    refine we_call1 0 ?_
    repeat walk_at "q"
    refine ⟨rfl, j, _, rfl, Or.inl ⟨j, dx, b, jp, st, mo, x, y, vz, l, op, _, rfl, ⟨rfl, ok, sx, sy, sl⟩, hll, hw, fun st' mo' c' hc => ?_⟩⟩
    cases oneJ hc
    exact finJ (k _ _)
  · repeat walk_at "q"
    refine we_call1 0 ?_
    repeat walk_at "q"
    refine ⟨rfl, j, _, rfl, Or.inr ⟨j, dx, b, jp, st, mo, v, [], rfl, rfl, rfl, fun c' hc => ?_⟩⟩
    cases oneJ hc
    exact finJ k
def tz_takes_none (JC : Addr) : TZ := fun zs o R => ∃ (j dx : Addr) (b : Nat) (jp : JP) (st mo x y : Int) (l : List Int) (op : Str), zs = [.ref j, .tup [.str "undefined", .str op, .non, argZ x y], papZ l] ∧ TkA JC o j dx b jp st mo x y l ∧ OpS op ∧ ∀ st' mo', R (.bl (barV jp op y l)) [(j, jO JC dx b jp st' mo')]
abbrev st_takes_none : Stmt := top 187
abbrev N_takes_none : List Str := ["judge", "claim", "paper", "word", "op", "extra", "args"]
theorem sc_takes_none : FnScope N_takes_none ["judge", "claim", "paper"] (defScope st_takes_none) := ⟨rfl, rfl, rfl, by decide +kernel, rfl, by decide +kernel, by decide +kernel⟩
theorem c_takes_none {JC : Addr} (T : Tx K mg) (J : TJ K mg JC) : Cal P0 w K mg base "takes_none" 4 ["judge", "claim", "paper"] (tz_takes_none JC) := by
  refine Cal.mk T.d_takes_none sc_takes_none (fun _ _ _ _ _ _ us hl => match us, hl with | [_, _, _], _ => rfl) fun f cdv A outer s H E hr => ?_
  have c_bars_whole := @c_bars_whole w K mg base JC T J
  obtain ⟨a_FRACTION_BARRED, g_FRACTION_BARRED⟩ := T.g_FRACTION_BARRED
  obtain ⟨a_WHOLE_BARRED, g_WHOLE_BARRED⟩ := T.g_WHOLE_BARRED
  refine ⟨_, (pss_cons (ps_asg (pv 1) (pg_tup rfl (pgs_cons (pg_name (i := 3) sc_takes_none.nd rfl (Or.inl rfl)) (pgs_cons (pg_name (i := 4) sc_takes_none.nd rfl (Or.inl rfl)) (pgs_cons (pg_name (i := 5) sc_takes_none.nd rfl (Or.inl rfl)) (pgs_cons (pg_name (i := 6) sc_takes_none.nd rfl (Or.inl rfl)) pgs_nil))))))
    (pss_cons (ps_if (pt_cmpR (op_inK (K := K)) (pv 4) (pe_glob (v := .ref a_WHOLE_BARRED) rfl g_WHOLE_BARRED.1 rfl) (by rfl)) (pss_one (ps_ret (pe_callZ c_bars_whole (hr.mono (by decide)) (pa_cons (pv 0) (pa_cons (pv 4) (pa_cons (pv 5) (pa_cons (pv 6) (pa_cons (pv 2) pa_nil)))))))) pss_nil)
    (pss_cons (ps_if (pt_cmpR (op_inK (K := K)) (pv 4) (pe_glob (v := .ref a_FRACTION_BARRED) rfl g_FRACTION_BARRED.1 rfl) (by rfl)) pss_never pss_nil)
    (pss_cons (ps_if (pt_cmpR (op_inK (K := K)) (pv 4) (pe_tup (pa_cons pe_str (pa_cons pe_str pa_nil))) (by rfl)) pss_never pss_nil)
    (pss_cons (ps_if (pt_cmpR (op_inK (K := K)) (pv 4) (pe_tup (pa_cons pe_str (pa_cons pe_str pa_nil))) (by rfl)) pss_never pss_nil)
    (pss_one (ps_ret (pe_and (pe_cmpR (op_inK (K := K)) (pv 4) (pe_tup (pa_cons pe_str (pa_cons pe_str pa_nil))) (by rfl)) (pe_one pe_nev))))))))), ?_⟩
  try dsimp only [cxK]
  rintro zs o R ⟨j, dx, b, jp, st, mo, x, y, l, op, rfl, A, hop, k⟩
  obtain ⟨rfl, ok, sx, sy, sl⟩ := A
  rcases hop with rfl | rfl | rfl | rfl | rfl | rfl | rfl
  · repeat walk_at "q"
    exact finJ (k _ _)
  · repeat walk_at "q"
    exact finJ (k _ _)
  · repeat walk_at "q"
    exact finJ (k _ _)
  · repeat walk_at "q"
    exact finJ (k _ _)
  · repeat walk_at "q"
    exact finJ (k _ _)
  · repeat walk_at "q"
    refine we_call1 0 ?_
    repeat walk_at "q"
    refine ⟨rfl, j, _, rfl, j, dx, b, jp, st, mo, x, y, l, "quotient", rfl, ⟨rfl, ok, sx, sy, sl⟩, by decide, fun st' mo' c' hc => ?_⟩
    cases oneJ hc
    exact finJ (k _ _)
  · repeat walk_at "q"
    refine we_call1 0 ?_
    repeat walk_at "q"
    refine ⟨rfl, j, _, rfl, j, dx, b, jp, st, mo, x, y, l, "rest", rfl, ⟨rfl, ok, sx, sy, sl⟩, by decide, fun st' mo' c' hc => ?_⟩
    cases oneJ hc
    exact finJ (k _ _)
/-- what the judge says of a claim -/
inductive TkV (jp : JP) (l : List Int) : Z → Bool → Prop
  | bad (cl : Z) : jp.g = false → TkV jp l cl false
  | val (op : Str) (x y : Int) (vz : Z) (res : Bool) : jp.g = true → Sm x → Sm y → WhT jp x y l op vz res → TkV jp l (.tup [.str "value", .str op, .non, argZ x y, vz]) res
  | num (v : Int) : jp.g = true → l = [] → TkV jp l (.tup [.str "value", .str "number", .int v, .tup [], .int v]) true
  | und (op : Str) (x y : Int) : jp.g = true → Sm x → Sm y → OpS op → TkV jp l (.tup [.str "undefined", .str op, .non, argZ x y]) (barV jp op y l)
def tz_takes (JC : Addr) : TZ := fun zs o R => ∃ (j dx : Addr) (b : Nat) (jp : JP) (st mo : Int) (cl : Z) (l : List Int) (res : Bool), zs = [.ref j, cl, papZ l] ∧ o = [(j, jO JC dx b jp st mo)] ∧ JOk b jp ∧ l.length ≤ 1000 ∧ (∀ p, p ∈ l → Sm p) ∧ TkV jp l cl res ∧ ∀ st' mo', R (.bl res) [(j, jO JC dx b jp st' mo')]
abbrev st_takes : Stmt := top 188
abbrev N_takes : List Str := ["judge", "claim", "paper"]
theorem sc_takes : FnScope N_takes ["judge", "claim", "paper"] (defScope st_takes) := ⟨rfl, rfl, rfl, by decide +kernel, rfl, by decide +kernel, by decide +kernel⟩
theorem c_takes {JC : Addr} (T : Tx K mg) (J : TJ K mg JC) : Cal P0 w K mg base "takes" 9 ["judge", "claim", "paper"] (tz_takes JC) := by
  refine Cal.mk T.d_takes sc_takes (fun _ _ _ _ _ _ us hl => match us, hl with | [_, _, _], _ => rfl) fun f cdv A outer s H E hr => ?_
  have c_takes_none := @c_takes_none w K mg base JC T J
  have c_takes_value := @c_takes_value w K mg base JC T J
  refine ⟨_, (pss_cons (ps_if (pt_not (pt_val (pe_fldK (K := K) (pv 0) rfl))) (pss_one (ps_ret pe_bl)) pss_nil)
    (pss_cons (ps_if (pt_cmpR op_eq (pe_ix (ix_tupK (K := K)) (pv 1) pe_int (fun _ _ => rfl)) pe_str (nomark _)) (pss_one (ps_ret (pe_callZ c_takes_value (hr.mono (by decide)) (pa_cons (pv 0) (pa_cons (pv 1) (pa_cons (pv 2) pa_nil)))))) pss_nil)
    (pss_one (ps_ret (pe_callZ c_takes_none (hr.mono (by decide)) (pa_cons (pv 0) (pa_cons (pv 1) (pa_cons (pv 2) pa_nil)))))))), ?_⟩
  try dsimp only [cxK]
  rintro zs o R ⟨j, dx, b, jp, st, mo, cl, l, res, rfl, rfl, ok, hll, sl, hv, k⟩
  cases hv with
  | bad cl hg =>
    repeat walk_at "q"
    rw [hg]
    repeat walk_at "q"
    exact finJ (k _ _)
  | val op x y vz res hg sx sy hw =>
    repeat walk_at "q"
    rw [hg]
    repeat walk_at "q"
    refine we_call1 0 ?_
    repeat walk_at "q"
    refine ⟨rfl, j, _, rfl, Or.inl ⟨j, dx, b, jp, st, mo, x, y, vz, l, op, _, rfl, ⟨rfl, ok, sx, sy, sl⟩, hll, hw, fun st' mo' c' hc => ?_⟩⟩
    cases oneJ hc
    exact finJ (k _ _)
  | num v hg hl =>
    subst hl
    repeat walk_at "q"
    rw [hg]
    repeat walk_at "q"
    refine we_call1 0 ?_
    repeat walk_at "q"
    refine ⟨rfl, j, _, rfl, Or.inr ⟨j, dx, b, jp, st, mo, v, [], rfl, rfl, rfl, fun c' hc => ?_⟩⟩
    cases oneJ hc
    exact finJ (k _ _)
  | und op x y hg sx sy hop =>
    repeat walk_at "q"
    rw [hg]
    repeat walk_at "q"
    refine we_call1 0 ?_
    repeat walk_at "q"
    refine ⟨rfl, j, _, rfl, j, dx, b, jp, st, mo, x, y, l, op, rfl, ⟨rfl, ok, sx, sy, sl⟩, hop, fun st' mo' c' hc => ?_⟩
    cases oneJ hc
    exact finJ (k _ _)
end

/-! ## B18 -/
section
variable {w : World} {K : PySem.W.Frag} {mg : Str → Option Value} {base : Heap}
abbrev arg2 (x y : Int) : Z := .tup [.int x, .int y]
def OpS' (op : Str) : Prop := op = "add" ∨ op = "sub" ∨ op = "mul" ∨ op = "less" ∨ op = "same" ∨ op = "quotient" ∨ op = "rest"
def tz_plain_value : TZ := tz_plain_whole
theorem wholeV_op {op : Str} {x y : Int} {v : Z} (hv : wholeV op x y = some v) : op = "add" ∨ op = "sub" ∨ op = "mul" ∨ op = "less" ∨ op = "same" ∨ op = "quotient" ∨ op = "rest" := by
  unfold wholeV at hv
  by_cases h1 : op = "add"; · exact .inl h1
  by_cases h2 : op = "sub"; · exact .inr (.inl h2)
  by_cases h3 : op = "mul"; · exact .inr (.inr (.inl h3))
  by_cases h4 : op = "less"; · exact .inr (.inr (.inr (.inl h4)))
  by_cases h5 : op = "same"; · exact .inr (.inr (.inr (.inr (.inl h5))))
  by_cases h6 : op = "quotient"; · exact .inr (.inr (.inr (.inr (.inr (.inl h6)))))
  by_cases h7 : op = "rest"; · exact .inr (.inr (.inr (.inr (.inr (.inr h7)))))
  rw [if_neg h1, if_neg h2, if_neg h3, if_neg h4, if_neg h5, if_neg h6, if_neg h7] at hv
  cases hv
abbrev st_plain_value : Stmt := top 381
abbrev N_plain_value : List Str := ["op", "extra", "args"]
theorem sc_plain_value : FnScope N_plain_value ["op", "extra", "args"] (defScope st_plain_value) := ⟨rfl, rfl, rfl, by decide +kernel, rfl, by decide +kernel, by decide +kernel⟩
theorem c_plain_value {JC : Addr} (T : Tx K mg) (J : TJ K mg JC) : Cal P0 w K mg base "plain_value" 2 ["op", "extra", "args"] (tz_plain_value) := by
  refine Cal.mk T.d_plain_value sc_plain_value (fun _ _ _ _ _ _ us hl => match us, hl with | [_, _, _], _ => rfl) fun f cdv A outer s H E hr => ?_
  have c_plain_whole := @c_plain_whole w K mg base JC T J
  obtain ⟨a_POLY_PLAIN, g_POLY_PLAIN⟩ := T.g_POLY_PLAIN
  obtain ⟨a_TABLE_PLAIN, g_TABLE_PLAIN⟩ := T.g_TABLE_PLAIN
  obtain ⟨a_WHOLE_PLAIN, g_WHOLE_PLAIN⟩ := T.g_WHOLE_PLAIN
  refine ⟨_, (pss_cons (ps_if (pt_cmpR (op_inK (K := K)) (pv 0) (pe_glob (v := .ref a_WHOLE_PLAIN) rfl g_WHOLE_PLAIN.1 rfl) (by rfl)) (pss_one (ps_ret (pe_callZ c_plain_whole (hr.mono (by decide)) (pa_cons (pv 0) (pa_cons (pv 1) (pa_cons (pv 2) pa_nil)))))) pss_nil)
    (pss_cons (ps_if (pt_cmpR (op_inK (K := K)) (pv 0) (pe_glob (v := .ref a_TABLE_PLAIN) rfl g_TABLE_PLAIN.1 rfl) (by rfl)) pss_never pss_nil)
    (pss_cons (ps_if (pt_cmpR (op_inK (K := K)) (pv 0) (pe_glob (v := .ref a_POLY_PLAIN) rfl g_POLY_PLAIN.1 rfl) (by rfl)) pss_never pss_nil)
    (pss_cons (ps_if (pt_cmpR op_eq (pv 0) pe_str (nomark _)) pss_never pss_nil)
    (pss_cons (ps_if (pt_cmpR op_eq (pv 0) pe_str (nomark _)) pss_never pss_nil)
    (pss_cons (ps_if (pt_cmpR op_eq (pv 0) pe_str (nomark _)) pss_never pss_nil)
    (pss_cons (ps_if (pt_cmpR op_eq (pv 0) pe_str (nomark _)) pss_never pss_nil)
    pss_never))))))), ?_⟩
  try dsimp only [cxK]
  rintro zs o R ⟨op, x, y, v, rfl, rfl, hx, hy, hv, k⟩
  have key : inV (.str op) ((["number", "add", "sub", "mul", "neg", "pow", "quotient", "rest", "less", "same", "and", "or", "not"] : List Str).map V.str) = true := by
    rcases wholeV_op hv with rfl | rfl | rfl | rfl | rfl | rfl | rfl <;> decide
  repeat walk_at "q"
  refine ⟨fun h => ?_, fun h => Bool.noConfusion (key.symm.trans h)⟩
  repeat walk_at "z"
  exact ⟨rfl, op, x, y, v, rfl, rfl, hx, hy, hv, fin0 k⟩
/-- the paper of a value -/
def papL (op : Str) (x y v : Int) : List Int := if op = "quotient" then [x - y * v] else if op = "rest" then [(x - v) / y] else []
def tz_whole_paper : TZ := fun zs o R => ∃ (op : Str) (x y v : Int), zs = [.str op, arg2 x y, .int v] ∧ o = [] ∧ (op = "quotient" ∨ op = "rest") ∧ x.natAbs < 2 ^ 2000 ∧ y.natAbs < 2 ^ 2000 ∧ v.natAbs < 2 ^ 2000 ∧ 0 < y ∧ R (.tup ((papL op x y v).map Z.int)) []
abbrev st_whole_paper : Stmt := top 401
abbrev N_whole_paper : List Str := ["op", "args", "value"]
theorem sc_whole_paper : FnScope N_whole_paper ["op", "args", "value"] (defScope st_whole_paper) := ⟨rfl, rfl, rfl, by decide +kernel, rfl, by decide +kernel, by decide +kernel⟩
theorem c_whole_paper {JC : Addr} (T : Tx K mg) (J : TJ K mg JC) : Cal P0 w K mg base "whole_paper" 1 ["op", "args", "value"] (tz_whole_paper) := by
  refine Cal.mk T.d_whole_paper sc_whole_paper (fun _ _ _ _ _ _ us hl => match us, hl with | [_, _, _], _ => rfl) fun f cdv A outer s H E hr => ?_
  refine ⟨_, (pss_cons (ps_if (pt_cmpR op_eq (pv 0) pe_str (nomark _)) (pss_one (ps_ret (pe_tup (pa_cons (pe_op op_sub (pe_ix (ix_tupK (K := K)) (pv 1) pe_int (fun _ _ => rfl)) (pe_op op_mulW (pe_ix (ix_tupK (K := K)) (pv 1) pe_int (fun _ _ => rfl)) (pv 2))) pa_nil)))) pss_nil)
    (pss_cons (ps_if (pt_cmpR op_eq (pv 0) pe_str (nomark _)) (pss_one (ps_ret (pe_tup (pa_cons (pe_op op_fdivW (pe_op op_sub (pe_ix (ix_tupK (K := K)) (pv 1) pe_int (fun _ _ => rfl)) (pv 2)) (pe_ix (ix_tupK (K := K)) (pv 1) pe_int (fun _ _ => rfl))) pa_nil)))) pss_nil)
    (pss_cons (ps_if (pt_cmpR op_eq (pv 0) pe_str (nomark _)) pss_never pss_nil)
    (pss_cons (ps_if (pt_cmpR op_eq (pv 0) pe_str (nomark _)) pss_never pss_nil)
    (pss_cons (ps_if (pt_cmpR (op_inK (K := K)) (pv 0) (pe_tup (pa_cons pe_str (pa_cons pe_str pa_nil))) (by rfl)) pss_never pss_nil)
    (pss_cons (ps_if (pt_cmpR op_eq (pv 0) pe_str (nomark _)) pss_never pss_nil)
    (pss_cons (ps_if (pt_cmpR op_eq (pv 0) pe_str (nomark _)) pss_never pss_nil)
    pss_never))))))), ?_⟩
  try dsimp only [cxK]
  rintro zs o R ⟨op, x, y, v, rfl, rfl, hop, hx, hy, hv, y0, k⟩
  rcases hop with rfl | rfl
  · repeat walk_at "q"
    refine zo_i (wide_mul hy hv (by decide) (by decide) (by decide)) ?_
    repeat walk_at "q"
    exact fin0 k
  · repeat walk_at "q"
    refine zo_i (wide_div y0 hy (by decide) (by decide)) ?_
    repeat walk_at "q"
    exact fin0 k
def tz_value_paper : TZ := fun zs o R => ∃ (op : Str) (x y : Int) (vz : Z) (l : List Int), zs = [.str op, .non, arg2 x y, vz] ∧ o = [] ∧
  ((∃ v, vz = .int v ∧ l = papL op x y v ∧ (op = "quotient" ∨ op = "rest") ∧ x.natAbs < 2 ^ 2000 ∧ y.natAbs < 2 ^ 2000 ∧ v.natAbs < 2 ^ 2000 ∧ 0 < y) ∨ (l = [] ∧ (op = "add" ∨ op = "sub" ∨ op = "mul" ∨ op = "less" ∨ op = "same"))) ∧ R (.tup (l.map Z.int)) []
abbrev st_value_paper : Stmt := top 410
abbrev N_value_paper : List Str := ["op", "extra", "args", "value"]
theorem sc_value_paper : FnScope N_value_paper ["op", "extra", "args", "value"] (defScope st_value_paper) := ⟨rfl, rfl, rfl, by decide +kernel, rfl, by decide +kernel, by decide +kernel⟩
theorem c_value_paper {JC : Addr} (T : Tx K mg) (J : TJ K mg JC) : Cal P0 w K mg base "value_paper" 2 ["op", "extra", "args", "value"] (tz_value_paper) := by
  refine Cal.mk T.d_value_paper sc_value_paper (fun _ _ _ _ _ _ us hl => match us, hl with | [_, _, _, _], _ => rfl) fun f cdv A outer s H E hr => ?_
  have c_whole_paper := @c_whole_paper w K mg base JC T J
  obtain ⟨a_FRACTION_PAPERS, g_FRACTION_PAPERS⟩ := T.g_FRACTION_PAPERS
  obtain ⟨a_ROOT_PAPERS, g_ROOT_PAPERS⟩ := T.g_ROOT_PAPERS
  obtain ⟨a_TABLE_PAPERS, g_TABLE_PAPERS⟩ := T.g_TABLE_PAPERS
  obtain ⟨a_WHOLE_PAPERS, g_WHOLE_PAPERS⟩ := T.g_WHOLE_PAPERS
  refine ⟨_, (pss_cons (ps_if (pt_cmpR (op_inK (K := K)) (pv 0) (pe_glob (v := .ref a_WHOLE_PAPERS) rfl g_WHOLE_PAPERS.1 rfl) (by rfl)) (pss_one (ps_ret (pe_callZ c_whole_paper (hr.mono (by decide)) (pa_cons (pv 0) (pa_cons (pv 2) (pa_cons (pv 3) pa_nil)))))) pss_nil)
    (pss_cons (ps_if (pt_cmpR (op_inK (K := K)) (pv 0) (pe_glob (v := .ref a_FRACTION_PAPERS) rfl g_FRACTION_PAPERS.1 rfl) (by rfl)) pss_never pss_nil)
    (pss_cons (ps_if (pt_cmpR (op_inK (K := K)) (pv 0) (pe_glob (v := .ref a_TABLE_PAPERS) rfl g_TABLE_PAPERS.1 rfl) (by rfl)) pss_never pss_nil)
    (pss_cons (ps_if (pt_cmpR (op_inK (K := K)) (pv 0) (pe_glob (v := .ref a_ROOT_PAPERS) rfl g_ROOT_PAPERS.1 rfl) (by rfl)) pss_never pss_nil)
    (pss_cons (ps_if (pt_cmpR op_eq (pv 0) pe_str (nomark _)) pss_never pss_nil)
    (pss_cons (ps_if (pt_cmpR (op_inK (K := K)) (pv 0) (pe_tup (pa_cons pe_str (pa_cons pe_str pa_nil))) (by rfl)) pss_never pss_nil)
    (pss_one (ps_ret (pe_tup pa_nil))))))))), ?_⟩
  try dsimp only [cxK]
  rintro zs o R ⟨op, x, y, vz, l, rfl, rfl, (⟨v, rfl, rfl, hop, hx, hy, hv, y0⟩ | ⟨rfl, hop⟩), k⟩
  · have key : inV (.str op) ((["quotient", "rest", "gcd", "power", "factors", "factor", "join", "again", "prime"] : List Str).map V.str) = true := by
      rcases hop with rfl | rfl <;> decide
    repeat walk_at "q"
    refine ⟨fun h => ?_, fun h => Bool.noConfusion (key.symm.trans h)⟩
    repeat walk_at "z"
    exact ⟨rfl, op, x, y, v, rfl, rfl, hop, hx, hy, hv, y0, fin0 k⟩
  · rcases hop with rfl | rfl | rfl | rfl | rfl
    · repeat walk_at "q"
      exact fin0 k
    · repeat walk_at "q"
      exact fin0 k
    · repeat walk_at "q"
      exact fin0 k
    · repeat walk_at "q"
      exact fin0 k
    · repeat walk_at "q"
      exact fin0 k
def tz_bar_paper : TZ := fun zs o R => ∃ (op : Str) (x y : Int), zs = [.str op, arg2 x y] ∧ o = [] ∧ (op = "quotient" ∨ op = "rest") ∧ R (.tup (([] : List Int).map Z.int)) []
abbrev st_bar_paper : Stmt := top 412
abbrev N_bar_paper : List Str := ["op", "args"]
theorem sc_bar_paper : FnScope N_bar_paper ["op", "args"] (defScope st_bar_paper) := ⟨rfl, rfl, rfl, by decide +kernel, rfl, by decide +kernel, by decide +kernel⟩
theorem c_bar_paper {JC : Addr} (T : Tx K mg) (J : TJ K mg JC) : Cal P0 w K mg base "bar_paper" 1 ["op", "args"] (tz_bar_paper) := by
  refine Cal.mk T.d_bar_paper sc_bar_paper (fun _ _ _ _ _ _ us hl => match us, hl with | [_, _], _ => rfl) fun f cdv A outer s H E hr => ?_
  refine ⟨_, (pss_cons (ps_if (pt_cmpR op_eq (pv 0) pe_str (nomark _)) pss_never pss_nil)
    (pss_cons (ps_if (pt_cmpR op_eq (pv 0) pe_str (nomark _)) pss_never pss_nil)
    (pss_cons (ps_if (pt_cmpR op_eq (pv 0) pe_str (nomark _)) pss_never pss_nil)
    (pss_cons (ps_if (pt_cmpR (op_inK (K := K)) (pv 0) (pe_tup (pa_cons pe_str (pa_cons pe_str pa_nil))) (by rfl)) pss_never pss_nil)
    (pss_cons (ps_if (pt_cmpR op_eq (pv 0) pe_str (nomark _)) pss_never pss_nil)
    (pss_cons (ps_if (pt_cmpR op_eq (pv 0) pe_str (nomark _)) pss_never pss_nil)
    (pss_one (ps_ret (pe_tup pa_nil))))))))), ?_⟩
  try dsimp only [cxK]
  rintro zs o R ⟨op, x, y, rfl, rfl, hop, k⟩
  rcases hop with rfl | rfl
  · repeat walk_at "q"
    exact fin0 k
  · repeat walk_at "q"
    exact fin0 k
/-- whether a claim is so -/
def soB (v : Z) : Option Z → Bool
  | none => match v with
    | .non => true
    | _ => false
  | some c => match v with
    | .non => false
    | v => PyData.eqv v.d c.d
def clZ (op : Str) (x y : Int) : Option Z → Z
  | none => .tup [.str "undefined", .str op, .non, arg2 x y]
  | some c => .tup [.str "value", .str op, .non, arg2 x y, c]
def tz_is_so : TZ := fun zs o R => ∃ (op : Str) (x y : Int) (v : Z) (c : Option Z), zs = [clZ op x y c] ∧ o = [] ∧ x.natAbs < 2 ^ 2000 ∧ y.natAbs < 2 ^ 2000 ∧ wholeV op x y = some v ∧ (∀ z, c = some z → z.sc = true ∧ (∀ s, z ≠ .str s) ∧ z ≠ .non) ∧ R (.bl (soB v c)) []
theorem sc_shaped : ∀ {z : Z}, z.sc = true → (∀ s, z ≠ .str s) → z.plain = true ∧ SeqAt.shaped z.d = true
  | .non, _, _ => ⟨rfl, rfl⟩
  | .bl _, _, _ => ⟨rfl, rfl⟩
  | .int _, _, _ => ⟨rfl, rfl⟩
  | .str s, _, h => absurd rfl (h s)
  | .tup _, h, _ => nomatch h
  | .lst _, h, _ => nomatch h
  | .scr _, h, _ => nomatch h
  | .ref _, h, _ => nomatch h
theorem wholeV_sc {op : Str} {x y : Int} {v : Z} (hv : wholeV op x y = some v) : v.sc = true ∧ ∀ s, v ≠ .str s := by
  rcases wholeV_op hv with rfl | rfl | rfl | rfl | rfl | rfl | rfl
  · cases (show some (Z.int (x + y)) = some v from hv); exact ⟨rfl, fun s h => nomatch h⟩
  · cases (show some (Z.int (x - y)) = some v from hv); exact ⟨rfl, fun s h => nomatch h⟩
  · cases (show some (Z.int (x * y)) = some v from hv); exact ⟨rfl, fun s h => nomatch h⟩
  · cases (show some (Z.bl (decide (x < y))) = some v from hv); exact ⟨rfl, fun s h => nomatch h⟩
  · cases (show some (Z.bl (decide (x = y))) = some v from hv); exact ⟨rfl, fun s h => nomatch h⟩
  · have e : (if y < 1 then Z.non else .int (x / y)) = v := Option.some.inj hv
    rw [← e]
    split
    · exact ⟨rfl, fun s h => nomatch h⟩
    · exact ⟨rfl, fun s h => nomatch h⟩
  · have e : (if y < 1 then Z.non else .int (x.fmod y)) = v := Option.some.inj hv
    rw [← e]
    split
    · exact ⟨rfl, fun s h => nomatch h⟩
    · exact ⟨rfl, fun s h => nomatch h⟩
abbrev st_is_so : Stmt := top 413
abbrev N_is_so : List Str := ["claim", "due"]
theorem sc_is_so : FnScope N_is_so ["claim"] (defScope st_is_so) := ⟨rfl, rfl, rfl, by decide +kernel, rfl, by decide +kernel, by decide +kernel⟩
theorem c_is_so {JC : Addr} (T : Tx K mg) (J : TJ K mg JC) : Cal P0 w K mg base "is_so" 3 ["claim"] (tz_is_so) := by
  refine Cal.mk T.d_is_so sc_is_so (fun _ _ _ _ _ _ us hl => match us, hl with | [_], _ => rfl) fun f cdv A outer s H E hr => ?_
  have c_plain_value := @c_plain_value w K mg base JC T J
  refine ⟨_, (pss_cons (ps_set (i := 1) sc_is_so.nd rfl (Or.inl rfl) (pe_callZ c_plain_value (hr.mono (by decide)) (pa_cons (pe_ix (ix_tupK (K := K)) (pv 0) pe_int (fun _ _ => rfl)) (pa_cons (pe_ix (ix_tupK (K := K)) (pv 0) pe_int (fun _ _ => rfl)) (pa_cons (pe_ix (ix_tupK (K := K)) (pv 0) pe_int (fun _ _ => rfl)) pa_nil)))))
    (pss_cons (ps_if (pt_cmpR op_eq (pe_ix (ix_tupK (K := K)) (pv 0) pe_int (fun _ _ => rfl)) pe_str (nomark _)) (pss_one (ps_ret (pe_cmp (pc_isN (pv 1)) rfl))) pss_nil)
    (pss_one (ps_ret (pe_and (pe_cmp (pc_notN (pv 1)) rfl) (pe_one (pe_cmpR (op_eqK (K := K) hr.units) (pv 1) (pe_ix (ix_tupK (K := K)) (pv 0) pe_int (fun _ _ => rfl)) (nomark _)))))))), ?_⟩
  try dsimp only [cxK]
  rintro zs o R ⟨op, x, y, v, c, rfl, rfl, hx, hy, hv, hc, k⟩
  obtain ⟨v1, v2⟩ := wholeV_sc hv
  cases c with
  | none =>
    dsimp only [clZ]
    repeat walk_at "q"
    refine we_call ?_
    repeat walk_at "q"
    refine ⟨rfl, op, x, y, v, rfl, rfl, hx, hy, hv, ?_⟩
    repeat walk_at "q"
    exact fin0 k
  | some c =>
    obtain ⟨c1, c2, c3⟩ := hc c rfl
    dsimp only [clZ]
    repeat walk_at "q"
    refine we_call ?_
    repeat walk_at "q"
    refine ⟨rfl, op, x, y, v, rfl, rfl, hx, hy, hv, ?_⟩
    repeat walk_at "q"
    refine ⟨fun h => ?_, fun h => ?_⟩
    · repeat walk_at "q"
      refine zo_eqD ⟨(sc_shaped v1 v2).1, (sc_shaped c1 c2).1, (sc_shaped v1 v2).2, (sc_shaped c1 c2).2, ?_⟩
      have e : soB v (some c) = PyData.eqv v.d c.d := by
        cases v <;> first | rfl | cases h
      rw [← e]
      exact fin0 k
    · have e : soB v (some c) = false := by
        cases v <;> first | rfl | cases h
      rw [e] at k
      exact fin0 k
end

/-! ## B19 -/
section
variable {w : World} {K : PySem.W.Frag} {mg : Str → Option Value} {base : Heap}
def mdl (b : Nat) (jp : JP) (st mo : Int) : List Z := [.int b, jp.z, .int st, .int mo]
theorem zo_ixO0 {K : PySem.W.Frag} {r : RR} {o : OO} {P : Z → OO → Prop} {a : Addr} {n : Int} (h : ∃ xs z, o[0]? = some (a, .lst xs) ∧ atI xs n = some z ∧ P z o) : ZO K (rIxL K) (.ref a) (.int n) r o P := by
  obtain ⟨xs, z, h1, h2, h3⟩ := h
  exact zo_ixO h1 h2 h3
def tz_law_zero_due : TZ := fun zs o R => ∃ (m : Addr) (b : Nat) (jp : JP) (st mo : Int) (ts : List (List Int)), zs = [.ref m, zts ts] ∧ o = [(m, .lst (mdl b jp st mo))] ∧ JOk b jp ∧ jp.g = true ∧ GoodTs ts ∧ R (.bl (zeroV jp ts)) [(m, .lst (mdl b jp (stV b jp st ts) (moV mo ts)))]
abbrev st_law_zero_due : Stmt := top 431
abbrev N_law_zero_due : List Str := ["model", "terms", "need", "used", "term", "factor"]
theorem sc_law_zero_due : FnScope N_law_zero_due ["model", "terms"] (defScope st_law_zero_due) := ⟨rfl, rfl, rfl, by decide +kernel, rfl, by decide +kernel, by decide +kernel⟩
theorem c_law_zero_due {JC : Addr} (T : Tx K mg) (J : TJ K mg JC) : Cal P0 w K mg base "_law_zero_due" 2 ["model", "terms"] (tz_law_zero_due) := by
  refine Cal.mk T.d__law_zero_due sc_law_zero_due (fun _ _ _ _ _ _ us hl => match us, hl with | [_, _], _ => rfl) fun f cdv A outer s H E hr => ?_
  have c_law_need := @c_law_need w K mg base JC T J
  have c_law_total := @c_law_total w K mg base JC T J
  have c_law_used := @c_law_used w K mg base JC T J
  have c_law_words := @c_law_words w K mg base JC T J
  refine ⟨_, (pss_cons (ps_set (i := 2) sc_law_zero_due.nd rfl (Or.inl rfl) (pe_callZ c_law_need (hr.mono (by decide)) (pa_cons (pv 1) pa_nil)))
    (pss_cons (ps_asg (pe_callB (call_max2 rfl) (by rfl) T.b_max (by decide +kernel) (pa_cons (pe_ix (ix_listK (K := K)) (pv 0) pe_int (fun _ _ => rfl)) (pa_cons (pv 2) pa_nil))) (pg_sub (pv 0) pe_int set_list))
    (pss_cons (ps_if (pt_cmp (pc_isN (pe_ix (ix_listK (K := K)) (pv 0) pe_int (fun _ _ => rfl))) rfl) (pss_one (ps_ret pe_bl)) pss_nil)
    (pss_cons (ps_set (i := 3) sc_law_zero_due.nd rfl (Or.inl rfl) (pe_callZ c_law_used (hr.mono (by decide)) (pa_cons (pe_ix (ix_listK (K := K)) (pv 0) pe_int (fun _ _ => rfl)) (pa_cons (pv 2) pa_nil))))
    (pss_cons (ps_if (pt_cmpR op_lt (pv 3) pe_int (nomark _)) (pss_one (ps_ret pe_bl)) pss_nil)
    (pss_cons (ps_asg (pe_op op_add (pe_ix (ix_listK (K := K)) (pv 0) pe_int (fun _ _ => rfl)) (pe_op op_mul (pv 3) (pe_callB (cr_sumK (K := K) rfl) (by rfl) T.b_sum (by decide +kernel) (pa_cons (pe_lc (own := [("term", 4)]) (g := gName 4) rfl sc_law_zero_due.nd (pi_tupK (K := K) (pv 1)) (blkOk_by (N := N_law_zero_due) (sc := defScope st_law_zero_due) (by decide +kernel)) (fun _ _ _ _ _ => pg_name (i := 4) sc_law_zero_due.nd rfl (Or.inl rfl)) (fun _ _ _ _ _ => pts_nil) (fun _ _ _ _ _ => (pe_callB (cr_sumK (K := K) rfl) (by rfl) T.b_sum (by decide +kernel) (pa_cons (pe_lc (own := [("factor", 5)]) (g := gName 5) rfl sc_law_zero_due.nd (pi_tupK (K := K) (pv 4)) (blkOk_by (N := N_law_zero_due) (by kernel_rfl)) (fun _ _ _ _ _ => pg_name (i := 5) sc_law_zero_due.nd rfl (Or.inl rfl)) (fun _ _ _ _ _ => pts_nil) (fun _ _ _ _ _ => (pe_op op_add (pe_callZ c_law_words (hr.mono (by decide)) (pa_cons (pv 5) (pa_cons (pe_ix (ix_listK (K := K)) (pv 0) pe_int (fun _ _ => rfl)) pa_nil))) pe_int))) pa_nil)))) pa_nil)))) (pg_sub (pv 0) pe_int set_list))
    (pss_one (ps_ret (pe_cmpR op_eq (pe_callZ c_law_total (hr.mono (by decide)) (pa_cons (pv 1) pa_nil)) pe_int (nomark _)))))))))), ?_⟩
  try dsimp only [cxK]
  rintro zs o R ⟨m, b, jp, st, mo, ts, rfl, rfl, ok, hg, ht, k⟩
  have hb := ok.hb
  repeat walk_at "z"
  refine ⟨rfl, ts, rfl, rfl, ⟨by have := ht.1; omega, fun t h => by have := (ht.2 t h).1; omega⟩, ?_⟩
  repeat walk_at "z"
  refine zo_ixO0 ⟨_, .int mo, rfl, rfl, ?_⟩
  repeat walk_at "z"
  refine ⟨0, mdl b jp st mo, 3, 3, rfl, rfl, rfl, ?_⟩
  repeat walk_at "z"
  refine zo_ixO0 ⟨_, jp.z, rfl, rfl, ?_⟩
  cases jp with
  | bad l => cases hg
  | no =>
    repeat walk_at "z"
    refine ⟨fun _ => ?_, fun h => nomatch h⟩
    repeat walk_at "z"
    exact finJ k
  | good l =>
    obtain ⟨hd, hl⟩ := ok.hg l rfl
    repeat walk_at "z"
    refine ⟨fun h => (nomatch h), fun _ => ?_⟩
    repeat walk_at "z"
    refine zo_ixO0 ⟨_, zn l, rfl, rfl, ?_⟩
    repeat walk_at "z"
    refine ⟨rfl, l, needI ts, rfl, rfl, by omega, ?_⟩
    cases hu : usedI l (needI ts) with
    | none =>
      have k1 : R (.bl false) [(m, .lst (mdl b (.good l) st (moV mo ts)))] := by
        have e1 : zeroV (.good l) ts = false := by unfold zeroV; dsimp only; rw [hu]
        have e2 : stV b (.good l) st ts = st := by unfold stV; dsimp only; rw [hu]
        rw [e1, e2] at k
        exact k
      repeat walk_at "z"
      refine ⟨fun _ => ?_, fun h => absurd (dec_f h) (by decide)⟩
      repeat walk_at "z"
      exact finJ k1
    | some u =>
      have k1 : R (.bl (decide (totI ts = 0))) [(m, .lst (mdl b (.good l) (st + (u : Int) * stepW b ts) (moV mo ts)))] := by
        have e1 : zeroV (.good l) ts = decide (totI ts = 0) := by unfold zeroV; dsimp only; rw [hu]
        have e2 : stV b (.good l) st ts = st + (u : Int) * stepW b ts := by unfold stV; dsimp only; rw [hu]
        rw [e1, e2] at k
        exact k
      have hul := used_le (fun p hp => by have := (hd.pr hp).2.1; omega) hu
      dsimp only
      repeat walk_at "z"
      refine ⟨fun h => absurd (dec_t h) (by omega), fun _ => ?_⟩
      repeat walk_at "z"
      refine zo_ixO0 ⟨_, .int st, rfl, rfl, ?_⟩
      repeat walk_at "z"
      refine we_lcI (j := 4) ((ts.map fun t => (t.map fun n => wlen b n + 1).sum).map Z.int) ?_
      repeat walk_at "z"
      refine ⟨by rw [List.length_map]; have := ht.1; omega, by rw [List.length_map, List.length_map, List.length_map], fun i z hz => ?_, ?_⟩
      · obtain ⟨t, hti, rfl⟩ := map_of hz
        have htm := ht.2 t (List.mem_of_getElem? hti)
        repeat walk_at "z"
        refine we_lcI (j := 5) ((t.map fun n => wlen b n + 1).map Z.int) ?_
        repeat walk_at "z"
        refine ⟨by rw [List.length_map]; omega, by rw [List.length_map, List.length_map, List.length_map], fun i z hz => ?_, ?_⟩
        · obtain ⟨n, hni, rfl⟩ := map_of hz
          repeat walk_at "z"
          refine zo_ixO0 ⟨_, .int b, rfl, rfl, ?_⟩
          repeat walk_at "z"
          refine ⟨rfl, n, b, rfl, rfl, by omega, ?_⟩
          repeat walk_at "z"
          exact ⟨rfl, map_at (map_at hni)⟩
        · repeat walk_at "z"
          exact ⟨rfl, map_at (map_at hti)⟩
      · repeat walk_at "z"
        refine ⟨0, mdl b (.good l) st (moV mo ts), 2, 2, rfl, rfl, rfl, ?_⟩
        repeat walk_at "z"
        refine ⟨rfl, ts, rfl, rfl, fun t h => ⟨by have := (ht.2 t h).1; omega, (ht.2 t h).2⟩, ?_⟩
        repeat walk_at "z"
        rw [deq]
        exact finJ k1
theorem we_isiM {K : PySem.W.Frag} {te : TE} {r : RR} {o : OO} {P : Z → OO → Prop} (n : Int) (h : WE K te r o fun z o1 => z = .int n ∧ P (.bl true) o1) : WE K (tCB (rIsi K) (tCons te (tCons (tC (.ty "int")) tNil))) r o P := we_isi (h.imp fun z o1 ⟨e, k⟩ => ⟨true, by rw [e]; exact isA_int n, k⟩)
def tz_law_state (JC : Addr) : TZ := fun zs o R => ∃ (j dx m : Addr) (b : Nat) (jp : JP) (st mo : Int), zs = [.ref j, .ref m] ∧ o = [(j, jO JC dx b jp st mo), (m, .lst (mdl b jp st mo))] ∧ jp.g = true ∧ R (.bl true) o
theorem jp_shaped (jp : JP) : jp.z.plain = true ∧ SeqAt.shaped jp.z.d = true ∧ PyData.eqv jp.z.d jp.z.d = true := by
  have hi : ∀ l : List Int, (Z.tup (l.map Z.int)).plain = true ∧ SeqAt.shaped (Z.tup (l.map Z.int)).d = true ∧ PyData.eqv (Z.tup (l.map Z.int)).d (Z.tup (l.map Z.int)).d = true := fun l =>
    ⟨ints_plain l, ints_shaped l, eqv_self _ (SeqAt.canLay_of_shaped (ints_shaped l))⟩
  cases jp with
  | no => exact ⟨rfl, rfl, rfl⟩
  | good l =>
    have := hi (l.map fun n : Nat => (n : Int))
    rw [← nz_ints] at this
    exact this
  | bad l => exact hi l
theorem deq_self (a : Int) : decide ((Z.int a).v = (Z.int a).v) = true := decide_eq_true rfl
abbrev st_law_state : Stmt := top 436
abbrev N_law_state : List Str := ["judge", "model", "told"]
theorem sc_law_state : FnScope N_law_state ["judge", "model"] (defScope st_law_state) := ⟨rfl, rfl, rfl, by decide +kernel, rfl, by decide +kernel, by decide +kernel⟩
theorem c_law_state {JC : Addr} (T : Tx K mg) (J : TJ K mg JC) : Cal P0 w K mg base "_law_state" 2 ["judge", "model"] (tz_law_state JC) := by
  refine Cal.mk T.d__law_state sc_law_state (fun _ _ _ _ _ _ us hl => match us, hl with | [_, _], _ => rfl) fun f cdv A outer s H E hr => ?_
  have c_law_is_truth := @c_law_is_truth w K mg base JC T J
  refine ⟨_, (pss_cons (ps_for PassesOwn.never rfl (pi_listK (K := K) (pe_lst (pa_cons (pe_fldK (K := K) (pv 0) rfl) (pa_cons (pe_fldK (K := K) (pv 0) rfl) (pa_cons (pe_fldK (K := K) (pv 0) rfl) pa_nil))))) (pg_name (i := 2) sc_law_state.nd rfl (Or.inl rfl)) (pss_one (ps_if (PW.pt (pw_or (pt_not (pt_val (pe_callB (call_isiK2 (K := K)) (by rfl) T.b_isinstance (by decide +kernel) (pa_cons (pv 2) (pa_cons (pe_bltn (v := .ty "int") (by rfl) T.b_int (by decide +kernel) rfl) pa_nil))))) (pw_or1 (pt_val (pe_callB (call_isiK2 (K := K)) (by rfl) T.b_isinstance (by decide +kernel) (pa_cons (pv 2) (pa_cons (pe_bltn (v := .ty "bool") (by rfl) T.b_bool (by decide +kernel) rfl) pa_nil))))))) (pss_one (ps_ret pe_bl)) pss_nil)))
    (pss_cons (ps_if (PW.pt (pw_or (pt_cmpR op_ne (pe_fldK (K := K) (pv 0) rfl) (pe_ix (ix_listK (K := K)) (pv 1) pe_int (fun _ _ => rfl)) (nomark _)) (pw_or (pt_cmpR op_ne (pe_fldK (K := K) (pv 0) rfl) (pe_ix (ix_listK (K := K)) (pv 1) pe_int (fun _ _ => rfl)) (nomark _)) (pw_or1 (pt_cmpR op_ne (pe_fldK (K := K) (pv 0) rfl) (pe_ix (ix_listK (K := K)) (pv 1) pe_int (fun _ _ => rfl)) (nomark _)))))) (pss_one (ps_ret pe_bl)) pss_nil)
    (pss_one (ps_ret (pe_and (pe_cmpR (op_eqK (K := K) hr.units) (pe_fldK (K := K) (pv 0) rfl) (pe_ix (ix_listK (K := K)) (pv 1) pe_int (fun _ _ => rfl)) (nomark _)) (pe_one (pe_callZ c_law_is_truth (hr.mono (by decide)) (pa_cons (pe_fldK (K := K) (pv 0) rfl) (pa_cons pe_bl pa_nil))))))))), ?_⟩
  try dsimp only [cxK]
  rintro zs o R ⟨j, dx, m, b, jp, st, mo, rfl, rfl, hg, k⟩
  repeat walk_at "z"
  refine ⟨fun i r o => ∃ x2 : Option Z, r = [some (.ref j), some (.ref m), x2] ∧ o = [(j, jO JC dx b jp st mo), (m, .lst (mdl b jp st mo))], ⟨none, rfl, rfl⟩, ?_, ?_⟩
  · rintro i z r o hz ⟨x2, rfl, rfl⟩
    have hn : ∃ n : Int, z = .int n := by
      match i, hz with
      | 0, hz => exact ⟨_, (Option.some.inj hz).symm⟩
      | 1, hz => exact ⟨_, (Option.some.inj hz).symm⟩
      | 2, hz => exact ⟨_, (Option.some.inj hz).symm⟩
      | i + 3, hz => cases hz
    obtain ⟨n, rfl⟩ := hn
    repeat walk_at "z"
    refine ⟨true, isA_int n, ?_⟩
    repeat walk_at "z"
    refine ⟨fun _ => ?_, fun h => (nomatch h)⟩
    repeat walk_at "z"
    refine ⟨false, isA_intb n, ?_⟩
    repeat walk_at "z"
    refine ⟨fun h => (nomatch h), fun _ => ?_⟩
    repeat walk_at "z"
    exact ⟨_, rfl, rfl⟩
  · rintro r o ⟨x2, rfl, rfl⟩
    repeat walk_at "z"
    refine zo_ixO (i := 1) (z := .int st) rfl rfl ?_
    repeat walk_at "z"
    rw [deq_self]
    refine ⟨fun _ => ?_, fun h => (nomatch h)⟩
    repeat walk_at "z"
    refine zo_ixO (i := 1) (z := .int mo) rfl rfl ?_
    repeat walk_at "z"
    rw [deq_self]
    refine ⟨fun _ => ?_, fun h => (nomatch h)⟩
    repeat walk_at "z"
    refine zo_ixO (i := 1) (z := .int b) rfl rfl ?_
    repeat walk_at "z"
    rw [deq_self]
    refine ⟨fun h => (nomatch h), fun _ => ?_⟩
    repeat walk_at "z"
    refine zo_ixO (i := 1) (z := jp.z) rfl rfl ?_
    obtain ⟨s1, s2, s3⟩ := jp_shaped jp
    refine zo_eqD ⟨s1, s1, s2, s2, ?_⟩
    rw [s3]
    repeat walk_at "z"
    refine ⟨fun _ => ?_, fun h => (nomatch h)⟩
    repeat walk_at "z"
    rw [hg]
    refine ⟨rfl, true, true, rfl, rfl, ?_⟩
    exact ⟨_, [], rfl, rfl, k⟩
end

/-! ## B20 -/
section
variable {w : World} {K : PySem.W.Frag} {mg : Str → Option Value} {base : Heap}
/-- the words as the law lays them -/
def wdL (b n m : Nat) : List Nat := (List.range m).map fun k => n / 2 ^ (b * k) % 2 ^ b
theorem wval_wdL (b n : Nat) : ∀ m, wval b (wdL b n m) = n % 2 ^ (b * m)
  | 0 => by
    rw [Nat.mul_zero, Nat.pow_zero, Nat.mod_one]
    rfl
  | m + 1 => by
    unfold wdL
    rw [List.range_succ, List.map_append, wval_app, List.length_map, List.length_range]
    show wval b (wdL b n m) + 2 ^ (b * m) * wval b [n / 2 ^ (b * m) % 2 ^ b] = _
    rw [wval_wdL b n m, wval_cons]
    show n % 2 ^ (b * m) + 2 ^ (b * m) * (n / 2 ^ (b * m) % 2 ^ b + 2 ^ b * 0) = _
    rw [Nat.mul_zero, Nat.add_zero, Nat.mul_succ, Nat.pow_add, Nat.mod_mul]
theorem wdL_all {b : Nat} (hb : 0 < b) (n : Nat) : wval b (wdL b n (wd b n).length) = n := by
  rw [wval_wdL]
  refine Nat.mod_eq_of_lt ?_
  have := wval_lt (wd_lt hb n)
  rw [wval_wd hb] at this
  exact this
theorem pbl_one {t : Nat} (h : 3 ≤ t) : ∃ q, pbl t 1 = [q] ∧ 1 ≤ q ∧ q < t := by
  induction t with
  | zero => omega
  | succ t ih =>
    cases hp : prB t with
    | true =>
      have hq := (prB_iff t).mp hp
      exact ⟨t, by rw [pbl_yes (by decide) hp, Nat.sub_self, pbl_zero], by have := hq.1; omega, Nat.lt_succ_self t⟩
    | false =>
      rw [pbl_no hp]
      have h3 : 3 ≤ t := by
        by_cases c : t = 2
        · subst c
          exact absurd hp (by decide)
        · omega
      obtain ⟨q, h1, h2, h3⟩ := ih h3
      exact ⟨q, h1, h2, by omega⟩
def JMo (JC j dx m : Addr) (b : Nat) (jp : JP) (st mo : Int) : OO := [(j, jO JC dx b jp st mo), (m, .lst (mdl b jp st mo))]
def tz_law_call (JC : Addr) : TZ := fun zs o R => ∃ (s : List Int) (p : Int) (j dx m : Addr) (b : Nat) (jp : JP) (st mo : Int), zs = [.scr s, .int p, .ref j, .ref m] ∧ o = JMo JC j dx m b jp st mo ∧ JOk b jp ∧ jp.g = true ∧ ∀ st' mo', R (.bl true) (JMo JC j dx m b jp st' mo')
theorem finM {JC j dx m : Addr} {b : Nat} {jp : JP} {st mo st' mo' : Int} {R : Z → OO → Prop} {v : Z} (h : R v (JMo JC j dx m b jp st' mo')) : FinZ R (JMo JC j dx m b jp st mo) v (JMo JC j dx m b jp st' mo') := ⟨_, [], (List.append_nil _).symm, rfl, h⟩
theorem two7 {n : Int} {k : Nat} (h : n.natAbs < 2 ^ k) (hk : k ≤ 5999) : Sz n := Nat.lt_of_lt_of_le h (Nat.pow_le_pow_right (by decide) (by omega))
abbrev st_law_call : Stmt := top 435
abbrev N_law_call : List Str := ["script", "place", "judge", "model", "way", "bits", "terms", "due", "left", "right", "x", "y", "number", "k", "words", "prime", "told"]
theorem sc_law_call : FnScope N_law_call ["script", "place", "judge", "model"] (defScope st_law_call) := ⟨rfl, rfl, rfl, by decide +kernel, rfl, by decide +kernel, by decide +kernel⟩
theorem c_law_call {JC : Addr} (T : Tx K mg) (J : TJ K mg JC) : Cal P0 w K mg base "_law_call" 6 ["script", "place", "judge", "model"] (tz_law_call JC) := by
  refine Cal.mk T.d__law_call sc_law_call (fun _ _ _ _ _ _ us hl => match us, hl with | [_, _, _, _], _ => rfl) fun f cdv A outer s H E hr => ?_
  have m_fraction_less := @m_fraction_less w K mg base JC T J
  have m_less := @m_less w K mg base JC T J
  have m_rest_of := @m_rest_of w K mg base JC T J
  have m_zero := @m_zero w K mg base JC T J
  have c_law_fractions := @c_law_fractions w K mg base JC T J
  have c_law_is_truth := @c_law_is_truth w K mg base JC T J
  have c_law_near := @c_law_near w K mg base JC T J
  have c_law_number := @c_law_number w K mg base JC T J
  have c_law_one := @c_law_one w K mg base JC T J
  have c_law_primes := @c_law_primes w K mg base JC T J
  have c_law_terms := @c_law_terms w K mg base JC T J
  have c_law_words := @c_law_words w K mg base JC T J
  have c_law_zero_due := @c_law_zero_due w K mg base JC T J
  refine ⟨_, (pss_cons (ps_set (i := 4) sc_law_call.nd rfl (Or.inl rfl) (pe_callZ c_law_one (hr.mono (by decide)) (pa_cons (pv 0) (pa_cons (pv 1) (pa_cons pe_int pa_nil)))))
    (pss_cons (ps_set (i := 5) sc_law_call.nd rfl (Or.inr rfl) (pe_ix (ix_listK (K := K)) (pv 3) pe_int (fun _ _ => rfl)))
    (pss_cons (ps_if (pt_cmpR op_lt (pv 4) pe_int (nomark _)) (pss_cons (ps_set (i := 6) sc_law_call.nd rfl (Or.inl rfl) (pe_callZ c_law_terms (hr.mono (by decide)) (pa_cons (pv 0) (pa_cons (pe_op op_add (pv 1) pe_int) (pa_cons (pv 5) (pa_cons (pe_ifExp (pt_cmp (pc_isN (pe_ix (ix_listK (K := K)) (pv 3) pe_int (fun _ _ => rfl))) rfl) (pe_tup pa_nil) (pe_ix (ix_listK (K := K)) (pv 3) pe_int (fun _ _ => rfl))) pa_nil))))))
    (pss_cons (ps_set (i := 7) sc_law_call.nd rfl (Or.inl rfl) (pe_callZ c_law_zero_due (hr.mono (by decide)) (pa_cons (pv 3) (pa_cons (pv 6) pa_nil))))
    (pss_one (ps_ret (pe_callZ c_law_is_truth (hr.mono (by decide)) (pa_cons (pe_methZ J.cl m_zero (hr.mono (by decide)) (pv 2) (pa_cons (pv 6) pa_nil)) (pa_cons (pv 7) pa_nil))))))) pss_nil)
    (pss_cons (ps_if (pt_cmpR op_lt (pv 4) pe_int (nomark _)) (pss_cons (ps_set (i := 8) sc_law_call.nd rfl (Or.inl rfl) (pe_callZ c_law_number (hr.mono (by decide)) (pa_cons (pv 0) (pa_cons (pe_op op_add (pv 1) pe_int) (pa_cons (pv 5) pa_nil)))))
    (pss_cons (ps_set (i := 9) sc_law_call.nd rfl (Or.inl rfl) (pe_callZ c_law_near (hr.mono (by decide)) (pa_cons (pv 0) (pa_cons (pe_op op_add (pv 1) pe_int) (pa_cons (pv 8) (pa_cons (pv 5) pa_nil))))))
    (pss_cons (ps_asg (pe_op op_add (pe_op op_add (pe_ix (ix_listK (K := K)) (pv 3) pe_int (fun _ _ => rfl)) (pe_callB (call_max2 rfl) (by rfl) T.b_max (by decide +kernel) (pa_cons (pe_callZ c_law_words (hr.mono (by decide)) (pa_cons (pv 8) (pa_cons (pv 5) pa_nil))) (pa_cons (pe_callZ c_law_words (hr.mono (by decide)) (pa_cons (pv 9) (pa_cons (pv 5) pa_nil))) pa_nil)))) pe_int) (pg_sub (pv 3) pe_int set_list))
    (pss_one (ps_ret (pe_callZ c_law_is_truth (hr.mono (by decide)) (pa_cons (pe_methZ J.cl m_less (hr.mono (by decide)) (pv 2) (pa_cons (pv 8) (pa_cons (pv 9) pa_nil))) (pa_cons (pe_cmpR op_lt (pv 8) (pv 9) (nomark _)) pa_nil)))))))) pss_nil)
    (pss_cons (ps_if (pt_cmpR op_eq (pv 4) pe_int (nomark _)) (pss_cons (ps_asg (pe_callZ c_law_fractions (hr.mono (by decide)) (pa_cons (pv 0) (pa_cons (pe_op op_add (pv 1) pe_int) (pa_cons (pv 5) pa_nil)))) (pg_tup rfl (pgs_cons (pg_name (i := 10) sc_law_call.nd rfl (Or.inl rfl)) (pgs_cons (pg_name (i := 11) sc_law_call.nd rfl (Or.inl rfl)) pgs_nil))))
    (pss_cons (ps_asg (pe_op op_add (pe_op op_add (pe_op op_add (pe_ix (ix_listK (K := K)) (pv 3) pe_int (fun _ _ => rfl)) (pe_callZ c_law_words (hr.mono (by decide)) (pa_cons (pe_op op_mulW (pe_ix (ix_tupK (K := K)) (pv 10) pe_int (fun _ _ => rfl)) (pe_ix (ix_tupK (K := K)) (pv 11) pe_int (fun _ _ => rfl))) (pa_cons (pv 5) pa_nil)))) (pe_callZ c_law_words (hr.mono (by decide)) (pa_cons (pe_op op_mulW (pe_ix (ix_tupK (K := K)) (pv 11) pe_int (fun _ _ => rfl)) (pe_ix (ix_tupK (K := K)) (pv 10) pe_int (fun _ _ => rfl))) (pa_cons (pv 5) pa_nil)))) pe_int) (pg_sub (pv 3) pe_int set_list))
    (pss_one (ps_ret (pe_callZ c_law_is_truth (hr.mono (by decide)) (pa_cons (pe_methZ J.cl m_fraction_less (hr.mono (by decide)) (pv 2) (pa_cons (pv 10) (pa_cons (pv 11) pa_nil))) (pa_cons (pe_cmpR op_lt (pe_op op_mulW (pe_ix (ix_tupK (K := K)) (pv 10) pe_int (fun _ _ => rfl)) (pe_ix (ix_tupK (K := K)) (pv 11) pe_int (fun _ _ => rfl))) (pe_op op_mulW (pe_ix (ix_tupK (K := K)) (pv 11) pe_int (fun _ _ => rfl)) (pe_ix (ix_tupK (K := K)) (pv 10) pe_int (fun _ _ => rfl))) (nomark _)) pa_nil))))))) pss_nil)
    (pss_cons (ps_set (i := 12) sc_law_call.nd rfl (Or.inr rfl) (pe_callZ c_law_number (hr.mono (by decide)) (pa_cons (pv 0) (pa_cons (pe_op op_add (pv 1) pe_int) (pa_cons (pv 5) pa_nil)))))
    (pss_cons (ps_set (i := 14) sc_law_call.nd rfl (Or.inl rfl) (pe_callTy (call_tupK (K := K)) (by rfl) T.b_tuple (by decide +kernel) (pa_cons (pe_lc (own := [("k", 13)]) (g := gName 13) rfl sc_law_call.nd (pi_range1 (by rfl) T.b_range (pa_cons (pe_callZ c_law_words (hr.mono (by decide)) (pa_cons (pv 12) (pa_cons (pv 5) pa_nil))) pa_nil)) (blkOk_by (N := N_law_call) (sc := defScope st_law_call) (by decide +kernel)) (fun _ _ _ _ _ => pg_name (i := 13) sc_law_call.nd rfl (Or.inl rfl)) (fun _ _ _ _ _ => pts_nil) (fun _ _ _ _ _ => (pe_op op_modN (pe_callTy call_int1 (by rfl) T.b_int (by decide +kernel) (pa_cons (pe_op op_shr (pe_callB call_abs (by rfl) T.b_abs (by decide +kernel) (pa_cons (pv 12) pa_nil)) (pe_op op_mul (pv 5) (pv 13))) pa_nil)) (pe_op op_shl pe_int (pv 5))))) pa_nil)))
    (pss_cons (ps_set (i := 15) sc_law_call.nd rfl (Or.inl rfl) (pe_ix (ix_listK (K := K)) (pe_callZ c_law_primes (hr.mono (by decide)) (pa_cons (pe_op op_add pe_int (pe_callZ c_law_one (hr.mono (by decide)) (pa_cons (pv 0) (pa_cons (pe_op op_add (pv 1) pe_int) (pa_cons pe_int pa_nil))))) (pa_cons pe_int pa_nil))) pe_int (fun _ _ => rfl)))
    (pss_cons (ps_set (i := 16) sc_law_call.nd rfl (Or.inl rfl) (pe_methZ J.cl m_rest_of (hr.mono (by decide)) (pv 2) (pa_cons (pv 12) (pa_cons (pv 14) (pa_cons (pv 15) pa_nil)))))
    (pss_one (ps_ret (pe_and (pe_callB (call_isiK2 (K := K)) (by rfl) T.b_isinstance (by decide +kernel) (pa_cons (pv 16) (pa_cons (pe_bltn (v := .ty "int") (by rfl) T.b_int (by decide +kernel) rfl) pa_nil))) (pe_and (pe_not (pe_callB (call_isiK2 (K := K)) (by rfl) T.b_isinstance (by decide +kernel) (pa_cons (pv 16) (pa_cons (pe_bltn (v := .ty "bool") (by rfl) T.b_bool (by decide +kernel) rfl) pa_nil)))) (pe_one (pe_cmpR op_eq (pv 16) (pe_op op_modN (pe_callTy call_int1 (by rfl) T.b_int (by decide +kernel) (pa_cons (pv 12) pa_nil)) (pv 15)) (nomark _)))))))))))))))), ?_⟩
  try dsimp only [cxK]
  rintro zs o R ⟨s, p, j, dx, m, b, jp, st, mo, rfl, rfl, ok, hg, k⟩
  have hb := ok.hb
  have hpt : ∃ l : List Nat, (jp = .no ∧ l = []) ∨ jp = .good l := by
    cases jp with
    | no => exact ⟨[], .inl ⟨rfl, rfl⟩⟩
    | good l => exact ⟨l, .inr rfl⟩
    | bad l => cases hg
  obtain ⟨l, hpt⟩ := hpt
  have hps : PtsOk l := by
    rcases hpt with ⟨_, rfl⟩ | rfl
    · exact ⟨by decide, fun q hq => nomatch hq⟩
    · obtain ⟨h1, h2⟩ := ok.hg l rfl
      have h3 : 2 ^ b ≤ 2 ^ 16 := Nat.pow_le_pow_right (by decide) hb.2
      exact ⟨h2, fun q hq => by have := h1.pr hq; have := this.2.1; omega⟩
  repeat walk_at "x"
  refine we_call ?_
  repeat walk_at "x"
  refine ⟨rfl, s, p, 8, rfl, rfl, by decide, fun wy hw => ?_⟩
  repeat walk_at "x"
  refine zo_ixO (i := 1) (z := .int b) rfl rfl ?_
  repeat walk_at "x"
  refine ws_seq (ws_if ?_)
  repeat walk_at "x"
  refine ⟨fun h => ?_, fun h => ?_⟩
  · repeat walk_at "x"
    refine we_call ?_
    repeat walk_at "x"
    refine WE.imp (P := fun z o1 => o1 = JMo JC j dx m b jp st mo ∧ z = zn l) (we_if ?_) ?_
    · repeat walk_at "x"
      refine zo_ixO (i := 1) (z := jp.z) rfl rfl ?_
      rcases hpt with ⟨rfl, rfl⟩ | rfl
      · repeat walk_at "x"
        refine ⟨fun _ => ?_, fun h => nomatch h⟩
        repeat walk_at "x"
        exact ⟨rfl, rfl⟩
      · repeat walk_at "x"
        refine ⟨fun h => (nomatch h), fun _ => ?_⟩
        repeat walk_at "x"
        refine zo_ixO (i := 1) (z := zn l) rfl rfl ?_
        exact ⟨rfl, rfl⟩
    rintro z o ⟨rfl, rfl⟩
    repeat walk_at "x"
    refine ⟨rfl, s, _, b, l, rfl, rfl, by omega, hps, fun ts ht => ?_⟩
    repeat walk_at "x"
    refine we_call1 1 ?_
    repeat walk_at "x"
    refine ⟨rfl, m, _, rfl, m, b, jp, st, mo, ts, rfl, rfl, ok, hg, ht, fun c' hc => ?_⟩
    cases oneJ hc
    repeat walk_at "z"
    refine ⟨rfl, _, rfl, j, dx, b, jp, st, mo, ts, rfl, rfl, ok, ht, fun c' hc => ?_⟩
    cases oneJ hc
    repeat walk_at "z"
    refine ⟨rfl, _, _, rfl, rfl, ?_⟩
    rw [decide_eq_true rfl]
    exact finM (st' := stV b jp st ts) (mo' := moV mo ts) (k _ _)
  repeat walk_at "x"
  refine ws_seq (ws_if ?_)
  repeat walk_at "x"
  refine ⟨fun h => ?_, fun h => ?_⟩
  · repeat walk_at "z"
    refine ⟨rfl, s, _, b, rfl, rfl, by omega, fun x hx => ?_⟩
    repeat walk_at "z"
    refine ⟨rfl, s, _, x, b, rfl, rfl, by omega, hx, fun y hy => ?_⟩
    repeat walk_at "z"
    refine zo_ixO (i := 1) (z := .int st) rfl rfl ?_
    repeat walk_at "z"
    refine ⟨rfl, x, b, rfl, rfl, by omega, ?_⟩
    repeat walk_at "z"
    refine ⟨rfl, y, b, rfl, rfl, by omega, ?_⟩
    repeat walk_at "z"
    refine ⟨1, mdl b jp st mo, 2, 2, rfl, rfl, rfl, ?_⟩
    repeat walk_at "z"
    refine ⟨rfl, _, rfl, j, dx, b, jp, st, mo, x, y, rfl, rfl, ok, two7 hx (by decide), two7 hy (by decide), fun c' hc => ?_⟩
    cases oneJ hc
    repeat walk_at "z"
    refine ⟨rfl, _, _, rfl, rfl, ?_⟩
    rw [hg, Bool.true_and, decide_eq_true rfl]
    exact finM (st' := st + mxI (wlen b x) (wlen b y) + 1) (mo' := mo) (k _ _)
  repeat walk_at "x"
  refine ws_seq (ws_if ?_)
  repeat walk_at "x"
  refine ⟨fun h => ?_, fun h => ?_⟩
  · repeat walk_at "z"
    refine ⟨rfl, s, _, b, rfl, rfl, by omega, fun x1 x2 y1 y2 hx1 hx2 hy1 hy2 px2 py2 => ?_⟩
    repeat walk_at "z"
    refine zo_ixO (i := 1) (z := .int st) rfl rfl ?_
    repeat walk_at "z"
    refine zo_ixT (z := .int x1) rfl ?_
    repeat walk_at "z"
    refine zo_ixT (z := .int y2) rfl ?_
    repeat walk_at "z"
    refine zo_i (wide_mul hx1 hy2 (by decide) (by decide) (by decide)) ?_
    repeat walk_at "z"
    refine ⟨rfl, _, b, rfl, rfl, by omega, ?_⟩
    repeat walk_at "z"
    refine zo_ixT (z := .int y1) rfl ?_
    repeat walk_at "z"
    refine zo_ixT (z := .int x2) rfl ?_
    repeat walk_at "z"
    refine zo_i (wide_mul hy1 hx2 (by decide) (by decide) (by decide)) ?_
    repeat walk_at "z"
    refine ⟨rfl, _, b, rfl, rfl, by omega, ?_⟩
    repeat walk_at "z"
    refine ⟨1, mdl b jp st mo, 2, 2, rfl, rfl, rfl, ?_⟩
    repeat walk_at "z"
    refine ⟨rfl, _, rfl, j, dx, b, jp, st, mo, x1, x2, y1, y2, rfl, rfl, ok, two7 hx1 (by decide), two7 hx2 (by decide), two7 hy1 (by decide), two7 hy2 (by decide), px2, py2, fun c' hc => ?_⟩
    cases oneJ hc
    repeat walk_at "z"
    refine zo_ixT (z := .int x1) rfl ?_
    repeat walk_at "z"
    refine zo_ixT (z := .int y2) rfl ?_
    repeat walk_at "z"
    refine zo_i (wide_mul hx1 hy2 (by decide) (by decide) (by decide)) ?_
    repeat walk_at "z"
    refine zo_ixT (z := .int y1) rfl ?_
    repeat walk_at "z"
    refine zo_ixT (z := .int x2) rfl ?_
    repeat walk_at "z"
    refine zo_i (wide_mul hy1 hx2 (by decide) (by decide) (by decide)) ?_
    repeat walk_at "z"
    refine ⟨rfl, _, _, rfl, rfl, ?_⟩
    rw [hg, Bool.true_and, decide_eq_true rfl]
    exact finM (st' := st + wlen b (x1 * y2) + wlen b (y1 * x2) + 1) (mo' := mo) (k _ _)
  repeat walk_at "z"
  refine ⟨rfl, s, _, b, rfl, rfl, by omega, fun n hn => ?_⟩
  have hwn := wlen_nat hb.1 n
  have hln := wd_len hb.1 (n := n.natAbs)
  have hlg := (two7 hn (by decide)).log
  repeat walk_at "x"
  refine we_lcI (j := 13) (nz (wdL b n.natAbs (wd b n.natAbs).length)) ?_
  repeat walk_at "z"
  refine ⟨rfl, n, b, rfl, rfl, by omega, ?_⟩
  repeat walk_at "z"
  have e9 : (bitsI n + (b : Int) - 1).fdiv (b : Int) = ((wd b n.natAbs).length : Int) := hwn.symm
  rw [e9]
  have hwl := wdL_all hb.1 n.natAbs
  generalize hLen : (wd b n.natAbs).length = len at *
  refine ⟨_, rfl, by omega, by omega, by rw [upFrom_len]; omega, by rw [upFrom_len, nz_len]; unfold wdL; rw [List.length_map, List.length_range]; rfl, fun i z hz => ?_, ?_⟩
  · obtain ⟨hi, rfl⟩ := upFrom_of hz
    have e0 : (0 : Int) + (i : Int) * 1 = (i : Int) := by omega
    rw [e0]
    repeat walk_at "z"
    rw [abs_nat]
    have e1 : (b : Int) * (i : Int) = ((b * i : Nat) : Int) := by norm_cast
    rw [e1]
    refine zo_i (Int.natCast_nonneg _) ?_
    repeat walk_at "z"
    have e2 : (1 : Int) * 2 ^ (b : Int).toNat = ((2 ^ b : Nat) : Int) := by rw [Int.one_mul, Int.toNat_natCast]; norm_cast
    have e3 : (n.natAbs : Int) / 2 ^ ((b * i : Nat) : Int).toNat = ((n.natAbs / 2 ^ (b * i) : Nat) : Int) := by rw [Int.toNat_natCast]; norm_cast
    have hB := Nat.two_pow_pos b
    rw [e2, e3]
    repeat walk_at "z"
    rw [fmod_nat]
    refine ⟨rfl, nz_at ?_⟩
    unfold wdL
    rw [List.getElem?_map, List.getElem?_range (by omega)]
    rfl
  · repeat walk_at "z"
    refine ⟨rfl, s, _, 65534, rfl, rfl, by decide, fun q hq => ?_⟩
    repeat walk_at "z"
    refine ⟨rfl, _, 1, rfl, rfl, by omega, by decide, ?_⟩
    repeat walk_at "z"
    obtain ⟨pr, hpr, p1, p2⟩ := pbl_one (t := (3 + q).toNat) (by omega)
    have e3 : pbl (3 + q).toNat (1 : Int).toNat = [pr] := hpr
    rw [e3]
    refine zo_ixL (z := .int pr) rfl ?_
    repeat walk_at "z"
    refine ⟨rfl, _, rfl, j, dx, b, jp, st, mo, n, _, pr, rfl, rfl, hb.2, p1, by omega, by unfold wdL; rw [List.length_map, List.length_range]; omega, hwl, fun c' hc => ?_⟩
    cases oneJ hc
    repeat walk_at "z"
    refine ⟨true, isA_int _, ?_⟩
    repeat walk_at "z"
    refine ⟨fun _ => ?_, fun h => (nomatch h)⟩
    repeat walk_at "z"
    refine ⟨false, isA_intb _, ?_⟩
    repeat walk_at "z"
    refine ⟨fun _ => ?_, fun h => (nomatch h)⟩
    repeat walk_at "z"
    rw [deq, Int.fmod_eq_emod_of_nonneg _ (Int.natCast_nonneg pr), decide_eq_true rfl]
    exact finM (k _ _)
end

/-! ## B21 -/
section
variable {w : World} {K : PySem.W.Frag} {mg : Str → Option Value} {base : Heap}
local macro_rules | `(tactic| walk_at "f") => `(tactic| (refine ⟨Nat.le_of_ble_eq_true rfl, ?_⟩; repeat walk_at "k"))
local macro_rules | `(tactic| walk_at "lim") => `(tactic| first | (simp; done) | (simp; omega) | (intro x hx; simp only [List.mem_cons, List.not_mem_nil, or_false] at hx; omega))
theorem goodB_mem : ∀ {l : List Int} {L x : Int}, x ∈ l → prB x.toNat = false → goodB L l = false
  | p :: l, L, x, h, hp => by
    show (decide (p < L) && (prB p.toNat && goodB p l)) = false
    rcases List.mem_cons.mp h with rfl | h
    · rw [hp, Bool.false_and, Bool.and_false]
    · rw [goodB_mem h hp, Bool.and_false, Bool.and_false]
theorem goodB_app : ∀ {l r : List Int} {L x y : Int}, goodB L (l ++ x :: y :: r) = true → y < x
  | [], r, L, x, y, h => by
    have h2 : (decide (x < L) && (prB x.toNat && (decide (y < x) && (prB y.toNat && goodB y r)))) = true := h
    simp only [Bool.and_eq_true, decide_eq_true_eq] at h2
    exact h2.2.2.1
  | p :: l, r, L, x, y, h => by
    have h2 : (decide (p < L) && (prB p.toNat && goodB p (l ++ x :: y :: r))) = true := h
    simp only [Bool.and_eq_true] at h2
    exact goodB_app h2.2.2
theorem goodB_no {l r : List Int} {L x y : Int} (h : ¬ y < x) : goodB L (l ++ x :: y :: r) = false := by
  cases e : goodB L (l ++ x :: y :: r) with
  | false => rfl
  | true => exact absurd (goodB_app e) h
theorem goodB_top {r : List Int} {L x : Int} (h : ¬ x < L) : goodB L (x :: r) = false := by
  show (decide (x < L) && _) = false
  rw [decide_eq_false h, Bool.false_and]
theorem pr_even {n : Nat} (h4 : 4 ≤ n) (h : n % 2 = 0) : prB n = false := prB_no fun q => q.2 2 (by decide) (by omega) h
theorem pr_odd {n : Nat} (h3 : 3 ≤ n) (h : Pr n) : n % 2 = 1 := by
  by_cases c : n % 2 = 0
  · by_cases h4 : 4 ≤ n
    · exact absurd c (h.2 2 (by decide) (by omega))
    · omega
  · omega
theorem pr_sq {n : Nat} (h : 2 ≤ n) : prB (n * n) = false := prB_no fun q => q.2 n h (Nat.le_refl _) (Nat.mul_mod_right n n)
/-- a prime just above each base -/
theorem above_ex {b : Nat} (hb : 8 ≤ b ∧ b ≤ 16) : ∃ q : Nat, 2 ^ b ≤ q ∧ q < 2 ^ b + 100 ∧ prB q = true := by
  have h : b = 8 ∨ b = 9 ∨ b = 10 ∨ b = 11 ∨ b = 12 ∨ b = 13 ∨ b = 14 ∨ b = 15 ∨ b = 16 := by omega
  rcases h with rfl | rfl | rfl | rfl | rfl | rfl | rfl | rfl | rfl
  · exact ⟨257, by decide, by decide, by decide +kernel⟩
  · exact ⟨521, by decide, by decide, by decide +kernel⟩
  · exact ⟨1031, by decide, by decide, by decide +kernel⟩
  · exact ⟨2053, by decide, by decide, by decide +kernel⟩
  · exact ⟨4099, by decide, by decide, by decide +kernel⟩
  · exact ⟨8209, by decide, by decide, by decide +kernel⟩
  · exact ⟨16411, by decide, by decide, by decide +kernel⟩
  · exact ⟨32771, by decide, by decide, by decide +kernel⟩
  · exact ⟨65537, by decide, by decide, by decide +kernel⟩
theorem cr_sortedRevK {X : Cx} {K : PySem.W.Frag} (h : X.K = K := by rfl) : CallRK X (.builtin "sorted") [Str.ofString "reverse"] (rSortedKw K true [.bl true]) := by
  subst h
  exact cr_sortedRev
theorem DzA.toInts {K : PySem.W.Frag} {H : Hp} {vs : List V} {ns : List Int} (h : DzA K H vs (ns.map Z.int)) : vs = ns.map V.int := h.ints
/-- sorted(xs, reverse=True), ints -/
theorem we_srtR {K : PySem.W.Frag} {r : RR} {o : OO} {P : Z → OO → Prop} {ta tk : TA} (h : WA K ta r o fun zs o1 => ∃ ns : List Int, zs = [.lst (ns.map Z.int)] ∧ WA K tk r o1 fun ks o2 => ks = [.bl true] ∧ ∀ ns' : List Int, ns'.Perm ns → P (.lst (ns'.map Z.int)) o2) : WE K (tCKw (rSortedKw K true [.bl true]) ta tk) r o P := fun _ _ σ Hb O H S Q q =>
  h _ _ σ Hb O H S _ fun vs zs o1 Hb1 O1 H1 e1 S1 d1 k1 => by
    obtain ⟨ns, rfl, k1⟩ := k1
    obtain ⟨v, rfl, dd⟩ := d1.one
    cases dd with
    | @lst a us _ ha da =>
      have eu := da.ints
      subst eu
      refine k1 _ _ σ Hb1 O1 H1 S1 _ fun ws ks o2 Hb2 O2 H2 e2 S2 d2 k2 => ?_
      obtain ⟨rfl, k3⟩ := k2
      obtain ⟨u, rfl, du⟩ := d2.one
      cases du
      refine ⟨a, ns, rfl, rfl, sq_of (S2.lay.bh _ _ (e2 _ _ ha)), fun ns' p hp _ hn => ?_⟩
      obtain ⟨e3, l3⟩ := S2.lay.new (u := .lst (ns'.map V.int)) hn
      exact q _ _ o2 _ O2 _ ((e1.trans e2).trans e3) (S2.grow e3 l3) (.lst upd_same (DzA.ofInts ns')) (k3 ns' hp)
theorem pbl_one2 {t : Nat} (h : 3 ≤ t) : ∃ q, pbl t 1 = [q] ∧ prB q = true ∧ q < t := by
  induction t with
  | zero => omega
  | succ t ih =>
    cases hp : prB t with
    | true => exact ⟨t, by rw [pbl_yes (by decide) hp, Nat.sub_self, pbl_zero], hp, Nat.lt_succ_self t⟩
    | false =>
      rw [pbl_no hp]
      have h3 : 3 ≤ t := by
        by_cases c : t = 2
        · subst c
          exact absurd hp (by decide)
        · omega
      obtain ⟨q, h1, h2, h3⟩ := ih h3
      exact ⟨q, h1, h2, by omega⟩
def tz_law_faulty : TZ := fun zs o R => ∃ (s : List Int) (p : Int) (b p0 p1 p2 p3 : Nat), zs = [.scr s, .int p, .lst [.int p0, .int p1, .int p2, .int p3], .int b] ∧ o = [] ∧ (8 ≤ b ∧ b ≤ 16) ∧ Desc (2 ^ b) [p0, p1, p2, p3] ∧
  ∀ l : List Int, goodB ((2 ^ b : Nat) : Int) l = false → (∀ x, x ∈ l → x < 2 ^ 60) → l.length ≤ 6 → R (.tup (l.map Z.int)) []
abbrev st_law_faulty : Stmt := top 437
abbrev N_law_faulty : List Str := ["script", "place", "row", "bits", "way", "pick", "k", "number", "above_v", "odd", "root"]
theorem sc_law_faulty : FnScope N_law_faulty ["script", "place", "row", "bits"] (defScope st_law_faulty) := ⟨rfl, rfl, rfl, by decide +kernel, rfl, by decide +kernel, by decide +kernel⟩
theorem c_law_faulty {JC : Addr} (T : Tx K mg) (J : TJ K mg JC) : Cal P0 w K mg base "_law_faulty" 3 ["script", "place", "row", "bits"] (tz_law_faulty) := by
  refine Cal.mk T.d__law_faulty sc_law_faulty (fun _ _ _ _ _ _ us hl => match us, hl with | [_, _, _, _], _ => rfl) fun f cdv A outer s H E hr => ?_
  have c_law_is_prime := @c_law_is_prime w K mg base JC T J
  have c_law_primes := @c_law_primes w K mg base JC T J
  have c_law_row := @c_law_row w K mg base JC T J
  refine ⟨_, (pss_cons (ps_asg (pe_callZ c_law_row (hr.mono (by decide)) (pa_cons (pv 0) (pa_cons (pv 1) (pa_cons pe_int (pa_cons (pe_op op_pow pe_int pe_int) pa_nil))))) (pg_lst rfl (pgs_cons (pg_name (i := 4) sc_law_faulty.nd rfl (Or.inl rfl)) (pgs_cons (pg_name (i := 5) sc_law_faulty.nd rfl (Or.inl rfl)) pgs_nil))))
    (pss_cons (ps_set (i := 6) sc_law_faulty.nd rfl (Or.inl rfl) (pe_op op_modN (pe_callTy call_int1 (by rfl) T.b_int (by decide +kernel) (pa_cons (pv 5) pa_nil)) pe_int))
    (pss_cons (ps_if (pt_cmpR op_eq (pe_op op_modN (pe_callTy call_int1 (by rfl) T.b_int (by decide +kernel) (pa_cons (pv 4) pa_nil)) pe_int) pe_int (nomark _)) (pss_one (ps_ret (pe_callTy (call_tupK (K := K)) (by rfl) T.b_tuple (by decide +kernel) (pa_cons (pe_op op_cat (pe_op op_cat (pe_slice (sl_listK (K := K)) (pv 2) po_none (po_some (pv 6))) (pe_lst (pa_cons (pe_ix (ix_listK (K := K)) (pv 2) (pe_op op_add (pv 6) pe_int) (fun _ _ => rfl)) (pa_cons (pe_ix (ix_listK (K := K)) (pv 2) (pv 6) (fun _ _ => rfl)) pa_nil)))) (pe_slice (sl_listK (K := K)) (pv 2) (po_some (pe_op op_add (pv 6) pe_int)) po_none)) pa_nil)))) pss_nil)
    (pss_cons (ps_if (pt_cmpR op_eq (pe_op op_modN (pe_callTy call_int1 (by rfl) T.b_int (by decide +kernel) (pa_cons (pv 4) pa_nil)) pe_int) pe_int (nomark _)) (pss_one (ps_ret (pe_callTy (call_tupK (K := K)) (by rfl) T.b_tuple (by decide +kernel) (pa_cons (pe_op op_cat (pe_slice (sl_listK (K := K)) (pv 2) po_none (po_some (pe_op op_add (pv 6) pe_int))) (pe_slice (sl_listK (K := K)) (pv 2) (po_some (pv 6)) po_none)) pa_nil)))) pss_nil)
    (pss_cons (ps_if (pt_cmpR op_eq (pe_op op_modN (pe_callTy call_int1 (by rfl) T.b_int (by decide +kernel) (pa_cons (pv 4) pa_nil)) pe_int) pe_int (nomark _)) (pss_one (ps_ret (pe_callTy (call_tupK (K := K)) (by rfl) T.b_tuple (by decide +kernel) (pa_cons (pe_op op_cat (pe_op op_cat (pe_slice (sl_listK (K := K)) (pv 2) po_none (po_some (pv 6))) (pe_lst (pa_cons (pe_op op_add (pe_ix (ix_listK (K := K)) (pv 2) (pv 6) (fun _ _ => rfl)) pe_int) pa_nil))) (pe_slice (sl_listK (K := K)) (pv 2) (po_some (pe_op op_add (pv 6) pe_int)) po_none)) pa_nil)))) pss_nil)
    (pss_cons (ps_if (pt_cmpR op_eq (pe_op op_modN (pe_callTy call_int1 (by rfl) T.b_int (by decide +kernel) (pa_cons (pv 4) pa_nil)) pe_int) pe_int (nomark _)) (pss_cons (ps_setLc (i := 8) (own := [("number", 7)]) (g := gName 7) rfl sc_law_faulty.nd rfl rfl (sw_true rfl rfl rfl (by decide +kernel)) (pi_range2 (by rfl) T.b_range (pa_cons (pe_op op_shl pe_int (pv 3)) (pa_cons (pe_op op_add (pe_op op_shl pe_int (pv 3)) pe_int) pa_nil))) (blkOk_by (N := N_law_faulty) (sc := defScope st_law_faulty) (by decide +kernel)) (fun _ _ _ _ _ => pg_name (i := 7) sc_law_faulty.nd rfl (Or.inl rfl)) (fun _ _ _ _ _ => (pts_one (pt_val (pe_callZ c_law_is_prime (hr.mono (by decide)) (pa_cons (pv 7) pa_nil))))) (fun _ _ _ _ _ => (pv 7)))
    (pss_one (ps_ret (pe_callTy (call_tupK (K := K)) (by rfl) T.b_tuple (by decide +kernel) (pa_cons (pe_op op_cat (pe_lst (pa_cons (pe_ix (ix_listK (K := K)) (pv 8) pe_int (fun _ _ => rfl)) pa_nil)) (pv 2)) pa_nil))))) pss_nil)
    (pss_cons (ps_if (pt_cmpR op_eq (pe_op op_modN (pe_callTy call_int1 (by rfl) T.b_int (by decide +kernel) (pa_cons (pv 4) pa_nil)) pe_int) pe_int (nomark _)) (pss_one (ps_ret (pe_callTy (call_tupK (K := K)) (by rfl) T.b_tuple (by decide +kernel) (pa_cons (pe_op op_cat (pv 2) (pe_slice (sl_listK (K := K)) (pe_lst (pa_cons pe_int (pa_cons pe_int (pa_cons (pe_un un_neg pe_int) pa_nil)))) (po_some (pv 6)) (po_some (pe_op op_add (pv 6) pe_int)))) pa_nil)))) pss_nil)
    (pss_cons (ps_set (i := 9) sc_law_faulty.nd rfl (Or.inl rfl) (pe_ix (ix_listK (K := K)) (pe_lst (pa_cons pe_int (pa_cons pe_int (pa_cons pe_int (pa_cons pe_int (pa_cons pe_int (pa_cons pe_int pa_nil))))))) (pe_op op_modN (pe_callTy call_int1 (by rfl) T.b_int (by decide +kernel) (pa_cons (pe_op op_fdivN (pv 5) pe_int) pa_nil)) pe_int) (fun _ _ => rfl)))
    (pss_cons (ps_if (pt_cmpR op_eq (pe_op op_modN (pe_callTy call_int1 (by rfl) T.b_int (by decide +kernel) (pa_cons (pv 4) pa_nil)) pe_int) pe_int (nomark _)) (pss_cons (ps_set (i := 10) sc_law_faulty.nd rfl (Or.inl rfl) (pe_ix (ix_listK (K := K)) (pe_callZ c_law_primes (hr.mono (by decide)) (pa_cons (pe_op op_shl pe_int (pe_op op_fdivN (pv 3) pe_int)) (pa_cons pe_int pa_nil))) pe_int (fun _ _ => rfl)))
    (pss_one (ps_set (i := 9) sc_law_faulty.nd rfl (Or.inl rfl) (pe_op op_mul (pv 10) (pv 10))))) pss_nil)
    (pss_one (ps_ret (pe_callTy (call_tupK (K := K)) (by rfl) T.b_tuple (by decide +kernel) (pa_cons (pe_callBK (cr_sortedRevK (K := K)) (by rfl) T.b_sorted (by decide +kernel) (pa_cons (pe_op op_cat (pv 2) (pe_lst (pa_cons (pv 9) pa_nil))) pa_nil) (pk_cons pe_bl pk_nil)) pa_nil))))))))))))), ?_⟩
  try dsimp only [cxK]
  rintro zs o R ⟨s, p, b, p0, p1, p2, p3, rfl, rfl, hb, hd, k⟩
  obtain ⟨d0, r0, d1, r1, d2, r2, d3, r3, _⟩ := hd
  have q3 := (prB_iff p3).mp r3
  have g3 := q3.1
  have hB : 2 ^ b ≤ 2 ^ 16 := Nat.pow_le_pow_right (by decide) hb.2
  have hB8 : 2 ^ 8 ≤ 2 ^ b := Nat.pow_le_pow_right (by decide) hb.1
  have hb2 : 2 ^ 4 ≤ 2 ^ (b / 2) := Nat.pow_le_pow_right (by decide) (by omega)
  have hb3 : 2 ^ (b / 2) ≤ 2 ^ 8 := Nat.pow_le_pow_right (by decide) (by omega)
  have e2 : (1 : Int) * 2 ^ (b : Int).toNat = ((2 ^ b : Nat) : Int) := by rw [Int.one_mul, Int.toNat_natCast]; norm_cast
  have fin : ∀ l : List Int, goodB ((2 ^ b : Nat) : Int) l = false → l.length ≤ 6 → (∀ x, x ∈ l → x < 70000) → FinZ R [] (.tup (l.map Z.int)) [] := fun l h1 h2 h3 => fin0 (k l h1 (fun x hx => Int.lt_trans (h3 x hx) (by decide)) h2)
  repeat walk_at "x"
  refine we_call ?_
  repeat walk_at "x"
  refine ⟨rfl, s, p, 2, 1000000, rfl, rfl, by decide, by decide, fun xs h1 h2 => ?_⟩
  obtain ⟨way, pick, rfl⟩ := row2 h1
  have hw := h2 way (by simp)
  have hpk := h2 pick (by simp)
  have f1 := Int.fmod_nonneg_of_pos pick (b := 3) (by decide)
  have f2 := Int.fmod_lt_of_pos pick (b := 3) (by decide)
  have f3 := Int.fmod_nonneg_of_pos (pick.fdiv 3) (b := 6) (by decide)
  have f4 := Int.fmod_lt_of_pos (pick.fdiv 3) (b := 6) (by decide)
  dsimp only [List.map]
  repeat walk_at "x"
  obtain ⟨K6, hK6⟩ : ∃ K6, K6 = (pick.fdiv 3).fmod 6 := ⟨_, rfl⟩
  rw [← hK6] at f3 f4
  generalize hK : pick.fmod 3 = K0 at *
  have hk3 : K0 = 0 ∨ K0 = 1 ∨ K0 = 2 := by omega
  clear hK
  refine ws_seq (ws_if ?_)
  repeat walk_at "x"
  refine ⟨fun h => ?_, fun h => ?_⟩
  · rcases hk3 with rfl | rfl | rfl
    · repeat walk_at "k"
      repeat walk_at "f"
      exact fin [p1, p0, p2, p3] (goodB_no (l := []) (by omega)) (by walk_at "lim") (by walk_at "lim")
    · repeat walk_at "k"
      repeat walk_at "f"
      exact fin [p0, p2, p1, p3] (goodB_no (l := [(p0 : Int)]) (by omega)) (by walk_at "lim") (by walk_at "lim")
    · repeat walk_at "k"
      repeat walk_at "f"
      exact fin [p0, p1, p3, p2] (goodB_no (l := [(p0 : Int), p1]) (by omega)) (by walk_at "lim") (by walk_at "lim")
  repeat walk_at "x"
  refine ws_seq (ws_if ?_)
  repeat walk_at "x"
  refine ⟨fun h => ?_, fun h => ?_⟩
  · rcases hk3 with rfl | rfl | rfl
    · repeat walk_at "k"
      repeat walk_at "f"
      exact fin [p0, p0, p1, p2, p3] (goodB_no (l := []) (by omega)) (by walk_at "lim") (by walk_at "lim")
    · repeat walk_at "k"
      repeat walk_at "f"
      exact fin [p0, p1, p1, p2, p3] (goodB_no (l := [(p0 : Int)]) (by omega)) (by walk_at "lim") (by walk_at "lim")
    · repeat walk_at "k"
      repeat walk_at "f"
      exact fin [p0, p1, p2, p2, p3] (goodB_no (l := [(p0 : Int), p1]) (by omega)) (by walk_at "lim") (by walk_at "lim")
  repeat walk_at "x"
  refine ws_seq (ws_if ?_)
  repeat walk_at "x"
  have ev : ∀ q : Nat, 3 ≤ q → prB q = true → prB ((q : Int) + 1).toNat = false := fun q h3 hq => by
    have h4 := pr_odd h3 ((prB_iff q).mp hq)
    have e : ((q : Int) + 1).toNat = q + 1 := by omega
    rw [e]
    exact pr_even (by omega) (by omega)
  refine ⟨fun h => ?_, fun h => ?_⟩
  · rcases hk3 with rfl | rfl | rfl
    · repeat walk_at "k"
      repeat walk_at "f"
      exact fin [(p0 : Int) + 1, p1, p2, p3] (goodB_mem (x := (p0 : Int) + 1) (by simp) (ev p0 (by omega) r0)) (by walk_at "lim") (by walk_at "lim")
    · repeat walk_at "k"
      repeat walk_at "f"
      exact fin [p0, (p1 : Int) + 1, p2, p3] (goodB_mem (x := (p1 : Int) + 1) (by simp) (ev p1 (by omega) r1)) (by walk_at "lim") (by walk_at "lim")
    · repeat walk_at "k"
      repeat walk_at "f"
      exact fin [p0, p1, (p2 : Int) + 1, p3] (goodB_mem (x := (p2 : Int) + 1) (by simp) (ev p2 (by omega) r2)) (by walk_at "lim") (by walk_at "lim")
  repeat walk_at "x"
  refine ws_seq (ws_if ?_)
  repeat walk_at "x"
  refine ⟨fun h => ?_, fun h => ?_⟩
  · obtain ⟨pa, ha1, ha2, ha3⟩ := above_ex hb
    repeat walk_at "x"
    refine we_lc (j := 7) ?_
    repeat walk_at "z"
    rw [e2]
    repeat walk_at "z"
    have e5 : (((2 ^ b : Nat) : Int) + 100 - ((2 ^ b : Nat) : Int)).toNat = 100 := by omega
    refine ⟨((2 ^ b : Nat) : Int), ((2 ^ b : Nat) : Int) + 100, rfl, by omega, by rw [upFrom_len]; omega, fun i acc o => o = [] ∧ ∃ l : List Nat, acc = nz l ∧ (∀ x, x ∈ l → 2 ^ b ≤ x ∧ x < 2 ^ b + 100) ∧ (pa < 2 ^ b + i → l ≠ []), ⟨rfl, [], rfl, fun x hx => (nomatch hx), fun h => absurd h (by omega)⟩, ?_, ?_⟩
    · rintro i z acc o hz ⟨rfl, l, rfl, hl1, hl2⟩
      obtain ⟨hi, rfl⟩ := upFrom_of hz
      rw [e5] at hi
      have e0 : ((2 ^ b : Nat) : Int) + (i : Int) * 1 = ((2 ^ b + i : Nat) : Int) := by omega
      rw [e0]
      repeat walk_at "z"
      refine ⟨rfl, _, rfl, rfl, by omega, ?_⟩
      rw [Int.toNat_natCast]
      repeat walk_at "z"
      refine ⟨fun h => ?_, fun h => ?_⟩
      · repeat walk_at "z"
        refine ⟨rfl, l ++ [2 ^ b + i], nz_app _ _, fun x hx => ?_, fun _ z => by simp at z⟩
        rcases List.mem_append.mp hx with hx | hx
        · exact hl1 x hx
        · rw [List.mem_singleton.mp hx]
          omega
      · refine ⟨rfl, l, rfl, hl1, fun hlt => hl2 ?_⟩
        by_cases c : pa = 2 ^ b + i
        · rw [← c, ha3] at h
          cases h
        · omega
    · rintro acc o ⟨rfl, l, rfl, hl1, hl2⟩
      rw [upFrom_len, e5] at hl2
      have hne := hl2 ha2
      obtain ⟨q, l', rfl⟩ : ∃ q l', l = q :: l' := by
        cases l with
        | nil => exact absurd rfl hne
        | cons q l' => exact ⟨q, l', rfl⟩
      obtain ⟨g1, g2⟩ := hl1 q List.mem_cons_self
      repeat walk_at "k"
      refine zo_ixL (z := .int q) (atI_nzK (i := 0) rfl rfl) ?_
      repeat walk_at "k"
      repeat walk_at "f"
      exact fin [q, p0, p1, p2, p3] (goodB_top (by omega)) (by walk_at "lim") (by walk_at "lim")
  repeat walk_at "x"
  refine ws_seq (ws_if ?_)
  repeat walk_at "x"
  refine ⟨fun h => ?_, fun h => ?_⟩
  · rcases hk3 with rfl | rfl | rfl
    · repeat walk_at "k"
      repeat walk_at "f"
      exact fin [p0, p1, p2, p3, 1] (goodB_mem (x := 1) (by simp) (by decide)) (by walk_at "lim") (by walk_at "lim")
    · repeat walk_at "k"
      repeat walk_at "f"
      exact fin [p0, p1, p2, p3, 0] (goodB_mem (x := 0) (by simp) (by decide)) (by walk_at "lim") (by walk_at "lim")
    · repeat walk_at "k"
      repeat walk_at "f"
      exact fin [p0, p1, p2, p3, -3] (goodB_mem (x := -3) (by simp) (by decide)) (by walk_at "lim") (by walk_at "lim")
  repeat walk_at "x"
  obtain ⟨od, hod, ho1, ho2⟩ : ∃ od : Nat, atI [Z.int 9, Z.int 15, Z.int 25, Z.int 49, Z.int 121, Z.int 169] K6 = some (.int od) ∧ prB od = false ∧ od < 70000 := by
    have : K6 = 0 ∨ K6 = 1 ∨ K6 = 2 ∨ K6 = 3 ∨ K6 = 4 ∨ K6 = 5 := by omega
    rcases this with rfl | rfl | rfl | rfl | rfl | rfl
    · exact ⟨9, rfl, by decide, by decide⟩
    · exact ⟨15, rfl, by decide, by decide⟩
    · exact ⟨25, rfl, by decide, by decide⟩
    · exact ⟨49, rfl, by decide, by decide⟩
    · exact ⟨121, rfl, by decide +kernel, by decide⟩
    · exact ⟨169, rfl, by decide +kernel, by decide⟩
  rw [← hK6]
  refine zo_ixL hod ?_
  repeat walk_at "x"
  refine ws_mid (fun r o => ∃ (od : Nat) (x10 : Option Z), r = [some (.scr s), some (.int p), some (.lst [.int p0, .int p1, .int p2, .int p3]), some (.int b), some (.int way), some (.int pick), some (.int K0), none, none, some (.int (od : Nat)), x10] ∧ o = [] ∧ prB od = false ∧ od < 70000) ?_ ?_
  · refine ws_if ?_
    repeat walk_at "z"
    refine ⟨fun h => ?_, fun h => ?_⟩
    · repeat walk_at "z"
      have e6 : (b : Int).fdiv 2 = ((b / 2 : Nat) : Int) := fdiv_nat b 2
      have e7 : (1 : Int) * 2 ^ ((b : Int).fdiv 2).toNat = ((2 ^ (b / 2) : Nat) : Int) := by rw [e6, Int.one_mul, Int.toNat_natCast]; norm_cast
      refine zo_i (show CPow 1 ((b : Int).fdiv 2) from ⟨by omega, by omega, by decide⟩) ?_
      rw [e7]
      repeat walk_at "z"
      refine ⟨rfl, _, 1, rfl, rfl, by omega, by decide, ?_⟩
      rw [Int.toNat_natCast]
      obtain ⟨q, hq, hq1, hq2⟩ := pbl_one2 (t := 2 ^ (b / 2)) (by omega)
      rw [show pbl (2 ^ (b / 2)) (1 : Int).toNat = [q] from hq]
      repeat walk_at "z"
      refine zo_ixL (xs := nz [q]) (i := 0) (z := .int q) rfl ?_
      repeat walk_at "z"
      have hq3 := ((prB_iff q).mp hq1).1
      have e8 : (q : Int) * (q : Int) = ((q * q : Nat) : Int) := by norm_cast
      have hqq : q * q < 256 * 256 := Nat.mul_lt_mul'' (by omega) (by omega)
      rw [e8]
      exact ⟨q * q, _, rfl, rfl, pr_sq hq3, by omega⟩
    · repeat walk_at "z"
      exact ⟨od, _, rfl, rfl, ho1, ho2⟩
  rintro r o ⟨od, x10, rfl, rfl, ho1, ho2⟩
  refine ws_ret (we_cb (wa_cons (we_srtR ?_)))
  repeat walk_at "k"
  repeat walk_at "f"
  refine ⟨[p0, p1, p2, p3, od], rfl, ?_⟩
  repeat walk_at "k"
  refine ⟨rfl, fun ns' hp => ?_⟩
  repeat walk_at "k"
  refine fin ns' (goodB_mem (x := (od : Int)) (hp.mem_iff.mpr (by simp)) (by rw [Int.toNat_natCast]; exact ho1)) (by rw [hp.length_eq]; simp) fun x hx => ?_
  have := hp.mem_iff.mp hx
  simp only [List.mem_cons, List.not_mem_nil, or_false] at this
  omega
end

/-! ## ZY -/
section
variable {w : World} {K : PySem.W.Frag} {mg : Str → Option Value} {base : Heap}
/-- the class NotSo -/
structure TN (K : PySem.W.Frag) (mg : Str → Option Value) (NC : Addr) : Prop where
  g : mg "NotSo" = some (.ref NC)
  ns : ∃ f c cc, K76X.NsF K mg NC f c cc
  xf : XfC K NC
  exm : PySem.W.exmOne K (.ref NC) (.ref NC) = some true
/-- the paper that a claim which is so has -/
def PapOk (op : Str) (x y : Int) : Option Z → List Int → Prop
  | none, l => (op = "quotient" ∨ op = "rest") ∧ l = []
  | some vz, l => (∃ v, vz = .int v ∧ l = papL op x y v ∧ (op = "quotient" ∨ op = "rest") ∧ x.natAbs < 2 ^ 2000 ∧ y.natAbs < 2 ^ 2000 ∧ v.natAbs < 2 ^ 2000 ∧ 0 < y) ∨ (l = [] ∧ (op = "add" ∨ op = "sub" ∨ op = "mul" ∨ op = "less" ∨ op = "same"))
structure ClOk (op : Str) (x y : Int) (v : Z) (c : Option Z) : Prop where
  hx : x.natAbs < 2 ^ 2000
  hy : y.natAbs < 2 ^ 2000
  hv : wholeV op x y = some v
  hc : ∀ z, c = some z → z.sc = true ∧ (∀ s, z ≠ .str s) ∧ z ≠ .non
def spPo (K : PySem.W.Frag) (NC : Addr) : Sp := fun vs H Q E => ∃ (Hb O : Hp) (op : Str) (x y : Int) (v : Z) (c : Option Z), vs.length = 1 ∧ Lay Hb O H ∧ DzA K Hb vs [clZ op x y c] ∧ ClOk op x y v c ∧
  (soB v c = true → ∃ l, PapOk op x y c l ∧ ∀ v' Hb' O' H', Ex Hb Hb' → Ex O O' → Lay Hb' O' H' → Dz K Hb' v' (.tup (l.map Z.int)) → Q v' H') ∧
  (soB v c = false → ∀ d Hb' O' H', Ex Hb Hb' → Ex O O' → Lay Hb' O' H' → H' d = some (.xd [("rule", .str op)]) → E (.ref NC) (some d) H')
abbrev st_paper_of : Stmt := top 414
abbrev N_paper_of : List Str := ["claim"]
theorem sc_paper_of : FnScope N_paper_of ["claim"] (defScope st_paper_of) := ⟨rfl, rfl, rfl, by decide +kernel, rfl, by decide +kernel, by decide +kernel⟩
theorem if_first {c : TT} {t u w : TS} {D : Ends} {σ : L2.St} {H : Hp} (h : c σ H fun b H1 => if b = true then t { D with nx := w D } σ H1 else u { D with nx := w D } σ H1) : tSeq (tIfS c t u) w D σ H := h
theorem ok_paper_of {NC JC : Addr} (T : Tx K mg) (J : TJ K mg JC) (N : TN K mg NC) : ∃ f fd, mg "paper_of" = some (.ref f) ∧ PySem.W.keepIn K (.ref f) = true ∧ Binds K fd ["claim"] [] ∧ FnOk P0 w K mg base (L2.CX P0 w) 4 f fd ["claim"] (spPo K NC) := by
  obtain ⟨f, fd, h1, F⟩ := T.d_paper_of
  obtain ⟨fI, c0, cc0, NS⟩ := N.ns
  obtain ⟨fdI, FI, BI⟩ := K76X.notso_init (w := w) (base := base) (k := 0) NS
  have c_is_so := @c_is_so w K mg base JC T J
  have c_bar_paper := @c_bar_paper w K mg base JC T J
  have c_value_paper := @c_value_paper w K mg base JC T J
  refine ⟨f, fd, h1, F.kp, F.binds (fun _ _ _ _ _ _ us hl => match us, hl with | [_], _ => rfl), F.okX sc_paper_of (fun vs H Q E h => ?_) (fun cdv A outer s H vs Q E hr h => ?_)⟩
  · obtain ⟨_, _, _, _, _, _, _, h, _⟩ := h
    exact h
  · refine ⟨_, (pss_cons (ps_if (pt_not (pt_val (pe_callZ c_is_so (hr.mono (by decide)) (pa_cons (pv 0) pa_nil)))) (pss_one (ps_raise (W := fun cls d _ H => E cls d H) rfl (takes_of rfl rfl rfl rfl) (pmk_oex (k := 1) (X := cxOf (L2.CX P0 w) P0 w K mg base N_paper_of "paper_of" (defScope st_paper_of) f cdv A outer s H E) NS.oex NS.ini NS.ty FI (hr.mono (by decide)) BI .nil (fun _ _ _ _ _ _ _ h => h.elim) (by rfl) N.g (pa_cons (pe_ix (ix_tupK (K := K)) (pv 0) pe_int (fun _ _ => rfl)) pa_nil)))) pss_nil)
      (pss_cons (ps_if (pt_cmpR op_eq (pe_ix (ix_tupK (K := K)) (pv 0) pe_int (fun _ _ => rfl)) pe_str (nomark _)) (pss_one (ps_ret (pe_callZ c_bar_paper (hr.mono (by decide)) (pa_cons (pe_ix (ix_tupK (K := K)) (pv 0) pe_int (fun _ _ => rfl)) (pa_cons (pe_ix (ix_tupK (K := K)) (pv 0) pe_int (fun _ _ => rfl)) pa_nil))))) pss_nil)
      (pss_one (ps_ret (pe_callZ c_value_paper (hr.mono (by decide)) (pa_cons (pe_ix (ix_tupK (K := K)) (pv 0) pe_int (fun _ _ => rfl)) (pa_cons (pe_ix (ix_tupK (K := K)) (pv 0) pe_int (fun _ _ => rfl)) (pa_cons (pe_ix (ix_tupK (K := K)) (pv 0) pe_int (fun _ _ => rfl)) (pa_cons (pe_ix (ix_tupK (K := K)) (pv 0) pe_int (fun _ _ => rfl)) pa_nil))))))))), ?_⟩
    obtain ⟨Hb, O, op, x, y, v, c, hl, lay, da, ok, kT, kF⟩ := h
    obtain ⟨v0, rfl, d0⟩ := da.one
    have S : SR K Hb O [some (clZ op x y c)] [] (L2.start N_paper_of [v0]) Hb O H := ⟨lay, Ex.refl _, Ex.refl _, rfl, fun i z e => match i, e with
      | 0, e => ⟨v0, rfl, by cases e; exact d0⟩, fun i a c e => (by cases e), List.nodup_nil⟩
    have wt : WT K (tNot (tB (tCall (spZ K 1 tz_is_so) [] E0 (tCons (tVar 0) tNil)))) [some (clZ op x y c)] [] fun b o1 => b = !soB v c ∧ o1 = [] := by
      refine wt_not (wt_B (we_call ?_))
      repeat walk_at "q"
      exact ⟨rfl, op, x, y, v, c, rfl, rfl, ok.hx, ok.hy, ok.hv, ok.hc, soB v c, rfl, rfl, rfl⟩
    refine if_first (wt Hb O _ Hb O H S _ fun b o1 Hb1 O1 H1 e1 S1 hb => ?_)
    obtain ⟨rfl, rfl⟩ := hb
    cases hs : soB v c with
    | false =>
      have we : WE K (tOp (rIxT K) (tVar 0) (tC (.int 1))) [some (clZ op x y c)] [] fun z o1 => z = .str op ∧ o1 = [] := by
        cases c with
        | none =>
          dsimp only [clZ]
          repeat walk_at "q"
          exact ⟨rfl, rfl⟩
        | some vz =>
          dsimp only [clZ]
          repeat walk_at "q"
          exact ⟨rfl, rfl⟩
      refine we Hb O _ Hb1 O1 H1 S1 _ fun u z o2 Hb2 O2 H2 e2 S2 d2 hz => ?_
      obtain ⟨rfl, rfl⟩ := hz
      cases d2
      refine ⟨by show (1 : Nat) ≤ 1000; decide, fun a ha => ⟨a, .str op, rfl, upd_same, fun dx hdx hne => ⟨rfl, dx, [("rule", .str op)], upd_same, ?_, ?_, ?_⟩⟩⟩
      · rw [upd_ne hne]
        exact upd_same
      · rw [upd_ne hne] at hdx
        exact hdx
      · have hd2 : H2 dx = none := by
          rw [upd_ne hne] at hdx
          exact hdx
        have eH : upd (del (upd (upd (upd H2 a (exo a NC none)) dx (exd dx [("rule", .str op)])) a (exo a NC (some dx))) a) dx (.xd [("rule", .str op)]) = upd H2 dx (.xd [("rule", .str op)]) := by
          funext b
          by_cases h : b = dx
          · rw [h, upd_same, upd_same]
          · rw [upd_ne h, upd_ne h]
            by_cases g : b = a
            · rw [g, del_same, ha]
            · rw [del_ne g, upd_ne g, upd_ne h, upd_ne g]
        rw [eH]
        obtain ⟨e3, l3⟩ := S2.lay.new (u := .xd [("rule", .str op)]) hd2
        exact kF hs dx _ O2 _ (S2.b0.trans e3) S2.o0 l3 upd_same
    | true =>
      obtain ⟨l, hp, k⟩ := kT hs
      have ws : WS K (tSeq (tIfS (tTest (tOp rEq (tOp (rIxT K) (tVar 0) (tC (.int 0))) (tC (.str "undefined")))) (tRet (tCall (spZ K 2 tz_bar_paper) [] E0 (tCons (tOp (rIxT K) (tVar 0) (tC (.int 1))) (tCons (tOp (rIxT K) (tVar 0) (tC (.int 3))) tNil)))) tNext)
          (tRet (tCall (spZ K 4 tz_value_paper) [] E0 (tCons (tOp (rIxT K) (tVar 0) (tC (.int 1))) (tCons (tOp (rIxT K) (tVar 0) (tC (.int 2))) (tCons (tOp (rIxT K) (tVar 0) (tC (.int 3))) (tCons (tOp (rIxT K) (tVar 0) (tC (.int 4))) tNil))))))) nN (fun z o1 => z = .tup (l.map Z.int)) nN nN [some (clZ op x y c)] [] := by
        cases c with
        | none =>
          obtain ⟨h1, rfl⟩ := hp
          dsimp only [clZ]
          repeat walk_at "q"
          refine we_call ?_
          repeat walk_at "q"
          exact ⟨rfl, op, x, y, rfl, rfl, h1, rfl⟩
        | some vz =>
          dsimp only [clZ]
          repeat walk_at "q"
          refine we_call ?_
          repeat walk_at "q"
          exact ⟨rfl, op, x, y, vz, l, rfl, rfl, hp, rfl⟩
      exact ws Hb O _ Hb1 O1 H1 _ ⟨fun _ _ _ _ _ _ _ h => h.elim, fun v' z r' o' σ' Hb' O' H' S' d' e => k v' Hb' O' H' S'.b0 S'.o0 S'.lay (e ▸ d'), fun _ _ _ _ _ _ _ h => h.elim, fun _ _ _ _ _ _ _ h => h.elim⟩ S1
/-- what _law_paper tells of a claim -/
def tz__law_paper : TZ := fun zs o R => ∃ (op : Str) (x y : Int) (v : Z) (c : Option Z), zs = [clZ op x y c] ∧ o = [] ∧ ClOk op x y v c ∧
  (soB v c = true → ∃ l, PapOk op x y c l ∧ R (.tup [.str "paper", .tup (l.map Z.int)]) []) ∧ (soB v c = false → R (.tup [.str "not so", .str op]) [])
abbrev st_law_paper : Stmt := top 439
abbrev N_law_paper : List Str := ["claim", "e"]
theorem sc_law_paper : FnScope N_law_paper ["claim"] (defScope st_law_paper) := ⟨rfl, rfl, rfl, by decide +kernel, rfl, by decide +kernel, by decide +kernel⟩
theorem c_law_paper {NC JC : Addr} (T : Tx K mg) (J : TJ K mg JC) (N : TN K mg NC) : Cal P0 w K mg base "_law_paper" 5 ["claim"] tz__law_paper := by
  refine Cal.mk T.d__law_paper sc_law_paper (fun _ _ _ _ _ _ us hl => match us, hl with | [_], _ => rfl) fun f cdv A outer s H E hr => ?_
  obtain ⟨fP, fdP, g1, g2, g3, FP⟩ := @ok_paper_of w K mg base NC JC T J N
  obtain ⟨fI, c0, cc0, NS⟩ := N.ns
  refine ⟨_, pss_one (ps_try_as (i := 1) (c := .ref NC) (tb := fun W => tRet (tTup (tCons (tC (.str "paper")) (tCons (tCallS (spPo K NC) (L2.WE W) (tCons (tVar 0) tNil)) tNil)))) (ts := fun a cls d => tRet (tTup (tCons (tC (.str "not so")) (tCons (tXf a cls d NC "rule" (tVar 1)) tNil)))) (Wout := fun _ _ _ _ => False) rfl rfl sc_law_paper.nd rfl rfl ⟨rfl, by decide, Or.inl N.g⟩ takes0
    (fun W pn xe tk _ => pss_one (ps_ret (pe_tup (pa_cons pe_str (pa_cons (pe_callS FP (hr.mono (by decide)) rfl g1 g2 g3 (fun σ => passAt tk σ) (by exact (pa_cons (pv 0) pa_nil))) pa_nil)))))
    (fun a oe cls d pn hz hf => pss_one (ps_ret (pe_tup (pa_cons pe_str (pa_cons (pe_xf N.xf NS.rule hz hf (pv 1)) pa_nil)))))), ?_⟩
  rintro zs o R ⟨op, x, y, v, c, rfl, rfl, ok, kT, kF⟩ Hb0 O0 σ Hb O H1 D C S
  obtain ⟨v0, hv0, d0⟩ := S.sl 0 _ rfl
  refine ⟨v0, hv0, Hb, O, op, x, y, v, c, rfl, S.lay, .cons d0 .nil, ok, fun hs => ?_, fun hs d Hb' O' H' e1 e2 l1 hd => ⟨true, N.exm, fun _ a ha => ?_, fun q => nomatch q⟩⟩
  · obtain ⟨l, hp, k⟩ := kT hs
    refine ⟨l, hp, fun v' Hb' O' H' e1 e2 l1 dd => ⟨by show (2 : Nat) ≤ sizeLine; decide, fun p hp => ?_⟩⟩
    obtain ⟨e3, l3⟩ := l1.new (u := .tup [.str "paper", v']) hp
    have S2 : SR K Hb0 O0 (startZ 2 [clZ op x y c]) [] σ (upd Hb' p (.tup [.str "paper", v'])) O' (upd H' p (.tup [.str "paper", v'])) :=
      ⟨l3, (S.b0.trans e1).trans e3, S.o0.trans e2, S.len, fun i z h => let ⟨u, q1, q2⟩ := S.sl i z h; ⟨u, q1, q2.mono (e1.trans e3)⟩, fun i a c h => (by cases h), List.nodup_nil⟩
    exact C.cr (.ref p) (.tup [.str "paper", .tup (l.map Z.int)]) _ _ _ _ _ _ S2 (.tup (st_of upd_same) (.cons (.str _) (.cons (dd.mono e3) .nil))) (fin0 k)
  · have hlen : 1 < σ.length := by rw [S.len]; show (1 : Nat) < 2; decide
    refine ⟨.ref a, List.getElem?_set_self hlen, rfl, rfl, d, [("rule", .str op)], .str op, rfl, hd, by rfl, ⟨by show (2 : Nat) ≤ sizeLine; decide, fun p hp => ?_⟩⟩
    obtain ⟨e3, l3⟩ := l1.new (u := .tup [.str "not so", .str op]) hp
    have S2 : SR K Hb0 O0 (startZ 2 [clZ op x y c]) [] σ (upd Hb' p (.tup [.str "not so", .str op])) O' (upd H' p (.tup [.str "not so", .str op])) :=
      ⟨l3, (S.b0.trans e1).trans e3, S.o0.trans e2, S.len, fun i z h => let ⟨u, q1, q2⟩ := S.sl i z h; ⟨u, q1, q2.mono (e1.trans e3)⟩, fun i a c h => (by cases h), List.nodup_nil⟩
    exact C.cr (.ref p) (.tup [.str "not so", .str op]) _ _ _ _ _ _ S2 (.tup (st_of upd_same) (.cons (.str _) (.cons (.str _) .nil))) (fin0 (kF hs))
end

/-! ## ZN -/
section
variable {w : World} {K : PySem.W.Frag} {mg : Str → Option Value} {base : Heap}
theorem usedN_lack {need : Int} : ∀ {l : List Nat} {w : Int} {u : Nat}, (∀ p, p ∈ l → 1 ≤ p) → usedN need l w u = none → w + (wN l : Nat) < need
  | [], w, u, _, h => by
    unfold usedN at h
    split at h
    · cases h
    · show w + ((0 : Nat) : Int) < need
      omega
  | p :: l, w, u, hp, h => by
    unfold usedN at h
    split at h
    · cases h
    · have ih := usedN_lack (fun q hq => hp q (List.mem_cons_of_mem _ hq)) h
      have hb := bits_nat (hp p List.mem_cons_self)
      have hb' : bitsI (p : Int) = ((p.log2 + 1 : Nat) : Int) := by
        show ((bN (p : Int) : Nat) : Int) = _
        rw [hb]
      rw [hb'] at ih
      show w + ((p.log2 + wN l : Nat) : Int) < need
      omega
theorem bits_le {n : Int} {k : Nat} (h : n.natAbs < 2 ^ k) : bitsI n ≤ k := by
  show ((bN n : Nat) : Int) ≤ k
  have e : bN n = bN (n.natAbs : Int) := by
    unfold bN Builtin.Int.intBits
    by_cases h : n = 0
    · subst h; rfl
    · rw [if_neg (by simpa using h), if_neg (by simpa using h)]
      rfl
  rw [e]
  by_cases c : n.natAbs = 0
  · rw [c]
    show ((0 : Nat) : Int) ≤ k
    omega
  · rw [bits_nat (by omega)]
    have := (Nat.log2_lt c).mpr h
    omega
theorem grI_le {c : Int} : ∀ {ts : List (List Int)} {g : Int}, g ≤ c → (∀ t, t ∈ ts → tbits t ≤ c) → grI g ts ≤ c
  | [], _, h, _ => h
  | t :: ts, g, h, ht => by
    show grI (if tbits t > g then tbits t else g) ts ≤ c
    refine grI_le ?_ fun u hu => ht u (List.mem_cons_of_mem _ hu)
    split
    · exact ht t List.mem_cons_self
    · exact h
/-- the law's thirty points -/
abbrev L30 : List Nat := pbl 4096 30
theorem w30 : 310 ≤ wN L30 := by decide +kernel
theorem zv {ts : List (List Int)} (hl : ts.length ≤ 7) (h : ∀ t, t ∈ ts → tbits t ≤ 290) : zeroV (.good L30) ts = decide (totI ts = 0) := by
  have hn : needI ts ≤ 293 := by
    unfold needI
    have h1 := grI_le (c := 290) (g := 0) (by decide) h
    have h2 := bits_le (n := (ts.length : Int)) (k := 3) (by omega)
    omega
  unfold zeroV
  dsimp only
  cases hu : usedI L30 (needI ts) with
  | some u => rfl
  | none =>
    have h1 := usedN_lack (fun p hp => by have := ((pbl_desc 4096 30).pr hp).2.1; omega) hu
    have h2 := w30
    omega
theorem pw (k : Nat) (h : k ≤ 185) {n : Int} (hn : n.natAbs < 2 ^ k) : Sm n := Nat.lt_of_lt_of_le hn (Nat.pow_le_pow_right (by decide) (by omega))
theorem b91 {n : Int} (h : n.natAbs ≤ 2 ^ 90) : bitsI n ≤ 92 := bits_le (k := 92) (by
  have e1 : 2 ^ 90 = 1237940039285380274899124224 := by decide
  have e2 : 2 ^ 92 = 4951760157141521099596496896 := by decide
  omega)
theorem bm1 : bitsI (-1) = 1 := by decide
theorem tb1 (a : Int) : tbits [a] = bitsI a := by show bitsI a + 0 = _; omega
theorem tb2 (a b : Int) : tbits [a, b] = bitsI a + bitsI b := by show bitsI a + (bitsI b + 0) = _; omega
theorem zAdd {x y v : Int} (hx : bitsI x ≤ 100) (hy : bitsI y ≤ 100) (hv : bitsI v ≤ 190) : zeroV (.good L30) (diffT [[x], [y]] [[v]]) = decide (x + y = v) := by
  have e : diffT [[x], [y]] [[v]] = [[x], [y], [-1, v]] := rfl
  rw [e, zv (Nat.le_of_ble_eq_true rfl) (fun t ht => by
    simp only [List.mem_cons, List.not_mem_nil, or_false] at ht
    rcases ht with rfl | rfl | rfl
    · rw [tb1]; omega
    · rw [tb1]; omega
    · rw [tb2, bm1]; omega)]
  refine dec_iff ?_
  have e2 : totI [[x], [y], [-1, v]] = 0 + 1 * x + 1 * y + 1 * -1 * v := rfl
  rw [e2]
  omega
theorem zSub {x y v : Int} (hx : bitsI x ≤ 100) (hy : bitsI y ≤ 100) (hv : bitsI v ≤ 190) : zeroV (.good L30) [[x], [-1, y], [-1, v]] = decide (x - y = v) := by
  rw [zv (Nat.le_of_ble_eq_true rfl) (fun t ht => by
    simp only [List.mem_cons, List.not_mem_nil, or_false] at ht
    rcases ht with rfl | rfl | rfl
    · rw [tb1]; omega
    · rw [tb2, bm1]; omega
    · rw [tb2, bm1]; omega)]
  refine dec_iff ?_
  have e2 : totI [[x], [-1, y], [-1, v]] = 0 + 1 * x + 1 * -1 * y + 1 * -1 * v := rfl
  rw [e2]
  omega
theorem zMul {x y v : Int} (hx : bitsI x ≤ 100) (hy : bitsI y ≤ 100) (hv : bitsI v ≤ 190) : zeroV (.good L30) (diffT [[x, y]] [[v]]) = decide (x * y = v) := by
  have e : diffT [[x, y]] [[v]] = [[x, y], [-1, v]] := rfl
  rw [e, zv (Nat.le_of_ble_eq_true rfl) (fun t ht => by
    simp only [List.mem_cons, List.not_mem_nil, or_false] at ht
    rcases ht with rfl | rfl
    · rw [tb2]; omega
    · rw [tb2, bm1]; omega)]
  refine dec_iff ?_
  have e2 : totI [[x, y], [-1, v]] = 0 + 1 * x * y + 1 * -1 * v := rfl
  rw [e2, Int.one_mul]
  omega
theorem zDiv {q y r x : Int} (hq : bitsI q ≤ 100) (hy : bitsI y ≤ 100) (hr : bitsI r ≤ 190) (hx : bitsI x ≤ 100) : zeroV (.good L30) (diffT [[q, y], [r]] [[x]]) = decide (q * y + r = x) := by
  have e : diffT [[q, y], [r]] [[x]] = [[q, y], [r], [-1, x]] := rfl
  rw [e, zv (Nat.le_of_ble_eq_true rfl) (fun t ht => by
    simp only [List.mem_cons, List.not_mem_nil, or_false] at ht
    rcases ht with rfl | rfl | rfl
    · rw [tb2]; omega
    · rw [tb1]; omega
    · rw [tb2, bm1]; omega)]
  refine dec_iff ?_
  have e2 : totI [[q, y], [r], [-1, x]] = 0 + 1 * q * y + 1 * r + 1 * -1 * x := rfl
  rw [e2, Int.one_mul q]
  omega
theorem eqvI (a b : Int) : PyData.eqv (Z.int a).d (Z.int b).d = decide (a = b) := by
  have e : PyData.eqv (Z.int a).d (Z.int b).d = (a == b) := by simp [Z.d, PyData.eqv]
  rw [e]
  by_cases h : a = b
  · rw [decide_eq_true h, h, beq_self_eq_true]
  · rw [decide_eq_false h]
    exact beq_false_of_ne h
theorem eqvB (a b : Bool) : PyData.eqv (Z.bl a).d (Z.bl b).d = decide (a = b) := by cases a <;> cases b <;> rfl
theorem tk_cast {jp : JP} {l : List Int} {c : Z} {r r' : Bool} (h : TkV jp l c r) (e : r = r') : TkV jp l c r' := e ▸ h
/-- how a due value is turned into one that is not so -/
inductive OtherOk : Z → Z → Prop
  | bl (b : Bool) : OtherOk (.bl b) (.bl !b)
  | non : OtherOk .non (.int 3)
  | int (v k : Int) : 0 ≤ k ∧ k < 2 → OtherOk (.int v) (.int (v + 1 - 2 * k))
/-- one row of dues -/
structure DueP (x y : Int) (op : Str) (due : Z) (right : Option Z) (l : List Int) (v : Z) : Prop where
  hv : wholeV op x y = some v
  so : soB v right = true
  pp : PapOk op x y right l
  ll : l.length ≤ 1000
  sl : ∀ p, p ∈ l → Sm p
  tk : TkV (.good L30) l (clZ op x y right) true
  rr : (due = .non ∧ right = none) ∨ (right = some due ∧ ((∃ i, due = .int i) ∨ ∃ b, due = .bl b))
  bad0 : due ≠ .non → soB v none = false ∧ TkV (.good L30) l (clZ op x y none) false
  bad2 : ∀ ot, OtherOk due ot → soB v (some ot) = false ∧ TkV (.good L30) l (clZ op x y (some ot)) false
def dueL (x y : Int) : List Z := [.tup [.str "add", .int (x + y)], .tup [.str "sub", .int (x - y)], .tup [.str "mul", .int (x * y)], .tup [.str "less", .bl (decide (x < y))], .tup [.str "same", .bl (decide ((Z.int x).v = (Z.int y).v))],
  .tup [.str "quotient", if 0 < y then .int (x / y) else .non], .tup [.str "rest", if 0 < y then .int (x.fmod y) else .non]]
theorem bits2 {n : Int} (h : n.natAbs ≤ 2 ^ 92) : bitsI n ≤ 93 := bits_le (k := 93) (by
  have e1 : 2 ^ 92 = 4951760157141521099596496896 := by decide
  have e2 : 2 ^ 93 = 9903520314283042199192993792 := by decide
  omega)
theorem bits3 {n : Int} (h : n.natAbs ≤ 2 ^ 181) : bitsI n ≤ 182 := bits_le (k := 182) (Nat.lt_of_le_of_lt h (Nat.pow_lt_pow_right (by decide) (by decide)))
theorem sm_le {n : Int} {k : Nat} (h : n.natAbs ≤ 2 ^ k) (hk : k ≤ 1000) : Sm n := Nat.lt_of_le_of_lt h (Nat.pow_lt_pow_right (by decide) (by omega))
theorem OpS.of7 : OpS "add" ∧ OpS "sub" ∧ OpS "mul" ∧ OpS "less" ∧ OpS "same" ∧ OpS "quotient" ∧ OpS "rest" := by
  unfold OpS
  simp
section
variable {x y : Int}
theorem due_ring {op : Str} {v : Int} {hop : OpS op} (hx : Sm x) (hy : Sm y) (h0 : wholeV op x y = some (.int v)) (hp : op = "add" ∨ op = "sub" ∨ op = "mul")
    (ht : ∀ u : Int, u = v ∨ u = v + 1 ∨ u = v - 1 → TkV (.good L30) [] (clZ op x y (some (.int u))) (decide (u = v))) : DueP x y op (.int v) (some (.int v)) [] (.int v) where
  hv := h0
  so := by
    show PyData.eqv (Z.int v).d (Z.int v).d = true
    rw [eqvI, decide_eq_true rfl]
  pp := .inr ⟨rfl, by rcases hp with h | h | h <;> simp [h]⟩
  ll := by decide
  sl := fun p h => nomatch h
  tk := tk_cast (ht v (.inl rfl)) (decide_eq_true rfl)
  rr := .inr ⟨rfl, .inl ⟨v, rfl⟩⟩
  bad0 := fun _ => ⟨rfl, tk_cast (.und op x y rfl hx hy hop) (by unfold barV; rw [if_neg (by rcases hp with h | h | h <;> subst h <;> decide)])⟩
  bad2 := fun ot h => by
    cases h with
    | int v k hk =>
      have hne : v + 1 - 2 * k ≠ v := by omega
      refine ⟨?_, tk_cast (ht _ (by omega)) (decide_eq_false hne)⟩
      show PyData.eqv (Z.int v).d (Z.int (v + 1 - 2 * k)).d = false
      rw [eqvI, decide_eq_false (Ne.symm hne)]
theorem due_truth {op : Str} {v : Bool} (hx : Sm x) (hy : Sm y) (h0 : wholeV op x y = some (.bl v)) (hp : op = "less" ∨ op = "same")
    (ht : ∀ u : Bool, TkV (.good L30) [] (clZ op x y (some (.bl u))) (decide (u = v))) : DueP x y op (.bl v) (some (.bl v)) [] (.bl v) where
  hv := h0
  so := by
    show PyData.eqv (Z.bl v).d (Z.bl v).d = true
    rw [eqvB, decide_eq_true rfl]
  pp := .inr ⟨rfl, by rcases hp with h | h <;> simp [h]⟩
  ll := by decide
  sl := fun p h => nomatch h
  tk := tk_cast (ht v) (decide_eq_true rfl)
  rr := .inr ⟨rfl, .inr ⟨v, rfl⟩⟩
  bad0 := fun _ => ⟨rfl, tk_cast (.und op x y rfl hx hy (by rcases hp with h | h <;> subst h <;> unfold OpS <;> simp)) (by unfold barV; rw [if_neg (by rcases hp with h | h <;> subst h <;> decide)])⟩
  bad2 := fun ot h => by
    cases h with
    | bl b =>
      have hne : (!v) ≠ v := by cases v <;> decide
      refine ⟨?_, tk_cast (ht _) (decide_eq_false hne)⟩
      show PyData.eqv (Z.bl v).d (Z.bl (!v)).d = false
      rw [eqvB, decide_eq_false (Ne.symm hne)]
/-- no value: y below 1 -/
theorem due_none {op : Str} (hx : Sm x) (hy : Sm y) (hy0 : ¬ 0 < y) (hp : op = "quotient" ∨ op = "rest") (h0 : wholeV op x y = some .non) : DueP x y op .non none [] .non where
  hv := h0
  so := rfl
  pp := ⟨hp, rfl⟩
  ll := by decide
  sl := fun p h => nomatch h
  tk := tk_cast (.und op x y rfl hx hy (by rcases hp with h | h <;> subst h <;> unfold OpS <;> simp)) (by
    unfold barV
    rw [if_pos hp, decide_eq_true rfl, decide_eq_true (show y < 1 by omega)]
    rfl)
  rr := .inl ⟨rfl, rfl⟩
  bad0 := fun h => absurd rfl h
  bad2 := fun ot h => by
    cases h with
    | non =>
      refine ⟨rfl, ?_⟩
      rcases hp with rfl | rfl
      · exact .val "quotient" x y (.int 3) _ rfl hx hy (.quo 3 (sm_le (k := 2) (by decide) (by decide)))
      · exact .val "rest" x y (.int 3) _ rfl hx hy (.rst 3 (sm_le (k := 2) (by decide) (by decide)))
/-- a quotient or a rest, p the other of the two -/
theorem due_div {op : Str} {v p : Int} (hx : Sm x) (hy : Sm y) (hv2 : v.natAbs < 2 ^ 2000) (hy0 : 0 < y) (hp : op = "quotient" ∨ op = "rest") (h0 : wholeV op x y = some (.int v)) (hl : papL op x y v = [p]) (sp : Sm p)
    (ht : ∀ u : Int, u = v ∨ u = v + 1 ∨ u = v - 1 → TkV (.good L30) [p] (clZ op x y (some (.int u))) (decide (u = v))) : DueP x y op (.int v) (some (.int v)) [p] (.int v) where
  hv := h0
  so := by
    show PyData.eqv (Z.int v).d (Z.int v).d = true
    rw [eqvI, decide_eq_true rfl]
  pp := .inl ⟨v, rfl, hl.symm, hp, hx, hy, hv2, hy0⟩
  ll := by show (1 : Nat) ≤ 1000; decide
  sl := fun q h => by rw [List.mem_singleton.mp h]; exact sp
  tk := tk_cast (ht v (.inl rfl)) (decide_eq_true rfl)
  rr := .inr ⟨rfl, .inl ⟨v, rfl⟩⟩
  bad0 := fun _ => ⟨rfl, tk_cast (.und op x y rfl hx hy (by rcases hp with h | h <;> subst h <;> unfold OpS <;> simp)) (by
    unfold barV
    rw [if_pos hp, decide_eq_false (by simp), Bool.false_and])⟩
  bad2 := fun ot h => by
    cases h with
    | int v k hk =>
      have hne : v + 1 - 2 * k ≠ v := by omega
      refine ⟨?_, tk_cast (ht _ (by omega)) (decide_eq_false hne)⟩
      show PyData.eqv (Z.int v).d (Z.int (v + 1 - 2 * k)).d = false
      rw [eqvI, decide_eq_false (Ne.symm hne)]
end
theorem mul_step {u v y : Int} (h : u = v ∨ u = v + 1 ∨ u = v - 1) (hy : 0 < y) : u * y = v * y ↔ u = v := by
  rcases h with rfl | rfl | rfl
  · simp
  · rw [Int.add_mul, Int.one_mul]
    omega
  · rw [Int.sub_mul, Int.one_mul]
    omega
theorem divB_is {q r x y : Int} (hy0 : 0 < y) (hq : bitsI q ≤ 100) (hy : bitsI y ≤ 100) (hr : bitsI r ≤ 190) (hx : bitsI x ≤ 100) : divB (.good L30) q r x y = (decide (0 ≤ r) && decide (r < y) && decide (q * y + r = x)) := by
  unfold divB
  rw [zDiv hq hy hr hx, decide_eq_true hy0]
  rfl
theorem due_ok {x y : Int} (hx : x.natAbs ≤ 2 ^ 90) (hy : y.natAbs ≤ 2 ^ 90) {i : Nat} {z : Z} (h : (dueL x y)[i]? = some z) : ∃ op due right l v, z = .tup [.str op, due] ∧ DueP x y op due right l v := by
  have sx : Sm x := sm_le hx (by decide)
  have sy : Sm y := sm_le hy (by decide)
  have bx : bitsI x ≤ 100 := by have := b91 hx; omega
  have bY : bitsI y ≤ 100 := by have := b91 hy; omega
  have e0 : 2 ^ 90 = 1237940039285380274899124224 := by decide
  have e2 : 2 ^ 92 = 4951760157141521099596496896 := by decide
  have lim : ∀ u : Int, u.natAbs ≤ 2 ^ 92 → Sm u ∧ bitsI u ≤ 100 := fun u hu => ⟨sm_le hu (by decide), by have := bits2 hu; omega⟩
  match i, h with
  | 0, h =>
    cases h
    refine ⟨_, _, _, _, _, rfl, due_ring (op := "add") (v := x + y) (hop := OpS.of7.1) sx sy rfl (by simp) fun u hu => ?_⟩
    obtain ⟨su, bu⟩ := lim u (by omega)
    refine tk_cast (.val "add" x y (.int u) _ rfl sx sy (.add u su)) ?_
    rw [decide_eq_true rfl, Bool.true_and, zAdd bx bY (by omega)]
    exact dec_iff (by omega)
  | 1, h =>
    cases h
    refine ⟨_, _, _, _, _, rfl, due_ring (op := "sub") (v := x - y) (hop := OpS.of7.2.1) sx sy rfl (by simp) fun u hu => ?_⟩
    obtain ⟨su, bu⟩ := lim u (by omega)
    refine tk_cast (.val "sub" x y (.int u) _ rfl sx sy (.sub u su)) ?_
    rw [decide_eq_true rfl, Bool.true_and, zSub bx bY (by omega)]
    exact dec_iff (by omega)
  | 2, h =>
    cases h
    refine ⟨_, _, _, _, _, rfl, due_ring (op := "mul") (v := x * y) (hop := OpS.of7.2.2.1) sx sy rfl (by simp) fun u hu => ?_⟩
    have hm : (x * y).natAbs ≤ 2 ^ 180 := by
      rw [Int.natAbs_mul]
      exact Nat.le_trans (Nat.mul_le_mul hx hy) (by decide)
    have hu2 : u.natAbs ≤ 2 ^ 181 := by
      have e3 : 2 ^ 180 = 1532495540865888858358347027150309183618739122183602176 := by decide
      have e4 : 2 ^ 181 = 3064991081731777716716694054300618367237478244367204352 := by decide
      rw [e3] at hm
      rw [e4]
      generalize x * y = m at *
      omega
    refine tk_cast (.val "mul" x y (.int u) _ rfl sx sy (.mul u (sm_le hu2 (by decide)))) ?_
    rw [decide_eq_true rfl, Bool.true_and, zMul bx bY (by have := bits3 hu2; omega)]
    exact dec_iff (by omega)
  | 3, h =>
    cases h
    refine ⟨_, _, _, _, _, rfl, due_truth (op := "less") sx sy rfl (by simp) fun u => ?_⟩
    exact tk_cast (.val "less" x y (.bl u) _ rfl sx sy (.les u)) rfl
  | 4, h =>
    cases h
    rw [deq]
    refine ⟨_, _, _, _, _, rfl, due_truth (op := "same") sx sy rfl (by simp) fun u => ?_⟩
    exact tk_cast (.val "same" x y (.bl u) _ rfl sx sy (.sam u)) rfl
  | 5, h =>
    cases h
    by_cases hy0 : 0 < y
    · rw [if_pos hy0]
      have w1 : wholeV "quotient" x y = some (.int (x / y)) := by
        show some (if y < 1 then Z.non else .int (x / y)) = _
        rw [if_neg (by omega)]
      have r1 := Int.emod_nonneg x (show y ≠ 0 by omega)
      have r2 := Int.emod_lt_of_pos x hy0
      have r3 := Int.emod_add_mul_ediv x y
      have q1 : (x / y).natAbs ≤ x.natAbs := Int.natAbs_ediv_le_natAbs x y
      have ep : x - y * (x / y) = x % y := by omega
      have hr : (x % y).natAbs ≤ 2 ^ 92 := by omega
      obtain ⟨sr, br⟩ := lim (x % y) hr
      obtain ⟨sq, bq⟩ := lim (x / y) (by omega)
      refine ⟨_, _, _, _, _, rfl, due_div (op := "quotient") (v := x / y) (p := x % y) sx sy sq hy0 (.inl rfl) w1 (by show [x - y * (x / y)] = _; rw [ep]) sr fun u hu => ?_⟩
      obtain ⟨su, bu⟩ := lim u (by omega)
      refine tk_cast (.val "quotient" x y (.int u) _ rfl sx sy (.quo u su)) ?_
      show divB (.good L30) u (x % y) x y = _
      rw [divB_is hy0 bu bY (by omega) bx, decide_eq_true r1, decide_eq_true r2]
      refine dec_iff ?_
      rw [← mul_step hu hy0, Int.mul_comm (x / y) y]
      generalize y * (x / y) = m at *
      omega
    · rw [if_neg hy0]
      refine ⟨_, _, _, _, _, rfl, due_none (op := "quotient") sx sy hy0 (.inl rfl) ?_⟩
      show some (if y < 1 then Z.non else .int (x / y)) = _
      rw [if_pos (by omega)]
  | 6, h =>
    cases h
    by_cases hy0 : 0 < y
    · rw [if_pos hy0]
      have ef : x.fmod y = x % y := Int.fmod_eq_emod_of_nonneg _ (by omega)
      have w1 : wholeV "rest" x y = some (.int (x.fmod y)) := by
        show some (if y < 1 then Z.non else .int (x.fmod y)) = _
        rw [if_neg (by omega)]
      rw [ef] at w1 ⊢
      have r1 := Int.emod_nonneg x (show y ≠ 0 by omega)
      have r2 := Int.emod_lt_of_pos x hy0
      have r3 := Int.emod_add_mul_ediv x y
      have q1 : (x / y).natAbs ≤ x.natAbs := Int.natAbs_ediv_le_natAbs x y
      have ep : (x - x % y) / y = x / y := by
        have e : x - x % y = y * (x / y) := by omega
        rw [e, Int.mul_ediv_cancel_left _ (by omega)]
      have hr : (x % y).natAbs ≤ 2 ^ 92 := by omega
      obtain ⟨sr, br⟩ := lim (x % y) hr
      obtain ⟨sq, bq⟩ := lim (x / y) (by omega)
      refine ⟨_, _, _, _, _, rfl, due_div (op := "rest") (v := x % y) (p := x / y) sx sy sr hy0 (.inr rfl) w1 (by show [(x - x % y) / y] = _; rw [ep]) sq fun u hu => ?_⟩
      obtain ⟨su, bu⟩ := lim u (by omega)
      refine tk_cast (.val "rest" x y (.int u) _ rfl sx sy (.rst u su)) ?_
      show divB (.good L30) (x / y) u x y = _
      rw [divB_is hy0 bq bY (by omega) bx]
      rw [Int.mul_comm y (x / y)] at r3
      generalize x / y * y = m at *
      by_cases c : u = x % y
      · rw [decide_eq_true c, decide_eq_true (show 0 ≤ u by omega), decide_eq_true (show u < y by omega), decide_eq_true (show m + u = x by omega)]
        rfl
      · rw [decide_eq_false c, decide_eq_false (show ¬ m + u = x by omega), Bool.and_false]
    · rw [if_neg hy0]
      refine ⟨_, _, _, _, _, rfl, due_none (op := "rest") sx sy hy0 (.inr rfl) ?_⟩
      show some (if y < 1 then Z.non else .int (x.fmod y)) = _
      rw [if_pos (by omega)]
  | n + 7, h => cases h
end

/-! ## B22 -/
section
variable {w : World} {K : PySem.W.Frag} {mg : Str → Option Value} {base : Heap}
def tz_law_bad : TZ := fun zs o R => ∃ (s : List Int) (p : Int) (b : Nat), zs = [.scr s, .int p, .int b] ∧ o = [] ∧ (8 ≤ b ∧ b ≤ 16) ∧ R (.bl true) []
theorem rowB4 {b : Nat} (hb : 8 ≤ b ∧ b ≤ 16) : (∃ p0 p1 p2 p3 : Nat, pbl (2 ^ b) 4 = [p0, p1, p2, p3]) ∧ zeroV (.good (pbl (2 ^ b) 4)) [] = true ∧ zeroV (.good (pbl (2 ^ b) 4)) [[0]] = true ∧ zeroV (.good (pbl (2 ^ b) 4)) [[3], [-1, 3]] = true := by
  refine ⟨?_, ?_⟩
  · have e : (pbl (2 ^ b) 4).length = 4 := by
      have h : b = 8 ∨ b = 9 ∨ b = 10 ∨ b = 11 ∨ b = 12 ∨ b = 13 ∨ b = 14 ∨ b = 15 ∨ b = 16 := by omega
      rcases h with rfl | rfl | rfl | rfl | rfl | rfl | rfl | rfl | rfl <;> decide +kernel
    revert e
    generalize pbl (2 ^ b) 4 = l
    intro e
    match l, e with
    | [p0, p1, p2, p3], _ => exact ⟨p0, p1, p2, p3, rfl⟩
  · have h : b = 8 ∨ b = 9 ∨ b = 10 ∨ b = 11 ∨ b = 12 ∨ b = 13 ∨ b = 14 ∨ b = 15 ∨ b = 16 := by omega
    rcases h with rfl | rfl | rfl | rfl | rfl | rfl | rfl | rfl | rfl <;> exact ⟨by decide +kernel, by decide +kernel, by decide +kernel⟩
/-- two judges -/
def J2 (JC g dg : Addr) (b : Nat) (jg : JP) (s1 m1 : Int) (a da : Addr) (c : Nat) (ja : JP) (s2 m2 : Int) : OO := [(g, jO JC dg b jg s1 m1), (a, jO JC da c ja s2 m2)]
theorem gd0 : GoodTs [] := ⟨by decide, fun t h => nomatch h⟩
theorem gd1 : GoodTs [[0]] := good_sm (by decide) (by simp) (by simp [sm_0])
theorem sm_k {n : Int} (h : n.natAbs < 2 ^ 10) : Sm n := Nat.lt_of_lt_of_le h (Nat.pow_le_pow_right (by decide) (by decide))
theorem gd2 : GoodTs [[3], [-1, 3]] := good_sm (by decide) (by simp) (fun n hn => by
  simp only [List.flatten_cons, List.flatten_nil, List.append_nil, List.cons_append, List.nil_append, List.mem_cons, List.not_mem_nil, or_false] at hn
  rcases hn with rfl | rfl | rfl <;> exact sm_k (by decide))
abbrev CLS : List Z := [.tup [.str "value", .str "number", .int 7, .tup [], .int 7], .tup [.str "value", .str "less", .non, .tup [.int 0, .int 1], .bl true], .tup [.str "undefined", .str "rest", .non, .tup [.int 4, .int 0]]]
theorem tk3 {l : List Nat} : ∀ {i : Nat} {z : Z}, CLS[i]? = some z → TkV (.good l) [] z true
  | 0, _, h => by cases h; exact .num 7 rfl rfl
  | 1, _, h => by cases h; exact .val "less" 0 1 (.bl true) _ rfl sm_0 sm_1 (.les true)
  | 2, _, h => by cases h; exact .und "rest" 4 0 rfl (sm_k (by decide)) sm_0 (by unfold OpS; simp)
  | n + 3, _, h => by cases h
abbrev st_law_bad : Stmt := top 438
abbrev N_law_bad : List Str := ["script", "place", "bits", "row", "good", "bad", "claims", "claim", "terms", "told"]
theorem sc_law_bad : FnScope N_law_bad ["script", "place", "bits"] (defScope st_law_bad) := ⟨rfl, rfl, rfl, by decide +kernel, rfl, by decide +kernel, by decide +kernel⟩
theorem c_law_bad {JC : Addr} (T : Tx K mg) (J : TJ K mg JC) : Cal P0 w K mg base "_law_bad" 10 ["script", "place", "bits"] (tz_law_bad) := by
  refine Cal.mk T.d__law_bad sc_law_bad (fun _ _ _ _ _ _ us hl => match us, hl with | [_, _, _], _ => rfl) fun f cdv A outer s H E hr => ?_
  have c_Judge := @c_Judge w K mg base JC T J
  have m_fraction_less := @m_fraction_less w K mg base JC T J
  have m_less := @m_less w K mg base JC T J
  have m_zero := @m_zero w K mg base JC T J
  have c_law_faulty := @c_law_faulty w K mg base JC T J
  have c_law_is_truth := @c_law_is_truth w K mg base JC T J
  have c_law_primes := @c_law_primes w K mg base JC T J
  have c_takes := @c_takes w K mg base JC T J
  refine ⟨_, (pss_cons (ps_set (i := 3) sc_law_bad.nd rfl (Or.inl rfl) (pe_callZ c_law_primes (hr.mono (by decide)) (pa_cons (pe_op op_shl pe_int (pv 2)) (pa_cons pe_int pa_nil))))
    (pss_cons (ps_set (i := 4) sc_law_bad.nd rfl (Or.inl rfl) (pe_mkZ c_Judge (hr.mono (by decide)) (pa_cons (pv 2) (pa_cons (pe_callTy (call_tupK (K := K)) (by rfl) T.b_tuple (by decide +kernel) (pa_cons (pv 3) pa_nil)) pa_nil))))
    (pss_cons (ps_set (i := 5) sc_law_bad.nd rfl (Or.inl rfl) (pe_mkZ c_Judge (hr.mono (by decide)) (pa_cons (pv 2) (pa_cons (pe_callZ c_law_faulty (hr.mono (by decide)) (pa_cons (pv 0) (pa_cons (pv 1) (pa_cons (pv 3) (pa_cons (pv 2) pa_nil))))) pa_nil))))
    (pss_cons (ps_if (PW.pt (pw_or (pt_not (pt_val (pe_callZ c_law_is_truth (hr.mono (by decide)) (pa_cons (pe_fldK (K := K) (pv 4) rfl) (pa_cons pe_bl pa_nil))))) (pw_or1 (pt_not (pt_val (pe_callZ c_law_is_truth (hr.mono (by decide)) (pa_cons (pe_fldK (K := K) (pv 5) rfl) (pa_cons pe_bl pa_nil)))))))) (pss_one (ps_ret pe_bl)) pss_nil)
    (pss_cons (ps_set (i := 6) sc_law_bad.nd rfl (Or.inl rfl) (pe_lst (pa_cons (pe_tup (pa_cons pe_str (pa_cons pe_str (pa_cons pe_int (pa_cons (pe_tup pa_nil) (pa_cons pe_int pa_nil)))))) (pa_cons (pe_tup (pa_cons pe_str (pa_cons pe_str (pa_cons pe_non (pa_cons (pe_tup (pa_cons pe_int (pa_cons pe_int pa_nil))) (pa_cons pe_bl pa_nil)))))) pa_nil))))
    (pss_cons (ps_for PassesOwn.never rfl (pi_listK (K := K) (pe_op op_cat (pv 6) (pe_lst (pa_cons (pe_tup (pa_cons pe_str (pa_cons pe_str (pa_cons pe_non (pa_cons (pe_tup (pa_cons pe_int (pa_cons pe_int pa_nil))) pa_nil))))) pa_nil)))) (pg_name (i := 7) sc_law_bad.nd rfl (Or.inl rfl)) (pss_one (ps_if (PW.pt (pw_or (pt_not (pt_val (pe_callZ c_law_is_truth (hr.mono (by decide)) (pa_cons (pe_callZ c_takes (hr.mono (by decide)) (pa_cons (pv 4) (pa_cons (pv 7) (pa_cons (pe_tup pa_nil) pa_nil)))) (pa_cons pe_bl pa_nil))))) (pw_or1 (pt_not (pt_val (pe_callZ c_law_is_truth (hr.mono (by decide)) (pa_cons (pe_callZ c_takes (hr.mono (by decide)) (pa_cons (pv 5) (pa_cons (pv 7) (pa_cons (pe_tup pa_nil) pa_nil)))) (pa_cons pe_bl pa_nil)))))))) (pss_one (ps_ret pe_bl)) pss_nil)))
    (pss_cons (ps_for PassesOwn.never rfl (pi_listK (K := K) (pe_lst (pa_cons (pe_tup pa_nil) (pa_cons (pe_tup (pa_cons (pe_tup (pa_cons pe_int pa_nil)) pa_nil)) (pa_cons (pe_tup (pa_cons (pe_tup (pa_cons pe_int pa_nil)) (pa_cons (pe_tup (pa_cons (pe_un un_neg pe_int) (pa_cons pe_int pa_nil))) pa_nil))) pa_nil))))) (pg_name (i := 8) sc_law_bad.nd rfl (Or.inl rfl)) (pss_one (ps_if (PW.pt (pw_or (pt_not (pt_val (pe_callZ c_law_is_truth (hr.mono (by decide)) (pa_cons (pe_methZ J.cl m_zero (hr.mono (by decide)) (pv 4) (pa_cons (pv 8) pa_nil)) (pa_cons pe_bl pa_nil))))) (pw_or1 (pt_not (pt_val (pe_callZ c_law_is_truth (hr.mono (by decide)) (pa_cons (pe_methZ J.cl m_zero (hr.mono (by decide)) (pv 5) (pa_cons (pv 8) pa_nil)) (pa_cons pe_bl pa_nil)))))))) (pss_one (ps_ret pe_bl)) pss_nil)))
    (pss_cons (ps_if (PW.pt (pw_or (pt_not (pt_val (pe_methZ J.cl m_less (hr.mono (by decide)) (pv 4) (pa_cons (pe_un un_neg pe_int) (pa_cons pe_int pa_nil))))) (pw_or1 (pt_not (pt_val (pe_methZ J.cl m_fraction_less (hr.mono (by decide)) (pv 4) (pa_cons (pe_tup (pa_cons pe_int (pa_cons pe_int pa_nil))) (pa_cons (pe_tup (pa_cons pe_int (pa_cons pe_int pa_nil))) pa_nil)))))))) (pss_one (ps_ret pe_bl)) pss_nil)
    (pss_cons (ps_set (i := 9) sc_law_bad.nd rfl (Or.inl rfl) (pe_lst (pa_cons (pe_methZ J.cl m_less (hr.mono (by decide)) (pv 5) (pa_cons (pe_un un_neg pe_int) (pa_cons pe_int pa_nil))) (pa_cons (pe_methZ J.cl m_less (hr.mono (by decide)) (pv 5) (pa_cons pe_int (pa_cons (pe_un un_neg pe_int) pa_nil))) (pa_cons (pe_methZ J.cl m_fraction_less (hr.mono (by decide)) (pv 5) (pa_cons (pe_tup (pa_cons pe_int (pa_cons pe_int pa_nil))) (pa_cons (pe_tup (pa_cons pe_int (pa_cons pe_int pa_nil))) pa_nil))) (pa_cons (pe_methZ J.cl m_fraction_less (hr.mono (by decide)) (pv 5) (pa_cons (pe_tup (pa_cons pe_int (pa_cons pe_int pa_nil))) (pa_cons (pe_tup (pa_cons pe_int (pa_cons pe_int pa_nil))) pa_nil))) pa_nil))))))
    (pss_one (ps_ret (pe_cmpR (op_eqK (K := K) hr.units) (pv 9) (pe_lst (pa_cons pe_bl (pa_cons pe_bl (pa_cons pe_bl (pa_cons pe_bl pa_nil))))) (nomark _))))))))))))), ?_⟩
  try dsimp only [cxK]
  rintro zs o R ⟨s, p, b, rfl, rfl, hb, k⟩
  have e2 : (1 : Int) * 2 ^ (b : Int).toNat = ((2 ^ b : Nat) : Int) := by rw [Int.one_mul, Int.toNat_natCast]; norm_cast
  have hB : 2 ^ b ≤ 2 ^ 16 := Nat.pow_le_pow_right (by decide) hb.2
  obtain ⟨⟨p0, p1, p2, p3, er⟩, z0, z1, z2⟩ := rowB4 hb
  have hd := pbl_desc (2 ^ b) 4
  rw [er] at z0 z1 z2 hd
  have okg : JOk b (.good [p0, p1, p2, p3]) := ⟨by omega, fun l hl => by cases hl; exact ⟨hd, by show (4 : Nat) ≤ 200; decide⟩, fun l hl => nomatch hl⟩
  repeat walk_at "q"
  refine we_call ?_
  repeat walk_at "q"
  rw [e2]
  repeat walk_at "q"
  refine ⟨rfl, _, 4, rfl, rfl, ⟨Int.natCast_nonneg _, Int.lt_of_le_of_lt (Int.ofNat_le.mpr hB) (by decide)⟩, by decide, ?_⟩
  rw [Int.toNat_natCast, show (4 : Int).toNat = 4 from rfl, er]
  repeat walk_at "q"
  refine we_make ?_
  repeat walk_at "q"
  refine ⟨rfl, fun g dg => ⟨g, dg, b, .good [p0, p1, p2, p3], rfl, rfl, okg, rfl, fun c' hc => ?_⟩⟩
  cases oneJ hc
  repeat walk_at "q"
  refine we_make ?_
  repeat walk_at "q"
  refine we_call ?_
  repeat walk_at "q"
  refine ⟨rfl, s, p, b, p0, p1, p2, p3, rfl, rfl, hb, hd, fun l hl1 hl2 hl3 => ?_⟩
  repeat walk_at "q"
  have okb : JOk b (.bad l) := ⟨by omega, fun l hl => (nomatch hl), fun l' hl => by cases hl; exact ⟨hl1, hl2⟩⟩
  refine ⟨rfl, fun a da => ⟨a, da, b, .bad l, rfl, rfl, okb, rfl, fun c' hc => ?_⟩⟩
  cases oneJ hc
  repeat walk_at "q"
  refine we_call ?_
  repeat walk_at "q"
  refine ⟨rfl, true, true, rfl, rfl, ?_⟩
  repeat walk_at "q"
  refine we_call ?_
  refine wa_cons (we_fld (we_var rfl ⟨1, a, JC, da, _, _, rfl, rfl, J.cl, J.n_good, rfl, ?_⟩))
  repeat walk_at "q"
  refine ⟨rfl, false, false, rfl, rfl, ?_⟩
  repeat walk_at "q"
  refine ⟨by decide, CLS, rfl, fun i r o => ∃ (x7 : Option Z) (s1 m1 s2 m2 : Int), r = [some (.scr s), some (.int p), some (.int b), some (.lst (nz [p0, p1, p2, p3])), some (.ref g), some (.ref a), some (.lst (CLS.take 2)), x7, none, none] ∧ o = J2 JC g dg b (.good [p0, p1, p2, p3]) s1 m1 a da b (.bad l) s2 m2, ⟨none, 0, 0, 0, 0, rfl, rfl⟩, ?_, ?_⟩
  · rintro i z r o hz ⟨x7, s1, m1, s2, m2, rfl, rfl⟩
    have tk := tk3 (l := [p0, p1, p2, p3]) hz
    repeat walk_at "q"
    refine we_call ?_
    repeat walk_at "q"
    refine we_call1 0 ?_
    repeat walk_at "q"
    refine ⟨rfl, g, _, rfl, g, dg, b, .good [p0, p1, p2, p3], s1, m1, z, [], true, rfl, rfl, okg, by decide, fun p hp => (nomatch hp), tk, fun s1' m1' c' hc => ?_⟩
    cases oneJ hc
    repeat walk_at "q"
    refine ⟨rfl, true, true, rfl, rfl, ?_⟩
    repeat walk_at "q"
    refine we_call ?_
    repeat walk_at "q"
    refine we_call1 1 ?_
    repeat walk_at "q"
    refine ⟨rfl, a, _, rfl, a, da, b, .bad l, s2, m2, z, [], false, rfl, rfl, okb, by decide, fun p hp => (nomatch hp), .bad z rfl, fun s2' m2' c' hc => ?_⟩
    cases oneJ hc
    repeat walk_at "q"
    refine ⟨rfl, false, false, rfl, rfl, ?_⟩
    repeat walk_at "q"
    exact ⟨_, s1', m1', s2', m2', rfl, rfl⟩
  rintro r o ⟨x7, s1, m1, s2, m2, rfl, rfl⟩
  repeat walk_at "q"
  refine ⟨fun i r o => ∃ (x7 x8 : Option Z) (s1 m1 s2 m2 : Int), r = [some (.scr s), some (.int p), some (.int b), some (.lst (nz [p0, p1, p2, p3])), some (.ref g), some (.ref a), some (.lst (CLS.take 2)), x7, x8, none] ∧ o = J2 JC g dg b (.good [p0, p1, p2, p3]) s1 m1 a da b (.bad l) s2 m2, ⟨x7, none, s1, m1, s2, m2, rfl, rfl⟩, ?_, ?_⟩
  · rintro i z r o hz ⟨x7, x8, s1, m1, s2, m2, rfl, rfl⟩
    obtain ⟨ts, rfl, ht, hv⟩ : ∃ ts, z = zts ts ∧ GoodTs ts ∧ zeroV (.good [p0, p1, p2, p3]) ts = true := by
      match i, hz with
      | 0, hz => cases hz; exact ⟨[], rfl, gd0, z0⟩
      | 1, hz => cases hz; exact ⟨[[0]], rfl, gd1, z1⟩
      | 2, hz => cases hz; exact ⟨[[3], [-1, 3]], rfl, gd2, z2⟩
      | n + 3, hz => cases hz
    repeat walk_at "q"
    refine we_call ?_
    refine wa_cons (we_meth (we_var rfl ⟨0, g, dg, _, rfl, rfl, rfl, ?_⟩))
    repeat walk_at "q"
    refine ⟨rfl, _, rfl, g, dg, b, .good [p0, p1, p2, p3], s1, m1, ts, rfl, rfl, okg, ht, fun c' hc => ?_⟩
    cases oneJ hc
    rw [hv]
    repeat walk_at "q"
    refine ⟨rfl, true, true, rfl, rfl, ?_⟩
    repeat walk_at "q"
    refine we_call ?_
    refine wa_cons (we_meth (we_var rfl ⟨1, a, da, _, rfl, rfl, rfl, ?_⟩))
    repeat walk_at "q"
    refine ⟨rfl, _, rfl, a, da, b, .bad l, s2, m2, ts, rfl, rfl, okb, ht, fun c' hc => ?_⟩
    cases oneJ hc
    repeat walk_at "q"
    refine ⟨rfl, false, false, rfl, rfl, ?_⟩
    repeat walk_at "q"
    exact ⟨_, _, _, _, _, _, rfl, rfl⟩
  rintro r o ⟨x7, x8, s1, m1, s2, m2, rfl, rfl⟩
  refine ws_seq (ws_if (wt_or (wt_not (wt_B ?_))))
  refine we_meth (we_var rfl ⟨0, g, dg, _, rfl, rfl, rfl, ?_⟩)
  repeat walk_at "q"
  refine ⟨rfl, _, rfl, g, dg, b, .good [p0, p1, p2, p3], s1, m1, -1, 1, rfl, rfl, okg, sm_m1.sz, sm_1.sz, fun c' hc => ?_⟩
  cases oneJ hc
  rw [show ((JP.good [p0, p1, p2, p3]).g && decide ((-1 : Int) < 1)) = true from rfl]
  repeat walk_at "q"
  refine ⟨rfl, _, rfl, g, dg, b, .good [p0, p1, p2, p3], _, m1, 0, 5, 1, 9, rfl, rfl, okg, sm_0.sz, (sm_k (by decide)).sz, sm_1.sz, (sm_k (by decide)).sz, by decide, by decide, fun c' hc => ?_⟩
  cases oneJ hc
  rw [show ((JP.good [p0, p1, p2, p3]).g && decide ((0 : Int) * 9 < 1 * 5)) = true from rfl]
  repeat walk_at "q"
  refine we_meth (we_var rfl ⟨1, a, da, _, rfl, rfl, rfl, ?_⟩)
  repeat walk_at "q"
  refine ⟨rfl, _, rfl, a, da, b, .bad l, s2, m2, -1, 1, rfl, rfl, okb, sm_m1.sz, sm_1.sz, fun c' hc => ?_⟩
  cases oneJ hc
  refine wa_cons (we_meth (we_var rfl ⟨1, a, da, _, rfl, rfl, rfl, ?_⟩))
  repeat walk_at "q"
  refine ⟨rfl, _, rfl, a, da, b, .bad l, _, m2, 1, -1, rfl, rfl, okb, sm_1.sz, sm_m1.sz, fun c' hc => ?_⟩
  cases oneJ hc
  refine wa_cons (we_meth (we_var rfl ⟨1, a, da, _, rfl, rfl, rfl, ?_⟩))
  repeat walk_at "q"
  refine ⟨rfl, _, rfl, a, da, b, .bad l, _, m2, 0, 5, 1, 9, rfl, rfl, okb, sm_0.sz, (sm_k (by decide)).sz, sm_1.sz, (sm_k (by decide)).sz, by decide, by decide, fun c' hc => ?_⟩
  cases oneJ hc
  refine wa_cons (we_meth (we_var rfl ⟨1, a, da, _, rfl, rfl, rfl, ?_⟩))
  repeat walk_at "q"
  refine ⟨rfl, _, rfl, a, da, b, .bad l, _, m2, 1, 9, 0, 5, rfl, rfl, okb, sm_1.sz, (sm_k (by decide)).sz, sm_0.sz, (sm_k (by decide)).sz, by decide, by decide, fun c' hc => ?_⟩
  cases oneJ hc
  repeat walk_at "q"
  refine zo_eqD ⟨rfl, rfl, rfl, rfl, ?_⟩
  exact fin0 k
end

/-! ## B23 -/
section
variable {w : World} {K : PySem.W.Frag} {mg : Str → Option Value} {base : Heap}
def tz_law_claims : TZ := fun zs o R => ∃ (s : List Int) (p : Int), zs = [.scr s, .int p] ∧ o = [] ∧ R (.bl true) []
theorem x_lim {n k : Int} (hk : 0 ≤ k ∧ k < 2) : (n.fmod (1 * 2 ^ Int.toNat 90) - 1 * 2 ^ Int.toNat 89 * k).natAbs ≤ 2 ^ 90 := by
  have e1 : (1 : Int) * 2 ^ Int.toNat 90 = 1237940039285380274899124224 := by decide
  have e2 : (1 : Int) * 2 ^ Int.toNat 89 = 618970019642690137449562112 := by decide
  have e3 : 2 ^ 90 = 1237940039285380274899124224 := by decide
  rw [e1, e2, e3]
  have h1 := Int.fmod_nonneg_of_pos n (b := 1237940039285380274899124224) (by decide)
  have h2 := Int.fmod_lt_of_pos n (b := 1237940039285380274899124224) (by decide)
  have : k = 0 ∨ k = 1 := by omega
  rcases this with rfl | rfl <;> omega
theorem y_lim {x n k : Int} (hx : x.natAbs ≤ 2 ^ 90) (hk : 0 ≤ k ∧ k < 5) : ∃ y : Int, atI [Z.int (n.fmod (1 * 2 ^ Int.toNat 70)), Z.int (n.fmod 9 - 2), Z.int x, Z.int (-x), Z.int (1 - n.fmod (1 * 2 ^ Int.toNat 50))] k = some (.int y) ∧ y.natAbs ≤ 2 ^ 90 := by
  have e1 : (1 : Int) * 2 ^ Int.toNat 70 = 1180591620717411303424 := by decide
  have e2 : (1 : Int) * 2 ^ Int.toNat 50 = 1125899906842624 := by decide
  have e3 : 2 ^ 90 = 1237940039285380274899124224 := by decide
  rw [e3] at hx ⊢
  have h1 := Int.fmod_nonneg_of_pos n (b := 1180591620717411303424) (by decide)
  have h2 := Int.fmod_lt_of_pos n (b := 1180591620717411303424) (by decide)
  have h3 := Int.fmod_nonneg_of_pos n (b := 9) (by decide)
  have h4 := Int.fmod_lt_of_pos n (b := 9) (by decide)
  have h5 := Int.fmod_nonneg_of_pos n (b := 1125899906842624) (by decide)
  have h6 := Int.fmod_lt_of_pos n (b := 1125899906842624) (by decide)
  rw [e1, e2]
  have : k = 0 ∨ k = 1 ∨ k = 2 ∨ k = 3 ∨ k = 4 := by omega
  rcases this with rfl | rfl | rfl | rfl | rfl
  · exact ⟨_, rfl, by omega⟩
  · exact ⟨_, rfl, by omega⟩
  · exact ⟨_, rfl, by omega⟩
  · exact ⟨_, rfl, by omega⟩
  · exact ⟨_, rfl, by omega⟩
theorem ns_shaped {op : Str} {x y : Int} {v : Z} (h : wholeV op x y = some v) : SeqAt.shaped (Z.tup [.str "not so", .str op]).d = true := by
  rcases wholeV_op h with rfl | rfl | rfl | rfl | rfl | rfl | rfl <;> decide +kernel
theorem isA_nonb : (Z.non).isA "bool" = some false := by show kitB "NoneType" "bool" = _; decide +kernel
theorem other_sc {d z : Z} (h : OtherOk d z) : z.sc = true ∧ (∀ s, z ≠ .str s) ∧ z ≠ .non := by
  cases h <;> exact ⟨rfl, fun s h => (nomatch h), fun h => (nomatch h)⟩
abbrev st_law_claims : Stmt := top 440
abbrev N_law_claims : List Str := ["script", "place", "x", "more", "y", "judge", "dues", "op", "due", "other", "claims", "right", "told", "claim"]
theorem sc_law_claims : FnScope N_law_claims ["script", "place"] (defScope st_law_claims) := ⟨rfl, rfl, rfl, by decide +kernel, rfl, by decide +kernel, by decide +kernel⟩
theorem c_law_claims {NC JC : Addr} (T : Tx K mg) (J : TJ K mg JC) (N : TN K mg NC) : Cal P0 w K mg base "_law_claims" 10 ["script", "place"] (tz_law_claims) := by
  refine Cal.mk T.d__law_claims sc_law_claims (fun _ _ _ _ _ _ us hl => match us, hl with | [_, _], _ => rfl) fun f cdv A outer s H E hr => ?_
  have c_Judge := @c_Judge w K mg base JC T J
  have c_law_number := @c_law_number w K mg base JC T J
  have c_law_one := @c_law_one w K mg base JC T J
  have c_law_paper := @c_law_paper w K mg base NC JC T J N
  have c_law_primes := @c_law_primes w K mg base JC T J
  have c_takes := @c_takes w K mg base JC T J
  refine ⟨_, (pss_cons (ps_set (i := 2) sc_law_claims.nd rfl (Or.inl rfl) (pe_op op_sub (pe_op op_modN (pe_callTy call_int1 (by rfl) T.b_int (by decide +kernel) (pa_cons (pe_callZ c_law_number (hr.mono (by decide)) (pa_cons (pv 0) (pa_cons (pv 1) (pa_cons pe_int pa_nil)))) pa_nil)) (pe_op op_shl pe_int pe_int)) (pe_op op_mul (pe_op op_shl pe_int pe_int) (pe_callZ c_law_one (hr.mono (by decide)) (pa_cons (pv 0) (pa_cons (pe_op op_add (pv 1) pe_int) (pa_cons pe_int pa_nil)))))))
    (pss_cons (ps_set (i := 3) sc_law_claims.nd rfl (Or.inl rfl) (pe_callZ c_law_number (hr.mono (by decide)) (pa_cons (pv 0) (pa_cons (pe_op op_add (pv 1) pe_int) (pa_cons pe_int pa_nil)))))
    (pss_cons (ps_set (i := 4) sc_law_claims.nd rfl (Or.inl rfl) (pe_ix (ix_listK (K := K)) (pe_lst (pa_cons (pe_op op_modN (pe_callTy call_int1 (by rfl) T.b_int (by decide +kernel) (pa_cons (pv 3) pa_nil)) (pe_op op_shl pe_int pe_int)) (pa_cons (pe_op op_sub (pe_op op_modN (pe_callTy call_int1 (by rfl) T.b_int (by decide +kernel) (pa_cons (pv 3) pa_nil)) pe_int) pe_int) (pa_cons (pv 2) (pa_cons (pe_un un_neg (pv 2)) (pa_cons (pe_op op_sub pe_int (pe_op op_modN (pe_callTy call_int1 (by rfl) T.b_int (by decide +kernel) (pa_cons (pv 3) pa_nil)) (pe_op op_shl pe_int pe_int))) pa_nil)))))) (pe_callZ c_law_one (hr.mono (by decide)) (pa_cons (pv 0) (pa_cons (pe_op op_add (pv 1) pe_int) (pa_cons pe_int pa_nil)))) (fun _ _ => rfl)))
    (pss_cons (ps_set (i := 5) sc_law_claims.nd rfl (Or.inl rfl) (pe_mkZ c_Judge (hr.mono (by decide)) (pa_cons pe_int (pa_cons (pe_callTy (call_tupK (K := K)) (by rfl) T.b_tuple (by decide +kernel) (pa_cons (pe_callZ c_law_primes (hr.mono (by decide)) (pa_cons (pe_op op_shl pe_int pe_int) (pa_cons pe_int pa_nil))) pa_nil)) pa_nil))))
    (pss_cons (ps_set (i := 6) sc_law_claims.nd rfl (Or.inl rfl) (pe_lst (pa_cons (pe_tup (pa_cons pe_str (pa_cons (pe_op op_add (pv 2) (pv 4)) pa_nil))) (pa_cons (pe_tup (pa_cons pe_str (pa_cons (pe_op op_sub (pv 2) (pv 4)) pa_nil))) (pa_cons (pe_tup (pa_cons pe_str (pa_cons (pe_op op_mulW (pv 2) (pv 4)) pa_nil))) (pa_cons (pe_tup (pa_cons pe_str (pa_cons (pe_cmpR op_lt (pv 2) (pv 4) (nomark _)) pa_nil))) (pa_cons (pe_tup (pa_cons pe_str (pa_cons (pe_cmpR op_eq (pv 2) (pv 4) (nomark _)) pa_nil))) pa_nil)))))))
    (pss_cons (ps_set (i := 6) sc_law_claims.nd rfl (Or.inl rfl) (pe_op op_cat (pv 6) (pe_lst (pa_cons (pe_tup (pa_cons pe_str (pa_cons (pe_ifExp (pt_cmpR op_gt (pv 4) pe_int (nomark _)) (pe_op op_fdivW (pv 2) (pv 4)) pe_non) pa_nil))) (pa_cons (pe_tup (pa_cons pe_str (pa_cons (pe_ifExp (pt_cmpR op_gt (pv 4) pe_int (nomark _)) (pe_op op_modN (pe_callTy call_int1 (by rfl) T.b_int (by decide +kernel) (pa_cons (pv 2) pa_nil)) (pv 4)) pe_non) pa_nil))) pa_nil)))))
    (pss_cons (ps_for PassesOwn.never rfl (pi_listK (K := K) (pv 6)) (pg_tup rfl (pgs_cons (pg_name (i := 7) sc_law_claims.nd rfl (Or.inl rfl)) (pgs_cons (pg_name (i := 8) sc_law_claims.nd rfl (Or.inl rfl)) pgs_nil))) (pss_cons (ps_set (i := 9) sc_law_claims.nd rfl (Or.inl rfl) (pe_ifExp (pt_val (pe_callB (call_isiK2 (K := K)) (by rfl) T.b_isinstance (by decide +kernel) (pa_cons (pv 8) (pa_cons (pe_bltn (v := .ty "bool") (by rfl) T.b_bool (by decide +kernel) rfl) pa_nil)))) (pe_not (pv 8)) (pe_ifExp (pt_cmp (pc_isN (pv 8)) rfl) pe_int (pe_op op_sub (pe_op op_add (pv 8) pe_int) (pe_op op_mul pe_int (pe_callZ c_law_one (hr.mono (by decide)) (pa_cons (pv 0) (pa_cons (pv 1) (pa_cons pe_int pa_nil)))))))))
    (pss_cons (ps_set (i := 10) sc_law_claims.nd rfl (Or.inl rfl) (pe_lst (pa_cons (pe_tup (pa_cons pe_str (pa_cons (pv 7) (pa_cons pe_non (pa_cons (pe_tup (pa_cons (pv 2) (pa_cons (pv 4) pa_nil))) pa_nil))))) (pa_cons (pe_tup (pa_cons pe_str (pa_cons (pv 7) (pa_cons pe_non (pa_cons (pe_tup (pa_cons (pv 2) (pa_cons (pv 4) pa_nil))) (pa_cons (pv 8) pa_nil)))))) (pa_cons (pe_tup (pa_cons pe_str (pa_cons (pv 7) (pa_cons pe_non (pa_cons (pe_tup (pa_cons (pv 2) (pa_cons (pv 4) pa_nil))) (pa_cons (pv 9) pa_nil)))))) pa_nil)))))
    (pss_cons (ps_set (i := 11) sc_law_claims.nd rfl (Or.inl rfl) (pe_ix (ix_listK (K := K)) (pv 10) (pe_ifExp (pt_cmp (pc_isN (pv 8)) rfl) pe_int pe_int) (fun _ _ => rfl)))
    (pss_cons (ps_set (i := 12) sc_law_claims.nd rfl (Or.inl rfl) (pe_callZ c_law_paper (hr.mono (by decide)) (pa_cons (pv 11) pa_nil)))
    (pss_cons (ps_if (PW.pt (pw_or (pt_cmpR op_ne (pe_ix (ix_tupK (K := K)) (pv 12) pe_int (fun _ _ => rfl)) pe_str (nomark _)) (pw_or1 (pt_cmpR op_notBl (pe_callZ c_takes (hr.mono (by decide)) (pa_cons (pv 5) (pa_cons (pv 11) (pa_cons (pe_ix (ix_tupK (K := K)) (pv 12) pe_int (fun _ _ => rfl)) pa_nil)))) pe_bl (nomark _))))) (pss_one (ps_ret pe_bl)) pss_nil)
    (pss_one (ps_for PassesOwn.never rfl (pi_listK (K := K) (pe_ifExp (pt_cmp (pc_isN (pv 8)) rfl) (pe_lst (pa_cons (pe_ix (ix_listK (K := K)) (pv 10) pe_int (fun _ _ => rfl)) pa_nil)) (pe_lst (pa_cons (pe_ix (ix_listK (K := K)) (pv 10) pe_int (fun _ _ => rfl)) (pa_cons (pe_ix (ix_listK (K := K)) (pv 10) pe_int (fun _ _ => rfl)) pa_nil))))) (pg_name (i := 13) sc_law_claims.nd rfl (Or.inl rfl)) (pss_one (ps_if (PW.pt (pw_or (pt_cmpR (op_neK (K := K) hr.units) (pe_callZ c_law_paper (hr.mono (by decide)) (pa_cons (pv 13) pa_nil)) (pe_tup (pa_cons pe_str (pa_cons (pv 7) pa_nil))) (nomark _)) (pw_or1 (pt_cmpR op_notBl (pe_callZ c_takes (hr.mono (by decide)) (pa_cons (pv 5) (pa_cons (pv 13) (pa_cons (pe_ix (ix_tupK (K := K)) (pv 12) pe_int (fun _ _ => rfl)) pa_nil)))) pe_bl (nomark _))))) (pss_one (ps_ret pe_bl)) pss_nil))))))))))
    (pss_one (ps_ret pe_bl))))))))), ?_⟩
  try dsimp only [cxK]
  rintro zs o R ⟨s, p, rfl, rfl, k⟩
  repeat walk_at "q"
  refine we_call ?_
  repeat walk_at "q"
  refine ⟨rfl, s, p, 12, rfl, rfl, by decide, fun n1 hn1 => ?_⟩
  repeat walk_at "q"
  refine we_call ?_
  repeat walk_at "q"
  refine ⟨rfl, s, _, 2, rfl, rfl, by decide, fun k1 hk1 => ?_⟩
  refine zo_i (show CMul _ k1 from Or.inr (by omega)) ?_
  repeat walk_at "q"
  obtain ⟨x, ex, hx⟩ : ∃ x : Int, x = n1.fmod (1 * 2 ^ Int.toNat 90) - 1 * 2 ^ Int.toNat 89 * k1 ∧ x.natAbs ≤ 2 ^ 90 := ⟨_, rfl, x_lim hk1⟩
  rw [← ex]
  clear ex
  refine we_call ?_
  repeat walk_at "q"
  refine ⟨rfl, s, _, 12, rfl, rfl, by decide, fun n2 hn2 => ?_⟩
  repeat walk_at "q"
  refine we_call ?_
  repeat walk_at "q"
  refine ⟨rfl, s, _, 5, rfl, rfl, by decide, fun k2 hk2 => ?_⟩
  obtain ⟨y, ey, hy⟩ := y_lim (n := n2) hx hk2
  refine zo_ixL ey ?_
  clear ey
  repeat walk_at "q"
  refine we_make ?_
  repeat walk_at "q"
  refine we_call ?_
  repeat walk_at "q"
  refine ⟨rfl, 4096, 30, rfl, rfl, by decide, by decide, ?_⟩
  repeat walk_at "q"
  obtain ⟨L, hL⟩ : ∃ L, L = pbl 4096 30 := ⟨_, rfl⟩
  have okg : JOk 12 (.good L) := ⟨by decide, fun l hl => by cases hl; subst hL; exact ⟨pbl_desc _ _, Nat.le_trans (pbl_len _ _) (by decide)⟩, fun l hl => nomatch hl⟩
  rw [show pbl (4096 : Int).toNat (30 : Int).toNat = L from hL.symm]
  refine ⟨rfl, fun g dg => ⟨g, dg, 12, .good L, rfl, rfl, okg, rfl, fun c' hc => ?_⟩⟩
  cases oneJ hc
  have hx2 : x.natAbs < 2 ^ 2000 := Nat.lt_of_le_of_lt hx (Nat.pow_lt_pow_right (by decide) (by decide))
  have hy2 : y.natAbs < 2 ^ 2000 := Nat.lt_of_le_of_lt hy (Nat.pow_lt_pow_right (by decide) (by decide))
  refine ws_mid (fun r o => r = [some (.scr s), some (.int p), some (.int x), some (.int n2), some (.int y), some (.ref g), some (.lst ((dueL x y).take 5)), none, none, none, none, none, none, none] ∧ o = [(g, jO JC dg 12 (.good L) 0 0)]) ?_ ?_
  · repeat walk_at "q"
    refine zo_i (wide_mul hx2 hy2 (by decide) (by decide) (by decide)) ?_
    repeat walk_at "q"
    exact ⟨rfl, rfl⟩
  rintro r o ⟨rfl, rfl⟩
  refine ws_mid (fun r o => r = [some (.scr s), some (.int p), some (.int x), some (.int n2), some (.int y), some (.ref g), some (.lst (dueL x y)), none, none, none, none, none, none, none] ∧ o = [(g, jO JC dg 12 (.good L) 0 0)]) ?_ ?_
  · by_cases hy0 : 0 < y
    · have hd : dueL x y = (dueL x y).take 5 ++ [.tup [.str "quotient", .int (x / y)], .tup [.str "rest", .int (x.fmod y)]] := by
        unfold dueL
        rw [if_pos hy0, if_pos hy0]
        rfl
      repeat walk_at "q"
      refine ⟨fun _ => ?_, fun h => absurd hy0 (dec_f h)⟩
      repeat walk_at "q"
      refine zo_i (wide_div hy0 hy2 (by decide) (by decide)) ?_
      repeat walk_at "q"
      refine ⟨fun _ => ?_, fun h => absurd hy0 (dec_f h)⟩
      repeat walk_at "q"
      rw [hd]
      exact ⟨Nat.le_of_ble_eq_true rfl, rfl, rfl⟩
    · have hd : dueL x y = (dueL x y).take 5 ++ [.tup [.str "quotient", .non], .tup [.str "rest", .non]] := by
        unfold dueL
        rw [if_neg hy0, if_neg hy0]
        rfl
      repeat walk_at "q"
      refine ⟨fun h => absurd (dec_t h) hy0, fun _ => ?_⟩
      repeat walk_at "q"
      refine ⟨fun h => absurd (dec_t h) hy0, fun _ => ?_⟩
      repeat walk_at "q"
      rw [hd]
      exact ⟨Nat.le_of_ble_eq_true rfl, rfl, rfl⟩
  rintro r o ⟨rfl, rfl⟩
  repeat walk_at "q"
  refine ⟨fun i r o => ∃ (x7 x8 x9 x10 x11 x12 x13 : Option Z) (st mo : Int), r = [some (.scr s), some (.int p), some (.int x), some (.int n2), some (.int y), some (.ref g), some (.lst (dueL x y)), x7, x8, x9, x10, x11, x12, x13] ∧ o = [(g, jO JC dg 12 (.good L) st mo)], ⟨none, none, none, none, none, none, none, 0, 0, rfl, rfl⟩, ?_, ?_⟩
  · rintro i z r o hz ⟨x7, x8, x9, x10, x11, x12, x13, st, mo, rfl, rfl⟩
    obtain ⟨op, due, right, l, v, rfl, D⟩ := due_ok hx hy hz
    repeat walk_at "x"
    refine WE.imp (P := fun z o1 => OtherOk due z ∧ o1 = [(g, jO JC dg 12 (.good L) st mo)]) ?_ ?_
    · rcases D.rr with ⟨rfl, rfl⟩ | ⟨rfl, ⟨v, rfl⟩ | ⟨b, rfl⟩⟩
      · repeat walk_at "q"
        refine ⟨false, isA_nonb, ?_⟩
        repeat walk_at "q"
        exact ⟨.non, rfl⟩
      · repeat walk_at "q"
        refine ⟨false, isA_intb _, ?_⟩
        repeat walk_at "q"
        refine ⟨fun h => (nomatch h), fun _ => ?_⟩
        repeat walk_at "q"
        refine we_call ?_
        repeat walk_at "q"
        refine ⟨rfl, s, p, 2, rfl, rfl, by decide, fun k3 hk3 => ?_⟩
        refine zo_i (show CMul 2 k3 from Or.inr (by omega)) ?_
        repeat walk_at "q"
        exact ⟨.int v k3 hk3, rfl⟩
      · repeat walk_at "q"
        refine ⟨true, isA_bl _, ?_⟩
        repeat walk_at "q"
        exact ⟨.bl b, rfl⟩
    rintro ot o1 ⟨hot, rfl⟩
    have B2 := D.bad2 ot hot
    rcases D.rr with ⟨rfl, rfl⟩ | ⟨rfl, hdue⟩
    · repeat walk_at "q"
      refine we_call ?_
      repeat walk_at "q"
      refine ⟨rfl, op, x, y, v, none, rfl, rfl, ⟨hx2, hy2, D.hv, fun z h => nomatch h⟩, fun _ => ⟨l, D.pp, ?_⟩, fun h => Bool.noConfusion (D.so.symm.trans h)⟩
      repeat walk_at "q"
      refine we_call1 0 ?_
      repeat walk_at "q"
      refine ⟨rfl, g, _, rfl, g, dg, 12, .good L, st, mo, clZ op x y none, l, true, rfl, rfl, okg, D.ll, D.sl, hL ▸ D.tk, fun st1 mo1 c' hc => ?_⟩
      cases oneJ hc
      repeat walk_at "q"
      refine ⟨fun i r o => ∃ (x13 : Option Z) (st mo : Int), r = [some (.scr s), some (.int p), some (.int x), some (.int n2), some (.int y), some (.ref g), some (.lst (dueL x y)), some (.str op), some .non, some ot, some (.lst [clZ op x y none, .tup [.str "value", .str op, .non, arg2 x y, .non], clZ op x y (some ot)]), some (clZ op x y none), some (.tup [.str "paper", .tup (l.map Z.int)]), x13] ∧ o = [(g, jO JC dg 12 (.good L) st mo)], ⟨x13, st1, mo1, rfl, rfl⟩, ?_, ?_⟩
      · rintro i z r o hz ⟨x13, st, mo, rfl, rfl⟩
        obtain ⟨c, rfl, sc, kc, hcc⟩ : ∃ c, z = clZ op x y c ∧ soB v c = false ∧ TkV (.good L) l (clZ op x y c) false ∧ ∀ z, c = some z → z.sc = true ∧ (∀ s, z ≠ .str s) ∧ z ≠ .non := by
          match i, hz with
          | 0, hz => cases hz; exact ⟨some ot, rfl, B2.1, hL ▸ B2.2, fun z h => by cases h; exact other_sc hot⟩
          | n + 1, hz => cases hz
        repeat walk_at "q"
        refine we_call ?_
        repeat walk_at "q"
        refine ⟨rfl, op, x, y, v, c, rfl, rfl, ⟨hx2, hy2, D.hv, hcc⟩, fun h => Bool.noConfusion (sc.symm.trans h), fun _ => ?_⟩
        repeat walk_at "q"
        refine zo_neD ⟨rfl, rfl, ns_shaped D.hv, ns_shaped D.hv, ?_⟩
        rw [eqv_self _ (SeqAt.canLay_of_shaped (ns_shaped D.hv))]
        repeat walk_at "q"
        refine we_call1 0 ?_
        repeat walk_at "q"
        refine ⟨rfl, g, _, rfl, g, dg, 12, .good L, st, mo, clZ op x y c, l, false, rfl, rfl, okg, D.ll, D.sl, kc, fun st2 mo2 c' hc => ?_⟩
        cases oneJ hc
        repeat walk_at "q"
        exact ⟨_, st2, mo2, rfl, rfl⟩
      · rintro r o ⟨x13, st, mo, rfl, rfl⟩
        repeat walk_at "q"
        exact ⟨_, _, _, _, _, _, _, st, mo, rfl, rfl⟩
    have hdn : due ≠ .non := by rcases hdue with ⟨i, rfl⟩ | ⟨b, rfl⟩ <;> exact fun h => nomatch h
    have B0 := D.bad0 hdn
    rcases hdue with ⟨vi, rfl⟩ | ⟨vb, rfl⟩
    · repeat walk_at "q"
      refine ⟨fun h => (nomatch h), fun _ => ?_⟩
      repeat walk_at "q"
      refine we_call ?_
      repeat walk_at "q"
      refine ⟨rfl, op, x, y, v, (some (.int vi)), rfl, rfl, ⟨hx2, hy2, D.hv, fun z h => by cases h; exact ⟨rfl, fun s h => (nomatch h), fun h => (nomatch h)⟩⟩, fun _ => ⟨l, D.pp, ?_⟩, fun h => Bool.noConfusion (D.so.symm.trans h)⟩
      repeat walk_at "q"
      refine we_call1 0 ?_
      repeat walk_at "q"
      refine ⟨rfl, g, _, rfl, g, dg, 12, .good L, st, mo, clZ op x y (some (.int vi)), l, true, rfl, rfl, okg, D.ll, D.sl, hL ▸ D.tk, fun st1 mo1 c' hc => ?_⟩
      cases oneJ hc
      repeat walk_at "q"
      refine ⟨fun h => (nomatch h), fun _ => ?_⟩
      repeat walk_at "q"
      refine ⟨fun i r o => ∃ (x13 : Option Z) (st mo : Int), r = [some (.scr s), some (.int p), some (.int x), some (.int n2), some (.int y), some (.ref g), some (.lst (dueL x y)), some (.str op), some (.int vi), some ot, some (.lst [clZ op x y none, .tup [.str "value", .str op, .non, arg2 x y, (.int vi)], clZ op x y (some ot)]), some (clZ op x y (some (.int vi))), some (.tup [.str "paper", .tup (l.map Z.int)]), x13] ∧ o = [(g, jO JC dg 12 (.good L) st mo)], ⟨x13, st1, mo1, rfl, rfl⟩, ?_, ?_⟩
      · rintro i z r o hz ⟨x13, st, mo, rfl, rfl⟩
        obtain ⟨c, rfl, sc, kc, hcc⟩ : ∃ c, z = clZ op x y c ∧ soB v c = false ∧ TkV (.good L) l (clZ op x y c) false ∧ ∀ z, c = some z → z.sc = true ∧ (∀ s, z ≠ .str s) ∧ z ≠ .non := by
          match i, hz with
          | 0, hz => cases hz; exact ⟨none, rfl, B0.1, hL ▸ B0.2, fun z h => nomatch h⟩
          | 1, hz => cases hz; exact ⟨some ot, rfl, B2.1, hL ▸ B2.2, fun z h => by cases h; exact other_sc hot⟩
          | n + 2, hz => cases hz
        repeat walk_at "q"
        refine we_call ?_
        repeat walk_at "q"
        refine ⟨rfl, op, x, y, v, c, rfl, rfl, ⟨hx2, hy2, D.hv, hcc⟩, fun h => Bool.noConfusion (sc.symm.trans h), fun _ => ?_⟩
        repeat walk_at "q"
        refine zo_neD ⟨rfl, rfl, ns_shaped D.hv, ns_shaped D.hv, ?_⟩
        rw [eqv_self _ (SeqAt.canLay_of_shaped (ns_shaped D.hv))]
        repeat walk_at "q"
        refine we_call1 0 ?_
        repeat walk_at "q"
        refine ⟨rfl, g, _, rfl, g, dg, 12, .good L, st, mo, clZ op x y c, l, false, rfl, rfl, okg, D.ll, D.sl, kc, fun st2 mo2 c' hc => ?_⟩
        cases oneJ hc
        repeat walk_at "q"
        exact ⟨_, st2, mo2, rfl, rfl⟩
      · rintro r o ⟨x13, st, mo, rfl, rfl⟩
        repeat walk_at "q"
        exact ⟨_, _, _, _, _, _, _, st, mo, rfl, rfl⟩
    · repeat walk_at "q"
      refine ⟨fun h => (nomatch h), fun _ => ?_⟩
      repeat walk_at "q"
      refine we_call ?_
      repeat walk_at "q"
      refine ⟨rfl, op, x, y, v, (some (.bl vb)), rfl, rfl, ⟨hx2, hy2, D.hv, fun z h => by cases h; exact ⟨rfl, fun s h => (nomatch h), fun h => (nomatch h)⟩⟩, fun _ => ⟨l, D.pp, ?_⟩, fun h => Bool.noConfusion (D.so.symm.trans h)⟩
      repeat walk_at "q"
      refine we_call1 0 ?_
      repeat walk_at "q"
      refine ⟨rfl, g, _, rfl, g, dg, 12, .good L, st, mo, clZ op x y (some (.bl vb)), l, true, rfl, rfl, okg, D.ll, D.sl, hL ▸ D.tk, fun st1 mo1 c' hc => ?_⟩
      cases oneJ hc
      repeat walk_at "q"
      refine ⟨fun h => (nomatch h), fun _ => ?_⟩
      repeat walk_at "q"
      refine ⟨fun i r o => ∃ (x13 : Option Z) (st mo : Int), r = [some (.scr s), some (.int p), some (.int x), some (.int n2), some (.int y), some (.ref g), some (.lst (dueL x y)), some (.str op), some (.bl vb), some ot, some (.lst [clZ op x y none, .tup [.str "value", .str op, .non, arg2 x y, (.bl vb)], clZ op x y (some ot)]), some (clZ op x y (some (.bl vb))), some (.tup [.str "paper", .tup (l.map Z.int)]), x13] ∧ o = [(g, jO JC dg 12 (.good L) st mo)], ⟨x13, st1, mo1, rfl, rfl⟩, ?_, ?_⟩
      · rintro i z r o hz ⟨x13, st, mo, rfl, rfl⟩
        obtain ⟨c, rfl, sc, kc, hcc⟩ : ∃ c, z = clZ op x y c ∧ soB v c = false ∧ TkV (.good L) l (clZ op x y c) false ∧ ∀ z, c = some z → z.sc = true ∧ (∀ s, z ≠ .str s) ∧ z ≠ .non := by
          match i, hz with
          | 0, hz => cases hz; exact ⟨none, rfl, B0.1, hL ▸ B0.2, fun z h => nomatch h⟩
          | 1, hz => cases hz; exact ⟨some ot, rfl, B2.1, hL ▸ B2.2, fun z h => by cases h; exact other_sc hot⟩
          | n + 2, hz => cases hz
        repeat walk_at "q"
        refine we_call ?_
        repeat walk_at "q"
        refine ⟨rfl, op, x, y, v, c, rfl, rfl, ⟨hx2, hy2, D.hv, hcc⟩, fun h => Bool.noConfusion (sc.symm.trans h), fun _ => ?_⟩
        repeat walk_at "q"
        refine zo_neD ⟨rfl, rfl, ns_shaped D.hv, ns_shaped D.hv, ?_⟩
        rw [eqv_self _ (SeqAt.canLay_of_shaped (ns_shaped D.hv))]
        repeat walk_at "q"
        refine we_call1 0 ?_
        repeat walk_at "q"
        refine ⟨rfl, g, _, rfl, g, dg, 12, .good L, st, mo, clZ op x y c, l, false, rfl, rfl, okg, D.ll, D.sl, kc, fun st2 mo2 c' hc => ?_⟩
        cases oneJ hc
        repeat walk_at "q"
        exact ⟨_, st2, mo2, rfl, rfl⟩
      · rintro r o ⟨x13, st, mo, rfl, rfl⟩
        repeat walk_at "q"
        exact ⟨_, _, _, _, _, _, _, st, mo, rfl, rfl⟩
  · rintro r o ⟨x7, x8, x9, x10, x11, x12, x13, st, mo, rfl, rfl⟩
    repeat walk_at "q"
    exact fin0 k
end

/-! ## B24 -/
section
variable {w : World} {K : PySem.W.Frag} {mg : Str → Option Value} {base : Heap}
def tz_law : TZ := fun zs o R => ∃ (s : List Int), zs = [.scr s] ∧ o = [] ∧ R (.bl true) []
theorem fnZ_mk {x qual : Str} {st : Stmt} {k : Nat} {ps N : List Str} {T : TZ} {f : Addr} {fd : FuncData} (F : L2.Fun K x qual st f fd) (S : FnScope N ps (defScope st))
    (hbody : ∀ (cdv : Value) (A : Around) (outer : List Env) (s : Shared) (H : Hp) (E : XK), Room k (A.deeper (envOfC qual (defScope st) s.heap.objs.size f cdv)) →
      ∃ t, PSs (cxOf CX0 P0 w K mg base N qual (defScope st) f cdv A outer s H E).nox (defBody st) t ∧ ∀ zs o R, T zs o R → WS K t (fun _ o' => FinZ R o .non o') (FinZ R o) nN nN (startZ N.length zs) o) :
    FnOk P0 w K mg base CX0 (k + 1) f fd ps (spZ K ps.length T) := F.ok S spZ.len fun cdv A outer s H vs Q E hr hs => by
  obtain ⟨t, h2, h3⟩ := hbody cdv A outer s H E hr
  exact ⟨t, h2, spZ.run hs h3⟩
def J4 (JC g dg : Addr) (b : Nat) (jg : JP) (s1 n1 : Int) (a da : Addr) (c : Nat) (ja : JP) (s2 n2 : Int) (m1 m2 : Addr) : OO := [(g, jO JC dg b jg s1 n1), (a, jO JC da c ja s2 n2), (m1, .lst (mdl b jg s1 n1)), (m2, .lst (mdl c ja s2 n2))]
theorem twoJ {JC j dx m : Addr} {b : Nat} {jp : JP} {st mo : Int} {c' d' : OZ} (h : JMo JC j dx m b jp st mo = [(j, c'), (m, d')]) : c' = jO JC dx b jp st mo ∧ d' = .lst (mdl b jp st mo) := by
  cases h
  exact ⟨rfl, rfl⟩
abbrev st_law : Stmt := top 441
abbrev N_law : List Str := ["script", "bits", "other", "points", "others", "judges", "models", "k", "side"]
theorem sc_law : FnScope N_law ["script"] (defScope st_law) := ⟨rfl, rfl, rfl, by decide +kernel, rfl, by decide +kernel, by decide +kernel⟩
theorem c_law {NC JC : Addr} (T : Tx K mg) (J : TJ K mg JC) (N : TN K mg NC) {f : Addr} {fd : FuncData} (F : L2.Fun K "law" "law" (top 441) f fd) : FnOk P0 w K mg base CX0 11 f fd ["script"] (spZ K 1 tz_law) := by
  refine fnZ_mk F sc_law fun cdv A outer s H E hr => ?_
  have c_Judge := @c_Judge w K mg base JC T J
  have c_law_bad := @c_law_bad w K mg base JC T J
  have c_law_call := @c_law_call w K mg base JC T J
  have c_law_claims := @c_law_claims w K mg base NC JC T J N
  have c_law_one := @c_law_one w K mg base JC T J
  have c_law_points := @c_law_points w K mg base JC T J
  have c_law_state := @c_law_state w K mg base JC T J
  refine ⟨_, (pss_cons (ps_set (i := 1) sc_law.nd rfl (Or.inl rfl) (pe_op op_add pe_int (pe_callZ c_law_one (hr.mono (by decide)) (pa_cons (pv 0) (pa_cons pe_int (pa_cons pe_int pa_nil))))))
    (pss_cons (ps_set (i := 2) sc_law.nd rfl (Or.inl rfl) (pe_op op_add pe_int (pe_callZ c_law_one (hr.mono (by decide)) (pa_cons (pv 0) (pa_cons pe_int (pa_cons pe_int pa_nil))))))
    (pss_cons (ps_set (i := 3) sc_law.nd rfl (Or.inl rfl) (pe_callZ c_law_points (hr.mono (by decide)) (pa_cons (pv 0) (pa_cons pe_int (pa_cons (pv 1) pa_nil)))))
    (pss_cons (ps_set (i := 4) sc_law.nd rfl (Or.inl rfl) (pe_ifExp (pt_cmpR op_eq (pe_callZ c_law_one (hr.mono (by decide)) (pa_cons (pv 0) (pa_cons pe_int (pa_cons pe_int pa_nil)))) pe_int (nomark _)) pe_non (pe_callZ c_law_points (hr.mono (by decide)) (pa_cons (pv 0) (pa_cons pe_int (pa_cons (pv 2) pa_nil))))))
    (pss_cons (ps_set (i := 5) sc_law.nd rfl (Or.inl rfl) (pe_lst (pa_cons (pe_mkZ c_Judge (hr.mono (by decide)) (pa_cons (pv 1) (pa_cons (pv 3) pa_nil))) (pa_cons (pe_mkZ c_Judge (hr.mono (by decide)) (pa_cons (pv 2) (pa_cons (pv 4) pa_nil))) pa_nil))))
    (pss_cons (ps_set (i := 6) sc_law.nd rfl (Or.inl rfl) (pe_lst (pa_cons (pe_lst (pa_cons (pv 1) (pa_cons (pv 3) (pa_cons pe_int (pa_cons pe_int pa_nil))))) (pa_cons (pe_lst (pa_cons (pv 2) (pa_cons (pv 4) (pa_cons pe_int (pa_cons pe_int pa_nil))))) pa_nil))))
    (pss_cons (ps_for PassesOwn.never rfl (pi_range1 (by rfl) T.b_range (pa_cons pe_int pa_nil)) (pg_name (i := 7) sc_law.nd rfl (Or.inl rfl)) (pss_cons (ps_set (i := 8) sc_law.nd rfl (Or.inl rfl) (pe_op op_fdivN (pe_callZ c_law_one (hr.mono (by decide)) (pa_cons (pv 0) (pa_cons (pe_op op_add pe_int (pv 7)) (pa_cons pe_int pa_nil)))) pe_int))
    (pss_cons (ps_if (pt_not (pt_val (pe_callZ c_law_call (hr.mono (by decide)) (pa_cons (pv 0) (pa_cons (pe_op op_add pe_int (pe_op op_mul pe_int (pv 7))) (pa_cons (pe_ix (ix_listK (K := K)) (pv 5) (pv 8) (fun _ _ => rfl)) (pa_cons (pe_ix (ix_listK (K := K)) (pv 6) (pv 8) (fun _ _ => rfl)) pa_nil))))))) (pss_one (ps_ret pe_bl)) pss_nil)
    (pss_one (ps_if (PW.pt (pw_or (pt_not (pt_val (pe_callZ c_law_state (hr.mono (by decide)) (pa_cons (pe_ix (ix_listK (K := K)) (pv 5) pe_int (fun _ _ => rfl)) (pa_cons (pe_ix (ix_listK (K := K)) (pv 6) pe_int (fun _ _ => rfl)) pa_nil))))) (pw_or1 (pt_not (pt_val (pe_callZ c_law_state (hr.mono (by decide)) (pa_cons (pe_ix (ix_listK (K := K)) (pv 5) pe_int (fun _ _ => rfl)) (pa_cons (pe_ix (ix_listK (K := K)) (pv 6) pe_int (fun _ _ => rfl)) pa_nil)))))))) (pss_one (ps_ret pe_bl)) pss_nil)))))
    (pss_one (ps_ret (pe_and (pe_callZ c_law_bad (hr.mono (by decide)) (pa_cons (pv 0) (pa_cons pe_int (pa_cons (pv 1) pa_nil)))) (pe_one (pe_callZ c_law_claims (hr.mono (by decide)) (pa_cons (pv 0) (pa_cons pe_int pa_nil)))))))))))))), ?_⟩
  try dsimp only [cxK]
  rintro zs o R ⟨s, rfl, rfl, k⟩
  repeat walk_at "q"
  refine we_call ?_
  repeat walk_at "q"
  refine ⟨rfl, s, 0, 9, rfl, rfl, by decide, fun b0 hb0 => ?_⟩
  repeat walk_at "q"
  refine we_call ?_
  repeat walk_at "q"
  refine ⟨rfl, s, 1, 9, rfl, rfl, by decide, fun b1 hb1 => ?_⟩
  repeat walk_at "q"
  obtain ⟨b, hb, hbb⟩ : ∃ b : Nat, 8 + b0 = (b : Int) ∧ 8 ≤ b ∧ b ≤ 16 := ⟨(8 + b0).toNat, by omega, by omega⟩
  obtain ⟨c, hc, hcc⟩ : ∃ c : Nat, 8 + b1 = (c : Int) ∧ 8 ≤ c ∧ c ≤ 16 := ⟨(8 + b1).toNat, by omega, by omega⟩
  rw [hb, hc]
  refine we_call ?_
  repeat walk_at "q"
  refine ⟨rfl, s, 2, b, rfl, rfl, hbb, fun ps hps hpl => ?_⟩
  repeat walk_at "x"
  have okp : JOk b (.good ps) := ⟨by omega, fun l h => by cases h; exact ⟨hps, hpl⟩, fun l h => nomatch h⟩
  refine WE.imp (P := fun z o1 => o1 = [] ∧ ∃ jq : JP, z = jq.z ∧ JOk c jq ∧ jq.g = true) (we_if ?_) ?_
  · repeat walk_at "q"
    refine we_call ?_
    repeat walk_at "q"
    refine ⟨rfl, s, 3, 3, rfl, rfl, by decide, fun u hu => ?_⟩
    repeat walk_at "q"
    refine ⟨fun _ => ?_, fun _ => ?_⟩
    · repeat walk_at "q"
      exact ⟨rfl, .no, rfl, ⟨by omega, fun l h => (nomatch h), fun l h => (nomatch h)⟩, rfl⟩
    · refine we_call ?_
      repeat walk_at "q"
      refine ⟨rfl, s, 4, c, rfl, rfl, hcc, fun qs h1 h2 => ?_⟩
      exact ⟨rfl, .good qs, rfl, ⟨by omega, fun l h => by cases h; exact ⟨h1, h2⟩, fun l h => (nomatch h)⟩, rfl⟩
  rintro z o ⟨rfl, jq, rfl, okq, gq⟩
  refine ws_mid (fun r o => ∃ j1 d1 j2 d2 : Addr, r = [some (.scr s), some (.int b), some (.int c), some (zn ps), some jq.z, some (.lst [.ref j1, .ref j2]), none, none, none] ∧ o = J2 JC j1 d1 b (.good ps) 0 0 j2 d2 c jq 0 0) ?_ ?_
  · repeat walk_at "q"
    refine we_make ?_
    repeat walk_at "q"
    refine ⟨rfl, fun j1 d1 => ⟨j1, d1, b, .good ps, rfl, rfl, okp, rfl, fun c' hc => ?_⟩⟩
    cases oneJ hc
    repeat walk_at "q"
    refine we_make ?_
    repeat walk_at "q"
    refine ⟨rfl, fun j2 d2 => ⟨j2, d2, c, jq, rfl, rfl, okq, rfl, fun c' hc => ?_⟩⟩
    cases oneJ hc
    repeat walk_at "q"
    exact ⟨j1, d1, j2, d2, rfl, rfl⟩
  rintro r o ⟨j1, d1, j2, d2, rfl, rfl⟩
  refine ws_mid (fun r o => ∃ m1 m2 : Addr, r = [some (.scr s), some (.int b), some (.int c), some (zn ps), some jq.z, some (.lst [.ref j1, .ref j2]), some (.lst [.ref m1, .ref m2]), none, none] ∧ o = J4 JC j1 d1 b (.good ps) 0 0 j2 d2 c jq 0 0 m1 m2) ?_ ?_
  · refine ws_asg (we_lst (wa_cons (we_own ?_)))
    repeat walk_at "q"
    intro m1
    refine wa_cons (we_own ?_)
    repeat walk_at "q"
    intro m2
    repeat walk_at "q"
    exact ⟨m1, m2, rfl, rfl⟩
  rintro r o ⟨m1, m2, rfl, rfl⟩
  repeat walk_at "q"
  refine ⟨12, rfl, by decide, by decide, fun i r o => ∃ (x7 x8 : Option Z) (s1 n1 s2 n2 : Int), r = [some (.scr s), some (.int b), some (.int c), some (zn ps), some jq.z, some (.lst [.ref j1, .ref j2]), some (.lst [.ref m1, .ref m2]), x7, x8] ∧ o = J4 JC j1 d1 b (.good ps) s1 n1 j2 d2 c jq s2 n2 m1 m2, ⟨none, none, 0, 0, 0, 0, rfl, rfl⟩, ?_, ?_⟩
  · rintro i z r o hz ⟨x7, x8, s1, n1, s2, n2, rfl, rfl⟩
    obtain ⟨hi, rfl⟩ := upFrom_of hz
    have hi12 : i < 12 := hi
    repeat walk_at "q"
    refine we_call ?_
    repeat walk_at "q"
    refine ⟨rfl, s, _, 3, rfl, rfl, by decide, fun u hu => ?_⟩
    repeat walk_at "q"
    have hs : u.fdiv 2 = 0 ∨ u.fdiv 2 = 1 := by
      have : u = 0 ∨ u = 1 ∨ u = 2 := by omega
      rcases this with rfl | rfl | rfl <;> decide
    rcases hs with hs | hs
    · rw [hs]
      repeat walk_at "q"
      refine we_call2 0 2 (by decide) ?_
      repeat walk_at "q"
      refine ⟨rfl, j1, _, m1, _, rfl, rfl, s, _, j1, d1, m1, b, .good ps, s1, n1, rfl, rfl, okp, rfl, fun st' mo' c' d' h => ?_⟩
      obtain ⟨rfl, rfl⟩ := twoJ h
      repeat walk_at "q"
      refine we_call2 0 2 (by decide) ?_
      repeat walk_at "q"
      refine ⟨rfl, j1, _, m1, _, rfl, rfl, j1, d1, m1, b, .good ps, _, _, rfl, rfl, rfl, fun c' d' h => ?_⟩
      obtain ⟨rfl, rfl⟩ := twoJ h
      repeat walk_at "q"
      refine we_call2 1 3 (by decide) ?_
      repeat walk_at "q"
      refine ⟨rfl, j2, _, m2, _, rfl, rfl, j2, d2, m2, c, jq, _, _, rfl, rfl, gq, fun c' d' h => ?_⟩
      obtain ⟨rfl, rfl⟩ := twoJ h
      repeat walk_at "q"
      exact ⟨_, _, st', mo', s2, n2, rfl, rfl⟩
    · rw [hs]
      repeat walk_at "q"
      refine we_call2 1 3 (by decide) ?_
      repeat walk_at "q"
      refine ⟨rfl, j2, _, m2, _, rfl, rfl, s, _, j2, d2, m2, c, jq, s2, n2, rfl, rfl, okq, gq, fun st' mo' c' d' h => ?_⟩
      obtain ⟨rfl, rfl⟩ := twoJ h
      repeat walk_at "q"
      refine we_call2 0 2 (by decide) ?_
      repeat walk_at "q"
      refine ⟨rfl, j1, _, m1, _, rfl, rfl, j1, d1, m1, b, .good ps, _, _, rfl, rfl, rfl, fun c' d' h => ?_⟩
      obtain ⟨rfl, rfl⟩ := twoJ h
      repeat walk_at "q"
      refine we_call2 1 3 (by decide) ?_
      repeat walk_at "q"
      refine ⟨rfl, j2, _, m2, _, rfl, rfl, j2, d2, m2, c, jq, _, _, rfl, rfl, gq, fun c' d' h => ?_⟩
      obtain ⟨rfl, rfl⟩ := twoJ h
      repeat walk_at "q"
      exact ⟨_, _, s1, n1, st', mo', rfl, rfl⟩
  · rintro r o ⟨x7, x8, s1, n1, s2, n2, rfl, rfl⟩
    repeat walk_at "q"
    refine we_call ?_
    repeat walk_at "q"
    refine ⟨rfl, s, 6, b, rfl, rfl, hbb, ?_⟩
    repeat walk_at "q"
    refine we_call ?_
    repeat walk_at "q"
    refine ⟨rfl, s, 7, rfl, rfl, ?_⟩
    exact fin0 k
end

end K76

/-! ## HdF -/
namespace K76
open PySem PySem.W PyProof.Rows L2
def asZ0 : List Addr := [3, 2, 0, 46, 45, 24, 23, 43, 42, 31, 192, 191, 55, 54, 62, 61, 69, 68, 76, 75, 83, 82, 90, 89, 97, 96, 102, 101, 109, 108, 116, 115, 203, 202, 208, 207, 1035, 1034, 1042, 1041]
def asZ1 : List Addr := [1084, 1083, 1093, 1092, 1107, 1106, 1121, 1120, 1128, 1127, 1135, 1134, 2152, 2151, 2197, 2196, 2309, 2308, 2346, 2345, 2360, 2359, 2367, 2366, 2374, 2373, 2381, 2380, 2388, 2387, 2395, 2394, 2402, 2401, 2409, 2408, 2414, 2413, 2421, 2420]
def asZ2 : List Addr := [2428, 2427, 2433, 2432, 2440, 2439, 2447, 2446, 2452, 2451, 2457, 2456, 2462, 2461, 2469, 2468, 2474, 2473, 2481, 2480, 2488, 2487, 2495, 2494, 2500, 2499, 2507, 2506, 2512, 2511, 2519, 2518, 2526, 2525, 2533, 2532, 2540, 2539, 1114, 2337]
def asZ3 : List Addr := [1109, 2190, 1111, 1085, 2339, 1112, 2338, 2189, 1110, 1086, 1113, 2336, 2188, 1108, 130, 129, 137, 136, 144, 143, 149, 148, 156, 155, 163, 162, 170, 169, 177, 176, 184, 183, 189, 188]
def asZ : List Addr := asZ0 ++ asZ1 ++ asZ2 ++ asZ3
def faZ0 : List He.Fa := [.free "len", .free "abs", .free "int", .free "max", .free "min", .free "sum", .free "range", .free "tuple", .free "list", .free "isinstance", .free "sorted", .free "enumerate", .free "zip", .free "reversed", .free "super", .free "bool", .free "all", .glo "is_whole", .keep "is_whole", .glo "bits_of"]
def faZ1 : List He.Fa := [.keep "bits_of", .glo "words_of", .keep "words_of", .glo "is_word_prime", .keep "is_word_prime", .glo "weight_of", .keep "weight_of", .glo "are_good_points", .keep "are_good_points", .glo "used_points", .keep "used_points", .glo "need_of", .keep "need_of", .glo "trimmed", .keep "trimmed", .glo "product_words", .keep "product_words", .glo "is_parts", .keep "is_parts", .glo "is_numbers"]
def faZ2 : List He.Fa := [.keep "is_numbers", .glo "takes_ring", .keep "takes_ring", .glo "takes_division", .keep "takes_division", .glo "takes_truth", .keep "takes_truth", .glo "takes_whole", .keep "takes_whole", .glo "bars_whole", .keep "bars_whole", .glo "takes_value_judging", .keep "takes_value_judging", .glo "takes_none", .keep "takes_none", .glo "takes", .keep "takes", .glo "plain_whole", .keep "plain_whole", .glo "plain_value"]
def faZ3 : List He.Fa := [.keep "plain_value", .glo "whole_paper", .keep "whole_paper", .glo "value_paper", .keep "value_paper", .glo "bar_paper", .keep "bar_paper", .glo "is_so", .keep "is_so", .glo "paper_of", .keep "paper_of", .glo "_law_cell", .keep "_law_cell", .glo "_law_row", .keep "_law_row", .glo "_law_one", .keep "_law_one", .glo "_law_is_prime", .keep "_law_is_prime", .glo "_law_primes"]
def faZ4 : List He.Fa := [.keep "_law_primes", .glo "_law_points", .keep "_law_points", .glo "_law_number", .keep "_law_number", .glo "_law_words", .keep "_law_words", .glo "_law_need", .keep "_law_need", .glo "_law_total", .keep "_law_total", .glo "_law_used", .keep "_law_used", .glo "_law_exact", .keep "_law_exact", .glo "_law_hidden", .keep "_law_hidden", .glo "_law_drawn", .keep "_law_drawn", .glo "_law_terms"]
def faZ5 : List He.Fa := [.keep "_law_terms", .glo "_law_zero_due", .keep "_law_zero_due", .glo "_law_near", .keep "_law_near", .glo "_law_fractions", .keep "_law_fractions", .glo "_law_is_truth", .keep "_law_is_truth", .glo "_law_call", .keep "_law_call", .glo "_law_state", .keep "_law_state", .glo "_law_faulty", .keep "_law_faulty", .glo "_law_bad", .keep "_law_bad", .glo "_law_paper", .keep "_law_paper", .glo "_law_claims"]
def faZ6 : List He.Fa := [.keep "_law_claims", .glo "law", .keep "law", .glo "Judge", .cls "Judge", .noat "Judge" "bits", .noat "Judge" "points", .noat "Judge" "steps", .noat "Judge" "most", .noat "Judge" "good", .mkr "Judge", .meth "Judge" "rest_of", .meth "Judge" "leaves_none", .meth "Judge" "zero", .meth "Judge" "size_less", .meth "Judge" "less", .meth "Judge" "fraction_less", .meth "Judge" "most_of", .meth "Judge" "between", .meth "Judge" "equal"]
def faZ : List He.Fa := faZ0 ++ faZ1 ++ faZ2 ++ faZ3 ++ faZ4 ++ faZ5 ++ faZ6
def fnZ0 : List He.FnD := [⟨("is_whole", none), "is_whole", "is_whole", defArgs (top 4), defBody (top 4), defScope (top 4)⟩, ⟨("bits_of", none), "bits_of", "bits_of", defArgs (top 5), defBody (top 5), defScope (top 5)⟩, ⟨("words_of", none), "words_of", "words_of", defArgs (top 6), defBody (top 6), defScope (top 6)⟩, ⟨("is_word_prime", none), "is_word_prime", "is_word_prime", defArgs (top 8), defBody (top 8), defScope (top 8)⟩, ⟨("weight_of", none), "weight_of", "weight_of", defArgs (top 9), defBody (top 9), defScope (top 9)⟩, ⟨("are_good_points", none), "are_good_points", "are_good_points", defArgs (top 10), defBody (top 10), defScope (top 10)⟩, ⟨("used_points", none), "used_points", "used_points", defArgs (top 11), defBody (top 11), defScope (top 11)⟩, ⟨("need_of", none), "need_of", "need_of", defArgs (top 12), defBody (top 12), defScope (top 12)⟩, ⟨("trimmed", none), "trimmed", "trimmed", defArgs (top 14), defBody (top 14), defScope (top 14)⟩, ⟨("product_words", none), "product_words", "product_words", defArgs (top 16), defBody (top 16), defScope (top 16)⟩]
def fnZ1 : List He.FnD := [⟨("is_parts", none), "is_parts", "is_parts", defArgs (top 19), defBody (top 19), defScope (top 19)⟩, ⟨("is_numbers", none), "is_numbers", "is_numbers", defArgs (top 20), defBody (top 20), defScope (top 20)⟩, ⟨("takes_ring", none), "takes_ring", "takes_ring", defArgs (top 164), defBody (top 164), defScope (top 164)⟩, ⟨("takes_division", none), "takes_division", "takes_division", defArgs (top 165), defBody (top 165), defScope (top 165)⟩, ⟨("takes_truth", none), "takes_truth", "takes_truth", defArgs (top 171), defBody (top 171), defScope (top 171)⟩, ⟨("takes_whole", none), "takes_whole", "takes_whole", defArgs (top 174), defBody (top 174), defScope (top 174)⟩, ⟨("bars_whole", none), "bars_whole", "bars_whole", defArgs (top 176), defBody (top 176), defScope (top 176)⟩, ⟨("takes_value_judging", none), "takes_value", "takes_value", defArgs (top 185), defBody (top 185), defScope (top 185)⟩, ⟨("takes_none", none), "takes_none", "takes_none", defArgs (top 187), defBody (top 187), defScope (top 187)⟩, ⟨("takes", none), "takes", "takes", defArgs (top 188), defBody (top 188), defScope (top 188)⟩]
def fnZ2 : List He.FnD := [⟨("plain_whole", none), "plain_whole", "plain_whole", defArgs (top 372), defBody (top 372), defScope (top 372)⟩, ⟨("plain_value", none), "plain_value", "plain_value", defArgs (top 381), defBody (top 381), defScope (top 381)⟩, ⟨("whole_paper", none), "whole_paper", "whole_paper", defArgs (top 401), defBody (top 401), defScope (top 401)⟩, ⟨("value_paper", none), "value_paper", "value_paper", defArgs (top 410), defBody (top 410), defScope (top 410)⟩, ⟨("bar_paper", none), "bar_paper", "bar_paper", defArgs (top 412), defBody (top 412), defScope (top 412)⟩, ⟨("is_so", none), "is_so", "is_so", defArgs (top 413), defBody (top 413), defScope (top 413)⟩, ⟨("paper_of", none), "paper_of", "paper_of", defArgs (top 414), defBody (top 414), defScope (top 414)⟩, ⟨("_law_cell", none), "_law_cell", "_law_cell", defArgs (top 416), defBody (top 416), defScope (top 416)⟩, ⟨("_law_row", none), "_law_row", "_law_row", defArgs (top 417), defBody (top 417), defScope (top 417)⟩, ⟨("_law_one", none), "_law_one", "_law_one", defArgs (top 418), defBody (top 418), defScope (top 418)⟩]
def fnZ3 : List He.FnD := [⟨("_law_is_prime", none), "_law_is_prime", "_law_is_prime", defArgs (top 419), defBody (top 419), defScope (top 419)⟩, ⟨("_law_primes", none), "_law_primes", "_law_primes", defArgs (top 420), defBody (top 420), defScope (top 420)⟩, ⟨("_law_points", none), "_law_points", "_law_points", defArgs (top 421), defBody (top 421), defScope (top 421)⟩, ⟨("_law_number", none), "_law_number", "_law_number", defArgs (top 422), defBody (top 422), defScope (top 422)⟩, ⟨("_law_words", none), "_law_words", "_law_words", defArgs (top 423), defBody (top 423), defScope (top 423)⟩, ⟨("_law_need", none), "_law_need", "_law_need", defArgs (top 424), defBody (top 424), defScope (top 424)⟩, ⟨("_law_total", none), "_law_total", "_law_total", defArgs (top 425), defBody (top 425), defScope (top 425)⟩, ⟨("_law_used", none), "_law_used", "_law_used", defArgs (top 426), defBody (top 426), defScope (top 426)⟩, ⟨("_law_exact", none), "_law_exact", "_law_exact", defArgs (top 427), defBody (top 427), defScope (top 427)⟩, ⟨("_law_hidden", none), "_law_hidden", "_law_hidden", defArgs (top 428), defBody (top 428), defScope (top 428)⟩]
def fnZ4 : List He.FnD := [⟨("_law_drawn", none), "_law_drawn", "_law_drawn", defArgs (top 429), defBody (top 429), defScope (top 429)⟩, ⟨("_law_terms", none), "_law_terms", "_law_terms", defArgs (top 430), defBody (top 430), defScope (top 430)⟩, ⟨("_law_zero_due", none), "_law_zero_due", "_law_zero_due", defArgs (top 431), defBody (top 431), defScope (top 431)⟩, ⟨("_law_near", none), "_law_near", "_law_near", defArgs (top 432), defBody (top 432), defScope (top 432)⟩, ⟨("_law_fractions", none), "_law_fractions", "_law_fractions", defArgs (top 433), defBody (top 433), defScope (top 433)⟩, ⟨("_law_is_truth", none), "_law_is_truth", "_law_is_truth", defArgs (top 434), defBody (top 434), defScope (top 434)⟩, ⟨("_law_call", none), "_law_call", "_law_call", defArgs (top 435), defBody (top 435), defScope (top 435)⟩, ⟨("_law_state", none), "_law_state", "_law_state", defArgs (top 436), defBody (top 436), defScope (top 436)⟩, ⟨("_law_faulty", none), "_law_faulty", "_law_faulty", defArgs (top 437), defBody (top 437), defScope (top 437)⟩, ⟨("_law_bad", none), "_law_bad", "_law_bad", defArgs (top 438), defBody (top 438), defScope (top 438)⟩]
def fnZ5 : List He.FnD := [⟨("_law_paper", none), "_law_paper", "_law_paper", defArgs (top 439), defBody (top 439), defScope (top 439)⟩, ⟨("_law_claims", none), "_law_claims", "_law_claims", defArgs (top 440), defBody (top 440), defScope (top 440)⟩, ⟨("law", none), "law", "law", defArgs (top 441), defBody (top 441), defScope (top 441)⟩, ⟨("Judge", some "__init__"), "__init__", "Judge.__init__", defArgs (inClass (top 17) 0), defBody (inClass (top 17) 0), defScope (inClass (top 17) 0)⟩, ⟨("Judge", some "rest_of"), "rest_of", "Judge.rest_of", defArgs (inClass (top 17) 1), defBody (inClass (top 17) 1), defScope (inClass (top 17) 1)⟩, ⟨("Judge", some "leaves_none"), "leaves_none", "Judge.leaves_none", defArgs (inClass (top 17) 2), defBody (inClass (top 17) 2), defScope (inClass (top 17) 2)⟩, ⟨("Judge", some "zero"), "zero", "Judge.zero", defArgs (inClass (top 17) 3), defBody (inClass (top 17) 3), defScope (inClass (top 17) 3)⟩, ⟨("Judge", some "size_less"), "size_less", "Judge.size_less", defArgs (inClass (top 17) 4), defBody (inClass (top 17) 4), defScope (inClass (top 17) 4)⟩, ⟨("Judge", some "less"), "less", "Judge.less", defArgs (inClass (top 17) 5), defBody (inClass (top 17) 5), defScope (inClass (top 17) 5)⟩, ⟨("Judge", some "fraction_less"), "fraction_less", "Judge.fraction_less", defArgs (inClass (top 17) 6), defBody (inClass (top 17) 6), defScope (inClass (top 17) 6)⟩]
def fnZ6 : List He.FnD := [⟨("Judge", some "most_of"), "most_of", "Judge.most_of", defArgs (inClass (top 17) 7), defBody (inClass (top 17) 7), defScope (inClass (top 17) 7)⟩, ⟨("Judge", some "between"), "between", "Judge.between", defArgs (inClass (top 17) 8), defBody (inClass (top 17) 8), defScope (inClass (top 17) 8)⟩, ⟨("Judge", some "equal"), "equal", "Judge.equal", defArgs (inClass (top 17) 9), defBody (inClass (top 17) 9), defScope (inClass (top 17) 9)⟩]
def fnZ : List He.FnD := fnZ0 ++ fnZ1 ++ fnZ2 ++ fnZ3 ++ fnZ4 ++ fnZ5 ++ fnZ6
def tuZ0 : List (Str × List Str) := [("FRACTION_BARRED", ["over", "fdiv", "again"]), ("FRACTION_PAPERS", ["over", "fadd", "fsub", "fmul", "fdiv", "ffloor", "fless", "fat"]), ("FRACTION_RULES", ["lift", "over", "fadd", "fsub", "fmul", "fdiv", "fneg", "num", "den", "ffloor", "again", "fless", "fsame"]), ("POLY_PLAIN", ["poly", "padd", "psub", "pmul", "pneg", "slope", "at", "psame"]), ("POLY_RULES", ["poly", "padd", "psub", "pmul", "pneg", "slope", "at", "fat", "common", "parts", "part", "psame"]), ("RING", ["number", "add", "sub", "mul", "neg", "pow"]), ("ROOT_PAPERS", ["roots", "root", "rneg", "radd", "rmul", "rless", "sign", "rfloor"]), ("ROOT_RULES", ["rlift", "roots", "root", "rneg", "radd", "rmul", "rless", "rsame", "sign", "rfloor"]), ("TABLE_PAPERS", ["det", "rank", "solve", "scale", "solvable"]), ("TABLE_PLAIN", ["table", "tadd", "tsub", "tneg", "tmul", "det", "rank", "entry", "tsame"])]
def tuZ1 : List (Str × List Str) := [("TABLE_RULES", ["table", "tadd", "tsub", "tneg", "tmul", "det", "rank", "entry", "solve", "scale", "solvable", "tsame"]), ("TRUTHS", ["less", "same", "and", "or", "not"]), ("WHOLE_BARRED", ["quotient", "rest", "power", "join", "factors", "factor"]), ("WHOLE_PAPERS", ["quotient", "rest", "gcd", "power", "factors", "factor", "join", "again", "prime"]), ("WHOLE_PLAIN", ["number", "add", "sub", "mul", "neg", "pow", "quotient", "rest", "less", "same", "and", "or", "not"]), ("WHOLE_RULES", ["number", "add", "sub", "mul", "neg", "pow", "quotient", "rest", "gcd", "power", "factors", "factor", "join", "prime", "less", "same", "and", "or", "not"])]
def tuZ : List (Str × List Str) := tuZ0 ++ tuZ1
def strsB : List Value → List Str → Bool
  | [], [] => true
  | .str x _ :: r, y :: l => decide (x = y) && strsB r l
  | _, _ => false
theorem strsB_ok : ∀ {r : List Value} {l : List Str}, strsB r l = true → r.length = l.length ∧ Vals (l.map V.str) r
  | [], [], _ => ⟨rfl, .nil⟩
  | .str x t :: r, y :: l, h => by
    obtain ⟨h1, h2⟩ := He.ba (a := decide (x = y)) (b := strsB r l) h
    obtain ⟨i1, i2⟩ := strsB_ok h2
    have e : x = y := of_decide_eq_true h1
    subst e
    exact ⟨congrArg (· + 1) i1, .cons ⟨t, rfl⟩ i2⟩
def tupB (K : PySem.W.Frag) (p : Str × List Str) : Bool := He.eqO (PySem.W.nsIn K mainGlobals p.1) (some (some (.ref (He.ga K p.1)))) && ((match K.lookup (He.ga K p.1) with
  | some ⟨c, _, .seq its _, _⟩ => decide (c = .type "tuple") && strsB its.toList p.2
  | _ => false) && decide (p.2.length ≤ 100))
section
variable {K : PySem.W.Frag} {h : Heap} {mg : Str → Option Value}
theorem tupZ (X : K.In h) (G : h.Ns mainGlobals mg) {x : Str} {l : List Str} (c : tupB K (x, l) = true) : ∃ a : Addr, mg x = some (.ref a) ∧ ∀ H : Hp, SqT K H a (l.map V.str) := by
  obtain ⟨c1, c⟩ := He.ba c
  obtain ⟨c2, c3⟩ := He.ba c
  have hl : l.length ≤ 100 := of_decide_eq_true c3
  refine ⟨_, PySem.W.mg_of X G (He.eqO_ok c1), fun H => ?_⟩
  cases e : K.lookup (He.ga K x) with
  | none =>
    rw [show K.lookup (He.ga K (x, l).1) = none from e] at c2
    cases c2
  | some o =>
    obtain ⟨oc, od, dt, osl⟩ := o
    rw [show K.lookup (He.ga K (x, l).1) = some ⟨oc, od, dt, osl⟩ from e] at c2
    cases dt with
    | seq its n =>
      obtain ⟨c4, c5⟩ := He.ba c2
      obtain ⟨e1, e2⟩ := strsB_ok c5
      refine .inr ⟨_, its, n, e, of_decide_eq_true c4, rfl, ?_, e2⟩
      have e3 : its.size = l.length := e1
      rw [e3, sizeLine_eq]
      omega
    | _ => cases c2
def exBZ (K : PySem.W.Frag) : Bool := PySem.W.keepIn K (.ref (He.ma K (He.ga K "Judge") "__init__")) && (PySem.W.codeIn K (.ref 42) "NotSo.__init__" && (He.eqO (PySem.W.nsIn K cStatics "thirdparty.any") (some none) && (He.eqO (PySem.W.ks_superIn K 46 46 "__init__") (some (some (.builtin "ValueError.__init__"))) &&
  (decide (PySem.W.subIn K (.ref 46) (.type "ValueError") = some true) && (decide (PySem.W.mroIn K 46 (.ref 46) = some true) && ((PySem.W.clsIn K 46).isSome && (He.eqO (PySem.W.findIn K (.ref 46) "__setattr__") (some (some (.builtin "object.__setattr__"))) &&
  (decide (PySem.W.subIn K (.ref 46) (.type "BaseException") = some true) && (decide (PySem.W.typeIn K (.ref 46) = some (.type "type")) && (PySem.W.keepIn K (.ref 46) && (He.eqO (PySem.W.findIn K (.ref 46) "rule") (some none) && (He.eqO (PySem.W.findIn K (.ref 46) "__init__") (some (some (.ref 43))) &&
  (decide (PySem.W.typeIn K (.ref 43) = some (.type "function")) && (xfB K 46 && (decide (PySem.W.exmOne K (.ref 46) (.ref 46) = some true) && He.eqO (PySem.W.nsIn K mainGlobals "NotSo") (some (some (.ref 46))))))))))))))))))
def o43 : Obj := ⟨(.type "function"), none, (.func { name := "__init__", qualname := "NotSo.__init__", params := defArgs (inClass (top 2) 0), body := .stmts (defBody (inClass (top 2) 0)), scope := defScope (inClass (top 2) 0), globals := 3, closure := [("__class__", 31)], defaults := .none, kwdefaults := .none, doc := .none, pyModule := (.str "swornspire.errors" 187), annotations := none, code := (.ref 42), closureTuple := (.ref 36), builtins := 0 }), ⟨[]⟩⟩
def o42 : Obj := ⟨(.type "code"), none, (.fields ⟨[(.str "__init__" 219), (.str "NotSo.__init__" 220), (.str "/claim/cut.py" 221), (.int 6 0), (.int 2 0), (.int 0 0), (.int 0 0), (.int 3 0), (.ref 37), (.bool true), (.int 181 0), (.ref 38), .none, (.ref 39), (.ref 40), (.ref 41), (.int 225 0), (.int 6 0), (.str "/claim/cut.py" 226)]⟩), ⟨[]⟩⟩
def o31 : Obj := ⟨(.type "cell"), none, (.cell (some (.ref 46))), ⟨[]⟩⟩
def o46 : Obj := ⟨(.type "type"), none, (.cls { name := "NotSo", bases := [(.ref 24)], mro := [(.ref 46), (.ref 24), (.type "ValueError"), (.type "Exception"), (.type "BaseException"), (.type "object")], ns := 45, qualname := "NotSo", hasDict := true, subclasses := [] }), ⟨[(some (.ref 28)), none, (some (.str "NotSo" 207)), (some (.str "NotSo" 215)), (some (.builtin "ValueError.__new__")), (some (.bool true))]⟩⟩
abbrev AlZ : Type := He.Al × Bool × Bool × List (Option Obj)
def obsK (K : PySem.W.Frag) : AlZ := (He.obsE faZ fnZ K, tuZ.all fun p => tupB K p, exBZ K, [K.lookup 43, K.lookup 42, K.lookup 31, K.lookup 46])
def valK : AlZ := (He.valE fnZ, true, true, [some o43, some o42, some o31, some o46])
/-- what the end leans on -/
structure SaysZ (K : PySem.W.Frag) : Prop where
  fst : He.SaysE faZ fnZ K
  tps : (tuZ.all fun p => tupB K p) = true
  ex : exBZ K = true
  obs : [K.lookup 43, K.lookup 42, K.lookup 31, K.lookup 46] = [some o43, some o42, some o31, some o46]
theorem saysZ_of (e : obsK K = valK) : SaysZ K :=
  ⟨congrArg (fun z : AlZ => z.1) e, congrArg (fun z : AlZ => z.2.1) e, congrArg (fun z : AlZ => z.2.2.1) e, congrArg (fun z : AlZ => z.2.2.2) e⟩
theorem SaysZ.tup (c : SaysZ K) (i : Nat) {p : Str × List Str} (h : tuZ[i]? = some p) : tupB K p = true := List.all_eq_true.mp c.tps p (List.mem_of_getElem? h)
theorem SaysZ.kpi (c : SaysZ K) : PySem.W.keepIn K (.ref (He.ma K (He.ga K "Judge") "__init__")) = true := (He.ba c.ex).1
def hkZ : PySem.W.Hook where
  α := AlZ
  obs := fun s => obsK (He.frG s.heap.get? asZ)
  val := fun _ => valK
  says := fun _ h => ∃ K : PySem.W.Frag, K.In h ∧ SaysZ K
  of := fun _ _ e => ⟨_, He.frG_in, saysZ_of e⟩
  keeps := fun _ _ _ ⟨K, hK, c⟩ k => ⟨K, PySem.W.Frag.In.keeps hK k, c⟩
noncomputable def obZ (s : PySem.W.SharedT) : AlZ := obsK (He.frG (HandSHeadRun.getT s) asZ)
theorem obZ_eq (s : PySem.W.SharedT) : obZ s = hkZ.obs s.abs := by
  have e : HandSHeadRun.getT s = s.abs.heap.get? := funext (HandSHeadRun.getT_eq s)
  show obsK (He.frG (HandSHeadRun.getT s) asZ) = obsK (He.frG s.abs.heap.get? asZ)
  rw [e]
theorem defZ (X : K.In h) (G : h.Ns mainGlobals mg) (c : He.SaysE faZ fnZ K) (i k j : Nat) {g x q : Str} {st : Stmt} (hi : faZ[i]? = some (.glo g)) (hk : faZ[k]? = some (.keep g)) (hj : fnZ[j]? = some ⟨(g, none), x, q, defArgs st, defBody st, defScope st⟩) :
    ∃ f fd, mg g = some (.ref f) ∧ L2.Fun K x q st f fd := by
  obtain ⟨oc, od, osl, kV, doc, pm, an, cdv, ct, l, cd⟩ := c.def_ j hj
  exact ⟨He.ga K g, _, He.glo_ok X G (c.fact i hi), fun_mk l cd (c.fact k hk)⟩
theorem methZ (c : He.SaysE faZ fnZ K) (i j : Nat) {x m n q : Str} {st : Stmt} (hi : faZ[i]? = some (.meth x m)) (hj : fnZ[j]? = some ⟨(x, some m), n, q, defArgs st, defBody st, defScope st⟩) :
    ∃ f fd, Meth K (He.ga K x) m f ∧ L2.Fun K n q st f fd := by
  obtain ⟨oc, od, osl, kV, doc, pm, an, cdv, ct, l, cd⟩ := c.def_ j hj
  have M := He.meth_ok (c.fact i hi)
  exact ⟨He.ma K (He.ga K x) m, _, M, fun_mk l cd M.kp⟩
theorem mkrZ (c : He.SaysE faZ fnZ K) (i j : Nat) {x n q : Str} {st : Stmt} (hi : faZ[i]? = some (.mkr x)) (hj : fnZ[j]? = some ⟨(x, some "__init__"), n, q, defArgs st, defBody st, defScope st⟩) (kp : PySem.W.keepIn K (.ref (He.ma K (He.ga K x) "__init__")) = true) :
    ∃ f fd, Mk K (He.ga K x) f ∧ L2.Fun K n q st f fd := by
  obtain ⟨oc, od, osl, kV, doc, pm, an, cdv, ct, l, cd⟩ := c.def_ j hj
  exact ⟨He.ma K (He.ga K x) "__init__", _, He.mkr_ok (c.fact i hi), fun_mk l cd kp⟩
theorem tx_of (X : K.In h) (G : h.Ns mainGlobals mg) (c : SaysZ K) : Tx K mg where
  b_len := He.free_ok X G (c.fst.fact 0)
  b_abs := He.free_ok X G (c.fst.fact 1)
  b_int := He.free_ok X G (c.fst.fact 2)
  b_max := He.free_ok X G (c.fst.fact 3)
  b_min := He.free_ok X G (c.fst.fact 4)
  b_sum := He.free_ok X G (c.fst.fact 5)
  b_range := He.free_ok X G (c.fst.fact 6)
  b_tuple := He.free_ok X G (c.fst.fact 7)
  b_list := He.free_ok X G (c.fst.fact 8)
  b_isinstance := He.free_ok X G (c.fst.fact 9)
  b_sorted := He.free_ok X G (c.fst.fact 10)
  b_enumerate := He.free_ok X G (c.fst.fact 11)
  b_zip := He.free_ok X G (c.fst.fact 12)
  b_reversed := He.free_ok X G (c.fst.fact 13)
  b_super := He.free_ok X G (c.fst.fact 14)
  b_bool := He.free_ok X G (c.fst.fact 15)
  b_all := He.free_ok X G (c.fst.fact 16)
  d_is_whole := defZ X G c.fst 17 18 0 rfl rfl rfl
  d_bits_of := defZ X G c.fst 19 20 1 rfl rfl rfl
  d_words_of := defZ X G c.fst 21 22 2 rfl rfl rfl
  d_is_word_prime := defZ X G c.fst 23 24 3 rfl rfl rfl
  d_weight_of := defZ X G c.fst 25 26 4 rfl rfl rfl
  d_are_good_points := defZ X G c.fst 27 28 5 rfl rfl rfl
  d_used_points := defZ X G c.fst 29 30 6 rfl rfl rfl
  d_need_of := defZ X G c.fst 31 32 7 rfl rfl rfl
  d_trimmed := defZ X G c.fst 33 34 8 rfl rfl rfl
  d_product_words := defZ X G c.fst 35 36 9 rfl rfl rfl
  d_is_parts := defZ X G c.fst 37 38 10 rfl rfl rfl
  d_is_numbers := defZ X G c.fst 39 40 11 rfl rfl rfl
  d_takes_ring := defZ X G c.fst 41 42 12 rfl rfl rfl
  d_takes_division := defZ X G c.fst 43 44 13 rfl rfl rfl
  d_takes_truth := defZ X G c.fst 45 46 14 rfl rfl rfl
  d_takes_whole := defZ X G c.fst 47 48 15 rfl rfl rfl
  d_bars_whole := defZ X G c.fst 49 50 16 rfl rfl rfl
  d_takes_value := defZ X G c.fst 51 52 17 rfl rfl rfl
  d_takes_none := defZ X G c.fst 53 54 18 rfl rfl rfl
  d_takes := defZ X G c.fst 55 56 19 rfl rfl rfl
  d_plain_whole := defZ X G c.fst 57 58 20 rfl rfl rfl
  d_plain_value := defZ X G c.fst 59 60 21 rfl rfl rfl
  d_whole_paper := defZ X G c.fst 61 62 22 rfl rfl rfl
  d_value_paper := defZ X G c.fst 63 64 23 rfl rfl rfl
  d_bar_paper := defZ X G c.fst 65 66 24 rfl rfl rfl
  d_is_so := defZ X G c.fst 67 68 25 rfl rfl rfl
  d_paper_of := defZ X G c.fst 69 70 26 rfl rfl rfl
  d__law_cell := defZ X G c.fst 71 72 27 rfl rfl rfl
  d__law_row := defZ X G c.fst 73 74 28 rfl rfl rfl
  d__law_one := defZ X G c.fst 75 76 29 rfl rfl rfl
  d__law_is_prime := defZ X G c.fst 77 78 30 rfl rfl rfl
  d__law_primes := defZ X G c.fst 79 80 31 rfl rfl rfl
  d__law_points := defZ X G c.fst 81 82 32 rfl rfl rfl
  d__law_number := defZ X G c.fst 83 84 33 rfl rfl rfl
  d__law_words := defZ X G c.fst 85 86 34 rfl rfl rfl
  d__law_need := defZ X G c.fst 87 88 35 rfl rfl rfl
  d__law_total := defZ X G c.fst 89 90 36 rfl rfl rfl
  d__law_used := defZ X G c.fst 91 92 37 rfl rfl rfl
  d__law_exact := defZ X G c.fst 93 94 38 rfl rfl rfl
  d__law_hidden := defZ X G c.fst 95 96 39 rfl rfl rfl
  d__law_drawn := defZ X G c.fst 97 98 40 rfl rfl rfl
  d__law_terms := defZ X G c.fst 99 100 41 rfl rfl rfl
  d__law_zero_due := defZ X G c.fst 101 102 42 rfl rfl rfl
  d__law_near := defZ X G c.fst 103 104 43 rfl rfl rfl
  d__law_fractions := defZ X G c.fst 105 106 44 rfl rfl rfl
  d__law_is_truth := defZ X G c.fst 107 108 45 rfl rfl rfl
  d__law_call := defZ X G c.fst 109 110 46 rfl rfl rfl
  d__law_state := defZ X G c.fst 111 112 47 rfl rfl rfl
  d__law_faulty := defZ X G c.fst 113 114 48 rfl rfl rfl
  d__law_bad := defZ X G c.fst 115 116 49 rfl rfl rfl
  d__law_paper := defZ X G c.fst 117 118 50 rfl rfl rfl
  d__law_claims := defZ X G c.fst 119 120 51 rfl rfl rfl
  d_law := defZ X G c.fst 121 122 52 rfl rfl rfl
  g_FRACTION_BARRED := tupZ X G (c.tup 0 rfl)
  g_FRACTION_PAPERS := tupZ X G (c.tup 1 rfl)
  g_FRACTION_RULES := tupZ X G (c.tup 2 rfl)
  g_POLY_PLAIN := tupZ X G (c.tup 3 rfl)
  g_POLY_RULES := tupZ X G (c.tup 4 rfl)
  g_RING := tupZ X G (c.tup 5 rfl)
  g_ROOT_PAPERS := tupZ X G (c.tup 6 rfl)
  g_ROOT_RULES := tupZ X G (c.tup 7 rfl)
  g_TABLE_PAPERS := tupZ X G (c.tup 8 rfl)
  g_TABLE_PLAIN := tupZ X G (c.tup 9 rfl)
  g_TABLE_RULES := tupZ X G (c.tup 10 rfl)
  g_TRUTHS := tupZ X G (c.tup 11 rfl)
  g_WHOLE_BARRED := tupZ X G (c.tup 12 rfl)
  g_WHOLE_PAPERS := tupZ X G (c.tup 13 rfl)
  g_WHOLE_PLAIN := tupZ X G (c.tup 14 rfl)
  g_WHOLE_RULES := tupZ X G (c.tup 15 rfl)
theorem tj_of (X : K.In h) (G : h.Ns mainGlobals mg) (c : SaysZ K) : TJ K mg (He.ga K "Judge") where
  g := He.glo_ok X G (c.fst.fact 123)
  cl := He.cls_ok (c.fst.fact 124)
  n_bits := He.noat_ok (c.fst.fact 125)
  n_points := He.noat_ok (c.fst.fact 126)
  n_steps := He.noat_ok (c.fst.fact 127)
  n_most := He.noat_ok (c.fst.fact 128)
  n_good := He.noat_ok (c.fst.fact 129)
  m_init := mkrZ c.fst 130 53 rfl rfl c.kpi
  m_rest_of := methZ c.fst 131 54 rfl rfl
  m_leaves_none := methZ c.fst 132 55 rfl rfl
  m_zero := methZ c.fst 133 56 rfl rfl
  m_size_less := methZ c.fst 134 57 rfl rfl
  m_less := methZ c.fst 135 58 rfl rfl
  m_fraction_less := methZ c.fst 136 59 rfl rfl
  m_most_of := methZ c.fst 137 60 rfl rfl
  m_between := methZ c.fst 138 61 rfl rfl
  m_equal := methZ c.fst 139 62 rfl rfl
theorem tn_of (X : K.In h) (G : h.Ns mainGlobals mg) (c : SaysZ K) : TN K mg 46 := by
  have T := tx_of X G c
  have e0 := c.obs
  simp only [List.cons.injEq, and_true] at e0
  obtain ⟨l43, l42, l31, l46⟩ := e0
  obtain ⟨_, k⟩ := He.ba c.ex
  obtain ⟨k1, k⟩ := He.ba k
  obtain ⟨k2, k⟩ := He.ba k
  obtain ⟨k3, k⟩ := He.ba k
  obtain ⟨k4, k⟩ := He.ba k
  obtain ⟨k5, k⟩ := He.ba k
  obtain ⟨k6, k⟩ := He.ba k
  obtain ⟨k7, k⟩ := He.ba k
  obtain ⟨k8, k⟩ := He.ba k
  obtain ⟨k9, k⟩ := He.ba k
  obtain ⟨k10, k⟩ := He.ba k
  obtain ⟨k11, k⟩ := He.ba k
  obtain ⟨k12, k⟩ := He.ba k
  obtain ⟨k13, k⟩ := He.ba k
  obtain ⟨k14, k⟩ := He.ba k
  obtain ⟨k15, k16⟩ := He.ba k
  refine ⟨PySem.W.mg_of X G (He.eqO_ok k16), ⟨43, 42, 31, ?_⟩, xfB_ok k14, of_decide_eq_true k15⟩
  exact {
    sup := T.b_super
    fn := ⟨_, _, _, _, _, l43⟩
    cd := k1
    code := ⟨_, _, _, _, 221, l42, rfl⟩
    cell := ⟨_, _, _, l31⟩
    stat := He.eqO_ok k2
    sin := He.eqO_ok k3
    ve := of_decide_eq_true k4
    mro := of_decide_eq_true k5
    cls := Option.isSome_iff_exists.mp k6
    oex := ⟨⟨_, _, _, _, _, _, _, _, _, _, _, _, _, _, _, l46, by decide⟩, He.eqO_ok k7, of_decide_eq_true k8, of_decide_eq_true k9, k10⟩
    rule := He.eqO_ok k11
    ini := He.eqO_ok k12
    ty := of_decide_eq_true k13 }
end
end K76

/-! ## HdK3 -/
namespace K76
open PySem PySem.W PySem.Calls PyProof.Rows HandSHeadRun L2
theorem lk3 (w : World) (os : OsState) : obZ (S441 w os) = valK := by
  kernel_rfl
end K76

/-! ## HdEnd -/
namespace K76
open PySem PySem.W PySem.Calls PyProof.Rows HandSHeadRun L2
theorem last441 (w : World) (os : OsState) : ∃ (s : SharedT) (p : Pos), segF (stQ w) 11 annV 2571 (S350 w os) ⟨(Fast.tw12563942051412417395 lastL envE).wrap doneF deadEnd id id, cE, ⟨2264, 0, 2266, 67⟩, [topFrame q0]⟩ = some (.next, s, cE, p) ∧
    (looksF P0 (boot_heap w.params) s.abs, seenQ qv names [] (fun s => xlAt qv [] s && recOk R.toRowW.records s) s.abs, obZ s) = (true, openGood qv names, hkZ.val w) := by
  refine ⟨S441 w os, _, hp441 w os, ?_⟩
  rw [lk1, lk2, lk3]
  rfl
theorem left_k76 : LeftO P0 qv names (fun s => xlAt qv [] s && recOk R.toRowW.records s) hkZ.obs hkZ.val 14000 true :=
  left_all (H := hkZ) (ob := obZ) (n := 2571) (by decide) (by decide) obZ_eq last441
/-- the law's function keeps its promise, wherever it is called -/
theorem law_facts {w : World} {K : PySem.W.Frag} {h : Heap} {mg : Str → Option Value} {f : Addr} (X : K.In h) (G : h.Ns mainGlobals mg) (hfa : mg ("law" : Str) = some (.ref f)) (c : SaysZ K) :
    ∃ fd : FuncData, (∀ (s : Shared) (v : Value), BindsTo s fd ⟨[v], []⟩ [("script", v)]) ∧ ∀ base : Heap, K.In base → base.Ns mainGlobals mg → FnOk P0 w K mg base CX0 11 f fd ["script"] (spZ K 1 tz_law) := by
  have T := tx_of X G c
  obtain ⟨f', fd, g, F⟩ := T.d_law
  have e := hfa.symm.trans g
  cases e
  refine ⟨fd, fun s v => ?_, fun base _ _ => c_law T (tj_of X G c) (tn_of X G c) F⟩
  obtain ⟨oc, od, kV, doc, pm, an, cdv, ct, osl, rfl, lk, cd⟩ := F.ex
  exact .of_eq rfl
end K76
open PySem PySem.W PySem.Calls PyProof.Rows
theorem PySem.Challenge.cw_swornspire_k76_judge_zero_less_rest_holds : PySem.Challenge.rw_swornspire_k76_judge_zero_less_rest.Holds := by
  w_on
  refine holds_law K76.well_said fun said => ?_
  refine holds_open (r := K76.R) (q := K76.qv) (loose := K76.names) (XP := XL K76.qv []) (YP := K76.hkZ.says) (d := HandSHeadRun.topDef K76.R.prog 441) (kwd := []) K76.left_k76 K76.hkZ.of K76.hkZ.keeps
    (fun s z => xl_of s (Bool.and_eq_true_iff.mp z).1) XL.keeps K76.def_is K76.the_is K76.kw_is (fun s z => recFacts_of (Bool.and_eq_true_iff.mp z).2) K76.wr_is said K76.said_all K76.bare_is ?hw ?hc
  case hw => w_witness2
  case hc =>
    refine L2.walk_ofE (l := PySem.Challenge.rw_swornspire_k76_judge_zero_less_rest) (n := 63) (k := 11) (x := "script") (CX := L2.CX0) rfl (by decide) K76.df_is ⟨rfl, by decide, by decide⟩ ?F (fun _ _ _ _ z => z)
    intro w mg fa h Y G hmg0
    obtain ⟨K, KX, c⟩ := Y
    have hmg : mg ("law" : PySem.Str) = some (.ref fa) := by
      rw [← K76.nm_is]
      exact hmg0
    obtain ⟨fd, hb, hF⟩ := K76.law_facts (w := w) KX G hmg c
    refine ⟨K, fd, K76.spZ K 1 K76.tz_law, KX, hb, fun H a ns hl _ hS => ?_, hF⟩
    refine ⟨H, fun _ => none, [.scr ns], [], fun z _ => z = .bl true, rfl, ⟨Evl.Ex.refl _, fun _ _ e => (nomatch e), fun _ _ e => (nomatch e)⟩, .cons (.scr hS) .nil, fun i a c e => (nomatch e), List.nodup_nil, ⟨ns, rfl, rfl, rfl⟩, ?_⟩
    intro v z o' Hb' O' H' _ _ _ _ _ d hz
    subst hz
    cases d
    rfl
#print axioms PySem.Challenge.cw_swornspire_k76_judge_zero_less_rest_holds
