import PyProof.Rows.All
import Wide.All
import OpenK.AllK
import Wide.FinOn
import KE.KExcSuper
import HandS.ExcSuper
import HandS.ExcInit
import HandS.ExcField
import HandS.Words
import HandS.HeadHook4
import HandS.HeadEnd
import HandS.Head2
import HandS.ForMost
import HandS.ForExc
import HandS.Lambda
import HandS.Nested
import HandS.Wide
import HandS.Star
import HandS.TupMul
import HandS.SortInts
import KE.DataMinMax
import HandS.SortRule
import HandS.Deep
import HandS.Style
import HandS.TupAny
import HandS.Walk
import HandS.Zip
import HandS.IsInst
import PyProof.ReprRoads
import KE.GoesEnum
import HandS.Iter
import HandS.ExcIs
import HandS.ExcValue
import HandS.Text
import HandS.Dict
import HandS.Strs
import PyProof.Rows.SetFrom
import HandS.EndTab
import HandS.HeadWalk
import PyProof.ReprLen
import PySem.Challenge.RW_againsure_k57_whole_classes_or_a_sum
set_option Elab.async false
set_option linter.all false
set_option maxRecDepth 100000
namespace PD
open PySem PySem.Spec L2
open PyProof.Rows hiding St
open He (ga ma ba Fa DefD Defn AlX obsX valX SaysX frT frT_in asD cT)
abbrev veM : List Value := [.type "ValueError", .type "Exception", .type "BaseException", .type "object"]
/-- the words of that __init__ -/
structure InitW where
  qual : Str
  params : Arguments
  scope : Scope
  par : Str
  fld : Str
  txt : Str
  j : Nat
  p0 : Pos
  p1 : Pos
  p2 : Pos
  p3 : Pos
  p4 : Pos
  p5 : Pos
  p6 : Pos
  p7 : Pos
  p8 : Pos
  p9 : Pos
def InitW.body (I : InitW) : List Stmt := [.Expr (.Call (.Attribute (.Call (.Name "super" I.p0) [] [] I.p1) "__init__" I.p2) [.Constant (.str I.txt) I.j I.p3] [] I.p4) I.p5, .Assign [.Attribute (.Name "self" I.p6) I.fld I.p7] (.Name I.par I.p8) I.p9]
def sSs : Stmt → List Stmt
  | .For _ _ b _ _ => b
  | .While _ b _ _ => b
  | .If _ b o _ => b ++ o
  | .Try b _ _ _ _ => b
  | .FunctionDef _ _ b _ _ _ _ _ _ _ => b
  | .ClassDef _ _ _ b _ _ _ _ _ _ _ => b
  | _ => []
def sEs : Stmt → List Expr
  | .Return (some e) _ => [e]
  | .Assign ts e _ => ts ++ [e]
  | .Expr e _ => [e]
  | .If t _ _ _ => [t]
  | .While t _ _ _ => [t]
  | .For t i _ _ _ => [t, i]
  | .AugAssign t _ v _ => [t, v]
  | .Raise (some e) _ _ => [e]
  | _ => []
def eEs : Expr → List Expr
  | .BoolOp _ vs _ => vs
  | .BinOp a _ b _ => [a, b]
  | .UnaryOp _ a _ => [a]
  | .IfExp a b c _ => [a, b, c]
  | .Dict _ vs _ => vs
  | .ListComp e gs _ _ => e :: gs.flatMap fun g => g.target :: g.iter :: g.ifs
  | .DictComp a b gs _ _ => a :: b :: gs.flatMap fun g => g.target :: g.iter :: g.ifs
  | .Compare l _ cs _ => l :: cs
  | .Call f as ks _ => f :: (as ++ ks.map (·.value))
  | .Attribute v _ _ => [v]
  | .Subscript a b _ => [a, b]
  | .List es _ => es
  | .Tuple es _ _ => es
  | .Lambda _ b _ _ => [b]
  | _ => []
def sAt (i : Nat) (l : List Stmt) : Stmt := l.getD i (.Pass ⟨0, 0, 0, 0⟩)
def eAt (i : Nat) (l : List Expr) : Expr := l.getD i (.Name "" ⟨0, 0, 0, 0⟩)
def lamA : Expr → Arguments
  | .Lambda a _ _ _ => a
  | _ => { posonlyargs := [], args := [], vararg := none, kwonlyargs := [], kw_defaults := [], kwarg := none, defaults := [] }
def lamB : Expr → Expr
  | .Lambda _ b _ _ => b
  | e => e
def lamS : Expr → Scope
  | .Lambda _ _ s _ => s
  | _ => { kind := .function, names := [], isGenerator := false, isCoroutine := false }
/-- the words of an __init__ -/
def initW (q : Str) : Stmt → InitW
  | .FunctionDef _ ar [.Expr (.Call (.Attribute (.Call (.Name _ p0) [] [] p1) _ p2) [.Constant (.str txt) j p3] [] p4) p5, .Assign [.Attribute (.Name _ p6) fld p7] (.Name par p8) p9] _ _ _ sc _ _ _ => ⟨q, ar, sc, par, fld, txt, j, p0, p1, p2, p3, p4, p5, p6, p7, p8, p9⟩
  | _ => ⟨q, lamA (.Name "" ⟨0, 0, 0, 0⟩), lamS (.Name "" ⟨0, 0, 0, 0⟩), "", "", "", 0, ⟨0, 0, 0, 0⟩, ⟨0, 0, 0, 0⟩, ⟨0, 0, 0, 0⟩, ⟨0, 0, 0, 0⟩, ⟨0, 0, 0, 0⟩, ⟨0, 0, 0, 0⟩, ⟨0, 0, 0, 0⟩, ⟨0, 0, 0, 0⟩, ⟨0, 0, 0, 0⟩, ⟨0, 0, 0, 0⟩⟩
/-- a class as it is asked for: a built-in, an own one -/
inductive Tag where
  | b (n : String) | o (c : Str)
deriving DecidableEq
def excCB (K : PySem.W.Frag) (D : Addr) : Bool :=
  decide (PySem.W.findIn K (.ref D) "__getattribute__" = some (some (.builtin "BaseException.__getattribute__"))) && (decide (PySem.W.findIn K (.ref D) "__getattr__" = some none) && (decide (PySem.W.subIn K (.ref D) (.type "BaseException") = some true) && (PySem.W.hasDictIn K D &&
  (decide (PySem.W.findIn K (.ref D) "__class__" = some (some (.builtin "object.__class__"))) && (decide (PySem.W.specialIn K (.builtin "object.__class__") "__get__" = some (some (.builtin "getset_descriptor.__get__"))) && (decide (PySem.W.takesIn K (.builtin "object.__class__") = some true) && decide (PySem.W.mroIn K D (.type "object") = some true)))))))
def tagV (K : PySem.W.Frag) : Tag → Value
  | .b n => .type n
  | .o c => .ref (ga K c)
/-- all answers over these kinds are as sub says -/
def isiB (K : PySem.W.Frag) (sub : Tag → Tag → Option Bool) (ts : List Tag) : Bool := ts.all fun a => ts.all fun b => match sub a b with
  | some r => decide (PySem.W.kitOne K (tagV K a) (tagV K b) = some r)
  | none => true
def fldB (K : PySem.W.Frag) (f : Str) (cs : List Str) : Bool := cs.all fun c => xfB K (ga K c) && decide (PySem.W.findIn K (.ref (ga K c)) f = some none)
def catchB (K : PySem.W.Frag) (cn : Str) (can : Str → Option Bool) (cs : List Str) : Bool := cs.all fun c => match can c with
  | some b => decide (PySem.W.exmOne K (.ref (ga K c)) (.ref (ga K cn)) = some b)
  | none => true
def tyB : List String := ["NoneType", "bool", "int", "str", "tuple", "list", "dict"]
def tyE : List String := tyB ++ ["ValueError"]
def supOf (l : List (Str × List Str)) (x y : Str) : Bool := match l.lookup x with
  | some ys => decide (y ∈ ys)
  | none => false
def subOf (cs : List Str) (l : List (Str × List Str)) : Tag → Tag → Option Bool
  | .b a, .b b => if a ∈ tyB ∧ b ∈ tyB then some (decide (a = b) || (decide (a = "bool") && decide (b = "int"))) else none
  | .b a, .o y => if a ∈ tyB ∧ y ∈ cs then some false else none
  | .o x, .b b => if x ∈ cs ∧ b ∈ tyE then some (decide (b = "ValueError")) else none
  | .o x, .o y => if x ∈ cs ∧ y ∈ cs then some (supOf l x y) else none
def tagsOf (cs : List Str) : List Tag := tyE.map Tag.b ++ cs.map Tag.o
def hasOf (cs : List Str) (x : Str) : Bool := decide (x ∈ cs)
def catchOf (cs : List Str) (l : List (Str × List Str)) (y x : Str) : Option Bool := if x ∈ cs then some (supOf l x y) else none
abbrev FnC : Type := Option (Str × Str × Arguments × FuncBody × Scope × Addr × Addr)
def fnC (K : PySem.W.Frag) (x : Str) : FnC := match K.lookup (ma K (ga K x) "__init__") with
  | some ⟨_, _, .func fd, _⟩ => some (fd.name, fd.qualname, fd.params, fd.body, fd.scope, fd.globals, fd.builtins)
  | _ => none
def InitW.fnV (I : InitW) : FnC := some ("__init__", I.qual, I.params, .stmts I.body, I.scope, mainGlobals, builtinsNs)
def initF (K : PySem.W.Frag) (file : Str) (qual : Str) (D fI : Addr) : Bool := match K.lookup fI with
  | some ⟨_, _, .func fd, _⟩ => (match fd.closure, fd.code, fd.defaults with
    | [(n, cc)], .ref cda, .none => decide (n = "__class__") && (PySem.W.codeIn K (.ref cda) qual && ((match K.lookup cda with
      | some ⟨_, _, .fields vs, _⟩ => (match (vs[2]? : Option Value) with
        | some (.str fl _) => file == fl
        | _ => false)
      | _ => false) && (match K.lookup cc with
      | some ⟨_, _, .cell (some (.ref D')), _⟩ => decide (D' = D)
      | _ => false)))
    | _, _, _ => false)
  | _ => false
def initC (K : PySem.W.Frag) (C : Addr) : Bool := match K.lookup C with
  | some ⟨.type t, _, .cls cd, sl⟩ => (match cd.mro, sl.toList with
    | .ref C' :: bm, [_, _, _, _, some (.builtin n), _] => decide (t = "type") && (decide (C' = C) && (decide (n = "ValueError.__new__") && (!cd.hasDel && (cd.hasDict && PySem.HandSPX.refsVE bm))))
    | _, _ => false)
  | _ => false
def initB (K : PySem.W.Frag) (file : Str) (qual fld : Str) (x c : Str) : Bool :=
  initF K file qual (ga K x) (ma K (ga K x) "__init__") && (initC K (ga K c) && ((PySem.W.clsIn K (ga K x)).isSome && (decide (PySem.W.mroIn K (ga K c) (.ref (ga K x)) = some true) && (decide (PySem.W.ks_superIn K (ga K c) (ga K x) "__init__" = some (some (.builtin "ValueError.__init__"))) &&
  (decide (PySem.W.findIn K (.ref (ga K c)) "__init__" = some (some (.ref (ma K (ga K x) "__init__")))) && (decide (PySem.W.typeIn K (.ref (ma K (ga K x) "__init__")) = some (.type "function")) && (decide (PySem.W.findIn K (.ref (ga K c)) "__setattr__" = some (some (.builtin "object.__setattr__"))) &&
  (decide (PySem.W.findIn K (.ref (ga K c)) fld = some none) && (decide (PySem.W.subIn K (.ref (ga K c)) (.type "BaseException") = some true) && (decide (PySem.W.subIn K (.ref (ga K c)) (.type "ValueError") = some true) && (PySem.W.excInitIn K (ga K c) veM "ValueError.__new__" &&
  (decide (PySem.W.typeIn K (.ref (ga K c)) = some (.type "type")) && (PySem.W.keepIn K (.ref (ga K c)) && decide (PySem.W.nsIn K cStatics "thirdparty.any" = some none))))))))))))))
abbrev AlP : Type := (He.AlT × Bool) × List FnC
/-- the written part: what the names reach, the statics -/
abbrev kP (n : Nat) (g : Addr → Option Obj) : PySem.W.Frag := frT g (cStatics :: asD g n)
def obsK (fa : List Fa) (fn : List DefD) (tf : List Defn) (ex : PySem.W.Frag → Bool) (ini : List (Str × InitW)) (K : PySem.W.Frag) (g : Addr → Option Obj) : AlP := ((He.obsT fa fn [] K, ex K && He.tabsB g tf K), ini.map fun p => fnC K p.1)
def obsP (n : Nat) (fa : List Fa) (fn : List DefD) (tf : List Defn) (ex : PySem.W.Frag → Bool) (ini : List (Str × InitW)) (g : Addr → Option Obj) : AlP := obsK fa fn tf ex ini (kP n g) g
def valP (fn : List DefD) (ini : List (Str × InitW)) (w : World) : AlP := ((He.valT fn [] w, true), ini.map fun p => p.2.fnV)
/-- a def of no default -/
abbrev dOf (x : Str) (st : Stmt) : DefD := ⟨(x, none), x, x, defArgs st, defBody st, defScope st, [], []⟩
def tabsNd (K : PySem.W.Frag) (tf : List Defn) : Bool := decide (tf.map fun p => (cT K p).2).Nodup
/-- the run alone: what is looked at, what it says -/
def hookV (o : Shared → AlP) (v : World → AlP) : PySem.W.Hook := ⟨AlP, o, v, fun _ _ => True, fun _ _ _ => trivial, fun _ _ _ _ _ => trivial⟩
end PD
set_option maxHeartbeats 0
namespace LWk57
open PySem PySem.Spec L2 PD
open PyProof.Rows hiding St
abbrev top (i : Nat) : Stmt := PySem.Challenge.pw_againsure_k57_whole_classes_or_a_sum.main.body.getD i (.Pass ⟨0, 0, 0, 0⟩)
def excB : List Str := ["AgainError", "PartError", "ItemError", "BadNumber", "BadSpans", "NotChain"]
def supL : List (Str × List Str) := [("AgainError", ["AgainError"]), ("PartError", ["AgainError", "PartError"]), ("ItemError", ["AgainError", "ItemError"]), ("BadNumber", ["AgainError", "PartError", "BadNumber"]), ("BadSpans", ["AgainError", "ItemError", "BadSpans"]), ("NotChain", ["AgainError", "NotChain"])]
def sub : Tag → Tag → Option Bool := subOf excB supL
abbrev I_ItemError : InitW := initW "ItemError.__init__" (sAt 0 (sSs (top 3)))
abbrev I_PartError : InitW := initW "PartError.__init__" (sAt 0 (sSs (top 2)))
def catch_AgainError : Str → Option Bool := catchOf excB supL "AgainError"
def hasL_part : List Str := ["PartError", "BadNumber"]
def has_part : Str → Bool := hasOf hasL_part
def hasL_index : List Str := ["ItemError", "BadSpans"]
def has_index : Str → Bool := hasOf hasL_index
def fa_0 : List He.Fa := [.glo "law", .glo "_law_draw", .glo "_law_blend", .glo "_law_pick", .glo "_law_full", .glo "_law_spans", .glo "_law_is_chain", .glo "_law_right", .glo "_law_sum", .glo "_law_common", .glo "class_paper", .glo "need_spans_hands", .glo "need_spans", .glo "is_list", .glo "is_between", .glo "is_number", .glo "chain_right", .glo "classes_for", .glo "is_free", .glo "common_part", .glo "sum_of_shares", .glo "_law_is_paper", .glo "_law_are_classes", .glo "_law_is_whole", .glo "_law_meet", .glo "_law_near", .glo "_law_near_classes", .glo "_law_says", .glo "is_class_paper", .glo "classes_right"]
def fa_1 : List He.Fa := [.glo "_law_caught", .glo "_law_refuses", .glo "_law_bad_spans", .glo "_law_begun", .glo "AgainError", .glo "PartError", .glo "ItemError", .glo "BadNumber", .glo "BadSpans", .glo "NotChain", .free "super", .free "int", .free "len", .free "list", .free "max", .free "range", .free "min", .free "sorted", .free "zip", .free "tuple", .free "isinstance", .int "MOST_JOBS" 6, .free "bool", .int "MOST_SPAN" 60, .free "enumerate", .int "MOST_HANDS" 4, .free "all", .exc "NotChain", .free "str", .free "abs"]
def fa : List He.Fa := fa_0 ++ fa_1
def fn_0 : List He.DefD := [dOf "law" (top 46), dOf "_law_draw" (top 28), dOf "_law_blend" (top 27), dOf "_law_pick" (top 29), dOf "_law_full" (top 45), dOf "_law_spans" (top 33), dOf "_law_is_chain" (top 36), dOf "_law_right" (top 44), dOf "_law_sum" (top 35), dOf "_law_common" (top 34), dOf "class_paper" (top 23), dOf "need_spans_hands" (top 16), dOf "need_spans" (top 15), dOf "is_list" (top 10), dOf "is_between" (top 9), dOf "is_number" (top 8), dOf "chain_right" (top 19), dOf "classes_for" (top 21), dOf "is_free" (top 20), dOf "common_part" (top 17), dOf "sum_of_shares" (top 18), dOf "_law_is_paper" (top 42), dOf "_law_are_classes" (top 38), dOf "_law_is_whole" (top 32), dOf "_law_meet" (top 37), dOf "_law_near" (top 43), dOf "_law_near_classes" (top 39), dOf "_law_says" (top 31), dOf "is_class_paper" (top 24), dOf "classes_right" (top 22)]
def fn_1 : List He.DefD := [dOf "_law_caught" (top 30), dOf "_law_refuses" (top 41), dOf "_law_bad_spans" (top 40), dOf "_law_begun" (top 26)]
def fn : List He.DefD := fn_0 ++ fn_1
def tf : List He.Defn := [("_law_refuses", none), ("law", none)]
def ini : List (Str × InitW) := [("PartError", I_PartError), ("ItemError", I_ItemError)]
def exL (K : PySem.W.Frag) : List Bool := [tabsNd K tf,
  isiB K sub (tagsOf excB),
  excB.all fun c => excCB K (He.ga K c),
  initB K "/claim/cut.py" I_ItemError.qual I_ItemError.fld "ItemError" "BadSpans",
  initB K "/claim/cut.py" I_PartError.qual I_PartError.fld "PartError" "BadNumber",
  catchB K "AgainError" catch_AgainError excB,
  fldB K "part" hasL_part,
  fldB K "index" hasL_index]
def ex (K : PySem.W.Frag) : Bool := (exL K).all id
abbrev R : PySem.W.OpenRow := PySem.W.OpenLaw.row PySem.Challenge.rw_againsure_k57_whole_classes_or_a_sum
def ob (s : PySem.W.SharedT) : AlP := obsP 5 fa fn tf ex ini (HandSHeadRun.getT s)
def names_0 : List Str := ["AgainError", "PartError", "ItemError", "BadNumber", "BadSpans", "NotChain", "is_number", "is_between", "is_list", "MOST_JOBS", "MOST_SPAN", "MOST_HANDS", "need_spans", "need_spans_hands", "common_part", "sum_of_shares", "chain_right", "is_free", "classes_for", "classes_right", "class_paper", "is_class_paper", "_law_begun", "_law_blend", "_law_draw", "_law_pick", "_law_caught", "_law_says", "_law_is_whole", "_law_spans"]
def names_1 : List Str := ["_law_common", "_law_sum", "_law_is_chain", "_law_meet", "_law_are_classes", "_law_near_classes", "_law_bad_spans", "_law_refuses", "_law_is_paper", "_law_near", "_law_right", "_law_full"]
def names : List Str := names_0 ++ names_1
theorem run0 (w : World) : HandSHeadRun.RunEq R (PySem.W.view R.prog [46]) (hookV (fun s => obsP 5 fa fn tf ex ini s.heap.get?) (fun w => valP fn ini w)) ob 20000 names w := by
  intro os
  kernel_rfl
end LWk57
namespace PD
open PySem PySem.Spec L2
open PyProof.Rows hiding St

/-- plain data -/
inductive D where
  | non | bl (b : Bool) | int (i : Int) | str (x : Str) | ty (n : String)
  | tup (xs : List D) | lst (xs : List D) | dic (kvs : List (D × D))
  | ins (c : Str) (fs : List (Str × D)) | exc (c : Str) (fs : List (Str × D))
  | fn (x : Str) | clo (n : Nat) (caps : List D) | tape | script (ns : List Int)
deriving Inhabited

/-- zones: parts of the tracked heap -/
def ZLe (Z H : Hp) : Prop := ∀ a o, Z a = some o → H a = some o
theorem ZLe.refl (Z : Hp) : ZLe Z Z := fun _ _ h => h
theorem ZLe.trans {a b c : Hp} (x : ZLe a b) (y : ZLe b c) : ZLe a c := fun p o h => y p o (x p o h)
theorem ZLe.upd {Z : Hp} {p : Addr} {o : HO} (h : Z p = none) : ZLe Z (upd Z p o) := fun a u e => by
  rw [upd_ne (ne_of_none e h)]; exact e

/-- a lambda of the text: its whole name, its words, the names that it captures -/
structure LE where
  qual : Str
  params : Arguments
  ps : List Str
  body : Expr
  scope : Scope
  fr : List Str
/-- the object at f is such a function over the cells cl, its code object at c -/
def FnL (f : Addr) (l : LE) (cl : List (Str × Addr)) (c : Addr) : HO := .ext fun h => ∃ pm ctv : Value, h.get? f = some (PySem.W.kla_obj "<lambda>" l.qual l.params l.body l.scope cl pm c ctv)
/-- the object at a is o, as it stands -/
def CellX (a : Addr) (o : Obj) : HO := .ext fun h => h.get? a = some o
/-- the cells cs, by the names cl, hold the values vs of the captured names -/
structure CloC (cl : List (Str × Addr)) (fr : List Str) (cs : List (Addr × Obj)) (vs : List V) : Prop where
  len : vs.length = fr.length
  sub : ∀ y c, cl.lookup y = some c → ∃ o, cs.lookup c = some o
  inj : ∀ x y c, cl.lookup x = some c → cl.lookup y = some c → x = y
  cell : ∀ c o, cs.lookup c = some o → ∃ u, o.data = .cell u
  emp : fr = [] → cs = []
  has : ∀ (i : Nat) y, fr[i]? = some y → ∃ c o, cl.lookup y = some c ∧ cs.lookup c = some o ∧ ∀ v, vs[i]? = some v → ∃ u, RelV v u ∧ o.data = .cell (some u)
abbrev Cs := List (Addr × Obj)
/-- without these cells -/
def delC (H : Hp) (cs : Cs) : Hp := fun b => match cs.lookup b with
  | some _ => none
  | none => H b
theorem delC_in {H : Hp} {cs : Cs} {a : Addr} {o : Obj} (h : cs.lookup a = some o) : delC H cs a = none := by unfold delC; rw [h]
theorem delC_out {H : Hp} {cs : Cs} {a : Addr} (h : cs.lookup a = none) : delC H cs a = H a := by unfold delC; rw [h]
theorem delC_mono {Z Z' : Hp} {cs : Cs} (z : ZLe Z Z') : ZLe (delC Z cs) (delC Z' cs) := fun a u e => by
  unfold delC at e ⊢
  cases q : cs.lookup a with
  | none => rw [q] at e; exact z _ _ e
  | some o => rw [q] at e; cases e
/-- the value v is the n-th lambda over the cells cs, its captured names hold vs -/
def CloR (tab : Nat → Option LE) (n : Nat) (Z : Hp) (v : V) (vs : List V) (cs : Cs) : Prop := ∃ l f c cl, tab n = some l ∧ v = .ref f ∧ Z f = some (FnL f l cl c) ∧ Z c = some (LamX.CodeO c l.qual) ∧ CloC cl l.fr cs vs ∧ ∀ a o, cs.lookup a = some o → Z a = some (CellX a o)
/-- what is fixed through a law: the written part, the globals, how closures lie, the code tables -/
structure G where
  prog : Program
  w : World
  K : PySem.W.Frag
  mg : Str → Option Value
  base : Heap
  T : List NdefX.NTab
  tab : Nat → Option LE
  tkv : Addr → Addr → Int → Int → List (Key × V)

theorem CloR.mono {tab : Nat → Option LE} {n : Nat} {Z Z' : Hp} {v : V} {vs : List V} {cs : Cs} (z : ZLe Z Z') : CloR tab n Z v vs cs → CloR tab n Z' v vs cs := fun ⟨l, f, c, cl, h1, h2, h3, h4, h5, h6⟩ => ⟨l, f, c, cl, h1, h2, z _ _ h3, z _ _ h4, h5, fun a o q => z _ _ (h6 a o q)⟩
theorem SqL.mono {K : PySem.W.Frag} {Z H : Hp} {a : Addr} {xs : List V} (z : ZLe Z H) (h : SqL K Z a xs) : SqL K H a xs := by
  rcases h with (h | ⟨o, h⟩) | h
  · exact .inl (.inl (z _ _ h))
  · exact .inl (.inr ⟨o, z _ _ h⟩)
  · exact .inr h
theorem SqT.mono {K : PySem.W.Frag} {Z H : Hp} {a : Addr} {xs : List V} (z : ZLe Z H) (h : SqT K Z a xs) : SqT K H a xs := by
  rcases h with (h | ⟨o, h⟩) | h
  · exact .inl (.inl (z _ _ h))
  · exact .inl (.inr ⟨o, z _ _ h⟩)
  · exact .inr h

def kD : Key → D
  | .inl i => .int i
  | .inr x => .str x
/-- an exception object of the class at C, its dict -/
def excH (a : Addr) (C : Addr) (dx : Option Addr) : HO := .ext fun h => ∃ oe vs, h.get? a = some oe ∧ Zc (.ref C) dx oe ∧ oe.data = .fields vs

mutual
/-- v is the datum in the zone Z; tp: where the tape is -/
def Rep (g : G) (Z : Hp) (tp : Option (Addr × Addr × Addr)) : D → V → Prop
  | .non, v => v = .non
  | .bl b, v => v = .bl b
  | .int i, v => v = .int i
  | .str x, v => v = .str x
  | .ty n, v => v = .ty n
  | .tup ds, v => ∃ a vs, v = .ref a ∧ SqT g.K Z a vs ∧ RepL g Z tp ds vs
  | .lst ds, v => ∃ a vs, v = .ref a ∧ Z a = some (.lst vs) ∧ RepL g Z tp ds vs
  | .dic kvs, v => ∃ a ks, v = .ref a ∧ Z a = some (.dK ks) ∧ RepKV g Z tp kvs ks
  | .ins c fs, v => ∃ a C dx vs, v = .ref a ∧ g.mg c = some (.ref C) ∧ Z a = some (.ins C dx vs) ∧ RepF g Z tp fs vs
  | .exc c fs, v => ∃ a C dx vs, v = .ref a ∧ g.mg c = some (.ref C) ∧ Z a = some (excH a C dx) ∧ ((dx = none ∧ fs = []) ∨ ∃ dd, dx = some dd ∧ Z dd = some (.xd vs)) ∧ RepF g Z tp fs vs
  | .fn x, v => ∃ a, v = .ref a ∧ g.mg x = some (.ref a)
  | .clo n caps, v => ∃ vs cs, CloR g.tab n Z v vs cs ∧ RepL g (delC Z cs) tp caps vs
  | .tape, v => ∃ a l c, tp = some (a, l, c) ∧ v = .ref a
  | .script ns, v => ∃ a, v = .ref a ∧ SqL g.K Z a (ns.map V.int)
def RepL (g : G) (Z : Hp) (tp : Option (Addr × Addr × Addr)) : List D → List V → Prop
  | [], vs => vs = []
  | d :: ds, vs => ∃ v r, vs = v :: r ∧ Rep g Z tp d v ∧ RepL g Z tp ds r
def RepKV (g : G) (Z : Hp) (tp : Option (Addr × Addr × Addr)) : List (D × D) → List (Key × V) → Prop
  | [], vs => vs = []
  | (k, d) :: ds, vs => ∃ kk v r, vs = (kk, v) :: r ∧ k = kD kk ∧ Rep g Z tp d v ∧ RepKV g Z tp ds r
def RepF (g : G) (Z : Hp) (tp : Option (Addr × Addr × Addr)) : List (Str × D) → List (Str × V) → Prop
  | [], vs => vs = []
  | (k, d) :: ds, vs => ∃ v r, vs = (k, v) :: r ∧ Rep g Z tp d v ∧ RepF g Z tp ds r
end
section
variable {g : G} {Z Z' : Hp} {tp : Option (Addr × Addr × Addr)}
mutual
theorem Rep.mono {Z Z' : Hp} (z : ZLe Z Z') : ∀ (d : D) {v : V}, Rep g Z tp d v → Rep g Z' tp d v
  | .non, v, h => h
  | .bl b, v, h => h
  | .int i, v, h => h
  | .str x, v, h => h
  | .ty n, v, h => h
  | .tup ds, v, ⟨a, vs, e, q, r⟩ => ⟨a, vs, e, SqT.mono z q, RepL.mono z ds r⟩
  | .lst ds, v, ⟨a, vs, e, q, r⟩ => ⟨a, vs, e, z _ _ q, RepL.mono z ds r⟩
  | .dic kvs, v, ⟨a, ks, e, q, r⟩ => ⟨a, ks, e, z _ _ q, RepKV.mono z kvs r⟩
  | .ins c fs, v, ⟨a, C, dx, vs, e, m, q, r⟩ => ⟨a, C, dx, vs, e, m, z _ _ q, RepF.mono z fs r⟩
  | .exc c fs, v, ⟨a, C, dx, vs, e, m, q, f, r⟩ => ⟨a, C, dx, vs, e, m, z _ _ q, f.imp id (fun ⟨dd, e1, e2⟩ => ⟨dd, e1, z _ _ e2⟩), RepF.mono z fs r⟩
  | .fn x, v, h => h
  | .clo n caps, v, ⟨vs, cs, q, r⟩ => ⟨vs, cs, CloR.mono z q, RepL.mono (delC_mono z) caps r⟩
  | .tape, v, h => h
  | .script ns, v, ⟨a, e, q⟩ => ⟨a, e, SqL.mono z q⟩
theorem RepL.mono {Z Z' : Hp} (z : ZLe Z Z') : ∀ (ds : List D) {vs : List V}, RepL g Z tp ds vs → RepL g Z' tp ds vs
  | [], vs, h => h
  | d :: ds, vs, ⟨v, r, e, h, t⟩ => ⟨v, r, e, Rep.mono z d h, RepL.mono z ds t⟩
theorem RepKV.mono {Z Z' : Hp} (z : ZLe Z Z') : ∀ (ds : List (D × D)) {vs : List (Key × V)}, RepKV g Z tp ds vs → RepKV g Z' tp ds vs
  | [], vs, h => h
  | (k, d) :: ds, vs, ⟨kk, v, r, e, ek, h, t⟩ => ⟨kk, v, r, e, ek, Rep.mono z d h, RepKV.mono z ds t⟩
theorem RepF.mono {Z Z' : Hp} (z : ZLe Z Z') : ∀ (ds : List (Str × D)) {vs : List (Str × V)}, RepF g Z tp ds vs → RepF g Z' tp ds vs
  | [], vs, h => h
  | (k, d) :: ds, vs, ⟨v, r, e, h, t⟩ => ⟨v, r, e, Rep.mono z d h, RepF.mono z ds t⟩
end
theorem RepL.length : ∀ {ds : List D} {vs : List V}, RepL g Z tp ds vs → vs.length = ds.length
  | [], vs, h => by rw [RepL] at h; rw [h]; rfl
  | d :: ds, vs, h => by
    rw [RepL] at h
    obtain ⟨v, r, e, _, t⟩ := h
    rw [e, List.length_cons, RepL.length t, List.length_cons]
end
/-- the tables of code objects stand; the code objects that they tell lie in the zone -/
def NoTbl (Z : Hp) : Prop := ∀ a ps, Z a ≠ some (.tbl ps)
theorem NoTbl.upd {Z : Hp} (n : NoTbl Z) {p : Addr} {o : HO} (h : ∀ ps, o ≠ .tbl ps) : NoTbl (upd Z p o) := fun a ps e => by
  by_cases ha : a = p
  · rw [ha, upd_same] at e; exact h ps (Option.some.inj e)
  · rw [upd_ne ha] at e; exact n a ps e
def TabsK (T : List NdefX.NTab) (Z H : Hp) : Prop := NoTbl Z ∧ ∀ p ∈ T, ∃ ps : Array Value, H p.1 = some (.tbl ps) ∧ TriplesOk ps.toList ∧ ∀ (pos : Pos) (cv : Value), codeAmong pos ps.toList = some cv → ∃ c, cv = .ref c ∧ Z c = some (LamX.CodeO c (p.2 pos.line pos.col))
theorem TabsK.mono {T : List NdefX.NTab} {Z Z' H : Hp} (t : TabsK T Z H) (z : ZLe Z Z') (n : NoTbl Z') : TabsK T Z' H := ⟨n, fun p hp => by
  obtain ⟨ps, h1, h2, h3⟩ := t.2 p hp
  refine ⟨ps, h1, h2, fun pos cv hc => ?_⟩
  obtain ⟨c, e1, e2⟩ := h3 pos cv hc
  exact ⟨c, e1, z _ _ e2⟩⟩
theorem TabsK.ext {T : List NdefX.NTab} {Z H H' : Hp} (t : TabsK T Z H) (e : ∀ b ps, H b = some (.tbl ps) → H' b = some (.tbl ps)) : TabsK T Z H' := ⟨t.1, fun p hp => by
  obtain ⟨ps, h1, h2⟩ := t.2 p hp
  exact ⟨ps, e _ _ h1, h2⟩⟩
structure Tape where
  large : List Int
  rest : Int
  cells : List Int
  turn : Int
/-- a slot: not told, frozen data, a container of one's own, a container that may be read -/
inductive Sl where
  | un | fz (d : D) | own (d : D) | bor (d : D)
abbrev Rho := List Sl
/-- an expression's result: frozen, or a new container that nobody else holds -/
inductive Rs where
  | fz (d : D) | own (d : D)
structure Wd where
  Z : Hp
  tp : Option (Addr × Addr × Addr)
def tcell (w : Wd) (a : Addr) : Prop := ∃ t l c, w.tp = some (t, l, c) ∧ (a = t ∨ a = l)
structure TapeAt (g : G) (w : Wd) (H : Hp) (τ : Tape) (t l c : Addr) : Prop where
  ht : H t = some (.dK (g.tkv l c τ.rest τ.turn))
  hl : H l = some (.lst (τ.large.map V.int))
  hc : w.Z c = some (.lst (τ.cells.map V.int))
  zt : w.Z t = none
  zl : w.Z l = none
def TapeR (g : G) (w : Wd) (H : Hp) (τ : Tape) : Prop := ∀ t l c, w.tp = some (t, l, c) → TapeAt g w H τ t l c
/-- what a container holds: its items are frozen -/
def OwnR (g : G) (w : Wd) (H : Hp) (d : D) (p : Addr) : Prop := match d with
  | .lst ds => ∃ vs, H p = some (.lst vs) ∧ RepL g w.Z w.tp ds vs
  | .dic kvs => ∃ ks, H p = some (.dK ks) ∧ RepKV g w.Z w.tp kvs ks
  | _ => False
def CellR (g : G) (w : Wd) (H : Hp) (d : D) (v : Option V) : Prop := ∃ p, v = some (.ref p) ∧ OwnR g w H d p ∧ w.Z p = none ∧ ¬ tcell w p
/-- a dict that is walked: it is locked -/
def LckC (g : G) (w : Wd) (H : Hp) (d : D) (v : Option V) : Prop := ∃ p, v = some (.ref p) ∧ (∃ n kvs o ks, d = .clo n [.dic kvs] ∧ H p = some (.frz o (.dK ks)) ∧ RepKV g w.Z w.tp kvs ks) ∧ w.Z p = none ∧ ¬ tcell w p
theorem LckC.map {g : G} {w w' : Wd} {H H' : Hp} {d : D} {v : Option V} (h : LckC g w H d v) (hm : ∀ p x y, v = some (.ref p) → H p = some (.frz x y) → w.Z p = none → ¬ tcell w p → H' p = some (.frz x y) ∧ w'.Z p = none ∧ ¬ tcell w' p) (hk : ∀ kvs ks, RepKV g w.Z w.tp kvs ks → RepKV g w'.Z w'.tp kvs ks) : LckC g w' H' d v := by
  obtain ⟨p, e, ⟨n, kvs, o, ks, e1, e2, e3⟩, z, t⟩ := h
  obtain ⟨a, b, c⟩ := hm p _ _ e e2 z t
  exact ⟨p, e, ⟨n, kvs, o, ks, e1, a, hk _ _ e3⟩, b, c⟩
def SlR (g : G) (w : Wd) (H : Hp) : Sl → Option V → Prop
  | .un, _ => True
  | .fz d, v => ∃ u, v = some u ∧ Rep g w.Z w.tp d u
  | .own d, v => CellR g w H d v
  | .bor d, v => CellR g w H d v ∨ LckC g w H d v
def isCell : Sl → Bool
  | .own _ => true
  | .bor _ => true
  | _ => false
def isOwn : Sl → Bool
  | .own _ => true
  | _ => false
def ownAt (ρ : Rho) (σ : St) (a : Addr) : Prop := ∃ i s, ρ[(i : Nat)]? = some s ∧ isOwn s = true ∧ σ[(i : Nat)]? = some (some (V.ref a))
def cellAt (ρ : Rho) (σ : St) (a : Addr) : Prop := ∃ i s, ρ[(i : Nat)]? = some s ∧ isCell s = true ∧ σ[(i : Nat)]? = some (some (V.ref a))
theorem isCell_of_own {s : Sl} (h : isOwn s = true) : isCell s = true := by cases s <;> first | rfl | cases h
theorem cellAt_of_own {ρ : Rho} {σ : St} {a : Addr} : ownAt ρ σ a → cellAt ρ σ a := fun ⟨i, s, e, h, k⟩ => ⟨i, s, e, isCell_of_own h, k⟩
def Lic (w : Wd) (ρ : Rho) (σ : St) (a : Addr) : Prop := tcell w a ∨ ownAt ρ σ a
structure EnvR (g : G) (w : Wd) (H : Hp) (ρ : Rho) (τ : Tape) (σ : St) : Prop where
  len : ρ.length = σ.length
  sl : ∀ (i : Nat) s, ρ[i]? = some s → SlR g w H s ((σ[i]?).getD none)
  ap : ∀ (i j : Nat) s t p, i ≠ j → ρ[i]? = some s → isOwn s = true → ρ[j]? = some t → isCell t = true → σ[i]? = some (some (V.ref p)) → σ[j]? = some (some (V.ref p)) → False
  zle : ZLe w.Z H
  tape : TapeR g w H τ
  tabs : TabsK g.T w.Z H
/-- what a step may change: what L lets, and the code tables -/
structure Step (L : Addr → Prop) (w : Wd) (H : Hp) (w' : Wd) (H' : Hp) : Prop where
  z : ZLe w.Z w'.Z
  tp : w'.tp = w.tp
  fr : ∀ a o, H a = some o → ¬ L a → (∀ ps, o ≠ .tbl ps) → H' a = some o
  nz : ∀ a, w.Z a = none → w'.Z a ≠ none → H a = none ∨ L a
  al : ∀ a, H' a = none → H a = none
theorem Step.refl (L : Addr → Prop) (w : Wd) (H : Hp) : Step L w H w H := ⟨ZLe.refl _, rfl, fun _ _ h _ _ => h, fun _ a b => absurd a b, fun _ h => h⟩
theorem Step.trans {L L1 : Addr → Prop} {w w1 w2 : Wd} {H H1 H2 : Hp} (a : Step L w H w1 H1) (b : Step L1 w1 H1 w2 H2) (hL : ∀ p, L1 p → L p ∨ H p = none) : Step L w H w2 H2 where
  z := a.z.trans b.z
  tp := b.tp.trans a.tp
  fr := fun p o h n t => b.fr p o (a.fr p o h n t) (fun l => (hL p l).elim n fun e => by rw [h] at e; cases e) t
  nz := fun p e n => by
    by_cases h : w1.Z p = none
    · rcases b.nz p h n with q | q
      · exact .inl (a.al p q)
      · exact (hL p q).symm
    · exact a.nz p e h
  al := fun p h => a.al p (b.al p h)
theorem Step.mono {L L' : Addr → Prop} {w w' : Wd} {H H' : Hp} (a : Step L w H w' H') (h : ∀ p, L p → L' p) : Step L' w H w' H' :=
  ⟨a.z, a.tp, fun p o e n t => a.fr p o e (fun l => n (h p l)) t, fun p e n => (a.nz p e n).imp id (h p), a.al⟩
theorem tcell_tp {w w' : Wd} (h : w'.tp = w.tp) {a : Addr} : tcell w' a ↔ tcell w a := by unfold tcell; rw [h]
/-- a statement (or an expression, where the slots stay) has run -/
structure Ps (g : G) (w : Wd) (H : Hp) (ρ : Rho) (σ : St) (w' : Wd) (H' : Hp) (ρ' : Rho) (τ' : Tape) (σ' : St) : Prop where
  env : EnvR g w' H' ρ' τ' σ'
  st : Step (Lic w ρ σ) w H w' H'
  lic : ∀ a, ownAt ρ' σ' a → ownAt ρ σ a ∨ H a = none
  bor : ∀ (i : Nat) d, ρ'[i]? = some (.bor d) → ρ[i]? = some (.bor d) ∧ σ'[i]? = σ[i]?
theorem Ps.refl {g : G} {w : Wd} {H : Hp} {ρ : Rho} {τ : Tape} {σ : St} (e : EnvR g w H ρ τ σ) : Ps g w H ρ σ w H ρ τ σ := ⟨e, Step.refl _ _ _, fun _ h => .inl h, fun _ _ h => ⟨h, rfl⟩⟩
theorem Ps.licT {g : G} {w : Wd} {H : Hp} {ρ : Rho} {σ : St} {w1 : Wd} {H1 : Hp} {ρ1 : Rho} {τ1 : Tape} {σ1 : St} (a : Ps g w H ρ σ w1 H1 ρ1 τ1 σ1) {p : Addr} (h : Lic w1 ρ1 σ1 p) : Lic w ρ σ p ∨ H p = none := by
  rcases h with h | h
  · exact .inl (.inl ((tcell_tp a.st.tp).mp h))
  · exact (a.lic p h).imp .inr id
theorem Ps.trans {g : G} {w w1 w2 : Wd} {H H1 H2 : Hp} {ρ ρ1 ρ2 : Rho} {σ σ1 σ2 : St} {τ1 τ2 : Tape} (a : Ps g w H ρ σ w1 H1 ρ1 τ1 σ1) (b : Ps g w1 H1 ρ1 σ1 w2 H2 ρ2 τ2 σ2) : Ps g w H ρ σ w2 H2 ρ2 τ2 σ2 where
  env := b.env
  st := a.st.trans b.st fun p l => a.licT l
  lic := fun p h => (b.lic p h).elim (a.lic p) fun e => .inr (a.st.al p e)
  bor := fun i d h => by
    obtain ⟨h1, e1⟩ := b.bor i d h
    obtain ⟨h2, e2⟩ := a.bor i d h1
    exact ⟨h2, e1.trans e2⟩
/-- a result: new containers are new, or were a slot's -/
def RsR (g : G) (w : Wd) (H : Hp) (ρ : Rho) (σ : St) (w' : Wd) (H' : Hp) (ρ' : Rho) (σ' : St) : Rs → V → Prop
  | .fz d, v => Rep g w'.Z w'.tp d v
  | .own d, v => ∃ p, v = .ref p ∧ OwnR g w' H' d p ∧ w'.Z p = none ∧ ¬ tcell w' p ∧ ¬ cellAt ρ' σ' p ∧ (H p = none ∨ ownAt ρ σ p)
/-- an exception that flies -/
def ExR (g : G) (w : Wd) (x : D) (cls : Value) (dx : Option Addr) : Prop := match x with
  | .exc c fs => ∃ C vs, g.mg c = some (.ref C) ∧ cls = .ref C ∧ ((dx = none ∧ fs = []) ∨ ∃ dd, dx = some dd ∧ w.Z dd = some (.xd vs)) ∧ RepF g w.Z w.tp fs vs
  | _ => False
inductive O (α : Type) where
  | ok (a : α) (ρ : Rho) (τ : Tape) | exc (x : D) (ρ : Rho) (τ : Tape) | bad
inductive SO where
  | nx (ρ : Rho) (τ : Tape) | rt (r : Rs) (τ : Tape) | bk (ρ : Rho) (τ : Tape) | ct (ρ : Rho) (τ : Tape) | exc (x : D) (ρ : Rho) (τ : Tape) | bad
abbrev Ev := Rho → Tape → O Rs
abbrev Tv := Rho → Tape → O Bool
abbrev Av := Rho → Tape → O (List D)
abbrev Sv := Rho → Tape → SO
def O.bind {α β : Type} (m : O α) (f : α → Rho → Tape → O β) : O β := match m with
  | .ok a ρ τ => f a ρ τ
  | .exc x ρ τ => .exc x ρ τ
  | .bad => .bad
section
variable (g : G) (W : WX)
def tD (ev : Ev) : TE := fun σ H Q => ∃ w ρ τ, EnvR g w H ρ τ σ ∧ match ev ρ τ with
  | .ok r ρ' τ' => ∀ w' H' v, Ps g w H ρ σ w' H' ρ' τ' σ → RsR g w H ρ σ w' H' ρ' σ r v → Q v H'
  | .exc x ρ' τ' => ∀ w' H' cls dx, Ps g w H ρ σ w' H' ρ' τ' σ → ExR g w' x cls dx → W cls dx σ H'
  | .bad => False
def tT (tv : Tv) : TT := fun σ H Q => ∃ w ρ τ, EnvR g w H ρ τ σ ∧ match tv ρ τ with
  | .ok b ρ' τ' => ∀ w' H', Ps g w H ρ σ w' H' ρ' τ' σ → Q b H'
  | .exc x ρ' τ' => ∀ w' H' cls dx, Ps g w H ρ σ w' H' ρ' τ' σ → ExR g w' x cls dx → W cls dx σ H'
  | .bad => False
/-- frozen values in a row -/
def tA (av : Av) : TA := fun σ H Q => ∃ w ρ τ, EnvR g w H ρ τ σ ∧ match av ρ τ with
  | .ok ds ρ' τ' => ∀ w' H' vs, Ps g w H ρ σ w' H' ρ' τ' σ → RepL g w'.Z w'.tp ds vs → Q vs H'
  | .exc x ρ' τ' => ∀ w' H' cls dx, Ps g w H ρ σ w' H' ρ' τ' σ → ExR g w' x cls dx → W cls dx σ H'
  | .bad => False
def tS (sv : Sv) : TS := fun D σ H => ∃ w ρ τ, EnvR g w H ρ τ σ ∧ match sv ρ τ with
  | .nx ρ' τ' => ∀ w' H' σ', Ps g w H ρ σ w' H' ρ' τ' σ' → D.nx σ' H'
  | .bk ρ' τ' => ∀ w' H' σ', Ps g w H ρ σ w' H' ρ' τ' σ' → D.bk σ' H'
  | .ct ρ' τ' => ∀ w' H' σ', Ps g w H ρ σ w' H' ρ' τ' σ' → D.ct σ' H'
  | .rt r τ' => ∀ w' H' σ' ρ' v, Ps g w H ρ σ w' H' ρ' τ' σ' → RsR g w H ρ σ w' H' ρ' σ' r v → D.rt v H'
  | .exc x ρ' τ' => ∀ w' H' σ' cls dx, Ps g w H ρ σ w' H' ρ' τ' σ' → ExR g w' x cls dx → W cls dx σ' H'
  | .bad => False
end
structure At (g : G) (k : Nat) (X : Cx) (W : WX) : Prop where
  room : Room k X.A
  prog : X.prog = g.prog
  w : X.w = g.w
  K : X.K = g.K
  mg : X.mg = g.mg
  base : X.base = g.base
  calm : X.calm = true
  nd : X.N.Nodup
  guards : X.A.guards = some []
  takes : Takes X W
  passes : PassesOwn (model X.prog X.w) X.A X.env X.xe
def PyE (g : G) (k : Nat) (X : Cx) (W : WX) (e : Expr) (ev : Ev) : Prop := At g k X W → PE X e (tD g W ev)
def PyT (g : G) (k : Nat) (X : Cx) (W : WX) (e : Expr) (tv : Tv) : Prop := At g k X W → PT X e (tT g W tv)
def PyA (g : G) (k : Nat) (X : Cx) (W : WX) (es : List Expr) (av : Av) : Prop := At g k X W → PA X es (tA g W av)
def PyS (g : G) (k : Nat) (X : Cx) (W : WX) (st : Stmt) (sv : Sv) : Prop := At g k X W → PS X st (tS g W sv)
def PySs (g : G) (k : Nat) (X : Cx) (W : WX) (st : List Stmt) (sv : Sv) : Prop := At g k X W → PSs X st (tS g W sv)
theorem _root_.L2.PE.imp' {X : Cx} {e : Expr} {t t' : TE} (h : PE X e t) (i : ∀ σ H Q, t' σ H Q → t σ H Q) : PE X e t' := ⟨fun pins s σ H Q I q => h.run pins s σ H Q I (i σ H Q q)⟩
theorem _root_.L2.PT.imp' {X : Cx} {e : Expr} {t t' : TT} (h : PT X e t) (i : ∀ σ H Q, t' σ H Q → t σ H Q) : PT X e t' := ⟨fun pins s σ H Q I q => h.run pins s σ H Q I (i σ H Q q)⟩
theorem _root_.L2.PA.imp' {X : Cx} {e : List Expr} {t t' : TA} (h : PA X e t) (i : ∀ σ H Q, t' σ H Q → t σ H Q) : PA X e t' := ⟨fun pos pins s σ H Q I q => h.run pos pins s σ H Q I (i σ H Q q)⟩
theorem _root_.L2.PS.imp' {X : Cx} {e : Stmt} {t t' : TS} (h : PS X e t) (i : ∀ D σ H, t' D σ H → t D σ H) : PS X e t' := ⟨fun pins s σ H D I q => h.run pins s σ H D I (i D σ H q)⟩
theorem _root_.L2.PSs.imp' {X : Cx} {e : List Stmt} {t t' : TS} (h : PSs X e t) (i : ∀ D σ H, t' D σ H → t D σ H) : PSs X e t' := ⟨fun pins s σ H D I q => h.run pins s σ H D I (i D σ H q)⟩
end PD
namespace PD
open PySem PySem.Spec L2
open PyProof.Rows hiding St

section
variable {g : G} {w : Wd} {H : Hp} {ρ : Rho} {τ : Tape} {σ : St}
theorem CellR.zone {d : D} {v : Option V} {p : Addr} {o : HO} (h : CellR g w H d v) (hz : w.Z p = none) (hp : v ≠ some (.ref p)) : CellR g { w with Z := upd w.Z p o } H d v := by
  obtain ⟨q, e, r, z, t⟩ := h
  have hq : q ≠ p := fun x => hp (by rw [e, x])
  refine ⟨q, e, ?_, (upd_ne hq).trans z, t⟩
  cases d with
  | lst ds => obtain ⟨vs, h1, h2⟩ := r; exact ⟨vs, h1, RepL.mono (ZLe.upd hz) _ h2⟩
  | dic kvs => obtain ⟨ks, h1, h2⟩ := r; exact ⟨ks, h1, RepKV.mono (ZLe.upd hz) _ h2⟩
  | _ => exact r
theorem SlR.zone {s : Sl} {v : Option V} {p : Addr} {o : HO} (h : SlR g w H s v) (hz : w.Z p = none) (hp : isCell s = true → v ≠ some (.ref p)) : SlR g { w with Z := upd w.Z p o } H s v := by
  cases s with
  | un => trivial
  | fz d => obtain ⟨u, e, r⟩ := h; exact ⟨u, e, Rep.mono (ZLe.upd hz) _ r⟩
  | own d => exact CellR.zone h hz (hp rfl)
  | bor d => exact h.imp (fun h => CellR.zone h hz (hp rfl)) fun h => h.map (fun q x y e e2 z t => ⟨e2, (upd_ne (fun n => hp rfl (by rw [e, n]))).trans z, t⟩) fun _ _ => RepKV.mono (ZLe.upd hz) _
theorem getD_some {σ : St} {i : Nat} {v : V} (h : (σ[i]?).getD none = some v) : σ[i]? = some (some v) := by
  cases e : σ[i]? with
  | none => rw [e] at h; cases h
  | some o => rw [e] at h; exact congrArg some h
theorem EnvR.zone (e : EnvR g w H ρ τ σ) {p : Addr} {o : HO} (ho : ∀ ps, o ≠ .tbl ps) (hp : H p = some o) (hz : w.Z p = none) (ht : ¬ tcell w p) (hc : ¬ cellAt ρ σ p) : EnvR g { w with Z := upd w.Z p o } H ρ τ σ where
  len := e.len
  sl := fun i s h => (e.sl i s h).zone hz fun hs q => hc ⟨i, s, h, hs, getD_some q⟩
  ap := e.ap
  zle := fun a u q => by
    have q : upd w.Z p o a = some u := q
    by_cases h : a = p
    · subst h; rw [upd_same] at q; rw [← q]; exact hp
    · rw [upd_ne h] at q; exact e.zle a u q
  tape := fun t l c q => by
    have T := e.tape t l c q
    have n1 : t ≠ p := fun x => ht ⟨t, l, c, q, .inl x.symm⟩
    have n2 : l ≠ p := fun x => ht ⟨t, l, c, q, .inr x.symm⟩
    exact ⟨T.ht, T.hl, ZLe.upd hz _ _ T.hc, (upd_ne n1).trans T.zt, (upd_ne n2).trans T.zl⟩
  tabs := e.tabs.mono (ZLe.upd hz) (e.tabs.1.upd ho)
theorem set_get {α : Type} {l : List α} {i j : Nat} {x y : α} (h : (l.set i x)[j]? = some y) : (j = i ∧ y = x) ∨ (j ≠ i ∧ l[j]? = some y) := by
  by_cases e : j = i
  · subst e
    by_cases hl : j < l.length
    · rw [List.getElem?_set_self hl] at h; exact .inl ⟨rfl, (Option.some.inj h).symm⟩
    · rw [List.getElem?_eq_none (by simpa using hl)] at h; cases h
  · rw [List.getElem?_set_ne (Ne.symm e)] at h; exact .inr ⟨e, h⟩
/-- a slot told otherwise, its value the same -/
theorem EnvR.told (e : EnvR g w H ρ τ σ) {i : Nat} {s : Sl} (hs : SlR g w H s ((σ[i]?).getD none)) (hc : isCell s = false) : EnvR g w H (ρ.set i s) τ σ where
  len := by rw [List.length_set]; exact e.len
  sl := fun j t h => by
    rcases set_get h with ⟨rfl, rfl⟩ | ⟨_, h⟩
    · exact hs
    · exact e.sl j t h
  ap := fun j k t u p n h1 o1 h2 o2 => by
    rcases set_get h1 with ⟨rfl, rfl⟩ | ⟨_, h1⟩
    · rw [isCell_of_own o1] at hc; cases hc
    · rcases set_get h2 with ⟨rfl, rfl⟩ | ⟨_, h2⟩
      · rw [o2] at hc; cases hc
      · exact e.ap j k t u p n h1 o1 h2 o2
  zle := e.zle
  tape := e.tape
  tabs := e.tabs
theorem cellAt_told {i : Nat} {s : Sl} (hc : isCell s = false) {a : Addr} (h : cellAt (ρ.set i s) σ a) : cellAt ρ σ a := by
  obtain ⟨j, t, h1, o1, h2⟩ := h
  rcases set_get h1 with ⟨rfl, rfl⟩ | ⟨_, h1⟩
  · rw [o1] at hc; cases hc
  · exact ⟨j, t, h1, o1, h2⟩
theorem ownAt_told {i : Nat} {s : Sl} (hc : isCell s = false) {a : Addr} (h : ownAt (ρ.set i s) σ a) : ownAt ρ σ a := by
  obtain ⟨j, t, h1, o1, h2⟩ := h
  rcases set_get h1 with ⟨rfl, rfl⟩ | ⟨_, h1⟩
  · rw [isCell_of_own o1] at hc; cases hc
  · exact ⟨j, t, h1, o1, h2⟩
/-- no other slot holds the cell of an own one -/
theorem EnvR.alone (e : EnvR g w H ρ τ σ) {i : Nat} {s t : Sl} {p : Addr} (hi : ρ[i]? = some s) (ho : isOwn s = true) (hp : σ[i]? = some (some (V.ref p))) (hc : isCell t = false) : ¬ cellAt (ρ.set i t) σ p := by
  rintro ⟨j, u, h1, o1, h2⟩
  rcases set_get h1 with ⟨rfl, rfl⟩ | ⟨n, h1⟩
  · rw [o1] at hc; cases hc
  · exact e.ap i j s u p (Ne.symm n) hi ho h1 o1 hp h2
/-- the object of a container -/
def contO (d : D) (H : Hp) (p : Addr) : HO := (H p).getD (.lst [])
theorem OwnR.at {d : D} {p : Addr} (h : OwnR g w H d p) : ∃ o, H p = some o ∧ (∀ ps, o ≠ .tbl ps) ∧ ∀ tp, tp = w.tp → w.Z p = none → Rep g (upd w.Z p o) tp d (.ref p) := by
  cases d with
  | lst ds =>
    obtain ⟨vs, h1, h2⟩ := h
    refine ⟨_, h1, (fun ps z => nomatch z), fun tp e hz => ?_⟩
    subst e
    rw [Rep]
    exact ⟨p, vs, rfl, upd_same, RepL.mono (ZLe.upd hz) _ h2⟩
  | dic kvs =>
    obtain ⟨ks, h1, h2⟩ := h
    refine ⟨_, h1, (fun ps z => nomatch z), fun tp e hz => ?_⟩
    subst e
    rw [Rep]
    exact ⟨p, ks, rfl, upd_same, RepKV.mono (ZLe.upd hz) _ h2⟩
  | _ => exact h.elim
/-- a container is frozen: its slot is told so (or it is a result) -/
theorem Ps.freeze {w1 : Wd} {H1 : Hp} {ρ1 : Rho} {τ1 : Tape} {σ1 : St} (a : Ps g w H ρ σ w1 H1 ρ1 τ1 σ1) {d : D} {p : Addr} (r : OwnR g w1 H1 d p) (z : w1.Z p = none) (t : ¬ tcell w1 p) (c : ¬ cellAt ρ1 σ1 p) (l : H p = none ∨ ownAt ρ σ p) :
    ∃ w2, Ps g w H ρ σ w2 H1 ρ1 τ1 σ1 ∧ Rep g w2.Z w2.tp d (.ref p) ∧ ZLe w1.Z w2.Z ∧ w2.tp = w1.tp := by
  obtain ⟨o, h1, h0, h2⟩ := r.at
  refine ⟨{ w1 with Z := upd w1.Z p o }, ⟨a.env.zone h0 h1 z t c, ⟨a.st.z.trans (ZLe.upd z), a.st.tp, a.st.fr, fun q e n => ?_, a.st.al⟩, a.lic, a.bor⟩, h2 _ rfl z, ZLe.upd z, rfl⟩
  by_cases hq : q = p
  · subst hq
    exact l.imp id .inr
  · have n' : upd w1.Z p o q ≠ none := n
    rw [upd_ne hq] at n'
    exact a.st.nz q e n'
end

def vLit (d : D) : Ev := fun ρ τ => .ok (.fz d) ρ τ
/-- a name's value, frozen -/
def vVar (i : Nat) : Ev := fun ρ τ => match ρ[i]? with
  | some (.fz d) => .ok (.fz d) ρ τ
  | some (.own d) => .ok (.fz d) (ρ.set i (.fz d)) τ
  | _ => .bad
/-- a name's value, the container handed on -/
def vMove (i : Nat) : Ev := fun ρ τ => match ρ[i]? with
  | some (.fz d) => .ok (.fz d) ρ τ
  | some (.own d) => .ok (.own d) (ρ.set i .un) τ
  | _ => .bad
/-- the result frozen -/
def vFz (ev : Ev) : Ev := fun ρ τ => match ev ρ τ with
  | .ok (.own d) ρ' τ' => .ok (.fz d) ρ' τ'
  | r => r
section
variable {g : G} {k : Nat} {X : Cx} {W : WX}
theorem py_lit {e : Expr} {v : V} {d : D} (h : PE X e (tC v)) (hr : ∀ Z tp, Rep g Z tp d v := by intro _ _; rfl) : PyE g k X W e (vLit d) := fun _ => h.imp' fun σ H Q q => by
  obtain ⟨w, ρ, τ, env, q⟩ := q
  exact q w H v (Ps.refl env) (hr _ _)
theorem tD_fz {ev : Ev} {σ : St} {H : Hp} {Q : VK} (q : tD g W (vFz ev) σ H Q) : tD g W ev σ H Q := by
  obtain ⟨w, ρ, τ, env, q⟩ := q
  refine ⟨w, ρ, τ, env, ?_⟩
  unfold vFz at q
  cases e : ev ρ τ with
  | ok r ρ' τ' =>
    rw [e] at q
    cases r with
    | fz d => exact q
    | own d =>
      intro w' H' v a hr
      obtain ⟨p, rfl, r, z, t, c, l⟩ := hr
      obtain ⟨w2, a2, r2, _, _⟩ := a.freeze r z t c l
      exact q w2 H' (.ref p) a2 r2
  | exc x ρ' τ' => rw [e] at q; exact q
  | bad => rw [e] at q; exact q.elim
theorem py_fz {e : Expr} {ev : Ev} (h : PyE g k X W e ev) : PyE g k X W e (vFz ev) := fun A => (h A).imp' fun σ H Q q => tD_fz q
theorem SlR.got {w : Wd} {H : Hp} {s : Sl} {v : Option V} (h : SlR g w H s v) (hs : s ≠ .un) : ∃ u, v = some u := by
  cases s with
  | un => exact (hs rfl).elim
  | fz d => obtain ⟨u, e, _⟩ := h; exact ⟨u, e⟩
  | own d => obtain ⟨u, e, _⟩ := h; exact ⟨_, e⟩
  | bor d => rcases h with ⟨u, e, _⟩ | ⟨u, e, _⟩ <;> exact ⟨_, e⟩
theorem own_slot {w : Wd} {H : Hp} {ρ : Rho} {τ : Tape} {σ : St} (env : EnvR g w H ρ τ σ) {i : Nat} {d : D} (hi : ρ[i]? = some (.own d)) : ∃ p, σ[i]? = some (some (V.ref p)) ∧ OwnR g w H d p ∧ w.Z p = none ∧ ¬ tcell w p := by
  obtain ⟨p, e, r, z, t⟩ := env.sl i _ hi
  exact ⟨p, getD_some e, r, z, t⟩
theorem fz_slot {w : Wd} {H : Hp} {ρ : Rho} {τ : Tape} {σ : St} (env : EnvR g w H ρ τ σ) {i : Nat} {d : D} (hi : ρ[i]? = some (.fz d)) : ∃ v, σ[i]? = some (some v) ∧ Rep g w.Z w.tp d v := by
  obtain ⟨u, e, r⟩ := env.sl i _ hi
  exact ⟨u, getD_some e, r⟩
theorem told_ps {w : Wd} {H : Hp} {ρ : Rho} {τ : Tape} {σ : St} (env : EnvR g w H ρ τ σ) {i : Nat} {s : Sl} (hs : SlR g w H s ((σ[i]?).getD none)) (hc : isCell s = false) : Ps g w H ρ σ w H (ρ.set i s) τ σ :=
  ⟨env.told hs hc, Step.refl _ _ _, fun a h => .inl (ownAt_told hc h), fun j d h => by
    rcases set_get h with ⟨rfl, e⟩ | ⟨_, h⟩
    · rw [← e] at hc; cases hc
    · exact ⟨h, rfl⟩⟩
/-- an own slot is frozen -/
theorem frz_slot {w : Wd} {H : Hp} {ρ : Rho} {τ : Tape} {σ : St} (env : EnvR g w H ρ τ σ) {i : Nat} {d : D} {p : Addr} (hi : ρ[i]? = some (.own d)) (hp : σ[i]? = some (some (V.ref p))) :
    ∃ w', Ps g w H ρ σ w' H (ρ.set i (.fz d)) τ σ ∧ Rep g w'.Z w'.tp d (.ref p) := by
  obtain ⟨q, e, r, z, t⟩ := own_slot env hi
  rw [hp] at e
  obtain rfl : p = q := by injection e with e; injection e with e; injection e
  have a1 := told_ps env (i := i) (s := .un) trivial rfl
  have al := env.alone hi rfl hp (t := .un) rfl
  obtain ⟨w2, a2, r2, zz, _⟩ := a1.freeze r z t al (.inr ⟨i, _, hi, rfl, hp⟩)
  refine ⟨w2, ?_, r2⟩
  have a3 := told_ps a2.env (i := i) (s := .fz d) ⟨.ref p, by rw [hp]; rfl, r2⟩ rfl
  rw [List.set_set] at a3
  exact a2.trans a3
theorem tD_var {i : Nat} {σ : St} {H : Hp} {Q : VK} (q : tD g W (vVar i) σ H Q) : tVar i σ H Q := by
  obtain ⟨w, ρ, τ, env, q⟩ := q
  unfold vVar at q
  split at q <;> rename_i hq
  · split at hq <;> rename_i hi
    · cases hq
      obtain ⟨v, e, r⟩ := fz_slot env hi
      exact ⟨v, e, q w H v (Ps.refl env) r⟩
    · cases hq
      obtain ⟨p, e, _⟩ := own_slot env hi
      obtain ⟨w', a, r⟩ := frz_slot env hi e
      exact ⟨.ref p, e, q w' H _ a r⟩
    · cases hq
  · split at hq <;> cases hq
  · exact q.elim
theorem py_var {i : Nat} {x : Str} {pos : Pos} (h : PE X (.Name x pos) (tVar i)) : PyE g k X W (.Name x pos) (vVar i) := fun _ => h.imp' fun σ H Q q => tD_var q
theorem tD_move {i : Nat} {σ : St} {H : Hp} {Q : VK} (q : tD g W (vMove i) σ H Q) : tVar i σ H Q := by
  obtain ⟨w, ρ, τ, env, q⟩ := q
  unfold vMove at q
  split at q <;> rename_i hq
  · split at hq <;> rename_i hi
    · cases hq
      obtain ⟨v, e, r⟩ := fz_slot env hi
      exact ⟨v, e, q w H v (Ps.refl env) r⟩
    · cases hq
      obtain ⟨p, e, r, z, t⟩ := own_slot env hi
      exact ⟨.ref p, e, q w H _ (told_ps env (s := .un) trivial rfl) ⟨p, rfl, r, z, t, env.alone hi rfl e rfl, .inr ⟨i, _, hi, rfl, e⟩⟩⟩
    · cases hq
  · split at hq <;> cases hq
  · exact q.elim
theorem py_move {i : Nat} {x : Str} {pos : Pos} (h : PE X (.Name x pos) (tVar i)) : PyE g k X W (.Name x pos) (vMove i) := fun _ => h.imp' fun σ H Q q => tD_move q
end

inductive Arg where
  | ex (ev : Ev) | pk (i : Nat) | se (ev : Ev) | sp (i : Nat)
def seqD : D → Option (List D)
  | .lst ds => some ds
  | .tup ds => some ds
  | _ => none
def slD : Sl → Option D
  | .un => none
  | .fz d => some d
  | .own d => some d
  | .bor (.clo _ _) => none
  | .bor d => some d
def aEx : List Arg → Rho → Tape → O (List (Sum D Nat))
  | [], ρ, τ => .ok [] ρ τ
  | .ex ev :: r, ρ, τ => match vFz ev ρ τ with
    | .ok (.fz d) ρ1 τ1 => (match aEx r ρ1 τ1 with
      | .ok xs ρ2 τ2 => .ok (.inl d :: xs) ρ2 τ2
      | .exc x ρ2 τ2 => .exc x ρ2 τ2
      | .bad => .bad)
    | .ok (.own _) _ _ => .bad
    | .exc x ρ1 τ1 => .exc x ρ1 τ1
    | .bad => .bad
  | .pk i :: r, ρ, τ => match (ρ[i]?).bind slD with
    | some _ => (match aEx r ρ τ with
      | .ok xs ρ2 τ2 => .ok (.inr i :: xs) ρ2 τ2
      | .exc x ρ2 τ2 => .exc x ρ2 τ2
      | .bad => .bad)
    | none => .bad
  | .se ev :: r, ρ, τ => match vFz ev ρ τ with
    | .ok (.fz d) ρ1 τ1 => (match seqD d with
      | some ds => (match aEx r ρ1 τ1 with
        | .ok xs ρ2 τ2 => .ok (ds.map Sum.inl ++ xs) ρ2 τ2
        | .exc x ρ2 τ2 => .exc x ρ2 τ2
        | .bad => .bad)
      | none => .bad)
    | .ok (.own _) _ _ => .bad
    | .exc x ρ1 τ1 => .exc x ρ1 τ1
    | .bad => .bad
  | .sp i :: r, ρ, τ => match ((ρ[i]?).bind slD).bind seqD with
    | some ds => (match aEx r ρ τ with
      | .ok xs ρ2 τ2 => .ok (ds.map Sum.inl ++ xs) ρ2 τ2
      | .exc x ρ2 τ2 => .exc x ρ2 τ2
      | .bad => .bad)
    | none => .bad
def aRes (ρ : Rho) : List (Sum D Nat) → Option (List D)
  | [] => some []
  | .inl d :: r => (aRes ρ r).map (d :: ·)
  | .inr i :: r => match (ρ[i]?).bind slD with
    | some d => (aRes ρ r).map (d :: ·)
    | none => none
def aAll (args : List Arg) (ρ : Rho) (τ : Tape) : O (List D) := match aEx args ρ τ with
  | .ok xs ρ' τ' => (match aRes ρ' xs with
    | some ds => .ok ds ρ' τ'
    | none => .bad)
  | .exc x ρ' τ' => .exc x ρ' τ'
  | .bad => .bad
/-- read: frozen, or a slot's container -/
def Top (g : G) (w : Wd) (H : Hp) (d : D) (v : V) : Prop := Rep g w.Z w.tp d v ∨ CellR g w H d (some v)
def TopL (g : G) (w : Wd) (H : Hp) : List D → List V → Prop
  | [], vs => vs = []
  | d :: ds, vs => ∃ v r, vs = v :: r ∧ Top g w H d v ∧ TopL g w H ds r
def PreL (g : G) (w : Wd) (σ : St) : List (Sum D Nat) → List V → Prop
  | [], vs => vs = []
  | .inl d :: ds, vs => ∃ v r, vs = v :: r ∧ Rep g w.Z w.tp d v ∧ PreL g w σ ds r
  | .inr i :: ds, vs => ∃ v r, vs = v :: r ∧ σ[i]? = some (some v) ∧ PreL g w σ ds r
theorem RepL.top {g : G} {w : Wd} {H : Hp} : ∀ {ds : List D} {vs : List V}, RepL g w.Z w.tp ds vs → TopL g w H ds vs
  | [], vs, h => by rw [RepL] at h; exact h
  | d :: ds, vs, h => by
    rw [RepL] at h
    obtain ⟨v, r, e, h1, h2⟩ := h
    exact ⟨v, r, e, .inl h1, RepL.top h2⟩
theorem SlR.top {g : G} {w : Wd} {H : Hp} {s : Sl} {v : V} {d : D} (h : SlR g w H s (some v)) (hs : slD s = some d) : Top g w H d v := by
  cases s with
  | un => cases hs
  | fz e => cases hs; obtain ⟨u, e1, r⟩ := h; cases e1; exact .inl r
  | own e => cases hs; exact .inr h
  | bor e =>
    rcases h with h | ⟨_, _, ⟨n, kvs, o, ks, rfl, _⟩, _⟩
    · cases e <;> first | (cases hs; exact .inr h) | cases hs
    · cases hs
theorem pre_top {g : G} {w : Wd} {H : Hp} {ρ : Rho} {τ : Tape} {σ : St} (env : EnvR g w H ρ τ σ) : ∀ {xs : List (Sum D Nat)} {ds : List D} {vs : List V}, aRes ρ xs = some ds → PreL g w σ xs vs → TopL g w H ds vs
  | [], ds, vs, h, p => by cases h; exact p
  | .inl d :: r, ds, vs, h, p => by
    obtain ⟨v, r', e, h1, h2⟩ := p
    rw [aRes] at h
    cases q : aRes ρ r with
    | none => rw [q] at h; cases h
    | some es =>
      rw [q] at h
      cases h
      exact ⟨v, r', e, .inl h1, pre_top env q h2⟩
  | .inr i :: r, ds, vs, h, p => by
    obtain ⟨v, r', e, h1, h2⟩ := p
    rw [aRes] at h
    cases k : (ρ[i]?).bind slD with
    | none => rw [k] at h; cases h
    | some d =>
      rw [k] at h
      cases q : aRes ρ r with
      | none => rw [q] at h; cases h
      | some es =>
        rw [q] at h
        cases h
        obtain ⟨s, k1, k2⟩ := Option.bind_eq_some_iff.mp k
        have := env.sl i s k1
        rw [h1] at this
        exact ⟨v, r', e, this.top k2, pre_top env q h2⟩
section
variable {g : G} {k : Nat} {X : Cx} {W : WX}
def argsT (g : G) (W : WX) : List Arg → TA
  | [] => tNil
  | .ex ev :: r => tCons (tD g W (vFz ev)) (argsT g W r)
  | .pk i :: r => tCons (tVar i) (argsT g W r)
  | .se ev :: r => StX.tStar g.K (tD g W (vFz ev)) (argsT g W r)
  | .sp i :: r => StX.tStar g.K (tVar i) (argsT g W r)
theorem PreL.app {w : Wd} {σ : St} : ∀ {ds : List D} {us : List V} {xs : List (Sum D Nat)} {vs : List V}, RepL g w.Z w.tp ds us → PreL g w σ xs vs → PreL g w σ (ds.map Sum.inl ++ xs) (us ++ vs)
  | [], us, xs, vs, h, q => by rw [RepL] at h; rw [h]; exact q
  | d :: ds, us, xs, vs, h, q => by
    rw [RepL] at h
    obtain ⟨v, r, e, h1, h2⟩ := h
    rw [e]
    exact ⟨v, r ++ vs, rfl, h1, PreL.app h2 q⟩
theorem rep_seq {Z : Hp} {tp : Option (Addr × Addr × Addr)} {d : D} {ds : List D} {v : V} (h : Rep g Z tp d v) (e : seqD d = some ds) : ∃ a us, v = .ref a ∧ (SqT g.K Z a us ∨ SqL g.K Z a us) ∧ RepL g Z tp ds us := by
  cases d <;> simp only [seqD, Option.some.injEq, reduceCtorEq] at e
  · subst e; rw [Rep] at h; obtain ⟨a, us, e, q, r⟩ := h; exact ⟨a, us, e, .inl q, r⟩
  · subst e; rw [Rep] at h; obtain ⟨a, us, e, q, r⟩ := h; exact ⟨a, us, e, .inr (SqL.of q), r⟩
theorem sl_seq {w : Wd} {H : Hp} {s : Sl} {v : V} {ds : List D} (z : ZLe w.Z H) (h : SlR g w H s (some v)) (e : (slD s).bind seqD = some ds) : ∃ a us, v = .ref a ∧ (SqT g.K H a us ∨ SqL g.K H a us) ∧ RepL g w.Z w.tp ds us := by
  have cell : ∀ {d : D}, CellR g w H d (some v) → seqD d = some ds → ∃ a us, v = .ref a ∧ (SqT g.K H a us ∨ SqL g.K H a us) ∧ RepL g w.Z w.tp ds us := fun {d} ⟨p, e1, r, _⟩ e => by
    cases d with
    | lst es =>
      cases e
      obtain ⟨vs, h1, h2⟩ := r
      cases e1
      exact ⟨p, vs, rfl, .inr (SqL.of h1), h2⟩
    | _ => first | exact r.elim | cases e
  cases s with
  | un => cases e
  | fz d =>
    obtain ⟨u, e1, r⟩ := h
    cases e1
    obtain ⟨a, us, e2, q, r2⟩ := rep_seq r e
    exact ⟨a, us, e2, q.imp (SqT.mono z) (SqL.mono z), r2⟩
  | own d => exact cell h e
  | bor d =>
    rcases h with h | ⟨_, _, ⟨n, kvs, o, ks, rfl, _⟩, _⟩
    · cases d <;> first | (exact cell h e) | cases e
    · cases e
theorem PreL.mono {w w' : Wd} {σ : St} (z : ZLe w.Z w'.Z) (t : w'.tp = w.tp) : ∀ {xs : List (Sum D Nat)} {vs : List V}, PreL g w σ xs vs → PreL g w' σ xs vs
  | [], vs, h => h
  | .inl d :: r, vs, ⟨v, s, e, h1, h2⟩ => ⟨v, s, e, by rw [t]; exact Rep.mono z _ h1, PreL.mono z t h2⟩
  | .inr i :: r, vs, ⟨v, s, e, h1, h2⟩ => ⟨v, s, e, h1, PreL.mono z t h2⟩
theorem args_pre : ∀ (args : List Arg) {w : Wd} {H : Hp} {ρ : Rho} {τ : Tape} {σ : St} {Q : List V → Hp → Prop}, EnvR g w H ρ τ σ →
    (match aEx args ρ τ with
      | .ok xs ρ' τ' => ∀ w' H' vs, Ps g w H ρ σ w' H' ρ' τ' σ → PreL g w' σ xs vs → Q vs H'
      | .exc x ρ' τ' => ∀ w' H' cls dx, Ps g w H ρ σ w' H' ρ' τ' σ → ExR g w' x cls dx → W cls dx σ H'
      | .bad => False) → argsT g W args σ H Q
  | [], w, H, ρ, τ, σ, Q, env, q => q w H [] (Ps.refl env) rfl
  | .ex ev :: r, w, H, ρ, τ, σ, Q, env, q => by
    rw [aEx] at q
    show tD g W (vFz ev) σ H fun x H1 => argsT g W r σ H1 fun xs H2 => Q (x :: xs) H2
    refine ⟨w, ρ, τ, env, ?_⟩
    cases e : vFz ev ρ τ with
    | ok rs ρ1 τ1 =>
      simp only [e] at q
      cases rs with
      | own d => exact False.elim (by simpa using q)
      | fz d =>
        intro w1 H1 v a r1
        refine args_pre r a.env ?_
        cases e2 : aEx r ρ1 τ1 with
        | ok xs ρ2 τ2 =>
          simp only [e2] at q
          exact fun w2 H2 vs b p => q w2 H2 (v :: vs) (a.trans b) ⟨v, vs, rfl, by rw [b.st.tp]; exact Rep.mono b.st.z _ r1, p⟩
        | exc x ρ2 τ2 =>
          simp only [e2] at q
          exact fun w2 H2 cls dx b p => q w2 H2 cls dx (a.trans b) p
        | bad => simp only [e2] at q
    | exc x ρ1 τ1 => simp only [e] at q; exact q
    | bad => simp only [e] at q
  | .pk i :: r, w, H, ρ, τ, σ, Q, env, q => by
    rw [aEx] at q
    cases k : (ρ[i]?).bind slD with
    | none => simp only [k] at q
    | some d =>
      simp only [k] at q
      obtain ⟨s, k1, k2⟩ := Option.bind_eq_some_iff.mp k
      obtain ⟨v, hv⟩ := (env.sl i s k1).got (fun z => by rw [z] at k2; cases k2)
      refine ⟨v, getD_some hv, args_pre r env ?_⟩
      cases e2 : aEx r ρ τ with
      | ok xs ρ2 τ2 =>
        simp only [e2] at q
        exact fun w2 H2 vs b p => q w2 H2 (v :: vs) b ⟨v, vs, rfl, getD_some hv, p⟩
      | exc x ρ2 τ2 => simp only [e2] at q; exact q
      | bad => simp only [e2] at q
  | .se ev :: r, w, H, ρ, τ, σ, Q, env, q => by
    rw [aEx] at q
    show tD g W (vFz ev) σ H fun y H1 => ∃ a xs, y = V.ref a ∧ (SqT g.K H1 a xs ∨ SqL g.K H1 a xs) ∧ argsT g W r σ H1 fun ys H2 => Q (xs ++ ys) H2
    refine ⟨w, ρ, τ, env, ?_⟩
    cases e : vFz ev ρ τ with
    | ok rs ρ1 τ1 =>
      simp only [e] at q
      cases rs with
      | own d => exact False.elim (by simpa using q)
      | fz d =>
        intro w1 H1 v a r1
        cases ek : seqD d with
        | none => simp only [ek] at q
        | some ds =>
          simp only [ek] at q
          obtain ⟨p, us, e1, hq, hr⟩ := rep_seq (g := g) r1 ek
          refine ⟨p, us, e1, hq.imp (SqT.mono a.env.zle) (SqL.mono a.env.zle), args_pre r a.env ?_⟩
          cases e2 : aEx r ρ1 τ1 with
          | ok xs ρ2 τ2 =>
            simp only [e2] at q
            exact fun w2 H2 vs b p => q w2 H2 (us ++ vs) (a.trans b) (PreL.app (by rw [b.st.tp]; exact RepL.mono b.st.z _ hr) p)
          | exc x ρ2 τ2 =>
            simp only [e2] at q
            exact fun w2 H2 cls dx b p => q w2 H2 cls dx (a.trans b) p
          | bad => simp only [e2] at q
    | exc x ρ1 τ1 => simp only [e] at q; exact q
    | bad => simp only [e] at q
  | .sp i :: r, w, H, ρ, τ, σ, Q, env, q => by
    rw [aEx] at q
    show ∃ v, σ[i]? = some (some v) ∧ ∃ a xs, v = V.ref a ∧ (SqT g.K H a xs ∨ SqL g.K H a xs) ∧ argsT g W r σ H fun ys H2 => Q (xs ++ ys) H2
    cases k : ((ρ[i]?).bind slD).bind seqD with
    | none => simp only [k] at q
    | some ds =>
      simp only [k] at q
      obtain ⟨d, k0, k2⟩ := Option.bind_eq_some_iff.mp k
      obtain ⟨s, k1, k3⟩ := Option.bind_eq_some_iff.mp k0
      have hs := env.sl i s k1
      obtain ⟨v, hv⟩ := hs.got (fun z => by rw [z] at k3; cases k3)
      rw [hv] at hs
      obtain ⟨a, us, e1, hq, hr⟩ := sl_seq env.zle hs (by rw [k3]; exact k2)
      refine ⟨v, getD_some hv, a, us, e1, hq, args_pre r env ?_⟩
      cases e2 : aEx r ρ τ with
      | ok xs ρ2 τ2 =>
        simp only [e2] at q
        exact fun w2 H2 vs b p => q w2 H2 (us ++ vs) b (PreL.app (by rw [b.st.tp]; exact RepL.mono b.st.z _ hr) p)
      | exc x ρ2 τ2 => simp only [e2] at q; exact q
      | bad => simp only [e2] at q
/-- operands in a row, as they are read -/
theorem args_top {args : List Arg} {w : Wd} {H : Hp} {ρ : Rho} {τ : Tape} {σ : St} {Q : List V → Hp → Prop} (env : EnvR g w H ρ τ σ)
    (q : match aAll args ρ τ with
      | .ok ds ρ' τ' => ∀ w' H' vs, Ps g w H ρ σ w' H' ρ' τ' σ → TopL g w' H' ds vs → Q vs H'
      | .exc x ρ' τ' => ∀ w' H' cls dx, Ps g w H ρ σ w' H' ρ' τ' σ → ExR g w' x cls dx → W cls dx σ H'
      | .bad => False) : argsT g W args σ H Q := by
  refine args_pre args env ?_
  unfold aAll at q
  cases e : aEx args ρ τ with
  | ok xs ρ' τ' =>
    rw [e] at q
    intro w' H' vs a p
    cases k : aRes ρ' xs with
    | none => simp only [k] at q
    | some ds => simp only [k] at q; exact q w' H' vs a (pre_top a.env k p)
  | exc x ρ' τ' => rw [e] at q; exact q
  | bad => rw [e] at q; exact q.elim
end
/-- one operand (no star); an operand list -/
def plainA : Arg → Bool
  | .ex _ => true
  | .pk _ => true
  | _ => false
def argE (g : G) (W : WX) : Arg → TE
  | .ex ev => tD g W (vFz ev)
  | .pk i => tVar i
  | _ => fun _ _ _ => False
theorem argsT_cons {g : G} {W : WX} {a : Arg} (h : plainA a = true) (as : List Arg) : argsT g W (a :: as) = tCons (argE g W a) (argsT g W as) := by
  cases a <;> first | rfl | cases h
def PyArg (g : G) (k : Nat) (X : Cx) (W : WX) (e : Expr) (a : Arg) : Prop := plainA a = true ∧ (At g k X W → PE X e (argE g W a))
def PyArgs (g : G) (k : Nat) (X : Cx) (W : WX) (es : List Expr) (as : List Arg) : Prop := At g k X W → PA X es (argsT g W as)
section
variable {g : G} {k : Nat} {X : Cx} {W : WX}
theorem py_ex {e : Expr} {ev : Ev} (h : PyE g k X W e ev) : PyArg g k X W e (.ex ev) := ⟨rfl, py_fz h⟩
theorem py_pk {i : Nat} {x : Str} {pos : Pos} (h : PE X (.Name x pos) (tVar i)) : PyArg g k X W (.Name x pos) (.pk i) := ⟨rfl, fun _ => h⟩
theorem pas_nil : PyArgs g k X W [] [] := fun _ => pa_nil
theorem pas_cons {e : Expr} {es : List Expr} {a : Arg} {as : List Arg} (h : PyArg g k X W e a) (hr : PyArgs g k X W es as) (hs : starEach (e :: es) X.env = (false, eval e X.env) :: starEach es X.env := by rfl) : PyArgs g k X W (e :: es) (a :: as) := fun A => by
  rw [argsT_cons h.1]
  exact pa_cons (h.2 A) (hr A) hs
theorem pas_se {e : Expr} {es : List Expr} {ev : Ev} {as : List Arg} {p : Pos} (h : PyE g k X W e ev) (hr : PyArgs g k X W es as) (hs : starEach (.Starred e p :: es) X.env = (true, eval e X.env) :: starEach es X.env := by rfl) : PyArgs g k X W (.Starred e p :: es) (.se ev :: as) := fun A => by
  have := StX.pa_star (py_fz h A) (hr A) hs
  rw [A.K] at this
  exact this
theorem pas_sp {i : Nat} {x : Str} {pos : Pos} {es : List Expr} {as : List Arg} {p : Pos} (h : PE X (.Name x pos) (tVar i)) (hr : PyArgs g k X W es as) (hs : starEach (.Starred (.Name x pos) p :: es) X.env = (true, eval (.Name x pos) X.env) :: starEach es X.env := by rfl) : PyArgs g k X W (.Starred (.Name x pos) p :: es) (.sp i :: as) := fun A => by
  have := StX.pa_star h (hr A) hs
  rw [A.K] at this
  exact this
end

inductive P where
  | at (d : D) | tp (ds : List D) | nl (ds : List D) | nd (kvs : List (D × D)) | bad
abbrev Prim := List D → P
def outP (ρ : Rho) (τ : Tape) : P → O Rs
  | .at d => .ok (.fz d) ρ τ
  | .tp ds => .ok (.fz (.tup ds)) ρ τ
  | .nl ds => .ok (.own (.lst ds)) ρ τ
  | .nd kvs => .ok (.own (.dic kvs)) ρ τ
  | .bad => .bad
def vPrim (f : Prim) (args : List Arg) : Ev := fun ρ τ => match aAll args ρ τ with
  | .ok ds ρ' τ' => outP ρ' τ' (f ds)
  | .exc x ρ' τ' => .exc x ρ' τ'
  | .bad => .bad
abbrev RL := List V → Hp → VK → Prop
/-- G follows from what is told of the outcome -/
def PGo (g : G) (w : Wd) (H : Hp) (Q : VK) (o : P) (T : Prop) : Prop := match o with
  | .at d => (∀ v, Rep g w.Z w.tp d v → Q v H) → T
  | .tp es => (∀ p us, H p = none → RepL g w.Z w.tp es us → Q (.ref p) (upd H p (.tup us))) → T
  | .nl es => (∀ p us, H p = none → RepL g w.Z w.tp es us → Q (.ref p) (upd H p (.lst us))) → T
  | .nd kvs => (∀ p ks, H p = none → RepKV g w.Z w.tp kvs ks → Q (.ref p) (upd H p (.dK ks))) → T
  | .bad => True
/-- f tells what r asks -/
def PrimOk (g : G) (r : RL) (f : Prim) : Prop := ∀ (w : Wd) (H : Hp) (ds : List D) (vs : List V) (Q : VK), ZLe w.Z H → TopL g w H ds vs → PGo g w H Q (f ds) (r vs H Q)
section
variable {g : G} {X : Cx} {W : WX}
/-- a new object -/
theorem Ps.laid {w : Wd} {H : Hp} {ρ : Rho} {σ : St} {w1 : Wd} {H1 : Hp} {ρ1 : Rho} {τ1 : Tape} {σ1 : St} (a : Ps g w H ρ σ w1 H1 ρ1 τ1 σ1) {p : Addr} {o : HO} (hp : H1 p = none) :
    Ps g w H ρ σ w1 (upd H1 p o) ρ1 τ1 σ1 ∧ w1.Z p = none ∧ ¬ tcell w1 p ∧ ¬ cellAt ρ1 σ1 p ∧ H p = none := by
  have e := a.env
  have zp : w1.Z p = none := by
    cases q : w1.Z p with
    | none => rfl
    | some u => rw [e.zle p u q] at hp; cases hp
  have tn : ¬ tcell w1 p := by
    rintro ⟨t, l, c, q, h⟩
    have T := e.tape t l c q
    rcases h with rfl | rfl
    · rw [T.ht] at hp; cases hp
    · rw [T.hl] at hp; cases hp
  have ow : ∀ {d : D} {q : Addr}, OwnR g w1 H1 d q → q ≠ p := fun {d q} r z => by
    obtain ⟨u, h1, _⟩ := r.at
    rw [z, hp] at h1; cases h1
  have ow2 : ∀ {d : D} {q : Addr}, OwnR g w1 H1 d q → OwnR g w1 (upd H1 p o) d q := fun {d q} r => by
    have n := ow r
    cases d with
    | lst ds => obtain ⟨vs, h1, h2⟩ := r; exact ⟨vs, by rw [upd_ne n]; exact h1, h2⟩
    | dic kvs => obtain ⟨ks, h1, h2⟩ := r; exact ⟨ks, by rw [upd_ne n]; exact h1, h2⟩
    | _ => exact r
  have ce : ∀ {d : D} {v : Option V}, CellR g w1 H1 d v → CellR g w1 (upd H1 p o) d v := fun {d v} ⟨q, h1, h2, h3⟩ => ⟨q, h1, ow2 h2, h3⟩
  have cn : ¬ cellAt ρ1 σ1 p := by
    rintro ⟨i, s, h1, h2, h3⟩
    have := e.sl i s h1
    rw [h3] at this
    cases s with
    | un => cases h2
    | fz d => cases h2
    | own d =>
      obtain ⟨q, h4, h5, _⟩ := this
      cases h4
      exact ow h5 rfl
    | bor d =>
      rcases this with ⟨q, h4, h5, _⟩ | ⟨q, h4, ⟨_, _, _, _, _, h5, _⟩, _⟩
      · cases h4
        exact ow h5 rfl
      · cases h4
        rw [hp] at h5; cases h5
  refine ⟨⟨⟨e.len, fun i s h => ?_, e.ap, e.zle.trans (ZLe.upd hp), fun t l c q => ?_, ?_⟩, ⟨a.st.z, a.st.tp, fun b u h n t => ?_, a.st.nz, fun b h => ?_⟩, a.lic, a.bor⟩, zp, tn, cn, a.st.al p hp⟩
  · have := e.sl i s h
    cases s with
    | un => trivial
    | fz d => exact this
    | own d => exact ce this
    | bor d => exact this.imp ce fun h => h.map (fun q x y e e2 z t => ⟨by rw [upd_ne (ne_of_none e2 hp)]; exact e2, z, t⟩) fun _ _ h => h
  · have T := e.tape t l c q
    exact ⟨by rw [upd_ne (ne_of_none T.ht hp)]; exact T.ht, by rw [upd_ne (ne_of_none T.hl hp)]; exact T.hl, T.hc, T.zt, T.zl⟩
  · exact e.tabs.ext fun b ps h => by rw [upd_ne (ne_of_none h hp)]; exact h
  · have := a.st.fr b u h n t
    rw [upd_ne (ne_of_none this hp)]; exact this
  · by_cases hb : b = p
    · subst hb; exact a.st.al _ hp
    · rw [upd_ne hb] at h; exact a.st.al b h
/-- a new tuple is a frozen datum -/
theorem Ps.newTup {w : Wd} {H : Hp} {ρ : Rho} {σ : St} {w' : Wd} {H' : Hp} {ρ' : Rho} {τ' : Tape} {σ' : St} (a : Ps g w H ρ σ w' H' ρ' τ' σ') {p : Addr} {es : List D} {us : List V} (hp : H' p = none) (hr : RepL g w'.Z w'.tp es us) :
    ∃ w2, Ps g w H ρ σ w2 (upd H' p (.tup us)) ρ' τ' σ' ∧ Rep g w2.Z w2.tp (.tup es) (.ref p) := by
  obtain ⟨b, z, t, c, hH⟩ := a.laid (o := .tup us) hp
  refine ⟨{ w' with Z := upd w'.Z p (.tup us) }, ⟨b.env.zone (fun _ q => nomatch q) upd_same z t c, ⟨b.st.z.trans (ZLe.upd z), b.st.tp, b.st.fr, fun x e n => ?_, b.st.al⟩, b.lic, b.bor⟩, ?_⟩
  · by_cases hx : x = p
    · subst hx; exact .inl hH
    · have n' : upd w'.Z p (.tup us) x ≠ none := n
      rw [upd_ne hx] at n'
      exact b.st.nz x e n'
  · show Rep g (upd w'.Z p (.tup us)) w'.tp (.tup es) (.ref p)
    rw [Rep]
    exact ⟨p, us, rfl, SqT.of upd_same, RepL.mono (ZLe.upd z) _ hr⟩
theorem Ps.newLst {w : Wd} {H : Hp} {ρ : Rho} {σ : St} {w' : Wd} {H' : Hp} {ρ' : Rho} {τ' : Tape} {σ' : St} (a : Ps g w H ρ σ w' H' ρ' τ' σ') {p : Addr} {es : List D} {us : List V} (hp : H' p = none) (hr : RepL g w'.Z w'.tp es us) :
    Ps g w H ρ σ w' (upd H' p (.lst us)) ρ' τ' σ' ∧ RsR g w H ρ σ w' (upd H' p (.lst us)) ρ' σ' (.own (.lst es)) (.ref p) := by
  obtain ⟨b, z, t, c, hH⟩ := a.laid (o := .lst us) hp
  exact ⟨b, p, rfl, ⟨us, upd_same, hr⟩, z, t, c, .inl hH⟩
theorem Ps.newDic {w : Wd} {H : Hp} {ρ : Rho} {σ : St} {w' : Wd} {H' : Hp} {ρ' : Rho} {τ' : Tape} {σ' : St} (a : Ps g w H ρ σ w' H' ρ' τ' σ') {p : Addr} {es : List (D × D)} {us : List (Key × V)} (hp : H' p = none) (hr : RepKV g w'.Z w'.tp es us) :
    Ps g w H ρ σ w' (upd H' p (.dK us)) ρ' τ' σ' ∧ RsR g w H ρ σ w' (upd H' p (.dK us)) ρ' σ' (.own (.dic es)) (.ref p) := by
  obtain ⟨b, z, t, c, hH⟩ := a.laid (o := .dK us) hp
  exact ⟨b, p, rfl, ⟨us, upd_same, hr⟩, z, t, c, .inl hH⟩
theorem prim_fin {r : RL} {f : Prim} (hf : PrimOk g r f) {w : Wd} {H : Hp} {ρ : Rho} {σ : St} {w' : Wd} {H' : Hp} {ρ' : Rho} {τ' : Tape} {σ' : St} (a : Ps g w H ρ σ w' H' ρ' τ' σ') {ds : List D} {vs : List V} (tp : TopL g w' H' ds vs) {Q : VK} {E : D → Rho → Tape → Prop}
    (q : match outP ρ' τ' (f ds) with
      | .ok r ρ2 τ2 => ∀ w2 H2 v, Ps g w H ρ σ w2 H2 ρ2 τ2 σ' → RsR g w H ρ σ w2 H2 ρ2 σ' r v → Q v H2
      | .exc x ρ2 τ2 => E x ρ2 τ2
      | .bad => False) : r vs H' Q := by
  have key := hf w' H' ds vs Q a.env.zle tp
  cases k : f ds with
  | «at» d =>
    simp only [k, outP, PGo] at q key
    exact key fun v hr => q w' H' v a hr
  | tp es =>
    simp only [k, outP, PGo] at q key
    refine key fun p us hp hr => ?_
    obtain ⟨w2, b, r2⟩ := a.newTup hp hr
    exact q w2 _ _ b r2
  | nl es =>
    simp only [k, outP, PGo] at q key
    refine key fun p us hp hr => ?_
    obtain ⟨b, r2⟩ := a.newLst hp hr
    exact q w' _ _ b r2
  | nd kvs =>
    simp only [k, outP, PGo] at q key
    refine key fun p ks hp hr => ?_
    obtain ⟨b, r2⟩ := a.newDic hp hr
    exact q w' _ _ b r2
  | bad => simp only [k, outP] at q
theorem prim_ok {r : RL} {f : Prim} (hf : PrimOk g r f) {args : List Arg} {σ : St} {H : Hp} {Q : VK} (q : tD g W (vPrim f args) σ H Q) : argsT g W args σ H fun vs H2 => r vs H2 Q := by
  obtain ⟨w, ρ, τ, env, q⟩ := q
  refine args_top env ?_
  unfold vPrim at q
  cases e : aAll args ρ τ with
  | ok ds ρ' τ' =>
    rw [e] at q
    intro w' H' vs a tp
    exact prim_fin (E := fun x ρ'' τ'' => ∀ w'' H'' cls dx, Ps g w H ρ σ w'' H'' ρ'' τ'' σ → ExR g w'' x cls dx → W cls dx σ H'') hf a tp q
  | exc x ρ' τ' => rw [e] at q; exact q
  | bad => rw [e] at q; exact q.elim
/-- operands in a row, all frozen -/
def lefts : List (Sum D Nat) → Option (List D)
  | [] => some []
  | .inl d :: r => (lefts r).map (d :: ·)
  | .inr _ :: _ => none
def aFz (args : List Arg) (ρ : Rho) (τ : Tape) : O (List D) := match aEx args ρ τ with
  | .ok xs ρ' τ' => (match lefts xs with
    | some ds => .ok ds ρ' τ'
    | none => .bad)
  | .exc x ρ' τ' => .exc x ρ' τ'
  | .bad => .bad
theorem pre_rep {w : Wd} {σ : St} : ∀ {xs : List (Sum D Nat)} {ds : List D} {vs : List V}, lefts xs = some ds → PreL g w σ xs vs → RepL g w.Z w.tp ds vs
  | [], ds, vs, h, p => by cases h; rw [RepL]; exact p
  | .inl d :: r, ds, vs, h, p => by
    obtain ⟨v, r', e, h1, h2⟩ := p
    rw [lefts] at h
    cases q : lefts r with
    | none => rw [q] at h; cases h
    | some es =>
      rw [q] at h
      cases h
      rw [RepL]
      exact ⟨v, r', e, h1, pre_rep q h2⟩
  | .inr i :: r, ds, vs, h, p => by cases h
theorem args_fz {args : List Arg} {w : Wd} {H : Hp} {ρ : Rho} {τ : Tape} {σ : St} {Q : List V → Hp → Prop} (env : EnvR g w H ρ τ σ)
    (q : match aFz args ρ τ with
      | .ok ds ρ' τ' => ∀ w' H' vs, Ps g w H ρ σ w' H' ρ' τ' σ → RepL g w'.Z w'.tp ds vs → Q vs H'
      | .exc x ρ' τ' => ∀ w' H' cls dx, Ps g w H ρ σ w' H' ρ' τ' σ → ExR g w' x cls dx → W cls dx σ H'
      | .bad => False) : argsT g W args σ H Q := by
  refine args_pre args env ?_
  unfold aFz at q
  cases e : aEx args ρ τ with
  | ok xs ρ' τ' =>
    rw [e] at q
    intro w' H' vs a p
    cases k : lefts xs with
    | none => simp only [k] at q
    | some ds => simp only [k] at q; exact q w' H' vs a (pre_rep k p)
  | exc x ρ' τ' => rw [e] at q; exact q
  | bad => rw [e] at q; exact q.elim
end
def vTup (args : List Arg) : Ev := fun ρ τ => match aFz args ρ τ with
  | .ok ds ρ' τ' => if ds.length ≤ sizeLine then .ok (.fz (.tup ds)) ρ' τ' else .bad
  | .exc x ρ' τ' => .exc x ρ' τ'
  | .bad => .bad
def vLst (args : List Arg) : Ev := fun ρ τ => match aFz args ρ τ with
  | .ok ds ρ' τ' => if ds.length ≤ sizeLine then .ok (.own (.lst ds)) ρ' τ' else .bad
  | .exc x ρ' τ' => .exc x ρ' τ'
  | .bad => .bad
section
variable {g : G} {k : Nat} {X : Cx} {W : WX} {es : List Expr} {as : List Arg} {pos : Pos}
theorem py_tup {x1 : Nat} (h : PyArgs g k X W es as) : PyE g k X W (.Tuple es x1 pos) (vTup as) := fun A => (pe_tup (h A)).imp' fun σ H Q q => by
  obtain ⟨w, ρ, τ, env, q⟩ := q
  refine args_fz env ?_
  unfold vTup at q
  cases e : aFz as ρ τ with
  | ok ds ρ' τ' =>
    rw [e] at q
    intro w' H' vs a r
    by_cases hl : ds.length ≤ sizeLine
    · simp only [hl, if_true] at q
      refine ⟨by rw [r.length]; exact hl, fun p hp => ?_⟩
      obtain ⟨w2, b, r2⟩ := a.newTup hp r
      exact q w2 _ _ b r2
    · simp only [hl, if_false] at q
  | exc x ρ' τ' => rw [e] at q; exact q
  | bad => rw [e] at q; exact q.elim
theorem py_lst (h : PyArgs g k X W es as) : PyE g k X W (.List es pos) (vLst as) := fun A => (pe_lst (h A)).imp' fun σ H Q q => by
  obtain ⟨w, ρ, τ, env, q⟩ := q
  refine args_fz env ?_
  unfold vLst at q
  cases e : aFz as ρ τ with
  | ok ds ρ' τ' =>
    rw [e] at q
    intro w' H' vs a r
    by_cases hl : ds.length ≤ sizeLine
    · simp only [hl, if_true] at q
      refine ⟨by rw [r.length]; exact hl, fun p hp => ?_⟩
      obtain ⟨b, r2⟩ := a.newLst hp r
      exact q w' _ _ b r2
    · simp only [hl, if_false] at q
  | exc x ρ' τ' => rw [e] at q; exact q
  | bad => rw [e] at q; exact q.elim
end
end PD
namespace PD
open PySem PySem.Spec L2
open PyProof.Rows hiding St

def m1 (r : V → Hp → VK → Prop) : RL := fun vs H Q => match vs with
  | [x] => r x H Q
  | _ => False
def m2 (r : R2) : RL := fun vs H Q => match vs with
  | [x, y] => r x y H Q
  | _ => False
def mM (r : V → List V → Hp → VK → Prop) : RL := fun vs H Q => match vs with
  | x :: xs => r x xs H Q
  | _ => False
/-- what an operator, a built-in does, by data -/
def OpOk (g : G) (k : Nat) (X : Cx) (W : WX) (f : Value → Value → Sem Value) (p : Prim) : Prop := At g k X W → ∃ r, OpR X f r ∧ PrimOk g (m2 r) p
def UnOk (g : G) (k : Nat) (X : Cx) (W : WX) (f : Value → Sem Value) (p : Prim) : Prop := At g k X W → ∃ r, UnR X f r ∧ PrimOk g (m1 r) p
def CallOk (g : G) (k : Nat) (X : Cx) (W : WX) (f : Value) (p : Prim) : Prop := At g k X W → ∃ r, CallR X f r ∧ PrimOk g r p
def IxOk (g : G) (k : Nat) (X : Cx) (W : WX) (p : Prim) : Prop := At g k X W → ∃ r, IxR X r ∧ PrimOk g (m2 r) p
section
variable {g : G} {k : Nat} {X : Cx} {W : WX} {a b c : Expr} {A B C : Arg} {p : Prim} {pos : Pos}
theorem py_bin {op : Operator} (ho : OpOk g k X W (binaryOp op) p) (ha : PyArg g k X W a A) (hb : PyArg g k X W b B) : PyE g k X W (.BinOp a op b pos) (vPrim p [A, B]) := fun At => by
  obtain ⟨r, h1, h2⟩ := ho At
  refine (pe_op h1 (ha.2 At) (hb.2 At)).imp' fun σ H Q q => ?_
  have := prim_ok h2 q
  rw [argsT_cons ha.1, argsT_cons hb.1] at this
  exact this
theorem py_un {op : UnaryOp} (ho : UnOk g k X W (unaryOp op) p) (ha : PyArg g k X W a A) : PyE g k X W (.UnaryOp op a pos) (vPrim p [A]) := fun At => by
  obtain ⟨r, h1, h2⟩ := ho At
  refine (pe_un h1 (ha.2 At)).imp' fun σ H Q q => ?_
  have := prim_ok h2 q
  rw [argsT_cons ha.1] at this
  exact this
theorem py_cmp {op : CmpOp} (ho : OpOk g k X W (compareOp op) p) (ha : PyArg g k X W a A) (hb : PyArg g k X W b B) (hm : behindInMarks op b = false := by rfl) : PyE g k X W (.Compare a [op] [b] pos) (vPrim p [A, B]) := fun At => by
  obtain ⟨r, h1, h2⟩ := ho At
  refine (pe_cmpR h1 (ha.2 At) (hb.2 At) hm).imp' fun σ H Q q => ?_
  have := prim_ok h2 q
  rw [argsT_cons ha.1, argsT_cons hb.1] at this
  exact this
theorem py_ix (ho : IxOk g k X W p) (ha : PyArg g k X W a A) (hb : PyArg g k X W b B) (hs : PlainIx b := by intro _ _; rfl) : PyE g k X W (.Subscript a b pos) (vPrim p [A, B]) := fun At => by
  obtain ⟨r, h1, h2⟩ := ho At
  refine (pe_ix h1 (ha.2 At) (hb.2 At) hs).imp' fun σ H Q q => ?_
  have := prim_ok h2 q
  rw [argsT_cons ha.1, argsT_cons hb.1] at this
  exact this
/-- a built-in function, a built-in type called -/
theorem py_callB {id : String} {x : Str} {e : Expr} {es : List Expr} {as : List Arg} {p1 : Pos} (hc : CallOk g k X W (.builtin id) p) (ha : PyArgs g k X W (e :: es) as) (hm : g.mg x = none) (hg : Gl X x := by rfl) (hv : bootBuiltins x = some (.builtin id) := by decide +kernel) (hn : x ≠ "__name__" := by decide)
    (hdb : (x == ("__debug__" : Str)) = false := by decide) (he : starEach (e :: es) X.env = (false, eval e X.env) :: starEach es X.env := by rfl) (hpl : (backTo pos (starEach es X.env)).any (·.1) = false := by rfl) :
    PyE g k X W (.Call (.Name x p1) (e :: es) [] pos) (vPrim p as) := fun At => by
  obtain ⟨r, h1, h2⟩ := hc At
  exact (pe_callB h1 hg (by rw [At.mg]; exact hm) hv (ha At) hn hdb he hpl).imp' fun σ H Q q => prim_ok h2 q
theorem py_callTy {T : String} {x : Str} {e : Expr} {es : List Expr} {as : List Arg} {p1 : Pos} (hc : CallOk g k X W (.type T) p) (ha : PyArgs g k X W (e :: es) as) (hm : g.mg x = none) (hg : Gl X x := by rfl) (hv : bootBuiltins x = some (.type T) := by decide +kernel) (hn : x ≠ "__name__" := by decide)
    (hdb : (x == ("__debug__" : Str)) = false := by decide) (he : starEach (e :: es) X.env = (false, eval e X.env) :: starEach es X.env := by rfl) (hpl : (backTo pos (starEach es X.env)).any (·.1) = false := by rfl) :
    PyE g k X W (.Call (.Name x p1) (e :: es) [] pos) (vPrim p as) := fun At => by
  obtain ⟨r, h1, h2⟩ := hc At
  exact (pe_callTy h1 hg (by rw [At.mg]; exact hm) hv (ha At) hn hdb he hpl).imp' fun σ H Q q => prim_ok h2 q
end
def tOf (ev : Ev) : Tv := fun ρ τ => match ev ρ τ with
  | .ok (.fz (.bl b)) ρ' τ' => .ok b ρ' τ'
  | .exc x ρ' τ' => .exc x ρ' τ'
  | _ => .bad
section
variable {g : G} {k : Nat} {X : Cx} {W : WX} {a b c : Expr} {A B C : Arg} {p p' : Prim} {pos : Pos} {ea eb ec ev : Ev} {ta tb tv : Tv}
theorem tT_of {ev : Ev} {σ : St} {H : Hp} {Q : Bool → Hp → Prop} (q : tT g W (tOf ev) σ H Q) : tD g W ev σ H fun x H' => ∃ k, x = .bl k ∧ Q k H' := by
  obtain ⟨w, ρ, τ, env, q⟩ := q
  refine ⟨w, ρ, τ, env, ?_⟩
  unfold tOf at q
  cases e : ev ρ τ with
  | ok r ρ' τ' =>
    simp only [e] at q
    cases r with
    | own d => simp at q
    | fz d =>
      cases d with
      | bl b => exact fun w' H' v a r => ⟨b, by simpa [RsR, Rep] using r, q w' H' a⟩
      | _ => simp at q
  | exc x ρ' τ' => simp only [e] at q; exact q
  | bad => simp only [e] at q
theorem py_tcmp {op : CmpOp} (ho : OpOk g k X W (compareOp op) p) (ha : PyArg g k X W a A) (hb : PyArg g k X W b B) (hm : behindInMarks op b = false := by rfl) : PyT g k X W (.Compare a [op] [b] pos) (tOf (vPrim p [A, B])) := fun At => by
  obtain ⟨r, h1, h2⟩ := ho At
  refine (pt_cmpR h1 (ha.2 At) (hb.2 At) hm).imp' fun σ H Q q => ?_
  have := prim_ok h2 (tT_of q)
  rw [argsT_cons ha.1, argsT_cons hb.1] at this
  exact this
theorem py_tval (h : PyE g k X W a ev) (he : ∀ whole, isTrue a X.env whole = (do let v ← whole; standAt a.pos; holding [v] (truthy v)) := by intro _; rfl) : PyT g k X W a (tOf ev) := fun At =>
  (pt_val (h At) he).imp' fun σ H Q q => tT_of q
/-- and, or, not: values -/
def vAnd (ea eb : Ev) : Ev := fun ρ τ => match ea ρ τ with
  | .ok (.fz (.bl true)) ρ1 τ1 => eb ρ1 τ1
  | .ok (.fz (.bl false)) ρ1 τ1 => .ok (.fz (.bl false)) ρ1 τ1
  | .exc x ρ1 τ1 => .exc x ρ1 τ1
  | _ => .bad
def vOr (ea eb : Ev) : Ev := fun ρ τ => match ea ρ τ with
  | .ok (.fz (.bl false)) ρ1 τ1 => eb ρ1 τ1
  | .ok (.fz (.bl true)) ρ1 τ1 => .ok (.fz (.bl true)) ρ1 τ1
  | .exc x ρ1 τ1 => .exc x ρ1 τ1
  | _ => .bad
def vNot (ea : Ev) : Ev := fun ρ τ => match ea ρ τ with
  | .ok (.fz (.bl b)) ρ1 τ1 => .ok (.fz (.bl (!b))) ρ1 τ1
  | .exc x ρ1 τ1 => .exc x ρ1 τ1
  | _ => .bad
/-- what follows a run that went well -/
theorem tD_then {w : Wd} {H : Hp} {ρ : Rho} {σ : St} {w1 : Wd} {H1 : Hp} {ρ1 : Rho} {τ1 : Tape} (a : Ps g w H ρ σ w1 H1 ρ1 τ1 σ) {ev : Ev} {Q : VK}
    (q : match ev ρ1 τ1 with
      | .ok r ρ' τ' => ∀ w' H' v, Ps g w H ρ σ w' H' ρ' τ' σ → RsR g w H ρ σ w' H' ρ' σ r v → Q v H'
      | .exc x ρ' τ' => ∀ w' H' cls dx, Ps g w H ρ σ w' H' ρ' τ' σ → ExR g w' x cls dx → W cls dx σ H'
      | .bad => False) : tD g W ev σ H1 Q := by
  refine ⟨w1, ρ1, τ1, a.env, ?_⟩
  cases e : ev ρ1 τ1 with
  | ok r ρ' τ' =>
    simp only [e] at q
    intro w' H' v b hr
    refine q w' H' v (a.trans b) ?_
    cases r with
    | fz d => exact hr
    | own d =>
      obtain ⟨p, e1, h1, h2, h3, h4, h5⟩ := hr
      refine ⟨p, e1, h1, h2, h3, h4, ?_⟩
      rcases h5 with h5 | h5
      · exact .inl (a.st.al p h5)
      · exact (a.lic p h5).symm
  | exc x ρ' τ' => simp only [e] at q; exact fun w' H' cls dx b hx => q w' H' cls dx (a.trans b) hx
  | bad => simp only [e] at q
theorem tT_then {w : Wd} {H : Hp} {ρ : Rho} {σ : St} {w1 : Wd} {H1 : Hp} {ρ1 : Rho} {τ1 : Tape} (a : Ps g w H ρ σ w1 H1 ρ1 τ1 σ) {tv : Tv} {Q : Bool → Hp → Prop}
    (q : match tv ρ1 τ1 with
      | .ok r ρ' τ' => ∀ w' H', Ps g w H ρ σ w' H' ρ' τ' σ → Q r H'
      | .exc x ρ' τ' => ∀ w' H' cls dx, Ps g w H ρ σ w' H' ρ' τ' σ → ExR g w' x cls dx → W cls dx σ H'
      | .bad => False) : tT g W tv σ H1 Q := by
  refine ⟨w1, ρ1, τ1, a.env, ?_⟩
  cases e : tv ρ1 τ1 with
  | ok r ρ' τ' => simp only [e] at q; exact fun w' H' b => q w' H' (a.trans b)
  | exc x ρ' τ' => simp only [e] at q; exact fun w' H' cls dx b hx => q w' H' cls dx (a.trans b) hx
  | bad => simp only [e] at q
theorem bl_of {w : Wd} {H : Hp} {ρ : Rho} {σ : St} {w' : Wd} {H' : Hp} {ρ' : Rho} {σ' : St} {b : Bool} {v : V} (h : RsR g w H ρ σ w' H' ρ' σ' (.fz (.bl b)) v) : v = .bl b := by simpa [RsR, Rep] using h
theorem py_and {es : List Expr} (ha : PyE g k X W a ea) (hb : PyE g k X W (.BoolOp .And (b :: es) pos) eb) : PyE g k X W (.BoolOp .And (a :: b :: es) pos) (vAnd ea eb) := fun At => (pe_and (ha At) (hb At)).imp' fun σ H Q q => by
  obtain ⟨w, ρ, τ, env, q⟩ := q
  refine ⟨w, ρ, τ, env, ?_⟩
  unfold vAnd at q
  cases e : ea ρ τ with
  | ok r ρ' τ' =>
    simp only [e] at q
    intro w1 H1 v a1 hr
    cases r with
    | own d => simp at q
    | fz d =>
      cases d with
      | bl c =>
        refine ⟨c, bl_of hr, ?_⟩
        cases c with
        | true => exact tD_then a1 q
        | false => exact q w1 H1 _ a1 (by rw [RsR, Rep])
      | _ => simp at q
  | exc x ρ' τ' => simp only [e] at q; exact q
  | bad => simp only [e] at q
theorem py_or {es : List Expr} (ha : PyE g k X W a ea) (hb : PyE g k X W (.BoolOp .Or (b :: es) pos) eb) : PyE g k X W (.BoolOp .Or (a :: b :: es) pos) (vOr ea eb) := fun At => (pe_or (ha At) (hb At)).imp' fun σ H Q q => by
  obtain ⟨w, ρ, τ, env, q⟩ := q
  refine ⟨w, ρ, τ, env, ?_⟩
  unfold vOr at q
  cases e : ea ρ τ with
  | ok r ρ' τ' =>
    simp only [e] at q
    intro w1 H1 v a1 hr
    cases r with
    | own d => simp at q
    | fz d =>
      cases d with
      | bl c =>
        refine ⟨c, bl_of hr, ?_⟩
        cases c with
        | false => exact tD_then a1 q
        | true => exact q w1 H1 _ a1 (by rw [RsR, Rep])
      | _ => simp at q
  | exc x ρ' τ' => simp only [e] at q; exact q
  | bad => simp only [e] at q
theorem py_one {op : BoolOp} (ha : PyE g k X W a ea) : PyE g k X W (.BoolOp op [a] pos) ea := fun At => pe_one (ha At)
theorem py_not (ha : PyE g k X W a ea) : PyE g k X W (.UnaryOp .Not a pos) (vNot ea) := fun At => (pe_not (ha At)).imp' fun σ H Q q => by
  obtain ⟨w, ρ, τ, env, q⟩ := q
  refine ⟨w, ρ, τ, env, ?_⟩
  unfold vNot at q
  cases e : ea ρ τ with
  | ok r ρ' τ' =>
    simp only [e] at q
    intro w1 H1 v a1 hr
    cases r with
    | own d => simp at q
    | fz d =>
      cases d with
      | bl c => exact ⟨c, bl_of hr, q w1 H1 _ a1 (by rw [RsR, Rep])⟩
      | _ => simp at q
  | exc x ρ' τ' => simp only [e] at q; exact q
  | bad => simp only [e] at q
def tAndD (ta tb : Tv) : Tv := fun ρ τ => match ta ρ τ with
  | .ok true ρ1 τ1 => tb ρ1 τ1
  | .ok false ρ1 τ1 => .ok false ρ1 τ1
  | .exc x ρ1 τ1 => .exc x ρ1 τ1
  | .bad => .bad
def tOrD (ta tb : Tv) : Tv := fun ρ τ => match ta ρ τ with
  | .ok false ρ1 τ1 => tb ρ1 τ1
  | .ok true ρ1 τ1 => .ok true ρ1 τ1
  | .exc x ρ1 τ1 => .exc x ρ1 τ1
  | .bad => .bad
def tNotD (ta : Tv) : Tv := fun ρ τ => match ta ρ τ with
  | .ok b ρ1 τ1 => .ok (!b) ρ1 τ1
  | .exc x ρ1 τ1 => .exc x ρ1 τ1
  | .bad => .bad
def PyW (g : G) (k : Nat) (X : Cx) (W : WX) (e : Expr) (tv : Tv) : Prop := At g k X W → PW X e (tT g W tv)
theorem _root_.L2.PW.imp' {X : Cx} {e : Expr} {t t' : TT} (h : PW X e t) (i : ∀ σ H Q, t' σ H Q → t σ H Q) : PW X e t' := ⟨fun wh pins s σ H Q I q => h.run wh pins s σ H Q I (i σ H Q q)⟩
theorem py_w (h : PyW g k X W a ta) : PyT g k X W a ta := fun At => (h At).pt
theorem py_wand1 (ha : PyT g k X W a ta) : PyW g k X W (.BoolOp .And [a] pos) ta := fun At => pw_and1 (ha At)
theorem py_wor1 (ha : PyT g k X W a ta) : PyW g k X W (.BoolOp .Or [a] pos) ta := fun At => pw_or1 (ha At)
theorem py_wand {es : List Expr} (ha : PyT g k X W a ta) (hb : PyW g k X W (.BoolOp .And (b :: es) pos) tb) : PyW g k X W (.BoolOp .And (a :: b :: es) pos) (tAndD ta tb) := fun At => (pw_and (ha At) (hb At)).imp' fun σ H Q q => by
  obtain ⟨w, ρ, τ, env, q⟩ := q
  refine ⟨w, ρ, τ, env, ?_⟩
  unfold tAndD at q
  cases e : ta ρ τ with
  | ok r ρ' τ' =>
    simp only [e] at q
    intro w1 H1 a1
    cases r with
    | true => exact tT_then a1 q
    | false => exact q w1 H1 a1
  | exc x ρ' τ' => simp only [e] at q; exact q
  | bad => simp only [e] at q
theorem py_wor {es : List Expr} (ha : PyT g k X W a ta) (hb : PyW g k X W (.BoolOp .Or (b :: es) pos) tb) : PyW g k X W (.BoolOp .Or (a :: b :: es) pos) (tOrD ta tb) := fun At => (pw_or (ha At) (hb At)).imp' fun σ H Q q => by
  obtain ⟨w, ρ, τ, env, q⟩ := q
  refine ⟨w, ρ, τ, env, ?_⟩
  unfold tOrD at q
  cases e : ta ρ τ with
  | ok r ρ' τ' =>
    simp only [e] at q
    intro w1 H1 a1
    cases r with
    | false => exact tT_then a1 q
    | true => exact q w1 H1 a1
  | exc x ρ' τ' => simp only [e] at q; exact q
  | bad => simp only [e] at q
theorem py_tnot (ha : PyT g k X W a ta) : PyT g k X W (.UnaryOp .Not a pos) (tNotD ta) := fun At => (pt_not (ha At)).imp' fun σ H Q q => by
  obtain ⟨w, ρ, τ, env, q⟩ := q
  refine ⟨w, ρ, τ, env, ?_⟩
  unfold tNotD at q
  cases e : ta ρ τ with
  | ok r ρ' τ' => simp only [e] at q; exact q
  | exc x ρ' τ' => simp only [e] at q; exact q
  | bad => simp only [e] at q
def vIf (tv : Tv) (ea eb : Ev) : Ev := fun ρ τ => match tv ρ τ with
  | .ok true ρ1 τ1 => ea ρ1 τ1
  | .ok false ρ1 τ1 => eb ρ1 τ1
  | .exc x ρ1 τ1 => .exc x ρ1 τ1
  | .bad => .bad
theorem py_if (hc : PyT g k X W c tv) (ha : PyE g k X W a ea) (hb : PyE g k X W b eb) : PyE g k X W (.IfExp c a b pos) (vIf tv ea eb) := fun At => (pe_ifExp (hc At) (ha At) (hb At)).imp' fun σ H Q q => by
  obtain ⟨w, ρ, τ, env, q⟩ := q
  refine ⟨w, ρ, τ, env, ?_⟩
  unfold vIf at q
  cases e : tv ρ τ with
  | ok r ρ' τ' =>
    simp only [e] at q
    intro w1 H1 a1
    cases r with
    | true => exact tD_then a1 q
    | false => exact tD_then a1 q
  | exc x ρ' τ' => simp only [e] at q; exact q
  | bad => simp only [e] at q
def vChain (p p' : Prim) (ea eb ec : Ev) : Ev := fun ρ τ => match aFz [.ex ea, .ex eb] ρ τ with
  | .ok [x, y] ρ1 τ1 => (match p [x, y] with
    | .at (.bl true) => (match vFz ec ρ1 τ1 with
      | .ok (.fz z) ρ2 τ2 => outP ρ2 τ2 (p' [y, z])
      | .ok _ _ _ => .bad
      | .exc x ρ2 τ2 => .exc x ρ2 τ2
      | .bad => .bad)
    | .at (.bl false) => .ok (.fz (.bl false)) ρ1 τ1
    | _ => .bad)
  | .ok _ _ _ => .bad
  | .exc x ρ1 τ1 => .exc x ρ1 τ1
  | .bad => .bad
theorem RepL.two {Z : Hp} {tp : Option (Addr × Addr × Addr)} {x y : D} {vs : List V} (h : RepL g Z tp [x, y] vs) : ∃ u v, vs = [u, v] ∧ Rep g Z tp x u ∧ Rep g Z tp y v := by
  rw [RepL] at h
  obtain ⟨u, r, e, h1, h2⟩ := h
  rw [RepL] at h2
  obtain ⟨v, r', e', h3, h4⟩ := h2
  rw [RepL] at h4
  exact ⟨u, v, by rw [e, e', h4], h1, h3⟩
theorem chain_ok {r r' : R2} (h1 : PrimOk g (m2 r) p) (h2 : PrimOk g (m2 r') p') {σ : St} {H : Hp} {Q : VK} (q : tD g W (vChain p p' ea eb ec) σ H Q) : tChain r r' (tD g W (vFz ea)) (tD g W (vFz eb)) (tD g W (vFz ec)) σ H Q := by
  obtain ⟨w, ρ, τ, env, q⟩ := q
  suffices hh : argsT g W [.ex ea, .ex eb] σ H fun vs H2 => match vs with
      | [x, y] => r x y H2 fun z H3 => ∃ k, z = .bl k ∧ (if k = true then tD g W (vFz ec) σ H3 fun w' H4 => r' y w' H4 Q else Q (.bl false) H3)
      | _ => False from hh
  refine args_fz env ?_
  unfold vChain at q
  cases e : aFz [.ex ea, .ex eb] ρ τ with
  | ok ds ρ1 τ1 =>
    simp only [e] at q
    match ds, q with
    | [x, y], q =>
      intro w1 H1 vs a hr
      obtain ⟨u, v, rfl, hu, hv⟩ := hr.two
      have key := h1 w1 H1 [x, y] [u, v] (fun z H3 => ∃ k, z = .bl k ∧ (if k = true then tD g W (vFz ec) σ H3 fun w' H4 => r' v w' H4 Q else Q (.bl false) H3)) a.env.zle hr.top
      cases ep : p [x, y] with
      | «at» d =>
        simp only [ep] at q key
        refine key fun z hz => ?_
        cases d with
        | bl c =>
          rw [Rep] at hz
          refine ⟨c, hz, ?_⟩
          cases c with
          | false => exact q w1 H1 _ a (by rw [RsR, Rep])
          | true =>
            rw [if_pos rfl]
            refine ⟨w1, ρ1, τ1, a.env, ?_⟩
            cases e3 : vFz ec ρ1 τ1 with
            | ok rs ρ2 τ2 =>
              simp only [e3] at q
              cases rs with
              | own d => simp at q
              | fz d =>
                intro w2 H2 vz b hz
                refine prim_fin (ds := [y, d]) (vs := [v, vz]) (E := fun x ρ'' τ'' => ∀ w'' H'' cls dx, Ps g w H ρ σ w'' H'' ρ'' τ'' σ → ExR g w'' x cls dx → W cls dx σ H'') h2 (a.trans b) ⟨v, [vz], rfl, .inl ?_, vz, [], rfl, .inl hz, rfl⟩ q
                rw [b.st.tp]
                exact Rep.mono b.st.z _ hv
            | exc x ρ2 τ2 => simp only [e3] at q; exact fun w' H' cls dx b hx => q w' H' cls dx (a.trans b) hx
            | bad => simp only [e3] at q
        | _ => simp at q
      | _ => simp [ep] at q
    | [], q => exact q.elim
    | [_], q => exact q.elim
    | _ :: _ :: _ :: _, q => exact q.elim
  | exc x ρ' τ' => simp only [e] at q; exact q
  | bad => simp only [e] at q
theorem py_chain {op op' : CmpOp} (ho : OpOk g k X W (compareOp op) p) (ho' : OpOk g k X W (compareOp op') p') (ha : PyE g k X W a ea) (hb : PyE g k X W b eb) (hc : PyE g k X W c ec) (hm : lastMarks [op, op'] [b, c] = false := by with_unfolding_all rfl) :
    PyE g k X W (.Compare a [op, op'] [b, c] pos) (vChain p p' ea eb ec) := fun At => by
  obtain ⟨r, h1, h2⟩ := ho At
  obtain ⟨r', h3, h4⟩ := ho' At
  exact (pe_chain h1 h3 (py_fz ha At) (py_fz hb At) (py_fz hc At) hm).imp' fun σ H Q q => chain_ok h2 h4 q
theorem py_tchain {op op' : CmpOp} (ho : OpOk g k X W (compareOp op) p) (ho' : OpOk g k X W (compareOp op') p') (ha : PyE g k X W a ea) (hb : PyE g k X W b eb) (hc : PyE g k X W c ec) (hm : lastMarks [op, op'] [b, c] = false := by with_unfolding_all rfl) :
    PyT g k X W (.Compare a [op, op'] [b, c] pos) (tOf (vChain p p' ea eb ec)) := fun At => by
  obtain ⟨r, h1, h2⟩ := ho At
  obtain ⟨r', h3, h4⟩ := ho' At
  exact (pt_chain h1 h3 (py_fz ha At) (py_fz hb At) (py_fz hc At) hm).imp' fun σ H Q q => chain_ok h2 h4 (tT_of q)
end
end PD
namespace PD
open PySem PySem.Spec L2 PySem.W
open PyProof.Rows hiding St

theorem reads_of_ints {h : Heap} : ∀ {ns : List Int} {its : List Value}, Vals (ns.map V.int) its → ReadsAll h its (ns.map PyData.int) []
  | [], _, .nil => .nil
  | n :: ns, _, .cons r rs => by
    obtain ⟨t, rfl⟩ := r
    exact ReadsAll.cons (as := []) (bs := []) (.int n t) (reads_of_ints rs)
theorem depth_intsT : ∀ ns : List Int, PyData.depthAll (ns.map PyData.int) = 0
  | [] => by simp only [List.map_nil, PyData.depthAll]
  | n :: ns => by simp only [List.map_cons, PyData.depthAll, PyData.depth, depth_intsT ns]; rfl
theorem alike_ints (ns : List Int) : AlikeAll (ns.map PyData.int) := by
  refine ⟨fun x hx y hy => ?_, fun x hx => ?_⟩
  · obtain ⟨n, _, rfl⟩ := List.mem_map.mp hx
    obtain ⟨m, _, rfl⟩ := List.mem_map.mp hy
    rfl
  · obtain ⟨n, _, rfl⟩ := List.mem_map.mp hx
    exact fun e => by cases e
theorem foldl_min (ns : List Int) : ∀ n : Int, ns.foldl min n ∈ n :: ns ∧ ∀ y ∈ n :: ns, ns.foldl min n ≤ y := by
  induction ns with
  | nil => intro n; simp
  | cons k r ih =>
    intro n
    obtain ⟨h1, h2⟩ := ih (min n k)
    rw [List.foldl_cons]
    have h3 := h2 (min n k) (by simp)
    refine ⟨?_, fun y hy => ?_⟩
    · rcases List.mem_cons.mp h1 with e | e
      · rw [e]; rcases Int.le_total n k with q | q
        · rw [Int.min_eq_left q]; simp
        · rw [Int.min_eq_right q]; simp
      · simp [e]
    · rcases List.mem_cons.mp hy with rfl | hy
      · omega
      · rcases List.mem_cons.mp hy with rfl | hy
        · omega
        · exact h2 y (by simp [hy])
theorem foldl_max (ns : List Int) : ∀ n : Int, ns.foldl max n ∈ n :: ns ∧ ∀ y ∈ n :: ns, y ≤ ns.foldl max n := by
  induction ns with
  | nil => intro n; simp
  | cons k r ih =>
    intro n
    obtain ⟨h1, h2⟩ := ih (max n k)
    rw [List.foldl_cons]
    have h3 := h2 (max n k) (by simp)
    refine ⟨?_, fun y hy => ?_⟩
    · rcases List.mem_cons.mp h1 with e | e
      · rw [e]; rcases Int.le_total n k with q | q
        · rw [Int.max_eq_right q]; simp
        · rw [Int.max_eq_left q]; simp
      · simp [e]
    · rcases List.mem_cons.mp hy with rfl | hy
      · omega
      · rcases List.mem_cons.mp hy with rfl | hy
        · omega
        · exact h2 y (by simp [hy])
section
variable {X : Cx}
def rMinT (K : PySem.W.Frag) : List V → Hp → VK → Prop := fun vs H Q => ∃ (a : Addr) (ns : List Int), vs = [V.ref a] ∧ SqT K H a (ns.map V.int) ∧ 0 < ns.length ∧ ∀ m, m ∈ ns → (∀ y, y ∈ ns → m ≤ y) → Q (.int m) H
def rMaxT (K : PySem.W.Frag) : List V → Hp → VK → Prop := fun vs H Q => ∃ (a : Addr) (ns : List Int), vs = [V.ref a] ∧ SqT K H a (ns.map V.int) ∧ 0 < ns.length ∧ ∀ m, m ∈ ns → (∀ y, y ∈ ns → y ≤ m) → Q (.int m) H
theorem cr_minT (hc : X.calm = true) (hu : X.A.units + 200 < cLine) : CallR X (.builtin "min") (rMinT X.K) := by
  intro pins s σ H vs us Q I r h
  obtain ⟨a, ns, rfl, hs, hne, q⟩ := h
  obtain ⟨its, rv, hl, _⟩ := I.tuple hs
  rw [Vals.ref1 r]
  cases ns with
  | nil => exact absurd hne (by simp)
  | cons n ns =>
    obtain ⟨o, ho, hcl, nn, hd⟩ := hl
    have hr := reads_of_ints (h := s.heap) rv
    rw [List.map_cons] at hr
    have hz := depth_intsT (n :: ns)
    rw [List.map_cons] at hz
    have ha := alike_ints (n :: ns)
    rw [List.map_cons] at ha
    refine min_tuple_data (I.ok.hd hc) ⟨o, ho, hcl, nn, hd⟩ hr ha (by rw [hz]; omega) fun i v h' tk bs hv hR hk => ?_
    rw [minD_ints] at hR
    obtain ⟨f1, f2⟩ := foldl_min ns n
    cases hR with
    | int _ t => exact ⟨.int _, H, I.kept hk, ⟨_, rfl⟩, q _ f1 f2⟩
theorem cr_maxT (hc : X.calm = true) (hu : X.A.units + 200 < cLine) : CallR X (.builtin "max") (rMaxT X.K) := by
  intro pins s σ H vs us Q I r h
  obtain ⟨a, ns, rfl, hs, hne, q⟩ := h
  obtain ⟨its, rv, hl, _⟩ := I.tuple hs
  rw [Vals.ref1 r]
  cases ns with
  | nil => exact absurd hne (by simp)
  | cons n ns =>
    obtain ⟨o, ho, hcl, nn, hd⟩ := hl
    have hr := reads_of_ints (h := s.heap) rv
    rw [List.map_cons] at hr
    have hz := depth_intsT (n :: ns)
    rw [List.map_cons] at hz
    have ha := alike_ints (n :: ns)
    rw [List.map_cons] at ha
    refine max_tuple_data (I.ok.hd hc) ⟨o, ho, hcl, nn, hd⟩ hr ha (by rw [hz]; omega) fun i v h' tk bs hv hR hk => ?_
    rw [maxD_ints] at hR
    obtain ⟨f1, f2⟩ := foldl_max ns n
    cases hR with
    | int _ t => exact ⟨.int _, H, I.kept hk, ⟨_, rfl⟩, q _ f1 f2⟩
end
end PD
namespace PD
open PySem PySem.Spec L2 PySem.W
open PyProof.Rows hiding St
def rSortedPT (K : PySem.W.Frag) : List V → Hp → VK → Prop := fun vs H Q => ∃ (a : Addr) (xs : List V) (ps : List (Int × Int)), vs = [V.ref a] ∧ SqL K H a xs ∧ xs.length = ps.length ∧ (∀ (i : Nat) x p, xs[i]? = some x → ps[i]? = some p → ∃ t, x = V.ref t ∧ SqT K H t [.int p.1, .int p.2]) ∧
  ∀ zs : List (V × (Int × Int)), zs.Perm (xs.zip ps) → (zs.map (·.2)).Pairwise (fun p q => SrtO.lexB q p = false) → ∀ q, H q = none → Q (.ref q) (upd H q (.lst (zs.map (·.1))))
section
variable {X : Cx}
open Classical in
theorem cr_sortedPT : CallR X (.builtin "sorted") (rSortedPT X.K) := by
  intro pins s σ H vs us Q I r h
  obtain ⟨a, xs, ps, rfl, hs, hlen, hx, q⟩ := h
  obtain ⟨its, rv, hl, hz⟩ := I.list hs
  obtain ⟨u, rfl, ru⟩ := vals1 r
  obtain rfl : u = Value.ref a := ru
  have zat : ∀ {x p}, (x, p) ∈ xs.zip ps → ∃ t, x = V.ref t ∧ SqT X.K H t [.int p.1, .int p.2] := fun {x p} h => by
    obtain ⟨i, hi, e⟩ := List.mem_iff_getElem.mp h
    rw [List.getElem_zip] at e
    cases e
    rw [List.length_zip] at hi
    exact hx i _ _ (List.getElem?_eq_getElem (by omega)) (List.getElem?_eq_getElem (by omega))
  obtain ⟨kf, hkf⟩ : ∃ kf : V → Int × Int, ∀ x p, (x, p) ∈ xs.zip ps → kf x = p := by
    refine ⟨fun x => if h : ∃ p, (x, p) ∈ xs.zip ps then Classical.choose h else (0, 0), fun x p h => ?_⟩
    have ex : ∃ p, (x, p) ∈ xs.zip ps := ⟨p, h⟩
    show (if h : ∃ p, (x, p) ∈ xs.zip ps then Classical.choose h else (0, 0)) = p
    rw [dif_pos ex]
    have h2 := Classical.choose_spec ex
    generalize Classical.choose ex = p' at h2
    obtain ⟨t, rfl, s1⟩ := zat h
    obtain ⟨t', e, s2⟩ := zat h2
    cases e
    have := I.tuple_inj s1 s2
    simp only [List.cons.injEq, V.int.injEq, and_true] at this
    exact Prod.ext this.1.symm this.2.symm
  have zmap : xs.map (fun x => (x, kf x)) = xs.zip ps := by
    refine List.ext_getElem (by rw [List.length_map, List.length_zip]; omega) fun i h1 h2 => ?_
    rw [List.getElem_map, List.getElem_zip]
    rw [List.length_map] at h1
    refine Prod.ext rfl (hkf _ _ ?_)
    have := List.getElem_mem h2
    rwa [List.getElem_zip] at this
  have inz : ∀ x ∈ xs, (x, kf x) ∈ xs.zip ps := fun x hx => by rw [← zmap]; exact List.mem_map.mpr ⟨x, hx, rfl⟩
  obtain ⟨e1, e2⟩ := refs_back rv fun x m => by
    obtain ⟨t, e, _⟩ := zat (inz x m)
    exact ⟨t, e⟩
  refine SrtO.sorted_pairsO (k := fun u => kf (backV u)) hl.isList (by rw [← rv.length]; exact hz) (fun v hv => ?_) fun h' d out h1 h2 kp hd hn => ?_
  · obtain ⟨t, rfl⟩ := e2 v hv
    have hm : V.ref t ∈ xs := by rw [e1]; exact List.mem_map.mpr ⟨_, hv, rfl⟩
    obtain ⟨t', e, ht⟩ := zat (inz _ hm)
    cases e
    obtain ⟨its2, r2, ⟨o, ho, hc, n, hd⟩, _⟩ := I.tuple ht
    obtain ⟨u1, u2, rfl, ri, rj⟩ := vals2 r2
    obtain ⟨t1, rfl⟩ := ri
    obtain ⟨t2, rfl⟩ := rj
    exact ⟨t, o, t1, t2, _, rfl, ho, hc, hd⟩
  · have h3 : ∀ u ∈ out, ∃ a, u = Value.ref a := fun u hu => e2 u (h2.perm.mem_iff.mp hu)
    obtain ⟨n, hn⟩ := hn
    have hp : (out.map backV).Perm xs := by rw [e1]; exact h2.perm.map backV
    have e9 : ((out.map backV).map fun x => (x, kf x)).map (·.1) = out.map backV := by rw [List.map_map]; exact List.map_id' _
    refine ⟨.ref d, upd H d (.lst (out.map backV)), I.laid (t' := s.toks) kp hd ⟨?_, out, n, vals_back h3, hn⟩, rfl, ?_⟩
    · rw [hp.length_eq]; exact hz
    · have := q ((out.map backV).map fun x => (x, kf x)) (by rw [← zmap]; exact hp.map _) ?_ d (I.hok.fresh hd)
      · rwa [e9] at this
      · rw [List.map_map, List.pairwise_map, List.pairwise_map]
        exact h1.imp fun h => h
end
end PD
namespace PD
section
open PySem PySem.Spec PyProof.Rows PySem.W
variable {prog : Program} {w : World} {A : Around} {E : Value → Shared → Prop} {s : Shared}
/-- what is collected of a tuple -/
theorem coll_tup {t : Addr} {vs : List Value} {Q : List Value → Shared → Prop} (ht0 : s.heap.IsTuple t vs.toArray)
    (q : Q vs { s with heap := (s.heap.push (seqObj "list" #[] 0)).update s.heap.objs.size (Obj.mapSeq (· ++ vs.toArray)) }) (lz : vs.length ≤ sizeLine) : wpAny (model prog w) A (collect (.ref t)) Q E s := by
  obtain ⟨o, ho, hc, n, hd⟩ := id ht0
  have o2 : (s.heap.push (seqObj "list" #[] 0)).get? t = some o := Heap.get?_push_of_some _ ho
  have tt : (Value.type "tuple" == Value.type "tuple") = true := by rfl
  unfold collect
  refine wpAny_bind (wpAny_runValue (codeAny_builtin entry_proto_collect' ?_)); show wpAny _ _ (do again (.builtin "list.__iadd__" ⟨[← newList [], .ref t], []⟩)) _ _ s
  refine wpAny_bind (wpAny_newList (wpAny_pure ⟨Code.quiet_builtin _ (by decide +kernel), codeAny_builtin entry_list_iadd' ?_⟩)); show wpAny _ _ (Builtin.List.listExtendWith (.ref s.heap.objs.size) (.ref t) (.ref s.heap.objs.size)) _ _ { s with heap := s.heap.push (seqObj "list" #[] 0) }
  unfold Builtin.List.listExtendWith; refine wpAny_bind (wpAny_typeOf (T := "tuple") ⟨o, o2, hc⟩ ?_)
  rw [if_pos (by rw [tt]; simp)]; refine wpAny_bind (listItems_at o2 hd ?_); refine wpAny_bind (listItems_at (xs := #[]) (n := 0) (Heap.get?_push_size _ rfl) rfl ?_)
  rw [if_neg (by simp)]; refine wpAny_bind (listUpdate_at (xs := #[]) (n := 0) (Heap.get?_push_size _ rfl) rfl ?_ (Nat.zero_le _) (by show (#[] ++ vs.toArray).size ≤ sizeLine + 1; simp only [Array.size_append, List.size_toArray, List.length_nil]; omega))
  refine wpAny_pure ?_
  show wpAny (model prog w) A (do
      let o ← load s.heap.objs.size
      match o.data with
      | .seq xs _ => pure xs.toList
      | _ => unsupported "internal:collect") Q E { s with heap := (s.heap.push (seqObj "list" #[] 0)).update s.heap.objs.size (Obj.mapSeq (· ++ vs.toArray)) }
  refine wpAny_bind (wpAny_load (get?_update_seq (Heap.get?_push_size _ rfl) _) ?_); show wpAny _ _ (pure ((#[] : Array Value) ++ vs.toArray).toList) Q E _
  rw [show ((#[] : Array Value) ++ vs.toArray).toList = vs by simp]; exact wpAny_pure q
theorem sorted_ordT {t : Addr} {vs : List Value} {lv : Value → Value → Bool} {Q : Value → Shared → Prop} (O : SrtO.Swo lv) (ht0 : s.heap.IsTuple t vs.toArray) (lz : vs.length ≤ sizeLine)
    (hS : 2 ≤ vs.length → ∀ (h₁ : Heap) (a : Addr), h₁.get? a = some (seqObj "list" vs.toArray 0) → (∀ b o, s.heap.get? b = some o → b ≠ a ∧ h₁.get? b = some o) → SrtO.SortableO prog w A.in1.in1 { s with heap := h₁ } a vs lv)
    (q : ∀ out : List Value, SrtO.Srtd lv out → SrtO.Stb lv out vs → Q (.ref (s.heap.objs.size + 1)) { s with heap := sortedAll s.heap vs out.toArray }) :
    wpAny (model prog w) A (call (.builtin "sorted") [.ref t]) Q E s := by
  have hsz : ((s.heap.push (seqObj "list" #[] 0)).update s.heap.objs.size (Obj.mapSeq (· ++ vs.toArray))).objs.size = s.heap.objs.size + 1 := by rw [Heap.size_update, size_push']
  have hoL : (((s.heap.push (seqObj "list" #[] 0)).update s.heap.objs.size (Obj.mapSeq (· ++ vs.toArray))).push (seqObj "list" vs.toArray 0)).get? (s.heap.objs.size + 1) = some (seqObj "list" vs.toArray 0) := by rw [← hsz]; exact Heap.get?_push_size _ rfl
  have kk : ∀ b o, s.heap.get? b = some o → b ≠ s.heap.objs.size + 1 ∧ (((s.heap.push (seqObj "list" #[] 0)).update s.heap.objs.size (Obj.mapSeq (· ++ vs.toArray))).push (seqObj "list" vs.toArray 0)).get? b = some o := fun b o e => by
    have l := Heap.lt_size e
    refine ⟨Nat.ne_of_lt (Nat.lt_succ_of_lt l), Heap.get?_push_of_some _ ?_⟩
    rw [Heap.get?_update_ne _ _ _ _ (Nat.ne_of_lt l)]; exact Heap.get?_push_of_some _ e
  refine Calls.call_function_entry kind_sorted plain_sorted entry_sorted (args_sorted1 _) ?_
  unfold Builtin.«sorted»; refine wpAny_bind (m := checkCount "sorted" 1 1 _) (wpAny_pure ?_)
  refine wpAny_bind (coll_tup ht0 ?_ lz); refine wpAny_bind (wpAny_newList ?_ lz)
  show wpAny _ _ _ _ _ { s with heap := ((s.heap.push (seqObj "list" #[] 0)).update s.heap.objs.size (Obj.mapSeq (· ++ vs.toArray))).push (seqObj "list" vs.toArray 0) }; rw [hsz]
  refine wpAny_bind (wpAny_holding (wpAny_call_entry slot_list_sort ⟨_, hoL, rfl⟩ entry_list_sort (SrtO.list_sort_ord O hoL lz (fun h2 => hS h2 _ _ hoL kk) fun out hs hb => ⟨_, rfl, ?_⟩) (args_list_sort _))); exact wpAny_pure ⟨_, rfl, q out hs hb⟩
end
open PySem PySem.Spec L2
open PyProof.Rows hiding St
def rSortedIT (K : PySem.W.Frag) : List V → Hp → VK → Prop := fun vs H Q => ∃ (a : Addr) (ns : List Int), vs = [V.ref a] ∧ SqT K H a (ns.map V.int) ∧
  ∀ (ns' : List Int) (p : Addr), ns'.Perm ns → ns'.Pairwise (· ≤ ·) → H p = none → Q (.ref p) (upd H p (.lst (ns'.map V.int)))
theorem cr_sortedIT {X : Cx} : CallR X (.builtin "sorted") (rSortedIT X.K) := by
  intro pins s σ H vs us Q I r h
  obtain ⟨a, ns, rfl, hs, q⟩ := h
  obtain ⟨its, rv, ht, lz⟩ := I.tuple hs
  have lz : its.length ≤ sizeLine := by first | exact lz | (rw [← rv.length]; exact lz)
  rw [Vals.ref1 r]
  have hi := rv.ints
  refine sorted_ordT SrtO.swo_int ht lz (fun h2 h₁ a' _ _ => SrtO.ints_sortable hi h2) fun out h1 h2 => ?_
  obtain ⟨k1, k2, k3⟩ := SrtO.ints_out hi h1 h2
  obtain ⟨ep, he'⟩ := PyProof.Rows.sortedAll_at s.heap its out.toArray
  have hlen : ((out.map SrtO.iv).map V.int).length ≤ sizeLine := by
    rw [List.length_map, k2.length_eq, ← List.length_map (f := V.int), rv.length]; exact lz
  exact ⟨.ref _, upd H (s.heap.objs.size + 1) (.lst ((out.map SrtO.iv).map V.int)), I.laid (t' := s.toks) (fun _ _ => PyProof.Rows.sortedAll_old) (Nat.le_succ _) ⟨hlen, out, ep, vals_of_ints k1, he'⟩, rfl, q _ _ k2 k3 (I.hok.fresh (Nat.le_succ _))⟩
end PD
namespace PD
open PySem PySem.Spec L2
open PyProof.Rows hiding St

theorem OpR.or {X : Cx} {f : Value → Value → Sem Value} {r r' : R2} (h : OpR X f r) (h' : OpR X f r') : OpR X f (fun x y H Q => r x y H Q ∨ r' x y H Q) := fun pins s σ H x y v u Q I rx ry q =>
  q.elim (h pins s σ H x y v u Q I rx ry) (h' pins s σ H x y v u Q I rx ry)
theorem CallR.or {X : Cx} {f : Value} {r r' : RL} (h : CallR X f r) (h' : CallR X f r') : CallR X f (fun xs H Q => r xs H Q ∨ r' xs H Q) := fun pins s σ H xs us Q I rx q =>
  q.elim (h pins s σ H xs us Q I rx) (h' pins s σ H xs us Q I rx)
section
variable {g : G} {w : Wd} {H : Hp}
theorem Top.atom {d : D} {v : V} (h : Top g w H d v) (n : ∀ p, OwnR g w H d p → False) : Rep g w.Z w.tp d v := by
  rcases h with h | ⟨p, _, r, _⟩
  · exact h
  · exact (n p r).elim
theorem Top.int {i : Int} {v : V} (h : Top g w H (.int i) v) : v = .int i := by have := h.atom (fun p r => r); rwa [Rep] at this
theorem Top.bl {i : Bool} {v : V} (h : Top g w H (.bl i) v) : v = .bl i := by have := h.atom (fun p r => r); rwa [Rep] at this
theorem Top.str {i : Str} {v : V} (h : Top g w H (.str i) v) : v = .str i := by have := h.atom (fun p r => r); rwa [Rep] at this
theorem Top.non {v : V} (h : Top g w H .non v) : v = .non := by have := h.atom (fun p r => r); rwa [Rep] at this
theorem Top.tup (z : ZLe w.Z H) {ds : List D} {v : V} (h : Top g w H (.tup ds) v) : ∃ p vs, v = .ref p ∧ SqT g.K H p vs ∧ RepL g w.Z w.tp ds vs := by
  have := h.atom (fun p r => r)
  rw [Rep] at this
  obtain ⟨a, vs, e, q, r⟩ := this
  exact ⟨a, vs, e, SqT.mono z q, r⟩
theorem Top.lst (z : ZLe w.Z H) {ds : List D} {v : V} (h : Top g w H (.lst ds) v) : ∃ p vs, v = .ref p ∧ H p = some (.lst vs) ∧ RepL g w.Z w.tp ds vs := by
  rcases h with h | ⟨p, e, ⟨vs, h1, h2⟩, _⟩
  · rw [Rep] at h
    obtain ⟨a, vs, e, q, r⟩ := h
    exact ⟨a, vs, e, z _ _ q, r⟩
  · cases e
    exact ⟨p, vs, rfl, h1, h2⟩
theorem Top.dic (z : ZLe w.Z H) {ds : List (D × D)} {v : V} (h : Top g w H (.dic ds) v) : ∃ p ks, v = .ref p ∧ H p = some (.dK ks) ∧ RepKV g w.Z w.tp ds ks := by
  rcases h with h | ⟨p, e, ⟨ks, h1, h2⟩, _⟩
  · rw [Rep] at h
    obtain ⟨a, vs, e, q, r⟩ := h
    exact ⟨a, vs, e, z _ _ q, r⟩
  · cases e
    exact ⟨p, ks, rfl, h1, h2⟩
theorem TopL.one {x : D} {vs : List V} (h : TopL g w H [x] vs) : ∃ u, vs = [u] ∧ Top g w H x u := by
  obtain ⟨u, r, e, h1, h2⟩ := h
  have h2 : r = [] := h2
  exact ⟨u, by rw [e, h2], h1⟩
theorem TopL.two {x y : D} {vs : List V} (h : TopL g w H [x, y] vs) : ∃ u v, vs = [u, v] ∧ Top g w H x u ∧ Top g w H y v := by
  obtain ⟨u, r, e, h1, h2⟩ := h
  obtain ⟨v, e2, h3⟩ := TopL.one h2
  exact ⟨u, v, by rw [e, e2], h1, h3⟩
theorem RepL.app {Z : Hp} {tp : Option (Addr × Addr × Addr)} : ∀ {ds es : List D} {us vs : List V}, RepL g Z tp ds us → RepL g Z tp es vs → RepL g Z tp (ds ++ es) (us ++ vs)
  | [], es, us, vs, h, q => by rw [RepL] at h; rw [h]; exact q
  | d :: ds, es, us, vs, h, q => by
    rw [RepL] at h
    obtain ⟨v, r, e, h1, h2⟩ := h
    rw [e, List.cons_append, List.cons_append, RepL]
    exact ⟨v, _, rfl, h1, RepL.app h2 q⟩
theorem RepL.get {Z : Hp} {tp : Option (Addr × Addr × Addr)} : ∀ {ds : List D} {us : List V} {i : Nat} {d : D}, RepL g Z tp ds us → ds[i]? = some d → ∃ v, us[i]? = some v ∧ Rep g Z tp d v
  | [], us, i, d, h, e => by simp at e
  | x :: ds, us, 0, d, h, e => by
    rw [RepL] at h
    obtain ⟨v, r, e1, h1, h2⟩ := h
    simp at e
    subst e
    exact ⟨v, by rw [e1]; rfl, h1⟩
  | x :: ds, us, i + 1, d, h, e => by
    rw [RepL] at h
    obtain ⟨v, r, e1, h1, h2⟩ := h
    obtain ⟨u, h3, h4⟩ := RepL.get (i := i) h2 (by simpa using e)
    exact ⟨u, by rw [e1]; simpa using h3, h4⟩
end
/-- a reading told by a list of values: by its one, its two values -/
theorem PrimOk.two {g : G} {r : R2} {f : D → D → P} (h : ∀ (w : Wd) (H : Hp) (x y : D) (u v : V) (Q : VK), ZLe w.Z H → Top g w H x u → Top g w H y v → PGo g w H Q (f x y) (r u v H Q)) : PrimOk g (m2 r) (fun ds => match ds with
  | [x, y] => f x y
  | _ => .bad) := by
  intro w H ds vs Q z t
  match ds, t with
  | [x, y], t =>
    obtain ⟨u, v, rfl, h1, h2⟩ := t.two
    exact h w H x y u v Q z h1 h2
  | [], _ => trivial
  | [a], _ => trivial
  | a :: b :: c :: d, _ => trivial
theorem PrimOk.one {g : G} {r : V → Hp → VK → Prop} {f : D → P} (h : ∀ (w : Wd) (H : Hp) (x : D) (u : V) (Q : VK), ZLe w.Z H → Top g w H x u → PGo g w H Q (f x) (r u H Q)) : PrimOk g (m1 r) (fun ds => match ds with
  | [x] => f x
  | _ => .bad) := by
  intro w H ds vs Q z t
  match ds, t with
  | [x], t =>
    obtain ⟨u, rfl, h1⟩ := t.one
    exact h w H x u Q z h1
  | [], _ => trivial
  | a :: b :: d, _ => trivial
/-- primitives of one, of two data -/
def p1 (f : D → P) : Prim := fun ds => match ds with
  | [x] => f x
  | _ => .bad
def p2 (f : D → D → P) : Prim := fun ds => match ds with
  | [x, y] => f x y
  | _ => .bad
theorem rep_int {g : G} {Z : Hp} {tp : Option (Addr × Addr × Addr)} {i : Int} : Rep g Z tp (.int i) (.int i) := by rw [Rep]
theorem rep_bl {g : G} {Z : Hp} {tp : Option (Addr × Addr × Addr)} {i : Bool} : Rep g Z tp (.bl i) (.bl i) := by rw [Rep]
theorem rep_str {g : G} {Z : Hp} {tp : Option (Addr × Addr × Addr)} {i : Str} : Rep g Z tp (.str i) (.str i) := by rw [Rep]
theorem rep_tup {g : G} {Z : Hp} {tp : Option (Addr × Addr × Addr)} {ds : List D} {a : Addr} {vs : List V} (h : SqT g.K Z a vs) (r : RepL g Z tp ds vs) : Rep g Z tp (.tup ds) (.ref a) := by
  rw [Rep]; exact ⟨a, vs, rfl, h, r⟩
section
variable {g : G} {k : Nat} {X : Cx} {W : WX}
def fAdd : D → D → P
  | .int i, .int j => .at (.int (i + j))
  | .str a, .str b => if a.length + b.length ≤ sizeLine then .at (.str (a ++ b)) else .bad
  | .lst a, .lst b => if a.length + b.length ≤ sizeLine then .nl (a ++ b) else .bad
  | .tup a, .tup b => if a.length + b.length ≤ sizeLine then (if a = [] then .at (.tup b) else if b = [] then .at (.tup a) else .tp (a ++ b)) else .bad
  | _, _ => .bad
def pAdd : Prim := p2 fAdd
theorem top_rep_tup {w : Wd} {H : Hp} {ds : List D} {v : V} (h : Top g w H (.tup ds) v) : Rep g w.Z w.tp (.tup ds) v := h.atom fun p r => r
theorem ne_of_rep {Z : Hp} {tp : Option (Addr × Addr × Addr)} {ds : List D} {us : List V} (r : RepL g Z tp ds us) (h : ds ≠ []) : us ≠ [] := fun z => h (List.eq_nil_of_length_eq_zero (by rw [← r.length, z]; rfl))
theorem nil_of_rep {Z : Hp} {tp : Option (Addr × Addr × Addr)} {us : List V} (r : RepL g Z tp [] us) : us = [] := by rwa [RepL] at r
theorem ok_add : OpOk g k X W (binaryOp .Add) pAdd := fun A => by
  refine ⟨_, op_add.or (op_add_str.or (op_cat.or op_catA)), ?_⟩
  rw [A.K]
  refine .two (f := fAdd) fun w H x y u v Q z h1 h2 => ?_
  unfold fAdd
  split
  · cases h1.int; cases h2.int
    exact fun q => .inl ⟨_, _, rfl, rfl, q _ rep_int⟩
  · split
    · rename_i hl
      cases h1.str; cases h2.str
      exact fun q => .inr (.inl ⟨_, _, rfl, rfl, hl, q _ rep_str⟩)
    · trivial
  · split
    · rename_i hl
      obtain ⟨p, us, rfl, s1, r1⟩ := h1.lst z
      obtain ⟨p', us', rfl, s2, r2⟩ := h2.lst z
      exact fun q => .inr (.inr (.inl ⟨p, p', us, us', rfl, rfl, s1, s2, by rw [r1.length, r2.length]; exact hl, fun t ht => q t _ ht (r1.app r2)⟩))
    · trivial
  · split
    · rename_i hl
      obtain ⟨p, us, rfl, s1, r1⟩ := h1.tup z
      obtain ⟨p', us', rfl, s2, r2⟩ := h2.tup z
      have hl' : us.length + us'.length ≤ sizeLine := by rw [r1.length, r2.length]; exact hl
      split
      · rename_i ha
        subst ha
        cases nil_of_rep r1
        exact fun q => .inr (.inr (.inr ⟨p, p', [], us', rfl, rfl, s1, s2, hl', fun _ => q _ (top_rep_tup h2), fun n => absurd rfl n, fun n => absurd rfl n⟩))
      · rename_i ha
        split
        · rename_i hb
          subst hb
          cases nil_of_rep r2
          exact fun q => .inr (.inr (.inr ⟨p, p', us, [], rfl, rfl, s1, s2, hl', fun n => absurd n (ne_of_rep r1 ha), fun _ _ => q _ (top_rep_tup h1), fun _ n => absurd rfl n⟩))
        · rename_i hb
          exact fun q => .inr (.inr (.inr ⟨p, p', us, us', rfl, rfl, s1, s2, hl', fun n => absurd n (ne_of_rep r1 ha), fun _ n => absurd n (ne_of_rep r2 hb), fun _ _ t ht => q t _ ht (r1.app r2)⟩))
    · trivial
  · trivial
def fInt2 (C : Int → Int → Bool) (f : Int → Int → Int) : D → D → P
  | .int i, .int j => if C i j then .at (.int (f i j)) else .bad
  | _, _ => .bad
theorem ok_int2 {f : Value → Value → Sem Value} {C : Int → Int → Bool} {Cp : Int → Int → Prop} {h : Int → Int → Int} (ho : OpR X f (rI Cp fun i j => .int (h i j))) (hc : ∀ i j, C i j = true → Cp i j) : OpOk g k X W f (p2 (fInt2 C h)) := fun A => by
  refine ⟨_, ho, .two (f := fInt2 C h) fun w H x y u v Q z h1 h2 => ?_⟩
  unfold fInt2
  split
  · split
    · rename_i c
      cases h1.int; cases h2.int
      exact fun q => ⟨_, _, rfl, rfl, hc _ _ c, q _ rep_int⟩
    · trivial
  · trivial
def pSub : Prim := p2 (fInt2 (fun _ _ => true) fun i j => i - j)
theorem ok_sub : OpOk g k X W (binaryOp .Sub) pSub := fun A => by
  refine ⟨_, op_sub, .two (f := fInt2 (fun _ _ => true) fun i j => i - j) fun w H x y u v Q z h1 h2 => ?_⟩
  unfold fInt2
  split
  · cases h1.int; cases h2.int
    exact fun q => ⟨_, _, rfl, rfl, q _ rep_int⟩
  · trivial
def pFdiv : Prim := p2 (fInt2 (fun _ j => decide (0 < j ∧ j.natAbs.log2 < 9000)) fun i j => i / j)
theorem ok_fdiv : OpOk g k X W (binaryOp .FloorDiv) pFdiv := ok_int2 op_fdivW fun _ _ h => by simpa [CDivW] using h
def pMod : Prim := p2 (fInt2 (fun _ j => decide (0 < j)) fun i j => i % j)
theorem ok_mod : OpOk g k X W (binaryOp .Mod) pMod := ok_int2 op_mod fun _ _ h => by simpa using h
def pPow : Prim := p2 (fInt2 (fun i j => decide (0 ≤ j ∧ j ≤ 1000000 ∧ i.natAbs < 2 ^ 64)) fun i j => i ^ j.toNat)
theorem ok_pow : OpOk g k X W (binaryOp .Pow) pPow := ok_int2 op_pow fun i j h => show 0 ≤ j ∧ j ≤ 1000000 ∧ i.natAbs < 2 ^ 64 from of_decide_eq_true h
theorem RepL.rep {Z : Hp} {tp : Option (Addr × Addr × Addr)} {ds : List D} {us : List V} (r : RepL g Z tp ds us) : ∀ n : Nat, RepL g Z tp (List.replicate n ds).flatten (List.replicate n us).flatten
  | 0 => by simp [RepL]
  | n + 1 => by
    rw [List.replicate_succ, List.replicate_succ, List.flatten_cons, List.flatten_cons]
    exact r.app (RepL.rep r n)
def fMul : D → D → P
  | .int i, .int j => if i.natAbs.log2 + j.natAbs.log2 < 1000000 then .at (.int (i * j)) else .bad
  | .lst a, .int j => if j < 2 ^ 63 ∧ -(2 ^ 63) ≤ j ∧ a.length * j.toNat ≤ sizeLine then .nl (List.replicate j.toNat a).flatten else .bad
  | .tup a, .int j => if a ≠ [] ∧ 2 ≤ j ∧ j ≤ 1000 ∧ a.length ≤ 1000 then .tp (List.replicate j.toNat a).flatten else .bad
  | _, _ => .bad
def pMul : Prim := p2 fMul
theorem ok_mul : OpOk g k X W (binaryOp .Mult) pMul := fun A => by
  refine ⟨_, op_mulW.or (op_rep.or op_repT), ?_⟩
  rw [A.K]
  refine .two (f := fMul) fun w H x y u v Q z h1 h2 => ?_
  unfold fMul
  split
  · split
    · rename_i c
      cases h1.int; cases h2.int
      exact fun q => .inl ⟨_, _, rfl, rfl, c, q _ rep_int⟩
    · trivial
  · split
    · rename_i c
      obtain ⟨p, us, rfl, s1, r1⟩ := h1.lst z
      cases h2.int
      exact fun q => .inr (.inl ⟨p, _, us, rfl, rfl, s1, c.2.1, c.1, by rw [r1.length]; exact c.2.2, fun t ht => q t _ ht (r1.rep _)⟩)
    · trivial
  · split
    · rename_i c
      obtain ⟨p, us, rfl, s1, r1⟩ := h1.tup z
      cases h2.int
      exact fun q => .inr (.inr ⟨p, _, us, rfl, rfl, s1, ne_of_rep r1 c.1, c.2.1, c.2.2.1, by rw [r1.length]; exact c.2.2.2, fun t ht => q t _ ht (r1.rep _)⟩)
    · trivial
  · trivial
def fNeg : D → P
  | .int i => .at (.int (-i))
  | _ => .bad
def pNeg : Prim := p1 fNeg
theorem ok_neg : UnOk g k X W (unaryOp .USub) pNeg := fun A => by
  refine ⟨_, un_neg, .one (f := fNeg) fun w H x u Q z h1 => ?_⟩
  unfold fNeg
  split
  · cases h1.int
    exact fun q => ⟨_, rfl, q _ rep_int⟩
  · trivial
def fCmpI (c : Int → Int → Bool) : D → D → P
  | .int i, .int j => .at (.bl (c i j))
  | _, _ => .bad
theorem ok_cmpI {f : Value → Value → Sem Value} {c : Int → Int → Bool} (ho : OpR X f (rI0 fun i j => .bl (c i j))) : OpOk g k X W f (p2 (fCmpI c)) := fun A => by
  refine ⟨_, ho, .two (f := fCmpI c) fun w H x y u v Q z h1 h2 => ?_⟩
  unfold fCmpI
  split
  · cases h1.int; cases h2.int
    exact fun q => ⟨_, _, rfl, rfl, q _ rep_bl⟩
  · trivial
def pLt : Prim := p2 (fCmpI fun i j => decide (i < j))
def pLe : Prim := p2 (fCmpI fun i j => decide (i ≤ j))
def pGt : Prim := p2 (fCmpI fun i j => decide (j < i))
def pGe : Prim := p2 (fCmpI fun i j => decide (j ≤ i))
theorem ok_lt : OpOk g k X W (compareOp .Lt) pLt := ok_cmpI op_lt
theorem ok_le : OpOk g k X W (compareOp .LtE) pLe := ok_cmpI op_le
theorem ok_gt : OpOk g k X W (compareOp .Gt) pGt := ok_cmpI op_gt
theorem ok_ge : OpOk g k X W (compareOp .GtE) pGe := ok_cmpI op_ge
end
mutual
def D.py : D → Option PyData
  | .non => some .none
  | .bl b => some (.bool b)
  | .int i => some (.int i)
  | .str x => some (.str x)
  | .tup ds => (D.pyL ds).map .tuple
  | .lst ds => (D.pyL ds).map .list
  | _ => none
def D.pyL : List D → Option (List PyData)
  | [] => some []
  | d :: ds => match D.py d, D.pyL ds with
    | some x, some xs => some (x :: xs)
    | _, _ => none
end
section
variable {g : G} {k : Nat} {X : Cx} {W : WX} {w : Wd} {H : Hp}
mutual
theorem rep_dp (z : ZLe w.Z H) : ∀ (d : D) {v : V} {x : PyData}, Rep g w.Z w.tp d v → d.py = some x → Dp g.K H v x
  | .non, v, x, h, e => by rw [D.py] at e; cases e; rw [Rep] at h; subst h; exact .non
  | .bl b, v, x, h, e => by rw [D.py] at e; cases e; rw [Rep] at h; subst h; exact .bl b
  | .int b, v, x, h, e => by rw [D.py] at e; cases e; rw [Rep] at h; subst h; exact .int b
  | .str b, v, x, h, e => by rw [D.py] at e; cases e; rw [Rep] at h; subst h; exact .str b
  | .tup ds, v, x, h, e => by
    rw [D.py] at e
    rw [Rep] at h
    obtain ⟨a, vs, rfl, q, r⟩ := h
    obtain ⟨xs, e1, rfl⟩ := Option.map_eq_some_iff.mp e
    exact .tup (SqT.mono z q) (rep_dpL z ds r e1)
  | .lst ds, v, x, h, e => by
    rw [D.py] at e
    rw [Rep] at h
    obtain ⟨a, vs, rfl, q, r⟩ := h
    obtain ⟨xs, e1, rfl⟩ := Option.map_eq_some_iff.mp e
    exact .lst (SqL.of (z _ _ q)) (rep_dpL z ds r e1)
  | .ty n, v, x, h, e => by rw [D.py] at e <;> cases e
  | .dic n, v, x, h, e => by rw [D.py] at e <;> cases e
  | .ins _ _, v, x, h, e => by rw [D.py] at e <;> cases e
  | .exc _ _, v, x, h, e => by rw [D.py] at e <;> cases e
  | .fn n, v, x, h, e => by rw [D.py] at e <;> cases e
  | .clo _ _, v, x, h, e => by rw [D.py] at e <;> cases e
  | .tape, v, x, h, e => by rw [D.py] at e <;> cases e
  | .script _, v, x, h, e => by rw [D.py] at e <;> cases e
theorem rep_dpL (z : ZLe w.Z H) : ∀ (ds : List D) {vs : List V} {xs : List PyData}, RepL g w.Z w.tp ds vs → D.pyL ds = some xs → DpAll g.K H vs xs
  | [], vs, xs, h, e => by rw [D.pyL] at e; cases e; rw [RepL] at h; subst h; exact .nil
  | d :: ds, vs, xs, h, e => by
    rw [D.pyL] at e
    rw [RepL] at h
    obtain ⟨v, r, rfl, h1, h2⟩ := h
    cases e1 : d.py with
    | none => simp [e1] at e
    | some x =>
      cases e2 : D.pyL ds with
      | none => simp [e1, e2] at e
      | some ys =>
        simp [e1, e2] at e
        subst e
        exact .cons (rep_dp z d h1 e1) (rep_dpL z ds h2 e2)
end
theorem Top.dp (z : ZLe w.Z H) {d : D} {v : V} {x : PyData} (h : Top g w H d v) (e : d.py = some x) : Dp g.K H v x := by
  rcases h with h | ⟨p, e1, r, _⟩
  · exact rep_dp z d h e
  · cases d with
    | lst ds =>
      obtain ⟨vs, h1, h2⟩ := r
      cases e1
      rw [D.py] at e
      obtain ⟨xs, e2, rfl⟩ := Option.map_eq_some_iff.mp e
      exact .lst (SqL.of h1) (rep_dpL z ds h2 e2)
    | dic ds => rw [D.py] at e <;> cases e
    | _ => exact r.elim
def fEq (neg : Bool) (x y : D) : P := match x.py, y.py with
  | some a, some b => if SeqAt.shaped a = true ∧ SeqAt.shaped b = true then .at (.bl (PyData.eqv a b != neg)) else .bad
  | _, _ => .bad
def pEq : Prim := p2 (fEq false)
def pNe : Prim := p2 (fEq true)
theorem ok_eq : OpOk g k X W (compareOp .Eq) pEq := fun A => by
  refine ⟨_, op_eqD A.room.units, ?_⟩
  rw [A.K]
  refine .two (f := fEq false) fun w H x y u v Q z h1 h2 => ?_
  unfold fEq
  split
  · rename_i a b ea eb
    split
    · rename_i c
      exact fun q => ⟨a, b, h1.dp z ea, h2.dp z eb, c.1, c.2, q _ (by rw [Bool.bne_false]; exact rep_bl)⟩
    · trivial
  · trivial
theorem ok_ne : OpOk g k X W (compareOp .NotEq) pNe := fun A => by
  refine ⟨_, op_neD A.room.units, ?_⟩
  rw [A.K]
  refine .two (f := fEq true) fun w H x y u v Q z h1 h2 => ?_
  unfold fEq
  split
  · rename_i a b ea eb
    split
    · rename_i c
      exact fun q => ⟨a, b, h1.dp z ea, h2.dp z eb, c.1, c.2, q _ (by rw [Bool.bne_true]; exact rep_bl)⟩
    · trivial
  · trivial
def fIs (neg : Bool) : D → D → P
  | .non, .non => .at (.bl !neg)
  | .bl a, .non => .at (.bl neg)
  | .int a, .non => .at (.bl neg)
  | .str a, .non => .at (.bl neg)
  | .tup a, .non => .at (.bl neg)
  | .lst a, .non => .at (.bl neg)
  | .dic a, .non => .at (.bl neg)
  | .ins _ _, .non => .at (.bl neg)
  | .exc _ _, .non => .at (.bl neg)
  | .fn _, .non => .at (.bl neg)
  | .bl a, .bl b => .at (.bl (decide (a = b) != neg))
  | _, _ => .bad
theorem top_ref {d : D} {v : V} (h : Top g w H d v) (hd : match d with | .tup _ | .lst _ | .dic _ | .ins _ _ | .exc _ _ | .fn _ => True | _ => False) : ∃ a, v = .ref a := by
  rcases h with h | ⟨p, e1, r, _⟩
  · cases d <;> first | exact hd.elim | (rw [Rep] at h; obtain ⟨a, h⟩ := h; first | exact ⟨a, h.1⟩ | (obtain ⟨_, h⟩ := h; first | exact ⟨a, h.1⟩ | (obtain ⟨_, _, h⟩ := h; exact ⟨a, h.1⟩)))
  · cases e1; exact ⟨p, rfl⟩
def pIs : Prim := p2 (fIs false)
def pIsNot : Prim := p2 (fIs true)
theorem ok_is : OpOk g k X W (compareOp .Is) pIs := fun A => by
  refine ⟨_, op_isN.or op_isBl, .two (f := fIs false) fun w H x y u v Q z h1 h2 => ?_⟩
  unfold fIs
  split <;> first
    | trivial
    | (cases h2.non; first
        | (cases h1.non; exact fun q => .inl ⟨rfl, q _ rep_bl⟩)
        | (cases h1.bl; exact fun q => .inl ⟨rfl, q _ rep_bl⟩)
        | (cases h1.int; exact fun q => .inl ⟨rfl, q _ rep_bl⟩)
        | (cases h1.str; exact fun q => .inl ⟨rfl, q _ rep_bl⟩)
        | (obtain ⟨a, rfl⟩ := top_ref h1 trivial; exact fun q => .inl ⟨rfl, q _ rep_bl⟩))
    | (cases h1.bl; cases h2.bl; exact fun q => .inr ⟨_, _, rfl, rfl, q _ (by rw [Bool.bne_false]; exact rep_bl)⟩)
theorem ok_isnot : OpOk g k X W (compareOp .IsNot) pIsNot := fun A => by
  refine ⟨_, op_notN.or op_notBl, .two (f := fIs true) fun w H x y u v Q z h1 h2 => ?_⟩
  unfold fIs
  split <;> first
    | trivial
    | (cases h2.non; first
        | (cases h1.non; exact fun q => .inl ⟨rfl, q _ rep_bl⟩)
        | (cases h1.bl; exact fun q => .inl ⟨rfl, q _ rep_bl⟩)
        | (cases h1.int; exact fun q => .inl ⟨rfl, q _ rep_bl⟩)
        | (cases h1.str; exact fun q => .inl ⟨rfl, q _ rep_bl⟩)
        | (obtain ⟨a, rfl⟩ := top_ref h1 trivial; exact fun q => .inl ⟨rfl, q _ rep_bl⟩))
    | (cases h1.bl; cases h2.bl; exact fun q => .inr ⟨_, _, rfl, rfl, q _ (by rw [Bool.bne_true]; exact rep_bl)⟩)
def bsOf : List D → Option (List Bool)
  | [] => some []
  | .bl b :: r => (bsOf r).map (b :: ·)
  | _ :: _ => none
def nsOf : List D → Option (List Int)
  | [] => some []
  | .int b :: r => (nsOf r).map (b :: ·)
  | _ :: _ => none
theorem rep_bs {Z : Hp} {tp : Option (Addr × Addr × Addr)} : ∀ {ds : List D} {vs : List V} {bs : List Bool}, RepL g Z tp ds vs → bsOf ds = some bs → vs = bs.map V.bl
  | [], vs, bs, h, e => by rw [bsOf] at e; cases e; rwa [RepL] at h
  | d :: ds, vs, bs, h, e => by
    cases d <;> first | (simp [bsOf] at e; done) | skip
    rename_i b
    simp only [bsOf, Option.map_eq_some_iff] at e
    obtain ⟨cs, e1, rfl⟩ := e
    rw [RepL] at h
    obtain ⟨v, r, rfl, h1, h2⟩ := h
    rw [Rep] at h1
    rw [h1, rep_bs h2 e1]
    rfl
theorem rep_ns {Z : Hp} {tp : Option (Addr × Addr × Addr)} : ∀ {ds : List D} {vs : List V} {bs : List Int}, RepL g Z tp ds vs → nsOf ds = some bs → vs = bs.map V.int
  | [], vs, bs, h, e => by rw [nsOf] at e; cases e; rwa [RepL] at h
  | d :: ds, vs, bs, h, e => by
    cases d <;> first | (simp [nsOf] at e; done) | skip
    rename_i b
    simp only [nsOf, Option.map_eq_some_iff] at e
    obtain ⟨cs, e1, rfl⟩ := e
    rw [RepL] at h
    obtain ⟨v, r, rfl, h1, h2⟩ := h
    rw [Rep] at h1
    rw [h1, rep_ns h2 e1]
    rfl
theorem ns_rep {Z : Hp} {tp : Option (Addr × Addr × Addr)} : ∀ ns : List Int, RepL g Z tp (ns.map D.int) (ns.map V.int)
  | [] => by rw [List.map_nil, RepL]; rfl
  | n :: ns => by rw [List.map_cons, RepL]; exact ⟨_, _, rfl, rep_int, ns_rep ns⟩
def callV (f : V → Hp → VK → Prop) : RL := m1 f
def fLen : D → P
  | .lst ds => .at (.int ds.length)
  | .tup ds => .at (.int ds.length)
  | .str x => if x.length ≤ sizeLine then .at (.int x.length) else .bad
  | .script ns => .at (.int ns.length)
  | _ => .bad
def pLen : Prim := p1 fLen
/-- a reading by a list of values, of one value -/
theorem PrimOk.call1 {r : RL} {f : D → P} (h : ∀ (w : Wd) (H : Hp) (x : D) (u : V) (Q : VK), ZLe w.Z H → Top g w H x u → PGo g w H Q (f x) (r [u] H Q)) : PrimOk g r (p1 f) := by
  intro w H ds vs Q z t
  match ds, t with
  | [x], t =>
    obtain ⟨u, rfl, h1⟩ := t.one
    exact h w H x u Q z h1
  | [], _ => trivial
  | a :: b :: d, _ => trivial
theorem PrimOk.call2 {r : RL} {f : D → D → P} (h : ∀ (w : Wd) (H : Hp) (x y : D) (u v : V) (Q : VK), ZLe w.Z H → Top g w H x u → Top g w H y v → PGo g w H Q (f x y) (r [u, v] H Q)) : PrimOk g r (p2 f) := by
  intro w H ds vs Q z t
  match ds, t with
  | [x, y], t =>
    obtain ⟨u, v, rfl, h1, h2⟩ := t.two
    exact h w H x y u v Q z h1 h2
  | [], _ => trivial
  | [a], _ => trivial
  | a :: b :: c :: d, _ => trivial
theorem Top.script (z : ZLe w.Z H) {ns : List Int} {v : V} (h : Top g w H (.script ns) v) : ∃ a, v = .ref a ∧ SqL g.K H a (ns.map V.int) := by
  have := h.atom (fun p r => r)
  rw [Rep] at this
  obtain ⟨a, e, q⟩ := this
  exact ⟨a, e, SqL.mono z q⟩
theorem ok_len : CallOk g k X W (.builtin "len") pLen := fun A => by
  refine ⟨_, call_len, ?_⟩
  rw [A.K]
  refine .call1 fun w H x u Q z h1 => ?_
  unfold fLen
  split
  · obtain ⟨p, us, rfl, s1, r1⟩ := h1.lst z
    exact fun q => ⟨_, _, rfl, .inl ⟨us, SqL.of s1, rfl⟩, q _ (by rw [r1.length]; exact rep_int)⟩
  · obtain ⟨p, us, rfl, s1, r1⟩ := h1.tup z
    exact fun q => ⟨_, _, rfl, .inr ⟨us, s1, rfl⟩, q _ (by rw [r1.length]; exact rep_int)⟩
  · split
    · rename_i hl
      cases h1.str
      exact fun q => ⟨_, _, rfl, ⟨hl, rfl⟩, q _ rep_int⟩
    · trivial
  · obtain ⟨p, rfl, s1⟩ := h1.script z
    exact fun q => ⟨_, _, rfl, .inl ⟨_, s1, rfl⟩, q _ (by rw [List.length_map]; exact rep_int)⟩
  · trivial
def fIntC : D → P
  | .int i => .at (.int i)
  | .bl b => .at (.int (if b then 1 else 0))
  | _ => .bad
def pInt : Prim := p1 fIntC
theorem ok_intc : CallOk g k X W (.type "int") pInt := fun A => by
  refine ⟨_, call_int1, .call1 fun w H x u Q z h1 => ?_⟩
  unfold fIntC
  split
  · cases h1.int; exact fun q => .inl ⟨_, rfl, q _ rep_int⟩
  · cases h1.bl; exact fun q => .inr ⟨_, rfl, q _ rep_int⟩
  · trivial
def fAbs : D → P
  | .int i => .at (.int (if i < 0 then -i else i))
  | _ => .bad
def pAbs : Prim := p1 fAbs
theorem ok_abs : CallOk g k X W (.builtin "abs") pAbs := fun A => by
  refine ⟨_, call_abs, .call1 fun w H x u Q z h1 => ?_⟩
  unfold fAbs
  split
  · cases h1.int; exact fun q => ⟨_, rfl, q _ rep_int⟩
  · trivial
/-- the least, the greatest of a list -/
def minL : List Int → Int
  | [] => 0
  | [a] => a
  | a :: b :: r => min a (minL (b :: r))
def maxL : List Int → Int
  | [] => 0
  | [a] => a
  | a :: b :: r => max a (maxL (b :: r))
theorem minL_mem : ∀ (l : List Int), l ≠ [] → minL l ∈ l ∧ ∀ y ∈ l, minL l ≤ y
  | [], h => (h rfl).elim
  | [a], _ => by simp [minL]
  | a :: b :: r, _ => by
    obtain ⟨h1, h2⟩ := minL_mem (b :: r) (by simp)
    rw [minL]
    constructor
    · rcases Int.le_total a (minL (b :: r)) with h | h
      · rw [Int.min_eq_left h]; exact List.mem_cons_self
      · rw [Int.min_eq_right h]; exact List.mem_cons_of_mem _ h1
    · intro y hy
      rcases List.mem_cons.mp hy with rfl | hy
      · exact Int.min_le_left _ _
      · exact Int.le_trans (Int.min_le_right _ _) (h2 y hy)
theorem maxL_mem : ∀ (l : List Int), l ≠ [] → maxL l ∈ l ∧ ∀ y ∈ l, y ≤ maxL l
  | [], h => (h rfl).elim
  | [a], _ => by simp [maxL]
  | a :: b :: r, _ => by
    obtain ⟨h1, h2⟩ := maxL_mem (b :: r) (by simp)
    rw [maxL]
    constructor
    · rcases Int.le_total a (maxL (b :: r)) with h | h
      · rw [Int.max_eq_right h]; exact List.mem_cons_of_mem _ h1
      · rw [Int.max_eq_left h]; exact List.mem_cons_self
    · intro y hy
      rcases List.mem_cons.mp hy with rfl | hy
      · exact Int.le_max_left _ _
      · exact Int.le_trans (h2 y hy) (Int.le_max_right _ _)
def fMin1 : D → P
  | .lst ds => (match nsOf ds with
    | some (n :: ns) => .at (.int (minL (n :: ns)))
    | _ => .bad)
  | .tup ds => (match nsOf ds with
    | some (n :: ns) => .at (.int (minL (n :: ns)))
    | _ => .bad)
  | _ => .bad
def fMax1 : D → P
  | .lst ds => (match nsOf ds with
    | some (n :: ns) => .at (.int (maxL (n :: ns)))
    | _ => .bad)
  | .tup ds => (match nsOf ds with
    | some (n :: ns) => .at (.int (maxL (n :: ns)))
    | _ => .bad)
  | _ => .bad
def pMin : Prim := fun ds => match ds with
  | [x] => fMin1 x
  | [.int i, .int j] => .at (.int (if j < i then j else i))
  | _ => .bad
def pMax : Prim := fun ds => match ds with
  | [x] => fMax1 x
  | [.int i, .int j] => .at (.int (if j > i then j else i))
  | _ => .bad
theorem ok_min : CallOk g k X W (.builtin "min") pMin := fun A => by
  refine ⟨_, ((cr_min A.calm).or (cr_minT A.calm (by have := A.room.un; omega))).or (call_min2 A.calm), ?_⟩
  rw [A.K]
  intro w H ds vs Q z t
  unfold pMin
  split
  · obtain ⟨u, rfl, h1⟩ := t.one
    unfold fMin1
    split
    · split
      · rename_i n ns e
        obtain ⟨p, us, rfl, s1, r1⟩ := h1.lst z
        have e1 := rep_ns r1 e
        subst e1
        refine fun q => .inl (.inl ⟨p, _, rfl, SqL.of s1, by simp, fun m hm hle => ?_⟩)
        obtain ⟨h2, h3⟩ := minL_mem (n :: ns) (by simp)
        have : m = minL (n :: ns) := Int.le_antisymm (hle _ h2) (h3 m hm)
        exact q _ (by rw [this]; exact rep_int)
      · trivial
    · split
      · rename_i n ns e
        obtain ⟨p, us, rfl, s1, r1⟩ := h1.tup z
        have e1 := rep_ns r1 e
        subst e1
        refine fun q => .inl (.inr ⟨p, _, rfl, s1, by simp, fun m hm hle => ?_⟩)
        obtain ⟨h2, h3⟩ := minL_mem (n :: ns) (by simp)
        have : m = minL (n :: ns) := Int.le_antisymm (hle _ h2) (h3 m hm)
        exact q _ (by rw [this]; exact rep_int)
      · trivial
    · trivial
  · obtain ⟨u, v, rfl, h1, h2⟩ := t.two
    cases h1.int; cases h2.int
    exact fun q => .inr ⟨_, _, rfl, q _ rep_int⟩
  · trivial
theorem ok_max : CallOk g k X W (.builtin "max") pMax := fun A => by
  refine ⟨_, ((cr_max A.calm).or (cr_maxT A.calm (by have := A.room.un; omega))).or (call_max2 A.calm), ?_⟩
  rw [A.K]
  intro w H ds vs Q z t
  unfold pMax
  split
  · obtain ⟨u, rfl, h1⟩ := t.one
    unfold fMax1
    split
    · split
      · rename_i n ns e
        obtain ⟨p, us, rfl, s1, r1⟩ := h1.lst z
        have e1 := rep_ns r1 e
        subst e1
        refine fun q => .inl (.inl ⟨p, _, rfl, SqL.of s1, by simp, fun m hm hle => ?_⟩)
        obtain ⟨h2, h3⟩ := maxL_mem (n :: ns) (by simp)
        have : m = maxL (n :: ns) := Int.le_antisymm (h3 m hm) (hle _ h2)
        exact q _ (by rw [this]; exact rep_int)
      · trivial
    · split
      · rename_i n ns e
        obtain ⟨p, us, rfl, s1, r1⟩ := h1.tup z
        have e1 := rep_ns r1 e
        subst e1
        refine fun q => .inl (.inr ⟨p, _, rfl, s1, by simp, fun m hm hle => ?_⟩)
        obtain ⟨h2, h3⟩ := maxL_mem (n :: ns) (by simp)
        have : m = maxL (n :: ns) := Int.le_antisymm (h3 m hm) (hle _ h2)
        exact q _ (by rw [this]; exact rep_int)
      · trivial
    · trivial
  · obtain ⟨u, v, rfl, h1, h2⟩ := t.two
    cases h1.int; cases h2.int
    exact fun q => .inr ⟨_, _, rfl, q _ rep_int⟩
  · trivial
def fTupC : D → P
  | .lst ds => .tp ds
  | .tup ds => .at (.tup ds)
  | _ => .bad
def pTupC : Prim := p1 fTupC
theorem ok_tupc : CallOk g k X W (.type "tuple") pTupC := fun A => by
  refine ⟨_, call_tuple_of, ?_⟩
  rw [A.K]
  refine .call1 fun w H x u Q z h1 => ?_
  unfold fTupC
  split
  · obtain ⟨p, us, rfl, s1, r1⟩ := h1.lst z
    exact fun q => ⟨_, _, rfl, .inl ⟨SqL.of s1, fun t ht => q t _ ht r1⟩⟩
  · obtain ⟨p, us, rfl, s1, r1⟩ := h1.tup z
    exact fun q => ⟨_, _, rfl, .inr ⟨s1, q _ (top_rep_tup h1)⟩⟩
  · trivial
def fLstC : D → P
  | .lst ds => .nl ds
  | .tup ds => .nl ds
  | _ => .bad
def pLstC : Prim := p1 fLstC
theorem ok_lstc : CallOk g k X W (.type "list") pLstC := fun A => by
  refine ⟨_, call_list_of, ?_⟩
  rw [A.K]
  refine .call1 fun w H x u Q z h1 => ?_
  unfold fLstC
  split
  · obtain ⟨p, us, rfl, s1, r1⟩ := h1.lst z
    exact fun q => ⟨_, _, rfl, .inl (SqL.of s1), fun t ht => q t _ ht r1⟩
  · obtain ⟨p, us, rfl, s1, r1⟩ := h1.tup z
    exact fun q => ⟨_, _, rfl, .inr s1, fun t ht => q t _ ht r1⟩
  · trivial
def fAll : D → P
  | .lst ds => (match bsOf ds with
    | some bs => .at (.bl (bs.all id))
    | none => .bad)
  | _ => .bad
def fAny : D → P
  | .lst ds => (match bsOf ds with
    | some bs => .at (.bl (bs.any id))
    | none => .bad)
  | _ => .bad
def pAll : Prim := p1 fAll
def pAny : Prim := p1 fAny
theorem ok_all : CallOk g k X W (.builtin "all") pAll := fun A => by
  refine ⟨_, cr_all A.calm, ?_⟩
  rw [A.K]
  refine .call1 fun w H x u Q z h1 => ?_
  unfold fAll
  split
  · split
    · rename_i e
      obtain ⟨p, us, rfl, s1, r1⟩ := h1.lst z
      cases rep_bs r1 e
      exact fun q => ⟨_, _, rfl, SqL.of s1, q _ rep_bl⟩
    · trivial
  · trivial
theorem ok_any : CallOk g k X W (.builtin "any") pAny := fun A => by
  refine ⟨_, cr_any A.calm, ?_⟩
  rw [A.K]
  refine .call1 fun w H x u Q z h1 => ?_
  unfold fAny
  split
  · split
    · rename_i e
      obtain ⟨p, us, rfl, s1, r1⟩ := h1.lst z
      cases rep_bs r1 e
      exact fun q => ⟨_, _, rfl, SqL.of s1, q _ rep_bl⟩
    · trivial
  · trivial
def fSum : D → P
  | .lst ds => (match nsOf ds with
    | some ns => .at (.int ns.sum)
    | none => .bad)
  | _ => .bad
def pSum : Prim := p1 fSum
theorem ok_sum : CallOk g k X W (.builtin "sum") pSum := fun A => by
  refine ⟨_, cr_sum A.calm, ?_⟩
  rw [A.K]
  refine .call1 fun w H x u Q z h1 => ?_
  unfold fSum
  split
  · split
    · rename_i e
      obtain ⟨p, us, rfl, s1, r1⟩ := h1.lst z
      cases rep_ns r1 e
      exact fun q => ⟨_, _, rfl, SqL.of s1, q _ rep_int⟩
    · trivial
  · trivial
def sortN (ns : List Int) : List Int := ns.mergeSort fun a b => decide (a ≤ b)
theorem sorted_eq : ∀ {l m : List Int}, l.Perm m → l.Pairwise (· ≤ ·) → m.Pairwise (· ≤ ·) → l = m
  | [], m, p, _, _ => (List.nil_perm.mp p).symm
  | a :: l, [], p, _, _ => by simpa using p.length_eq
  | a :: l, b :: m, p, h1, h2 => by
    obtain ⟨h3, h4⟩ := List.pairwise_cons.mp h1
    obtain ⟨h5, h6⟩ := List.pairwise_cons.mp h2
    have hb : b ∈ a :: l := p.mem_iff.mpr List.mem_cons_self
    have ha : a ∈ b :: m := p.mem_iff.mp List.mem_cons_self
    have e : a = b := by
      rcases List.mem_cons.mp hb with e | hb
      · exact e.symm
      · rcases List.mem_cons.mp ha with e | ha
        · exact e
        · exact Int.le_antisymm (h3 b hb) (h5 a ha)
    subst e
    rw [sorted_eq (List.perm_cons a |>.mp p) h4 h6]
theorem sortN_perm (ns : List Int) : (sortN ns).Perm ns := List.mergeSort_perm _ _
theorem sortN_sorted (ns : List Int) : (sortN ns).Pairwise (· ≤ ·) := by
  have := List.pairwise_mergeSort (le := fun a b : Int => decide (a ≤ b)) (fun a b c h1 h2 => by simp at *; omega) (fun a b => by simp; omega) ns
  exact this.imp fun h => by simpa using h
def psOf : List D → Option (List (Int × Int))
  | [] => some []
  | .tup [.int a, .int b] :: r => (psOf r).map ((a, b) :: ·)
  | _ :: _ => none
def pairD (p : Int × Int) : D := .tup [.int p.1, .int p.2]
def sortP (ps : List (Int × Int)) : List (Int × Int) := ps.mergeSort fun p q => !SrtO.lexB q p
theorem sortP_perm (ps : List (Int × Int)) : (sortP ps).Perm ps := List.mergeSort_perm _ _
theorem sortP_sorted (ps : List (Int × Int)) : (sortP ps).Pairwise fun p q => SrtO.lexB q p = false := by
  have := List.pairwise_mergeSort (le := fun p q : Int × Int => !SrtO.lexB q p) (fun a b c h1 h2 => by
    simp only [Bool.not_eq_true'] at *
    have a1 := SrtO.lexB_no.mp h1
    have a2 := SrtO.lexB_no.mp h2
    exact SrtO.lexB_no.mpr (by omega)) (fun a b => by
    rcases Bool.eq_false_or_eq_true (SrtO.lexB b a) with h | h
    · have a1 := SrtO.lexB_iff.mp h
      have : SrtO.lexB a b = false := SrtO.lexB_no.mpr (by omega)
      simp [this]
    · simp [h]) ps
  exact this.imp fun h => by simpa using h
theorem sortedP_eq : ∀ {l m : List (Int × Int)}, l.Perm m → (l.Pairwise fun p q => SrtO.lexB q p = false) → (m.Pairwise fun p q => SrtO.lexB q p = false) → l = m
  | [], m, p, _, _ => (p.symm.eq_nil).symm
  | a :: l, m, p, h1, h2 => by
    cases m with
    | nil => exact absurd p.length_eq (by simp)
    | cons b m =>
      have ha : a ∈ b :: m := p.mem_iff.mp (by simp)
      have hb : b ∈ a :: l := p.mem_iff.mpr (by simp)
      have hab : a = b := by
        rcases List.mem_cons.mp ha with e | ha
        · exact e
        · rcases List.mem_cons.mp hb with e | hb
          · exact e.symm
          · have x1 := SrtO.lexB_no.mp ((List.pairwise_cons.mp h1).1 b hb)
            have x2 := SrtO.lexB_no.mp ((List.pairwise_cons.mp h2).1 a ha)
            exact Prod.ext (by omega) (by omega)
      subst hab
      rw [sortedP_eq (List.perm_cons a |>.mp p) (List.pairwise_cons.mp h1).2 (List.pairwise_cons.mp h2).2]
theorem rep_psOf {Z : Hp} {tp : Option (Addr × Addr × Addr)} : ∀ {ds : List D} {us : List V} {ps : List (Int × Int)}, RepL g Z tp ds us → psOf ds = some ps → us.length = ps.length ∧ ∀ (i : Nat) x p, us[i]? = some x → ps[i]? = some p → Rep g Z tp (pairD p) x
  | [], us, ps, r, h => by
    cases h
    rw [RepL] at r
    subst r
    exact ⟨rfl, fun i x p h => by simp at h⟩
  | d :: ds, us, ps, r, h => by
    unfold psOf at h
    split at h
    · rename_i e; cases e
    · rename_i a b r0 e
      cases e
      obtain ⟨qs, e1, rfl⟩ := Option.map_eq_some_iff.mp h
      rw [RepL] at r
      obtain ⟨v, us', rfl, h1, h2⟩ := r
      obtain ⟨l, ih⟩ := rep_psOf h2 e1
      refine ⟨by rw [List.length_cons, List.length_cons, l], fun i x p k1 k2 => ?_⟩
      cases i with
      | zero => simp at k1 k2; subst k1 k2; exact h1
      | succ i => exact ih i x p (by simpa using k1) (by simpa using k2)
    · cases h
def fSorted : D → P
  | .lst ds => (match nsOf ds with
    | some ns => .nl ((sortN ns).map D.int)
    | none => (match psOf ds with
      | some ps => .nl ((sortP ps).map pairD)
      | none => .bad))
  | .tup ds => (match nsOf ds with
    | some ns => .nl ((sortN ns).map D.int)
    | none => .bad)
  | _ => .bad
def pSorted : Prim := p1 fSorted
theorem ok_sorted : CallOk g k X W (.builtin "sorted") pSorted := fun A => by
  refine ⟨_, (cr_sortedI.or cr_sortedPT).or cr_sortedIT, ?_⟩
  rw [A.K]
  refine .call1 fun w H x u Q z h1 => ?_
  unfold fSorted
  split
  · split
    · rename_i ns e
      obtain ⟨p, us, rfl, s1, r1⟩ := h1.lst z
      cases rep_ns r1 e
      refine fun q => .inl (.inl ⟨_, _, rfl, SqL.of s1, fun ns' t hp hs ht => ?_⟩)
      have e2 : ns' = sortN ns := sorted_eq (hp.trans (sortN_perm ns).symm) hs (sortN_sorted ns)
      rw [e2]
      exact q t _ ht (ns_rep _)
    · split
      · rename_i ps e
        obtain ⟨p, us, rfl, s1, r1⟩ := h1.lst z
        obtain ⟨l, at_⟩ := rep_psOf r1 e
        refine fun q => .inl (.inr ⟨p, us, ps, rfl, SqL.of s1, l, fun i x pr k1 k2 => ?_, fun zs hp hs t ht => ?_⟩)
        · have := at_ i x pr k1 k2
          rw [pairD, Rep] at this
          obtain ⟨a, vs, rfl, h2, h3⟩ := this
          rw [RepL] at h3
          obtain ⟨v1, r1, rfl, h4, h3⟩ := h3
          rw [RepL] at h3
          obtain ⟨v2, r2, rfl, h5, h3⟩ := h3
          rw [RepL] at h3
          rw [Rep] at h4 h5
          subst h3 h4 h5
          exact ⟨a, rfl, SqT.mono z h2⟩
        · have hz : (us.zip ps).map (·.2) = ps := by rw [← List.unzip_snd, List.unzip_zip l]
          have e2 : zs.map (·.2) = sortP ps := sortedP_eq ((hp.map _).trans (by rw [hz]; exact (sortP_perm ps).symm)) hs (sortP_sorted ps)
          refine q t _ ht ?_
          rw [← e2]
          have mem : ∀ y ∈ zs, Rep g w.Z w.tp (pairD y.2) y.1 := fun y hy => by
            obtain ⟨i, hi, ey⟩ := List.mem_iff_getElem.mp (hp.mem_iff.mp hy)
            rw [List.getElem_zip] at ey
            rw [List.length_zip] at hi
            rw [← ey]
            exact at_ i _ _ (List.getElem?_eq_getElem (by omega)) (List.getElem?_eq_getElem (by omega))
          clear hp hs e2 ht
          induction zs with
          | nil => rw [List.map_nil, List.map_nil, List.map_nil, RepL]
          | cons y zs ih => rw [List.map_cons, List.map_cons, List.map_cons, RepL]; exact ⟨_, _, rfl, mem y (by simp), ih fun y hy => mem y (by simp [hy])⟩
      · trivial
  · split
    · rename_i ns e
      obtain ⟨p, us, rfl, s1, r1⟩ := h1.tup z
      cases rep_ns r1 e
      refine fun q => .inr ⟨_, _, rfl, s1, fun ns' t hp hs ht => ?_⟩
      rw [show ns' = sortN ns from sorted_eq (hp.trans (sortN_perm ns).symm) hs (sortN_sorted ns)]
      exact q t _ ht (ns_rep _)
    · trivial
  · trivial
def fIn (neg : Bool) : D → D → P
  | .int i, .lst ds => (match nsOf ds with
    | some ns => .at (.bl (decide (i ∈ ns) != neg))
    | none => .bad)
  | .int i, .tup ds => (match nsOf ds with
    | some ns => .at (.bl (decide (i ∈ ns) != neg))
    | none => .bad)
  | _, _ => .bad
def pIn (neg : Bool) : Prim := p2 (fIn neg)
theorem inV_ints (i : Int) : ∀ ns : List Int, inV (.int i) (ns.map V.int) = decide (i ∈ ns) ∧ (ns.map V.int).all flatV = true
  | [] => ⟨by simp [inV], rfl⟩
  | n :: ns => by
    obtain ⟨h1, h2⟩ := inV_ints i ns
    unfold inV at h1 ⊢
    refine ⟨?_, by rw [List.map_cons, List.all_cons, h2]; rfl⟩
    rw [List.map_cons, List.any_cons, h1]
    show ((n == i) || decide (i ∈ ns)) = decide (i ∈ n :: ns)
    by_cases c : n = i
    · subst c; simp
    · have c2 : ¬ i = n := fun e => c e.symm
      simp [c, c2]
theorem in_go {neg : Bool} {w : Wd} {H : Hp} {x y : D} {u v : V} {Q : VK} {T : Prop} (z : ZLe w.Z H) (h1 : Top g w H x u) (h2 : Top g w H y v) (t : rIn g.K neg u v H Q → T) : PGo g w H Q (fIn neg x y) T := by
  have fl : ∀ (i : Int) (ns : List Int), (if neg then !inV (.int i) (ns.map V.int) else inV (.int i) (ns.map V.int)) = (decide (i ∈ ns) != neg) := fun i ns => by
    rw [(inV_ints i ns).1]
    cases neg <;> cases decide (i ∈ ns) <;> rfl
  unfold fIn
  split
  · split
    · rename_i ns e
      cases h1.int
      obtain ⟨p, us, rfl, s1, r1⟩ := h2.lst z
      cases rep_ns r1 e
      exact fun q => t ⟨p, _, rfl, .inl (SqL.of s1), rfl, (inV_ints 0 ns).2, by rw [fl]; exact q _ (by rw [Rep])⟩
    · trivial
  · split
    · rename_i ns e
      cases h1.int
      obtain ⟨p, us, rfl, s1, r1⟩ := h2.tup z
      cases rep_ns r1 e
      exact fun q => t ⟨p, _, rfl, .inr s1, rfl, (inV_ints 0 ns).2, by rw [fl]; exact q _ (by rw [Rep])⟩
    · trivial
  · trivial
theorem ok_in : OpOk g k X W (compareOp .In) (pIn false) := fun A => by
  refine ⟨_, op_in_seq, ?_⟩
  rw [A.K]
  exact .two (f := fIn false) fun w H x y u v Q z h1 h2 => in_go z h1 h2 id
theorem ok_notin : OpOk g k X W (compareOp .NotIn) (pIn true) := fun A => by
  refine ⟨_, op_notIn_seq, ?_⟩
  rw [A.K]
  exact .two (f := fIn true) fun w H x y u v Q z h1 h2 => in_go z h1 h2 id
def fIx : D → D → P
  | .lst ds, .int i => (match atI ds i with
    | some d => .at d
    | none => .bad)
  | .tup ds, .int i => (match atI ds i with
    | some d => .at d
    | none => .bad)
  | _, _ => .bad
def pIx : Prim := p2 fIx
theorem rep_at {Z : Hp} {tp : Option (Addr × Addr × Addr)} {ds : List D} {us : List V} {i : Int} {d : D} (r : RepL g Z tp ds us) (e : atI ds i = some d) : ∃ v, atI us i = some v ∧ Rep g Z tp d v := by
  unfold atI at e ⊢
  obtain ⟨j, h1, h2⟩ := Option.bind_eq_some_iff.mp e
  rw [r.length, h1]
  exact r.get h2
theorem ok_ix : IxOk g k X W pIx := fun A => by
  refine ⟨_, ix_list.or ix_tup, ?_⟩
  rw [A.K]
  refine .two (f := fIx) fun w H x y u v Q z h1 h2 => ?_
  unfold fIx
  split
  · split
    · rename_i d e
      obtain ⟨p, us, rfl, s1, r1⟩ := h1.lst z
      cases h2.int
      obtain ⟨v, h3, h4⟩ := rep_at r1 e
      exact fun q => .inl ⟨p, us, _, v, rfl, rfl, SqL.of s1, h3, q v h4⟩
    · trivial
  · split
    · rename_i d e
      obtain ⟨p, us, rfl, s1, r1⟩ := h1.tup z
      cases h2.int
      obtain ⟨v, h3, h4⟩ := rep_at r1 e
      exact fun q => .inr ⟨p, us, _, v, rfl, rfl, s1, h3, q v h4⟩
    · trivial
  · trivial
end
end PD
namespace PD
open PySem PySem.Spec L2
open PyProof.Rows hiding St

def slOf : Rs → Sl
  | .fz d => .fz d
  | .own d => .own d
section
variable {g : G} {k : Nat} {X : Cx} {W : WX}
/-- a name is stored -/
theorem Ps.store {w : Wd} {H : Hp} {ρ : Rho} {σ : St} {w1 : Wd} {H1 : Hp} {ρ1 : Rho} {τ1 : Tape} {σ1 : St} (a : Ps g w H ρ σ w1 H1 ρ1 τ1 σ1) {r : Rs} {v : V} (hr : RsR g w H ρ σ w1 H1 ρ1 σ1 r v) (i : Nat) :
    Ps g w H ρ σ w1 H1 (ρ1.set i (slOf r)) τ1 (σ1.set i (some v)) := by
  have e := a.env
  have hs : SlR g w1 H1 (slOf r) (some v) := by
    cases r with
    | fz d => exact ⟨v, rfl, hr⟩
    | own d => obtain ⟨p, rfl, h1, h2, h3, _⟩ := hr; exact ⟨p, rfl, h1, h2, h3⟩
  have lenσ : ∀ {j : Nat} {s : Sl}, ρ1[j]? = some s → j < σ1.length := fun {j s} h => by
    rw [← e.len]; exact (List.getElem?_eq_some_iff.mp h).1
  have own : ∀ {s : Sl} {p : Addr}, isCell s = true → s = slOf r → v = .ref p → ∃ d, r = .own d ∧ ¬ cellAt ρ1 σ1 p ∧ (H p = none ∨ ownAt ρ σ p) := fun {s p} h1 h2 h3 => by
    subst h2
    cases r with
    | fz d => cases h1
    | own d =>
      obtain ⟨q, h4, _, _, _, h5, h6⟩ := hr
      have e2 : p = q := by rw [h3] at h4; injection h4
      subst e2
      exact ⟨d, rfl, h5, h6⟩
  have getσ : ∀ {j : Nat} {s : Sl} {x : Option V}, (ρ1.set i (slOf r))[j]? = some s → (σ1.set i (some v))[j]? = some x → (j = i ∧ s = slOf r ∧ x = some v) ∨ (j ≠ i ∧ ρ1[j]? = some s ∧ σ1[j]? = some x) := fun {j s x} h1 h2 => by
    rcases set_get h1 with ⟨rfl, rfl⟩ | ⟨n, h1⟩
    · rcases set_get h2 with ⟨_, rfl⟩ | ⟨n, _⟩
      · exact .inl ⟨rfl, rfl, rfl⟩
      · exact absurd rfl n
    · rcases set_get h2 with ⟨e2, _⟩ | ⟨_, h2⟩
      · exact absurd e2 n
      · exact .inr ⟨n, h1, h2⟩
  refine ⟨⟨by rw [List.length_set, List.length_set]; exact e.len, fun j s h => ?_, fun j l s t p n h1 o1 h2 o2 h3 h4 => ?_, e.zle, e.tape, e.tabs⟩, a.st, fun p => ?_, fun j d h => ?_⟩
  · rcases set_get h with ⟨rfl, rfl⟩ | ⟨n, h⟩
    · have hl : j < σ1.length := by
        have := (List.getElem?_eq_some_iff.mp h).1
        rw [List.length_set] at this
        rw [← e.len]; exact this
      rw [List.getElem?_set_self hl]
      exact hs
    · rw [List.getElem?_set_ne (Ne.symm n)]; exact e.sl j s h
  · rcases getσ h1 h3 with ⟨rfl, rfl, q1⟩ | ⟨n1, q1, q2⟩
    · rcases getσ h2 h4 with ⟨rfl, rfl, q3⟩ | ⟨n2, q3, q4⟩
      · exact n rfl
      · obtain ⟨d, _, h5, _⟩ := own (isCell_of_own o1) rfl (Option.some.inj q1).symm
        exact h5 ⟨l, t, q3, o2, q4⟩
    · rcases getσ h2 h4 with ⟨rfl, rfl, q3⟩ | ⟨n2, q3, q4⟩
      · obtain ⟨d, _, h5, _⟩ := own o2 rfl (Option.some.inj q3).symm
        exact h5 ⟨j, s, q1, isCell_of_own o1, q2⟩
      · exact e.ap j l s t p n q1 o1 q3 o2 q2 q4
  · rintro ⟨j, s, h1, o1, h3⟩
    rcases getσ h1 h3 with ⟨rfl, rfl, q1⟩ | ⟨n1, q1, q2⟩
    · obtain ⟨d, _, _, h6⟩ := own (isCell_of_own o1) rfl (Option.some.inj q1).symm
      exact h6.symm
    · exact a.lic p ⟨j, s, q1, o1, q2⟩
  · rcases set_get h with ⟨rfl, e2⟩ | ⟨n, h⟩
    · cases r <;> cases e2
    · obtain ⟨h1, h2⟩ := a.bor j d h
      exact ⟨h1, by rw [List.getElem?_set_ne (Ne.symm n)]; exact h2⟩
/-- an own container is written -/
theorem Ps.write {w : Wd} {H : Hp} {ρ : Rho} {σ : St} {w1 : Wd} {H1 : Hp} {ρ1 : Rho} {τ1 : Tape} {σ1 : St} (a : Ps g w H ρ σ w1 H1 ρ1 τ1 σ1) {i : Nat} {d d' : D} {p : Addr} {o : HO} (hi : ρ1[i]? = some (.own d)) (hp : σ1[i]? = some (some (V.ref p)))
    (h1 : ∃ u, H1 p = some u ∧ (∀ xs, u ≠ .tup xs) ∧ ∀ ps, u ≠ .tbl ps) (ho : ∀ H', H' p = some o → OwnR g w1 H' d' p) : Ps g w H ρ σ w1 (upd H1 p o) (ρ1.set i (.own d')) τ1 σ1 := by
  have e := a.env
  obtain ⟨q, e1, r, z, t⟩ := own_slot e hi
  rw [hp] at e1
  obtain rfl : p = q := by injection e1 with e1; injection e1 with e1; injection e1
  obtain ⟨u, hu, _, hut⟩ := h1
  have zne : ∀ b x, w1.Z b = some x → b ≠ p := fun b x h n => by rw [n, z] at h; cases h
  have cell : ∀ {j : Nat} {s : Sl} {x : D}, j ≠ i → ρ1[j]? = some s → isCell s = true → CellR g w1 H1 x ((σ1[j]?).getD none) → CellR g w1 (upd H1 p o) x ((σ1[j]?).getD none) := fun {j s x} n h hc ⟨b, e2, r2, z2, t2⟩ => by
    have nb : b ≠ p := fun q => e.ap i j _ s p (Ne.symm n) hi rfl h hc hp (by rw [← q]; exact getD_some e2)
    refine ⟨b, e2, ?_, z2, t2⟩
    cases x with
    | lst ds => obtain ⟨vs, h3, h4⟩ := r2; exact ⟨vs, by rw [upd_ne nb]; exact h3, h4⟩
    | dic kvs => obtain ⟨ks, h3, h4⟩ := r2; exact ⟨ks, by rw [upd_ne nb]; exact h3, h4⟩
    | _ => exact r2
  have ne3 : ∀ {b : Addr}, tcell w1 b → b ≠ p := fun {b} h n => t (n ▸ h)
  refine ⟨⟨by rw [List.length_set]; exact e.len, fun j s h => ?_, fun j l s x b n g1 o1 g2 o2 g3 g4 => ?_, fun b x h => by rw [upd_ne (zne b x h)]; exact e.zle b x h, fun tt l c q => ?_, ?_⟩, ⟨a.st.z, a.st.tp, fun b x h n nt => ?_, a.st.nz, fun b h => ?_⟩, fun b => ?_, fun j x h => ?_⟩
  · rcases set_get h with ⟨rfl, rfl⟩ | ⟨n, h⟩
    · rw [hp]
      exact ⟨p, rfl, ho _ upd_same, z, t⟩
    · have := e.sl j s h
      cases s with
      | un => trivial
      | fz x => exact this
      | own x => exact cell n h rfl this
      | bor x => exact this.imp (cell n h rfl) fun g => g.map (fun q x y e1 e2 z2 t2 => ⟨by rw [upd_ne (fun k => e.ap i j _ _ p (Ne.symm n) hi rfl h rfl hp (by rw [← k]; exact getD_some e1))]; exact e2, z2, t2⟩) fun _ _ h => h
  · have un : ∀ {j : Nat} {s : Sl}, (ρ1.set i (.own d'))[j]? = some s → ∃ s', ρ1[j]? = some s' ∧ isOwn s' = isOwn s ∧ isCell s' = isCell s := fun {j s} h => by
      rcases set_get h with ⟨rfl, rfl⟩ | ⟨_, h⟩
      · exact ⟨_, hi, rfl, rfl⟩
      · exact ⟨s, h, rfl, rfl⟩
    obtain ⟨s', g1', e1, _⟩ := un g1
    obtain ⟨x', g2', _, e2⟩ := un g2
    exact e.ap j l s' x' b n g1' (by rw [e1]; exact o1) g2' (by rw [e2]; exact o2) g3 g4
  · have T := e.tape tt l c q
    exact ⟨by rw [upd_ne (ne3 ⟨tt, l, c, q, .inl rfl⟩)]; exact T.ht, by rw [upd_ne (ne3 ⟨tt, l, c, q, .inr rfl⟩)]; exact T.hl, T.hc, T.zt, T.zl⟩
  · refine ⟨e.tabs.1, fun P hP => ?_⟩
    obtain ⟨ps, h1, h2⟩ := e.tabs.2 P hP
    exact ⟨ps, by rw [upd_ne (fun n => hut ps (by rw [n, hu] at h1; exact Option.some.inj h1))]; exact h1, h2⟩
  · have nb : b ≠ p := by
      rintro rfl
      rcases a.lic b ⟨i, _, hi, rfl, hp⟩ with l | l
      · exact n (.inr l)
      · rw [h] at l; cases l
    rw [upd_ne nb]
    exact a.st.fr b x h n nt
  · by_cases hb : b = p
    · subst hb; rw [upd_same] at h; cases h
    · rw [upd_ne hb] at h; exact a.st.al b h
  · rintro ⟨j, s, h1, o1, h3⟩
    rcases set_get h1 with ⟨rfl, rfl⟩ | ⟨_, h1⟩
    · exact a.lic b ⟨_, _, hi, rfl, h3⟩
    · exact a.lic b ⟨j, s, h1, o1, h3⟩
  · rcases set_get h with ⟨rfl, e2⟩ | ⟨_, h⟩
    · cases e2
    · exact a.bor j x h
/-- a result stays, whatever runs behind it -/
theorem RsR.keep {w : Wd} {H : Hp} {ρ : Rho} {σ : St} {w1 : Wd} {H1 : Hp} {ρ1 : Rho} {σ1 : St} {w2 : Wd} {H2 : Hp} {ρ2 : Rho} {τ2 : Tape} {σ2 : St} {r : Rs} {v : V} (h : RsR g w H ρ σ w1 H1 ρ1 σ1 r v) (b : Ps g w1 H1 ρ1 σ1 w2 H2 ρ2 τ2 σ2) :
    RsR g w H ρ σ w2 H2 ρ2 σ2 r v := by
  cases r with
  | fz d => rw [RsR] at h ⊢; rw [b.st.tp]; exact Rep.mono b.st.z _ h
  | own d =>
    obtain ⟨p, rfl, h1, h2, h3, h4, h5⟩ := h
    have nl : ¬ Lic w1 ρ1 σ1 p := fun l => l.elim h3 fun l => h4 (cellAt_of_own l)
    obtain ⟨o, ho, ht, _⟩ := h1.at
    have ho2 := b.st.fr p o ho nl ht
    refine ⟨p, rfl, ?_, ?_, fun t => h3 ((tcell_tp b.st.tp).mp t), ?_, h5⟩
    · cases d with
      | lst ds => obtain ⟨vs, h6, h7⟩ := h1; rw [ho] at h6; cases h6; exact ⟨vs, ho2, by rw [b.st.tp]; exact RepL.mono b.st.z _ h7⟩
      | dic ds => obtain ⟨vs, h6, h7⟩ := h1; rw [ho] at h6; cases h6; exact ⟨vs, ho2, by rw [b.st.tp]; exact RepKV.mono b.st.z _ h7⟩
      | _ => exact h1
    · cases q : w2.Z p with
      | none => rfl
      | some u =>
        rcases b.st.nz p h2 (by rw [q]; exact fun z => nomatch z) with n | n
        · rw [ho] at n; cases n
        · exact (nl n).elim
    · rintro ⟨j, s, e1, e2, e3⟩
      cases s with
      | un => cases e2
      | fz x => cases e2
      | own x =>
        rcases b.lic p ⟨j, _, e1, rfl, e3⟩ with n | n
        · exact h4 (cellAt_of_own n)
        · rw [ho] at n; cases n
      | bor x =>
        obtain ⟨e4, e5⟩ := b.bor j x e1
        exact h4 ⟨j, _, e4, rfl, by rw [← e5]; exact e3⟩
/-- a result of a later run, told from the first start -/
theorem RsR.from {w : Wd} {H : Hp} {ρ : Rho} {σ : St} {w1 : Wd} {H1 : Hp} {ρ1 : Rho} {τ1 : Tape} {σ1 : St} {w2 : Wd} {H2 : Hp} {ρ2 : Rho} {σ2 : St} {r : Rs} {v : V} (a : Ps g w H ρ σ w1 H1 ρ1 τ1 σ1) (h : RsR g w1 H1 ρ1 σ1 w2 H2 ρ2 σ2 r v) : RsR g w H ρ σ w2 H2 ρ2 σ2 r v := by
  cases r with
  | fz d => exact h
  | own d =>
    obtain ⟨p, e1, h1, h2, h3, h4, h5⟩ := h
    refine ⟨p, e1, h1, h2, h3, h4, ?_⟩
    rcases h5 with h5 | h5
    · exact .inl (a.st.al p h5)
    · exact (a.lic p h5).symm

def sSet (i : Nat) (ev : Ev) : Sv := fun ρ τ => match ev ρ τ with
  | .ok r ρ' τ' => .nx (ρ'.set i (slOf r)) τ'
  | .exc x ρ' τ' => .exc x ρ' τ'
  | .bad => .bad
theorem tS_set {i : Nat} {ev : Ev} {D : Ends} {σ : St} {H : Hp} (q : tS g W (sSet i ev) D σ H) : tAsg (tD g W ev) (gName i) D σ H := by
  obtain ⟨w, ρ, τ, env, q⟩ := q
  refine ⟨w, ρ, τ, env, ?_⟩
  unfold sSet at q
  cases e : ev ρ τ with
  | ok r ρ' τ' =>
    simp only [e] at q
    exact fun w' H' v a hr => q w' H' _ (a.store hr i)
  | exc x ρ' τ' => simp only [e] at q; exact fun w' H' cls dx a hx => q w' H' σ cls dx a hx
  | bad => simp only [e] at q
theorem py_set {i : Nat} {x : Str} {e : Expr} {ev : Ev} {pos pos' : Pos} (he : PyE g k X W e ev) (hi : X.N[i]? = some x := by rfl) (hx : Loc X.env.scope x := by first | exact Or.inl rfl | exact Or.inr rfl) (hs : swapsWith e (some (.Name x pos')) pos.line X.env = pure false := by rfl)
    (hf : X.fn x = true ∨ X.env.scope.names.lookup x = some .local := by first | exact .inl rfl | exact .inr rfl) : PyS g k X W (.Assign [.Name x pos'] e pos) (sSet i ev) := fun A =>
  (ps_set A.nd hi hx (he A) hs hf).imp' fun D σ H q => tS_set q
def sRet (ev : Ev) : Sv := fun ρ τ => match ev ρ τ with
  | .ok r ρ' τ' => .rt r τ'
  | .exc x ρ' τ' => .exc x ρ' τ'
  | .bad => .bad
theorem py_ret {e : Expr} {ev : Ev} {pos : Pos} (he : PyE g k X W e ev) : PyS g k X W (.Return (some e) pos) (sRet ev) := fun A => (ps_ret (he A)).imp' fun D σ H q => by
  obtain ⟨w, ρ, τ, env, q⟩ := q
  refine ⟨w, ρ, τ, env, ?_⟩
  unfold sRet at q
  cases e : ev ρ τ with
  | ok r ρ' τ' =>
    simp only [e] at q
    exact fun w' H' v a hr => q w' H' σ ρ' v a hr
  | exc x ρ' τ' => simp only [e] at q; exact fun w' H' cls dx a hx => q w' H' σ cls dx a hx
  | bad => simp only [e] at q
def sDrop (ev : Ev) : Sv := fun ρ τ => match ev ρ τ with
  | .ok _ ρ' τ' => .nx ρ' τ'
  | .exc x ρ' τ' => .exc x ρ' τ'
  | .bad => .bad
theorem py_drop {e : Expr} {ev : Ev} {pos : Pos} (he : PyE g k X W e ev) (hs : swapsWith e none pos.line X.env = pure false := by rfl) : PyS g k X W (.Expr e pos) (sDrop ev) := fun A => (ps_expr (he A) hs).imp' fun D σ H q => by
  obtain ⟨w, ρ, τ, env, q⟩ := q
  refine ⟨w, ρ, τ, env, ?_⟩
  unfold sDrop at q
  cases e : ev ρ τ with
  | ok r ρ' τ' =>
    simp only [e] at q
    exact fun w' H' v a hr => q w' H' σ a
  | exc x ρ' τ' => simp only [e] at q; exact fun w' H' cls dx a hx => q w' H' σ cls dx a hx
  | bad => simp only [e] at q
def sPass : Sv := fun ρ τ => .nx ρ τ
def sBrk : Sv := fun ρ τ => .bk ρ τ
def sCt : Sv := fun ρ τ => .ct ρ τ
theorem py_pass {pos : Pos} : PyS g k X W (.Pass pos) sPass := fun _ => ps_pass.imp' fun D σ H ⟨w, ρ, τ, env, q⟩ => q w H σ (.refl env)
theorem py_brk {pos : Pos} : PyS g k X W (.Break pos) sBrk := fun _ => ps_break.imp' fun D σ H ⟨w, ρ, τ, env, q⟩ => q w H σ (.refl env)
theorem py_ct {pos : Pos} : PyS g k X W (.Continue pos) sCt := fun _ => ps_continue.imp' fun D σ H ⟨w, ρ, τ, env, q⟩ => q w H σ (.refl env)
/-- a statement behind another one -/
def sSeq (s t : Sv) : Sv := fun ρ τ => match s ρ τ with
  | .nx ρ' τ' => t ρ' τ'
  | r => r
/-- what is wanted of an outcome, from a start -/
def SGo (g : G) (W : WX) (w : Wd) (H : Hp) (ρ : Rho) (σ : St) (D : Ends) (o : SO) : Prop := match o with
  | .nx ρ' τ' => ∀ w' H' σ', Ps g w H ρ σ w' H' ρ' τ' σ' → D.nx σ' H'
  | .bk ρ' τ' => ∀ w' H' σ', Ps g w H ρ σ w' H' ρ' τ' σ' → D.bk σ' H'
  | .ct ρ' τ' => ∀ w' H' σ', Ps g w H ρ σ w' H' ρ' τ' σ' → D.ct σ' H'
  | .rt r τ' => ∀ w' H' σ' ρ' v, Ps g w H ρ σ w' H' ρ' τ' σ' → RsR g w H ρ σ w' H' ρ' σ' r v → D.rt v H'
  | .exc x ρ' τ' => ∀ w' H' σ' cls dx, Ps g w H ρ σ w' H' ρ' τ' σ' → ExR g w' x cls dx → W cls dx σ' H'
  | .bad => False
theorem tS_go {s : Sv} {D : Ends} {σ : St} {H : Hp} {w : Wd} {ρ : Rho} {τ : Tape} (env : EnvR g w H ρ τ σ) (h : SGo g W w H ρ σ D (s ρ τ)) : tS g W s D σ H := ⟨w, ρ, τ, env, h⟩
theorem SGo.from {w : Wd} {H : Hp} {ρ : Rho} {σ : St} {w1 : Wd} {H1 : Hp} {ρ1 : Rho} {τ1 : Tape} {σ1 : St} {D : Ends} {o : SO} (a : Ps g w H ρ σ w1 H1 ρ1 τ1 σ1) (h : SGo g W w H ρ σ D o) : SGo g W w1 H1 ρ1 σ1 D o := by
  cases o with
  | nx ρ' τ' => exact fun w' H' σ' b => h w' H' σ' (a.trans b)
  | bk ρ' τ' => exact fun w' H' σ' b => h w' H' σ' (a.trans b)
  | ct ρ' τ' => exact fun w' H' σ' b => h w' H' σ' (a.trans b)
  | rt r τ' => exact fun w' H' σ' ρ' v b hr => h w' H' σ' ρ' v (a.trans b) (hr.from a)
  | exc x ρ' τ' => exact fun w' H' σ' cls dx b hx => h w' H' σ' cls dx (a.trans b) hx
  | bad => exact h
theorem pys_nil : PySs g k X W [] sPass := fun _ => pss_nil.imp' fun D σ H ⟨w, ρ, τ, env, q⟩ => q w H σ (.refl env)
theorem pys_one {st : Stmt} {s : Sv} (h : PyS g k X W st s) : PySs g k X W [st] s := fun A => pss_one (h A)
theorem pys_cons {st : Stmt} {r : List Stmt} {s t : Sv} (h : PyS g k X W st s) (hr : PySs g k X W r t) : PySs g k X W (st :: r) (sSeq s t) := fun A => (pss_cons (h A) (hr A)).imp' fun D σ H q => by
  obtain ⟨w, ρ, τ, env, q⟩ := q
  refine tS_go env ?_
  have q : SGo g W w H ρ σ D (sSeq s t ρ τ) := q
  unfold sSeq at q
  cases e : s ρ τ with
  | nx ρ' τ' =>
    simp only [e] at q
    exact fun w' H' σ' a => tS_go a.env (q.from a)
  | bk ρ' τ' => simp only [e] at q; exact q
  | ct ρ' τ' => simp only [e] at q; exact q
  | rt r τ' => simp only [e] at q; exact q
  | exc x ρ' τ' => simp only [e] at q; exact q
  | bad => simp only [e] at q; exact q
def sIf (c : Tv) (s t : Sv) : Sv := fun ρ τ => match c ρ τ with
  | .ok true ρ' τ' => s ρ' τ'
  | .ok false ρ' τ' => t ρ' τ'
  | .exc x ρ' τ' => .exc x ρ' τ'
  | .bad => .bad
theorem py_sif {c : Expr} {cv : Tv} {a b : List Stmt} {s t : Sv} {pos : Pos} (hc : PyT g k X W c cv) (ha : PySs g k X W a s) (hb : PySs g k X W b t) : PyS g k X W (.If c a b pos) (sIf cv s t) := fun A => (ps_if (hc A) (ha A) (hb A)).imp' fun D σ H q => by
  obtain ⟨w, ρ, τ, env, q⟩ := q
  refine ⟨w, ρ, τ, env, ?_⟩
  have q : SGo g W w H ρ σ D (sIf cv s t ρ τ) := q
  unfold sIf at q
  cases e : cv ρ τ with
  | ok b ρ' τ' =>
    simp only [e] at q
    intro w' H' a
    cases b with
    | true => exact tS_go a.env (q.from a)
    | false => exact tS_go a.env (q.from a)
  | exc x ρ' τ' => simp only [e] at q; exact fun w' H' cls dx a hx => q w' H' σ cls dx a hx
  | bad => simp only [e] at q; exact q
end
end PD
namespace PD
open PySem PySem.Spec L2
open PyProof.Rows hiding St

inductive Tg where
  | nm (i : Nat) | tu (ts : List Tg)
mutual
/-- a frozen datum goes to a target -/
def asg : Tg → D → Rho → Option Rho
  | .nm i, d, ρ => some (ρ.set i (.fz d))
  | .tu ts, .tup ds, ρ => asgL ts ds ρ
  | .tu _, _, _ => none
def asgL : List Tg → List D → Rho → Option Rho
  | [], [], ρ => some ρ
  | t :: ts, d :: ds, ρ => (asg t d ρ).bind fun ρ' => asgL ts ds ρ'
  | [], _ :: _, _ => none
  | _ :: _, [], _ => none
end
mutual
/-- the slots of a target -/
def Tg.sl : Tg → List Nat
  | .nm i => [i]
  | .tu ts => Tg.slL ts
def Tg.slL : List Tg → List Nat
  | [] => []
  | t :: ts => Tg.sl t ++ Tg.slL ts
end
/-- all slots but these stay -/
def Agree (l : List Nat) (σ σ' : St) : Prop := σ'.length = σ.length ∧ ∀ j : Nat, j ∉ l → σ'[j]? = σ[j]?
def tG (g : G) (t : Tg) : TG := fun v σ H Q => ∃ w ρ τ d, EnvR g w H ρ τ σ ∧ Rep g w.Z w.tp d v ∧ match asg t d ρ with
  | some ρ' => ∀ σ', Ps g w H ρ σ w H ρ' τ σ' → Agree t.sl σ σ' → Q σ' H
  | none => False
def tGs (g : G) (ts : List Tg) : TGs := fun vs σ H Q => ∃ w ρ τ ds, EnvR g w H ρ τ σ ∧ RepL g w.Z w.tp ds vs ∧ match asgL ts ds ρ with
  | some ρ' => ∀ σ', Ps g w H ρ σ w H ρ' τ σ' → Agree (Tg.slL ts) σ σ' → Q σ' H
  | none => False
def PyG (g : G) (k : Nat) (X : Cx) (W : WX) (e : Expr) (t : Tg) : Prop := At g k X W → PG X e (tG g t)
def PyGs (g : G) (k : Nat) (X : Cx) (W : WX) (es : List Expr) (ts : List Tg) : Prop := At g k X W → PGs X es (tGs g ts)
theorem _root_.L2.PG.imp' {X : Cx} {e : Expr} {t t' : TG} (h : PG X e t) (i : ∀ v σ H Q, t' v σ H Q → t v σ H Q) : PG X e t' := ⟨fun pins s σ H v u Q I r q => h.run pins s σ H v u Q I r (i v σ H Q q)⟩
theorem _root_.L2.PGs.imp' {X : Cx} {e : List Expr} {t t' : TGs} (h : PGs X e t) (i : ∀ v σ H Q, t' v σ H Q → t v σ H Q) : PGs X e t' := ⟨fun pins s σ H v u Q I r q => h.run pins s σ H v u Q I r (i v σ H Q q)⟩
section
variable {g : G} {k : Nat} {X : Cx} {W : WX}
theorem pg_nm {i : Nat} {x : Str} {pos : Pos} (hi : X.N[i]? = some x := by rfl) (hx : Loc X.env.scope x := by first | exact Or.inl rfl | exact Or.inr rfl) (hf : X.fn x = true ∨ X.env.scope.names.lookup x = some .local := by first | exact .inl rfl | exact .inr rfl) :
    PyG g k X W (.Name x pos) (.nm i) := fun A => (pg_name A.nd hi hx hf).imp' fun v σ H Q ⟨w, ρ, τ, d, env, r, q⟩ => q _ ((Ps.refl env).store (r := .fz d) r i) ⟨by rw [List.length_set], fun j h => by rw [List.getElem?_set_ne]; simpa [Tg.sl] using Ne.symm (fun e => h (by simp [Tg.sl, e]))⟩
theorem pg_nil : PyGs g k X W [] [] := fun A => pgs_nil.imp' fun v σ H Q ⟨w, ρ, τ, ds, env, r, q⟩ => by
  cases ds with
  | nil => rw [RepL] at r; exact ⟨r, q σ (.refl env) ⟨rfl, fun _ _ => rfl⟩⟩
  | cons d ds => exact q.elim
theorem pg_cons {e : Expr} {es : List Expr} {t : Tg} {ts : List Tg} (h : PyG g k X W e t) (hr : PyGs g k X W es ts) (hs : (assignEach (e :: es) X.env).map (·.2) = assign e X.env :: (assignEach es X.env).map (·.2) := by rfl) : PyGs g k X W (e :: es) (t :: ts) := fun A => (pgs_cons (h A) (hr A) hs).imp' fun vs σ H Q ⟨w, ρ, τ, ds, env, r, q⟩ => by
  cases ds with
  | nil => exact q.elim
  | cons d ds =>
    rw [RepL] at r
    obtain ⟨v, r', rfl, h1, h2⟩ := r
    refine ⟨v, r', rfl, w, ρ, τ, d, env, h1, ?_⟩
    rw [asgL] at q
    cases e : asg t d ρ with
    | none => simp [e] at q
    | some ρ' =>
      simp only [e, Option.bind_some] at q
      refine fun σ' a g1 => ⟨w, ρ', τ, ds, a.env, h2, ?_⟩
      cases e2 : asgL ts ds ρ' with
      | none => simp [e2] at q
      | some ρ'' => simp only [e2] at q; exact fun σ'' b g2 => q σ'' (a.trans b) ⟨g2.1.trans g1.1, fun j h => by
        rw [Tg.slL, List.mem_append, not_or] at h
        exact (g2.2 j h.2).trans (g1.2 j h.1)⟩
theorem asgL_len : ∀ {ts : List Tg} {ds : List D} {ρ ρ' : Rho}, asgL ts ds ρ = some ρ' → ds.length = ts.length
  | [], [], _, _, _ => rfl
  | [], _ :: _, _, _, h => by cases h
  | _ :: _, [], _, _, h => by cases h
  | t :: ts, d :: ds, ρ, ρ', h => by
    rw [asgL] at h
    obtain ⟨ρ1, _, h2⟩ := Option.bind_eq_some_iff.mp h
    rw [List.length_cons, List.length_cons, asgL_len h2]
theorem pg_tu {es : List Expr} {n : Nat} {ts : List Tg} {pos : Pos} (h : PyGs g k X W es ts) (hn : (assignEach es X.env).length = ts.length := by rfl) (hst : (assignEach es X.env).findIdx? (·.1) = none := by rfl) : PyG g k X W (.Tuple es n pos) (.tu ts) := fun A => (pg_tup A.calm (h A) hn hst).imp' fun v σ H Q ⟨w, ρ, τ, d, env, r, q⟩ => by
  rw [A.K]
  cases d with
  | tup ds =>
    rw [asg] at q
    rw [Rep] at r
    obtain ⟨a, vs, rfl, h1, h2⟩ := r
    cases e : asgL ts ds ρ with
    | none => simp [e] at q
    | some ρ' =>
      simp only [e] at q
      exact ⟨a, vs, rfl, SqT.mono env.zle h1, by rw [h2.length, asgL_len e], w, ρ, τ, ds, env, h2, by rw [e]; exact q⟩
  | _ => simp [asg] at q
def sAsg (ev : Ev) (t : Tg) : Sv := fun ρ τ => match vFz ev ρ τ with
  | .ok (.fz d) ρ' τ' => (match asg t d ρ' with
    | some ρ2 => .nx ρ2 τ'
    | none => .bad)
  | .ok _ _ _ => .bad
  | .exc x ρ' τ' => .exc x ρ' τ'
  | .bad => .bad
theorem py_asg {tg e : Expr} {ev : Ev} {t : Tg} {pos : Pos} (he : PyE g k X W e ev) (hg : PyG g k X W tg t) (hs : swapsWithSole [tg] e pos.line X.env = pure false := by rfl) (hw : swappedStores [tg] e X.env = pure none := by rfl)
    (h1 : (assignEach [tg] X.env).map (·.2) = [assign tg X.env] := by rfl) : PyS g k X W (.Assign [tg] e pos) (sAsg ev t) := fun A => (ps_asg (py_fz he A) (hg A) hs hw h1).imp' fun D σ H q => by
  obtain ⟨w, ρ, τ, env, q⟩ := q
  refine ⟨w, ρ, τ, env, ?_⟩
  unfold sAsg at q
  cases e : vFz ev ρ τ with
  | ok r ρ' τ' =>
    simp only [e] at q
    cases r with
    | own d => simp at q
    | fz d =>
      intro w' H' v a hr
      refine ⟨w', ρ', τ', d, a.env, hr, ?_⟩
      cases e2 : asg t d ρ' with
      | none => simp [e2] at q
      | some ρ2 => simp only [e2] at q; exact fun σ' b _ => q w' H' σ' (a.trans b)
  | exc x ρ' τ' => simp only [e] at q; exact fun w' H' cls dx a hx => q w' H' σ cls dx a hx
  | bad => simp only [e] at q
def sPar (i j : Nat) (ea eb : Ev) : Sv := fun ρ τ => match ea ρ τ with
  | .ok r ρ1 τ1 => (match eb ρ1 τ1 with
    | .ok r' ρ2 τ2 => .nx ((ρ2.set i (slOf r)).set j (slOf r')) τ2
    | .exc x ρ2 τ2 => .exc x ρ2 τ2
    | .bad => .bad)
  | .exc x ρ1 τ1 => .exc x ρ1 τ1
  | .bad => .bad
theorem RsR.store {w : Wd} {H : Hp} {ρ : Rho} {σ : St} {w1 : Wd} {H1 : Hp} {ρ1 : Rho} {σ1 : St} {r r' : Rs} {v v' : V} (h : RsR g w H ρ σ w1 H1 ρ1 σ1 r v) (h' : RsR g w H ρ σ w1 H1 ρ1 σ1 r' v') (n : ∀ d d' p, r = .own d → r' = .own d' → v = .ref p → v' ≠ .ref p) (i : Nat) :
    RsR g w H ρ σ w1 H1 (ρ1.set i (slOf r')) (σ1.set i (some v')) r v := by
  cases r with
  | fz d => exact h
  | own d =>
    obtain ⟨p, e, h1, h2, h3, h4, h5⟩ := h
    refine ⟨p, e, h1, h2, h3, ?_, h5⟩
    rintro ⟨j, s, g1, o1, g3⟩
    rcases set_get g1 with ⟨rfl, rfl⟩ | ⟨m, g1⟩
    · rcases set_get g3 with ⟨_, g3⟩ | ⟨m, _⟩
      · cases r' with
        | fz _ => cases o1
        | own d' => exact n d d' p rfl rfl e (Option.some.inj g3).symm
      · exact m rfl
    · rcases set_get g3 with ⟨e2, _⟩ | ⟨_, g3⟩
      · exact m e2
      · exact h4 ⟨j, s, g1, o1, g3⟩
/-- two results of two runs are apart -/
theorem RsR.apart {w : Wd} {H : Hp} {ρ : Rho} {σ : St} {w1 : Wd} {H1 : Hp} {ρ1 : Rho} {σ1 : St} {w2 : Wd} {H2 : Hp} {ρ2 : Rho} {σ2 : St} {r r' : Rs} {v v' : V} (h : RsR g w H ρ σ w1 H1 ρ1 σ1 r v) (h' : RsR g w1 H1 ρ1 σ1 w2 H2 ρ2 σ2 r' v') : ∀ d d' p, r = .own d → r' = .own d' → v = .ref p → v' ≠ .ref p := by
  rintro d d' p rfl rfl rfl rfl
  obtain ⟨q, e, h1, h2, h3, h4, h5⟩ := h
  obtain ⟨q', e', _, _, _, _, g5⟩ := h'
  injection e with e
  injection e' with e'
  subst e
  subst e'
  obtain ⟨o, ho, _⟩ := h1.at
  rcases g5 with g5 | g5
  · rw [ho] at g5; cases g5
  · exact h4 (cellAt_of_own g5)
theorem py_par {i j : Nat} {x y : Str} {a b : Expr} {ea eb : Ev} {px py pt : Pos} {kt k2 : Nat} {pt2 pos : Pos} (ha : PyE g k X W a ea) (hb : PyE g k X W b eb) (hi : X.N[i]? = some x := by rfl) (hj : X.N[j]? = some y := by rfl) (hij : i ≠ j := by decide)
    (hx : X.env.scope.names.lookup x = some .local := by rfl) (hy : X.env.scope.names.lookup y = some .local := by rfl) (hw : swappedStores [.Tuple [.Name x px, .Name y py] kt pt] (.Tuple [a, b] k2 pt2) X.env = pure (some [x, y]) := by rfl)
    (hs : swapsWithSole [.Tuple [.Name x px, .Name y py] kt pt] (.Tuple [a, b] k2 pt2) pos.line X.env = pure false := by rfl) (h1 : starEach [a, b] X.env = (false, eval a X.env) :: starEach [b] X.env := by rfl) (h2 : starEach [b] X.env = (false, eval b X.env) :: starEach [] X.env := by rfl) :
    PyS g k X W (.Assign [.Tuple [.Name x px, .Name y py] kt pt] (.Tuple [a, b] k2 pt2) pos) (sPar i j ea eb) := fun A => (ps_par A.calm A.nd hi hj hij hx hy (pa_cons (ha A) (pa_cons (hb A) pa_nil h2) h1) hw hs).imp' fun D σ H q => by
  obtain ⟨w, ρ, τ, env, q⟩ := q
  show tD g W ea σ H fun u H1 => tD g W eb σ H1 fun u' H2 => ∃ v v', [u, u'] = [v, v'] ∧ D.nx ((σ.set i (some v)).set j (some v')) H2
  refine ⟨w, ρ, τ, env, ?_⟩
  unfold sPar at q
  cases e : ea ρ τ with
  | ok r ρ1 τ1 =>
    simp only [e] at q
    intro w1 H1 u a1 hr
    refine ⟨w1, ρ1, τ1, a1.env, ?_⟩
    cases e2 : eb ρ1 τ1 with
    | ok r' ρ2 τ2 =>
      simp only [e2] at q
      intro w2 H2 u' a2 hr'
      refine ⟨u, u', rfl, q w2 H2 _ ?_⟩
      have b1 := (a1.trans a2).store (hr.keep a2) i
      refine b1.store ?_ j
      refine RsR.store (hr'.from a1) (hr.keep a2) (fun d d' p z1 z2 z3 z4 => ?_) i
      exact hr.apart hr' d' d p z2 z1 z4 z3
    | exc x ρ' τ' => simp only [e2] at q; exact fun w' H' cls dx a hx => q w' H' σ cls dx (a1.trans a) hx
    | bad => simp only [e2] at q
  | exc x ρ' τ' => simp only [e] at q; exact fun w' H' cls dx a hx => q w' H' σ cls dx a hx
  | bad => simp only [e] at q
def sAug (f : Int → Int → Int) (i : Nat) (ev : Ev) : Sv := fun ρ τ => match ρ[i]? with
  | some (.fz (.int a)) => (match ev ρ τ with
    | .ok (.fz (.int b)) ρ' τ' => .nx (ρ'.set i (.fz (.int (f a b)))) τ'
    | .exc x ρ' τ' => .exc x ρ' τ'
    | _ => .bad)
  | _ => .bad
theorem py_aug {i : Nat} {x : Str} {e : Expr} {ev : Ev} {op : Operator} {f : Int → Int → Int} {pos pos' : Pos} (ho : PIp X op (ipI f)) (he : PyE g k X W e ev) (hi : X.N[i]? = some x := by rfl) (hx : Loc X.env.scope x := by first | exact Or.inl rfl | exact Or.inr rfl)
    (hf : X.fn x = true ∨ X.env.scope.names.lookup x = some .local := by first | exact .inl rfl | exact .inr rfl) : PyS g k X W (.AugAssign (.Name x pos') op e pos) (sAug f i ev) := fun A => (ps_aug A.nd hi hx (he A) ho hf).imp' fun D σ H q => by
  obtain ⟨w, ρ, τ, env, q⟩ := q
  unfold sAug at q
  cases e1 : ρ[i]? with
  | none => simp [e1] at q
  | some s =>
    cases s with
    | fz d =>
      cases d with
      | int a =>
        simp only [e1] at q
        obtain ⟨v, h1, h2⟩ := fz_slot env e1
        rw [Rep] at h2
        subst h2
        refine ⟨_, h1, w, ρ, τ, env, ?_⟩
        cases e : ev ρ τ with
        | ok r ρ' τ' =>
          simp only [e] at q
          cases r with
          | own d => simp at q
          | fz d =>
            cases d with
            | int b =>
              intro w' H' u a1 hr
              rw [RsR, Rep] at hr
              subst hr
              exact ⟨a, b, rfl, rfl, q w' H' _ (a1.store (r := .fz (.int (f a b))) (by rw [RsR, Rep]) i)⟩
            | _ => simp at q
        | exc x ρ' τ' => simp only [e] at q; exact fun w' H' cls dx a hx => q w' H' σ cls dx a hx
        | bad => simp only [e] at q
      | _ => simp [e1] at q
    | _ => simp [e1] at q
def MutOk (X : Cx) (g : G) (id : String) (f : List D → List D → Option (D × List D)) : Prop := ∃ r, MtR X id r ∧ ∀ (w : Wd) (H : Hp) (l : Addr) (vs us : List V) (ds as : List D) (d : D) (ds' : List D) (Q : VK), ZLe w.Z H → H l = some (.lst vs) → RepL g w.Z w.tp ds vs → RepL g w.Z w.tp as us → f ds as = some (d, ds') →
  (∀ v vs', Rep g w.Z w.tp d v → RepL g w.Z w.tp ds' vs' → Q v (upd H l (.lst vs'))) → r (.ref l) us H Q
def vMut (i : Nat) (f : List D → List D → Option (D × List D)) (args : List Arg) : Ev := fun ρ τ => match ρ[i]? with
  | some (.own (.lst _)) => (match aFz args ρ τ with
    | .ok as ρ1 τ1 => (match ρ1[i]? with
      | some (.own (.lst ds)) => (match f ds as with
        | some (d, ds') => .ok (.fz d) (ρ1.set i (.own (.lst ds'))) τ1
        | none => .bad)
      | _ => .bad)
    | .exc x ρ1 τ1 => .exc x ρ1 τ1
    | .bad => .bad)
  | _ => .bad
theorem mut_fin {f : List D → List D → Option (D × List D)} {id : String} {r : V → List V → Hp → VK → Prop}
    (hr : ∀ (w : Wd) (H : Hp) (l : Addr) (vs us : List V) (ds as : List D) (d : D) (ds' : List D) (Q : VK), ZLe w.Z H → H l = some (.lst vs) → RepL g w.Z w.tp ds vs → RepL g w.Z w.tp as us → f ds as = some (d, ds') → (∀ v vs', Rep g w.Z w.tp d v → RepL g w.Z w.tp ds' vs' → Q v (upd H l (.lst vs'))) → r (.ref l) us H Q)
    {i : Nat} {args : List Arg} {σ : St} {H : Hp} {Q : VK} (q : tD g W (vMut i f args) σ H Q) : ∃ l, σ[i]? = some (some (V.ref l)) ∧ (∃ xs, SqL g.K H l xs) ∧ argsT g W args σ H fun us H2 => r (.ref l) us H2 Q := by
  obtain ⟨w, ρ, τ, env, q⟩ := q
  unfold vMut at q
  split at q <;> rename_i hq
  · split at hq <;> first | cases hq | skip
    rename_i ds0 h0
    obtain ⟨l, h1, ⟨vs0, h2, _⟩, _, _⟩ := own_slot env h0
    refine ⟨l, h1, ⟨vs0, SqL.of h2⟩, args_fz env ?_⟩
    split at hq <;> first | cases hq | skip
    rename_i as ρ1 τ1 e1
    try rw [e1]
    split at hq <;> first | cases hq | skip
    rename_i ds h3
    split at hq <;> first | cases hq | skip
    rename_i d ds' h4
    intro w' H' us a ru
    obtain ⟨l', h5, ⟨vs, h6, h7⟩, _, _⟩ := own_slot a.env h3
    rw [h1] at h5
    obtain rfl : l = l' := by injection h5 with h5; injection h5 with h5; injection h5
    refine hr w' H' l vs us ds as d ds' Q a.env.zle h6 h7 ru h4 fun v vs' rv rvs => ?_
    exact q w' _ v (a.write h3 h1 ⟨_, h6, (fun xs z => nomatch z), (fun xs z => nomatch z)⟩ fun H2 h8 => ⟨vs', h8, rvs⟩) rv
  · split at hq <;> first | cases hq | skip
    rename_i ds0 h0
    obtain ⟨l, h1, ⟨vs0, h2, _⟩, _, _⟩ := own_slot env h0
    refine ⟨l, h1, ⟨vs0, SqL.of h2⟩, args_fz env ?_⟩
    split at hq <;> first | cases hq | skip
    · split at hq <;> first | cases hq | skip
      split at hq <;> cases hq
    · rename_i e1
      try rw [e1]
      exact q
  · exact q.elim
theorem py_mut {T id : String} {name : Str} {i : Nat} {x : Str} {e : Expr} {es : List Expr} {as : List Arg} {f : List D → List D → Option (D × List D)} {p1 apos cpos : Pos} (hT : T = "list") (pa : PlainAttrs T) (slot : Slot T name id) (hty : typeOf (.builtin id) = pure (.type "method_descriptor"))
    (hm : MutOk X g id f) (ho : PE X (.Name x p1) (tVar i)) (ha : PyArgs g k X W (e :: es) as) (hbase : attributeBase (.Name x p1) name X.env (eval (.Name x p1) X.env) = eval (.Name x p1) X.env := by rfl)
    (hfew : ((backTo cpos (starEach (e :: es) X.env)).all (fun x => !x.1) && (backToKw cpos (keywordEach [] X.env)).all (fun x => x.1.isSome)
      && decide ((e :: es).length + ([] : List Keyword).length + (if ([] : List Keyword).isEmpty then 0 else 1) < 30)) = true := by rfl)
    (hline : (apos.endLine == cpos.line) = true := by rfl) (hs : starEach (e :: es) X.env = (false, eval e X.env) :: starEach es X.env := by rfl) (hplain : (backTo cpos (starEach es X.env)).any (·.1) = false := by rfl) :
    PyE g k X W (.Call (.Attribute (.Name x p1) name apos) (e :: es) [] cpos) (vMut i f as) := fun A => by
  obtain ⟨r, h1, h2⟩ := hm
  refine (pe_bm pa slot hty h1 ho (ha A) hbase hfew hline hs hplain).imp' fun σ H Q q => ?_
  obtain ⟨l, h3, h4, h5⟩ := mut_fin (id := id) h2 q
  rw [A.K]
  exact ⟨_, h3, .inl ⟨hT, h4⟩, h5⟩
theorem py_mut0 {T id : String} {name : Str} {i : Nat} {x : Str} {f : List D → List D → Option (D × List D)} {p1 apos cpos : Pos} (hT : T = "list") (pa : PlainAttrs T) (slot : Slot T name id) (hty : typeOf (.builtin id) = pure (.type "method_descriptor"))
    (hm : MutOk X g id f) (ho : PE X (.Name x p1) (tVar i)) (hbase : attributeBase (.Name x p1) name X.env (eval (.Name x p1) X.env) = eval (.Name x p1) X.env := by rfl)
    (hline : (apos.endLine == cpos.line) = true := by rfl) : PyE g k X W (.Call (.Attribute (.Name x p1) name apos) [] [] cpos) (vMut i f []) := fun A => by
  obtain ⟨r, h1, h2⟩ := hm
  refine (pe_bm0 pa slot hty h1 ho hbase hline).imp' fun σ H Q q => ?_
  obtain ⟨l, h3, h4, h5⟩ := mut_fin (id := id) h2 q
  rw [A.K]
  exact ⟨_, h3, .inl ⟨hT, h4⟩, h5⟩
def mAppend : List D → List D → Option (D × List D)
  | ds, [d] => if ds.length < sizeLine then some (.non, ds ++ [d]) else none
  | _, _ => none
theorem RepL.one' {Z : Hp} {tp : Option (Addr × Addr × Addr)} {d : D} {us : List V} (h : RepL g Z tp [d] us) : ∃ u, us = [u] ∧ Rep g Z tp d u := by
  rw [RepL] at h
  obtain ⟨u, r, e, h1, h2⟩ := h
  rw [RepL] at h2
  exact ⟨u, by rw [e, h2], h1⟩
theorem RepL.sing {Z : Hp} {tp : Option (Addr × Addr × Addr)} {d : D} {u : V} (h : Rep g Z tp d u) : RepL g Z tp [d] [u] := by
  rw [RepL]
  exact ⟨u, [], rfl, h, by rw [RepL]⟩
theorem rep_non {Z : Hp} {tp : Option (Addr × Addr × Addr)} : Rep g Z tp .non .non := by rw [Rep]
theorem mok_append : MutOk X g "list.append" mAppend := by
  refine ⟨_, mt_append, fun w H l vs us ds as d ds' Q z h1 h2 h3 h4 q => ?_⟩
  unfold mAppend at h4
  split at h4 <;> first | cases h4 | skip
  split at h4 <;> cases h4
  rename_i hl
  obtain ⟨u, rfl, ru⟩ := h3.one'
  exact ⟨l, vs, u, rfl, rfl, h1, by rw [h2.length]; exact hl, q _ _ rep_non (h2.app (.sing ru))⟩
def mExtend : List D → List D → Option (D × List D)
  | ds, [.lst es] => if ds.length + es.length ≤ sizeLine then some (.non, ds ++ es) else none
  | _, _ => none
theorem mok_extend : MutOk X g "list.extend" mExtend := by
  refine ⟨_, mt_extend, fun w H l vs us ds as d ds' Q z h1 h2 h3 h4 q => ?_⟩
  unfold mExtend at h4
  split at h4 <;> first | cases h4 | skip
  split at h4 <;> cases h4
  rename_i hl
  obtain ⟨u, rfl, ru⟩ := h3.one'
  rw [Rep] at ru
  obtain ⟨b, ws, rfl, h5, h6⟩ := ru
  exact ⟨l, b, vs, ws, rfl, rfl, h1, z _ _ h5, by rw [h2.length, h6.length]; exact hl, q _ _ rep_non (h2.app h6)⟩
theorem RepL.get' {Z : Hp} {tp : Option (Addr × Addr × Addr)} {ds : List D} {us : List V} {i : Nat} {d : D} (h : RepL g Z tp ds us) (e : ds[i]? = some d) : ∃ v, us[i]? = some v ∧ Rep g Z tp d v := h.get e
theorem RepL.dropLast {Z : Hp} {tp : Option (Addr × Addr × Addr)} : ∀ {ds : List D} {us : List V}, RepL g Z tp ds us → RepL g Z tp ds.dropLast us.dropLast
  | [], us, h => by rw [RepL] at h; rw [h]; exact (by rw [List.dropLast_nil, RepL]; rfl)
  | [d], us, h => by
    obtain ⟨u, rfl, _⟩ := h.one'
    exact (by show RepL g Z tp [] []; rw [RepL])
  | d :: e :: ds, us, h => by
    rw [RepL] at h
    obtain ⟨v, r, rfl, h1, h2⟩ := h
    have h3 := RepL.dropLast h2
    rw [RepL] at h2
    obtain ⟨v2, r2, rfl, _, _⟩ := h2
    rw [List.dropLast_cons₂, List.dropLast_cons₂, RepL]
    exact ⟨v, _, rfl, h1, h3⟩
theorem RepL.erase {Z : Hp} {tp : Option (Addr × Addr × Addr)} : ∀ {ds : List D} {us : List V} (i : Nat), RepL g Z tp ds us → RepL g Z tp (ds.eraseIdx i) (us.eraseIdx i)
  | [], us, i, h => by rw [RepL] at h; rw [h, List.eraseIdx_nil, List.eraseIdx_nil, RepL]
  | d :: ds, us, 0, h => by
    rw [RepL] at h
    obtain ⟨v, r, rfl, h1, h2⟩ := h
    exact h2
  | d :: ds, us, i + 1, h => by
    rw [RepL] at h
    obtain ⟨v, r, rfl, h1, h2⟩ := h
    rw [List.eraseIdx_cons_succ, List.eraseIdx_cons_succ, RepL]
    exact ⟨v, _, rfl, h1, RepL.erase i h2⟩
theorem RepL.set {Z : Hp} {tp : Option (Addr × Addr × Addr)} {d : D} {u : V} (hu : Rep g Z tp d u) : ∀ {ds : List D} {us : List V} (i : Nat), RepL g Z tp ds us → RepL g Z tp (ds.set i d) (us.set i u)
  | [], us, i, h => by rw [RepL] at h; rw [h, List.set_nil, List.set_nil, RepL]
  | x :: ds, us, 0, h => by
    rw [RepL] at h
    obtain ⟨v, r, rfl, h1, h2⟩ := h
    rw [List.set_cons_zero, List.set_cons_zero, RepL]
    exact ⟨u, _, rfl, hu, h2⟩
  | x :: ds, us, i + 1, h => by
    rw [RepL] at h
    obtain ⟨v, r, rfl, h1, h2⟩ := h
    rw [List.set_cons_succ, List.set_cons_succ, RepL]
    exact ⟨v, _, rfl, h1, RepL.set hu i h2⟩
theorem RepL.take {Z : Hp} {tp : Option (Addr × Addr × Addr)} : ∀ {ds : List D} {us : List V} (i : Nat), RepL g Z tp ds us → RepL g Z tp (ds.take i) (us.take i)
  | _, _, 0, h => by rw [List.take_zero, List.take_zero, RepL]
  | [], us, i + 1, h => by rw [RepL] at h; rw [h, List.take_nil, List.take_nil, RepL]
  | d :: ds, us, i + 1, h => by
    rw [RepL] at h
    obtain ⟨v, r, rfl, h1, h2⟩ := h
    rw [List.take_succ_cons, List.take_succ_cons, RepL]
    exact ⟨v, _, rfl, h1, RepL.take i h2⟩
theorem RepL.drop {Z : Hp} {tp : Option (Addr × Addr × Addr)} : ∀ {ds : List D} {us : List V} (i : Nat), RepL g Z tp ds us → RepL g Z tp (ds.drop i) (us.drop i)
  | _, _, 0, h => h
  | [], us, i + 1, h => by rw [RepL] at h; rw [h, List.drop_nil, List.drop_nil, RepL]
  | d :: ds, us, i + 1, h => by
    rw [RepL] at h
    obtain ⟨v, r, rfl, h1, h2⟩ := h
    exact RepL.drop i h2
def mPop : List D → List D → Option (D × List D)
  | ds, [] => (ds[ds.length - 1]?).map fun d => (d, ds.dropLast)
  | _, _ => none
theorem mok_pop : MutOk X g "list.pop" mPop := by
  refine ⟨_, mt_pop, fun w H l vs us ds as d ds' Q z h1 h2 h3 h4 q => ?_⟩
  unfold mPop at h4
  split at h4 <;> first | cases h4 | skip
  obtain ⟨x, e1, e2⟩ := Option.map_eq_some_iff.mp h4
  cases e2
  obtain ⟨v, e3, rv⟩ := h2.get e1
  rw [RepL] at h3
  subst h3
  exact ⟨l, vs, v, rfl, rfl, h1, by rw [h2.length]; exact e3, q _ _ rv h2.dropLast⟩
def mPopAt : List D → List D → Option (D × List D)
  | ds, [.int i] => if -(2 ^ 63) ≤ i ∧ i < 2 ^ 63 then (seqIndex? i ds.length).bind fun k => (ds[k]?).map fun d => (d, ds.eraseIdx k) else none
  | _, _ => none
theorem mok_popAt : MutOk X g "list.pop" mPopAt := by
  refine ⟨_, mt_popAt, fun w H l vs us ds as d ds' Q z h1 h2 h3 h4 q => ?_⟩
  unfold mPopAt at h4
  split at h4 <;> first | cases h4 | skip
  split at h4 <;> first | cases h4 | skip
  rename_i c
  obtain ⟨j, e0, h5⟩ := Option.bind_eq_some_iff.mp h4
  obtain ⟨x, e1, e2⟩ := Option.map_eq_some_iff.mp h5
  cases e2
  obtain ⟨v, e3, rv⟩ := h2.get e1
  obtain ⟨u, rfl, ru⟩ := h3.one'
  rw [Rep] at ru
  subst ru
  exact ⟨l, vs, _, j, v, rfl, rfl, h1, c.1, c.2, by rw [h2.length]; exact e0, e3, q _ _ rv (h2.erase _)⟩
def mInsert : List D → List D → Option (D × List D)
  | ds, [.int i, d] => if ds.length < sizeLine ∧ 0 ≤ i ∧ i < 2 ^ 63 then some (.non, ds.take i.toNat ++ [d] ++ ds.drop i.toNat) else none
  | _, _ => none
theorem mok_insert : MutOk X g "list.insert" mInsert := by
  refine ⟨_, mt_insert, fun w H l vs us ds as d ds' Q z h1 h2 h3 h4 q => ?_⟩
  unfold mInsert at h4
  split at h4 <;> first | cases h4 | skip
  split at h4 <;> cases h4
  rename_i i d' hl
  obtain ⟨u, v, rfl, ru, rv⟩ := h3.two
  rw [Rep] at ru
  subst ru
  exact ⟨l, vs, i, v, rfl, rfl, h1, by rw [h2.length]; exact hl.1, hl.2.1, hl.2.2, q _ _ rep_non (((h2.take _).app (.sing rv)).app (h2.drop _))⟩
def sSetIx (i : Nat) (ei ev : Ev) : Sv := fun ρ τ => match vFz ev ρ τ with
  | .ok (.fz d) ρ1 τ1 => (match ρ1[i]? with
    | some (.own (.lst _)) => (match vFz ei ρ1 τ1 with
      | .ok (.fz (.int n)) ρ2 τ2 => (match ρ2[i]? with
        | some (.own (.lst ds)) => (match ixN ds.length n with
          | some j => .nx (ρ2.set i (.own (.lst (ds.set j d)))) τ2
          | none => .bad)
        | _ => .bad)
      | .exc x ρ2 τ2 => .exc x ρ2 τ2
      | _ => .bad)
    | _ => .bad)
  | .ok _ _ _ => .bad
  | .exc x ρ1 τ1 => .exc x ρ1 τ1
  | .bad => .bad
theorem py_setIx {i : Nat} {x : Str} {ie e : Expr} {ei ev : Ev} {p1 p2 pos : Pos} (ho : PE X (.Name x p1) (tVar i)) (hi : PyE g k X W ie ei) (he : PyE g k X W e ev)
    (ha : ∀ v, assign (.Subscript (.Name x p1) ie p2) X.env v = (do
      let ov ← holding [v] (eval (.Name x p1) X.env)
      let iv ← holding [v, ov] (eval ie X.env)
      standAt p2
      holding [v, ov, iv] (setItem ov iv v)
      release [v, ov, iv] []) := by intro _; rfl)
    (hs : swapsWithSole [.Subscript (.Name x p1) ie p2] e pos.line X.env = pure false := by rfl) (hw : swappedStores [.Subscript (.Name x p1) ie p2] e X.env = pure none := by rfl)
    (h1 : (assignEach [.Subscript (.Name x p1) ie p2] X.env).map (·.2) = [assign (.Subscript (.Name x p1) ie p2) X.env] := by rfl) :
    PyS g k X W (.Assign [.Subscript (.Name x p1) ie p2] e pos) (sSetIx i ei ev) := fun A => (ps_asg (py_fz he A) (pg_sub ho (py_fz hi A) set_list ha) hs hw h1).imp' fun D σ H q => by
  obtain ⟨w, ρ, τ, env, q⟩ := q
  show tD g W (vFz ev) σ H fun u H1 => tVar i σ H1 fun o H2 => tD g W (vFz ei) σ H2 fun iv H3 => rSetL o iv u H3 fun H4 => D.nx σ H4
  refine ⟨w, ρ, τ, env, ?_⟩
  unfold sSetIx at q
  cases e1 : vFz ev ρ τ with
  | ok r ρ1 τ1 =>
    simp only [e1] at q
    cases r with
    | own d => simp at q
    | fz d =>
      intro w1 H1 u a1 hr
      cases e2 : ρ1[i]? with
      | none => simp [e2] at q
      | some s =>
        cases s with
        | own d1 =>
          cases d1 with
          | lst ds0 =>
            simp only [e2] at q
            obtain ⟨l, h1, _⟩ := own_slot a1.env e2
            refine ⟨_, h1, w1, ρ1, τ1, a1.env, ?_⟩
            cases e3 : vFz ei ρ1 τ1 with
            | ok r2 ρ2 τ2 =>
              simp only [e3] at q
              cases r2 with
              | own d => simp at q
              | fz d2 =>
                cases d2 with
                | int n =>
                  intro w2 H2 iv a2 hr2
                  rw [RsR, Rep] at hr2
                  subst hr2
                  cases e4 : ρ2[i]? with
                  | none => simp [e4] at q
                  | some s2 =>
                    cases s2 with
                    | own d3 =>
                      cases d3 with
                      | lst ds =>
                        simp only [e4] at q
                        cases e5 : ixN ds.length n with
                        | none => simp [e5] at q
                        | some j =>
                          simp only [e5] at q
                          obtain ⟨l', h2, ⟨vs, h3, h4⟩, _⟩ := own_slot a2.env e4
                          rw [h1] at h2
                          obtain rfl : l = l' := by injection h2 with h2; injection h2 with h2; injection h2
                          refine ⟨l, vs, n, j, rfl, rfl, h3, by rw [h4.length]; exact e5, q w2 _ σ ?_⟩
                          refine (a1.trans a2).write e4 h1 ⟨_, h3, (fun xs z => nomatch z), (fun xs z => nomatch z)⟩ fun H' h8 => ⟨_, h8, RepL.set ?_ j h4⟩
                          rw [a2.st.tp]
                          exact Rep.mono a2.st.z _ hr
                      | _ => simp [e4] at q
                    | _ => simp [e4] at q
                | _ => simp at q
            | exc x ρ' τ' => simp only [e3] at q; exact fun w' H' cls dx a hx => q w' H' σ cls dx (a1.trans a) hx
            | bad => simp only [e3] at q
          | _ => simp [e2] at q
        | _ => simp [e2] at q
  | exc x ρ' τ' => simp only [e1] at q; exact fun w' H' cls dx a hx => q w' H' σ cls dx a hx
  | bad => simp only [e1] at q
end
end PD
namespace PD
open PySem PySem.Spec L2
open PyProof.Rows hiding St

/-- J walks the data ds, whatever runs from here on -/
def Wk (g : G) (w : Wd) (H : Hp) (ρ : Rho) (σ : St) (J : It) (ds : List D) : Prop := ∃ (C : Hp → Prop) (Y : Nat → Hp → V → Hp → Prop), Walk J ds.length C Y ∧
  (∀ w1 H1 ρ1 τ1 σ1, Ps g w H ρ σ w1 H1 ρ1 τ1 σ1 → C H1) ∧
  ∀ (i : Nat) d w1 H1 ρ1 τ1 σ1 x H2, ds[i]? = some d → Ps g w H ρ σ w1 H1 ρ1 τ1 σ1 → Y i H1 x H2 → ∃ w2, Ps g w1 H1 ρ1 σ1 w2 H2 ρ1 τ1 σ1 ∧ Rep g w2.Z w2.tp d x
/-- a walk's list, as it is evaluated -/
abbrev Src := Rho → Tape → O (List D)
def tI (g : G) (W : WX) (src : Src) : TI := fun σ H R => ∃ w ρ τ, EnvR g w H ρ τ σ ∧ match src ρ τ with
  | .ok ds ρ' τ' => ∀ w' H' J, Ps g w H ρ σ w' H' ρ' τ' σ → Wk g w' H' ρ' σ J ds → R J H'
  | .exc x ρ' τ' => ∀ w' H' cls dx, Ps g w H ρ σ w' H' ρ' τ' σ → ExR g w' x cls dx → W cls dx σ H'
  | .bad => False
def PyI (g : G) (k : Nat) (X : Cx) (W : WX) (tg e : Expr) (src : Src) : Prop := At g k X W → PI X tg e (tI g W src)
theorem _root_.L2.PI.imp' {X : Cx} {tg e : Expr} {t t' : TI} (h : PI X tg e t) (i : ∀ σ H R, t' σ H R → t σ H R) : PI X tg e t' := ⟨fun pins s σ H R I q => h.run pins s σ H R I (i σ H R q)⟩
section
variable {g : G} {k : Nat} {X : Cx} {W : WX}
/-- a list or a tuple, walked -/
theorem pi_seq {tg l : Expr} {tl : TE} (hl : PE X l tl) : PI X tg l (fun σ H R => tl σ H fun x H1 => ∃ a xs, x = .ref a ∧ ((SqL X.K H1 a xs ∧ R (Itl X.K a) H1) ∨ (SqT X.K H1 a xs ∧ R (Itt X.K a) H1))) := by
  refine ⟨fun pins s σ H R I h => thn (hl.run pins s σ H _ I h) fun v s1 ⟨x, H1, I1, r1, a, xs, e, q⟩ => ?_⟩
  subst e
  cases r1
  have new : ∀ J tn, Turn X.prog X.w X.K tg J [s1.heap.objs.size] s1.heap.objs.size tn → ∀ o, tn 0 (s1.heap.push o) → R J H1 → PIE X pins σ tg R (.ref s1.heap.objs.size) { s1 with heap := s1.heap.push o } := fun J tn T o st r =>
    ⟨s1.heap.objs.size, [s1.heap.objs.size], tn, J, H1, rfl, I1.kept (t' := s1.toks) fun b u e => Heap.get?_push_of_some _ e, T, st, fun b hb => by
      have e : b = s1.heap.objs.size := List.mem_singleton.mp hb
      rw [e]
      exact I1.fpOk (Nat.le_refl _) (I1.hok.fresh (Nat.le_refl _)), r⟩
  rcases q with ⟨hq, r⟩ | ⟨hq, r⟩
  · obtain ⟨its, _, p, _⟩ := I1.list hq
    exact wpAny_pyIter_list p.isList (new _ _ (turn_list a _) _ ⟨_, Heap.get?_push_size _ rfl, rfl, rfl⟩ r)
  · obtain ⟨its, _, p, _⟩ := I1.tuple hq
    exact wpAny_pyIter_tuple (show s1.heap.IsTuple a its.toArray from p) (new _ _ (turn_tuple a _) _ ⟨_, Heap.get?_push_size _ rfl, rfl, rfl⟩ r)
/-- the walks of a frozen list, of a tuple -/
theorem wk_list {w : Wd} {H : Hp} {ρ : Rho} {τ : Tape} {σ : St} {a : Addr} {vs : List V} {ds : List D} {K : PySem.W.Frag} (hK : K = g.K) (r : RepL g w.Z w.tp ds vs) (h : ∀ w1 H1 ρ1 τ1 σ1, Ps g w H ρ σ w1 H1 ρ1 τ1 σ1 → H1 a = some (.lst vs)) : Wk g w H ρ σ (Itl K a) ds := by
  refine ⟨_, _, by rw [← r.length]; exact walk_list (K := K) (a := a) (xs := vs), fun w1 H1 ρ1 τ1 σ1 p => SqL.of (h _ _ _ _ _ p), fun i d w1 H1 ρ1 τ1 σ1 x H2 hd p y => ?_⟩
  obtain ⟨rfl, y⟩ := y
  obtain ⟨v, e, rv⟩ := r.get hd
  rw [y] at e
  cases e
  exact ⟨w1, .refl p.env, by rw [p.st.tp]; exact Rep.mono p.st.z _ rv⟩
theorem wk_tup {w : Wd} {H : Hp} {ρ : Rho} {τ : Tape} {σ : St} {a : Addr} {vs : List V} {ds : List D} {K : PySem.W.Frag} (hK : K = g.K) (r : RepL g w.Z w.tp ds vs) (h : SqT g.K w.Z a vs) : Wk g w H ρ σ (Itt K a) ds := by
  subst hK
  refine ⟨_, _, by rw [← r.length]; exact walk_tup (K := g.K) (a := a) (xs := vs), fun w1 H1 ρ1 τ1 σ1 p => SqT.mono (p.st.z.trans p.env.zle) h, fun i d w1 H1 ρ1 τ1 σ1 x H2 hd p y => ?_⟩
  obtain ⟨rfl, y⟩ := y
  obtain ⟨v, e, rv⟩ := r.get hd
  rw [y] at e
  cases e
  exact ⟨w1, .refl p.env, by rw [p.st.tp]; exact Rep.mono p.st.z _ rv⟩
def srcOf (ev : Ev) : Src := fun ρ τ => match vFz ev ρ τ with
  | .ok (.fz (.lst ds)) ρ' τ' => .ok ds ρ' τ'
  | .ok (.fz (.tup ds)) ρ' τ' => .ok ds ρ' τ'
  | .exc x ρ' τ' => .exc x ρ' τ'
  | _ => .bad
theorem py_src {tg e : Expr} {ev : Ev} (h : PyE g k X W e ev) : PyI g k X W tg e (srcOf ev) := fun A => (pi_seq (py_fz h A)).imp' fun σ H R q => by
  obtain ⟨w, ρ, τ, env, q⟩ := q
  refine ⟨w, ρ, τ, env, ?_⟩
  unfold srcOf at q
  cases e : vFz ev ρ τ with
  | ok r ρ' τ' =>
    simp only [e] at q
    cases r with
    | own d => simp at q
    | fz d =>
      intro w' H' v a hr
      cases d with
      | lst ds =>
        rw [RsR, Rep] at hr
        obtain ⟨p, vs, rfl, h1, h2⟩ := hr
        exact ⟨p, vs, rfl, .inl ⟨SqL.of (a.env.zle _ _ h1), q w' H' _ a (wk_list (τ := τ') A.K h2 fun w1 H1 ρ1 τ1 σ1 b => b.env.zle _ _ (b.st.z _ _ h1))⟩⟩
      | tup ds =>
        rw [RsR, Rep] at hr
        obtain ⟨p, vs, rfl, h1, h2⟩ := hr
        exact ⟨p, vs, rfl, .inr ⟨by rw [A.K]; exact SqT.mono a.env.zle h1, q w' H' _ a (wk_tup (τ := τ') A.K h2 h1)⟩⟩
      | _ => simp at q
  | exc x ρ' τ' => simp only [e] at q; exact q
  | bad => simp only [e] at q
def srcPk (i : Nat) : Src := fun ρ τ => match ρ[i]? with
  | some (.own (.lst ds)) => .ok ds (ρ.set i (.bor (.lst ds))) τ
  | some (.bor (.lst ds)) => .ok ds ρ τ
  | some (.fz (.lst ds)) => .ok ds ρ τ
  | some (.fz (.tup ds)) => .ok ds ρ τ
  | _ => .bad
/-- an own slot is only read from here on: what runs behind, told from here -/
theorem lend_env {w : Wd} {H : Hp} {ρ : Rho} {τ : Tape} {σ : St} (env : EnvR g w H ρ τ σ) {i : Nat} {d : D} (hi : ρ[i]? = some (.own d)) : EnvR g w H (ρ.set i (.bor d)) τ σ := by
  have hs := env.sl i _ hi
  refine ⟨by rw [List.length_set]; exact env.len, fun j s h => ?_, fun j l s t p n h1 o1 h2 o2 h3 h4 => ?_, env.zle, env.tape, env.tabs⟩
  · rcases set_get h with ⟨rfl, rfl⟩ | ⟨_, h⟩
    · exact .inl hs
    · exact env.sl j s h
  · rcases set_get h1 with ⟨rfl, rfl⟩ | ⟨_, h1⟩
    · cases o1
    · rcases set_get h2 with ⟨rfl, rfl⟩ | ⟨_, h2⟩
      · exact env.ap j _ s _ p n ‹ρ[j]? = some s› o1 hi rfl h3 h4
      · exact env.ap j l s t p n h1 o1 h2 o2 h3 h4
theorem lend_ps {w : Wd} {H : Hp} {ρ : Rho} {τ : Tape} {σ : St} (env : EnvR g w H ρ τ σ) {i : Nat} {d : D} (hi : ρ[i]? = some (.own d)) {w' : Wd} {H' : Hp} {ρ' : Rho} {τ' : Tape} {σ' : St} (b : Ps g w H (ρ.set i (.bor d)) σ w' H' ρ' τ' σ') :
    (∀ a, ownAt ρ' σ' a → ownAt ρ σ a ∨ H a = none) ∧ Step (Lic w ρ σ) w H w' H' := by
  have lo : ∀ a, ownAt (ρ.set i (.bor d)) σ a → ownAt ρ σ a := fun a ⟨j, s, h1, o1, h3⟩ => by
    rcases set_get h1 with ⟨rfl, rfl⟩ | ⟨_, h1⟩
    · cases o1
    · exact ⟨j, s, h1, o1, h3⟩
  exact ⟨fun a h => (b.lic a h).imp (lo a) id, b.st.mono fun a l => l.imp id (lo a)⟩
/-- behind a walk of its own list a slot is its own again -/
def unbor (i : Nat) (was : Bool) (ρ : Rho) : Rho := if was then match ρ[i]? with
    | some (.bor d) => ρ.set i (.own d)
    | _ => ρ
  else ρ
def wasOwn (i : Nat) (ρ : Rho) : Bool := match ρ[i]? with
  | some (.own _) => true
  | _ => false
theorem unbor_ps {w : Wd} {H : Hp} {ρ : Rho} {τ : Tape} {σ : St} (env : EnvR g w H ρ τ σ) {i : Nat} {d : D} (hi : ρ[i]? = some (.own d)) {w' : Wd} {H' : Hp} {ρ' : Rho} {τ' : Tape} {σ' : St} (b : Ps g w H (ρ.set i (.bor d)) σ w' H' ρ' τ' σ') :
    Ps g w H ρ σ w' H' (unbor i true ρ') τ' σ' := by
  obtain ⟨p, hp, hr, _, _⟩ := own_slot env hi
  obtain ⟨l1, l2⟩ := lend_ps env hi b
  have hil : i < ρ.length := (List.getElem?_eq_some_iff.mp hi).1
  have obj : ∃ o, H p = some o := by obtain ⟨o, h, _⟩ := hr.at; exact ⟨o, h⟩
  have borp : ∀ (j : Nat) e, ρ'[j]? = some (.bor e) → (j = i ∧ σ'[j]? = σ[j]?) ∨ (j ≠ i ∧ ρ[j]? = some (.bor e) ∧ σ'[j]? = σ[j]?) := fun j e h => by
    obtain ⟨h1, h2⟩ := b.bor j e h
    rcases set_get h1 with ⟨rfl, _⟩ | ⟨n, h1⟩
    · exact .inl ⟨rfl, h2⟩
    · exact .inr ⟨n, h1, h2⟩
  unfold unbor
  rw [if_pos rfl]
  split
  · rename_i e he
    have hσ : σ'[i]? = some (some (V.ref p)) := by
      rcases borp i e he with ⟨_, h⟩ | ⟨n, _⟩
      · rw [h]; exact hp
      · exact (n rfl).elim
    have apart : ∀ (j : Nat) s, j ≠ i → ρ'[j]? = some s → isCell s = true → σ'[j]? = some (some (V.ref p)) → False := fun j s n h c h3 => by
      cases s with
      | un => cases c
      | fz x => cases c
      | own x =>
        rcases b.lic p ⟨j, _, h, rfl, h3⟩ with ⟨l, t, g1, g2, g3⟩ | g
        · rcases set_get g1 with ⟨rfl, rfl⟩ | ⟨m, g1⟩
          · cases g2
          · exact env.ap l i t _ p m g1 g2 hi rfl g3 hp
        · obtain ⟨o, ho⟩ := obj
          rw [ho] at g; cases g
      | bor x =>
        rcases borp j x h with ⟨e1, _⟩ | ⟨_, g1, g2⟩
        · exact n e1
        · exact env.ap i j _ _ p (Ne.symm n) hi rfl g1 rfl hp (by rw [← g2]; exact h3)
    refine ⟨⟨by rw [List.length_set]; exact b.env.len, fun j s h => ?_, fun j l s t q n h1 o1 h2 o2 h3 h4 => ?_, b.env.zle, b.env.tape, b.env.tabs⟩, l2, fun a => ?_, fun j x h => ?_⟩
    · rcases set_get h with ⟨rfl, rfl⟩ | ⟨_, h⟩
      · have := b.env.sl _ _ he
        refine this.resolve_right fun ⟨_, _, ⟨_, _, _, _, e9, _⟩, _⟩ => ?_
        have g1 := (b.bor _ _ he).1
        rcases set_get g1 with ⟨_, e8⟩ | ⟨m, _⟩
        · cases e8
          rw [e9] at hr
          exact hr
        · exact m rfl
      · exact b.env.sl j s h
    · rcases set_get h1 with ⟨rfl, rfl⟩ | ⟨n1, h1⟩
      · rw [hσ] at h3
        cases h3
        rcases set_get h2 with ⟨rfl, rfl⟩ | ⟨n2, h2⟩
        · exact n rfl
        · exact apart l t n2 h2 o2 h4
      · rcases set_get h2 with ⟨rfl, rfl⟩ | ⟨n2, h2⟩
        · rw [hσ] at h4
          cases h4
          exact apart j s n1 ‹ρ'[j]? = some s› (isCell_of_own o1) h3
        · exact b.env.ap j l s t q n h1 o1 h2 o2 h3 h4
    · rintro ⟨j, s, h1, o1, h3⟩
      rcases set_get h1 with ⟨rfl, rfl⟩ | ⟨_, h1⟩
      · rw [hσ] at h3
        cases h3
        exact .inl ⟨_, _, hi, rfl, hp⟩
      · exact l1 a ⟨j, s, h1, o1, h3⟩
    · rcases set_get h with ⟨rfl, e2⟩ | ⟨n, h⟩
      · cases e2
      · rcases borp j x h with ⟨e1, _⟩ | ⟨_, g1, g2⟩
        · exact (n e1).elim
        · exact ⟨g1, g2⟩
  · rename_i hno
    refine ⟨b.env, l2, l1, fun j x h => ?_⟩
    rcases borp j x h with ⟨rfl, _⟩ | ⟨_, g1, g2⟩
    · exact (hno x h).elim
    · exact ⟨g1, g2⟩
def rngL (lo : Int) (n : Nat) : List D := (List.range n).map fun (i : Nat) => D.int (lo + (i : Int))
def rngD : List D → Option (List D)
  | [.int j] => if -(2 ^ 62) ≤ j ∧ j < 2 ^ 62 then some (rngL 0 j.toNat) else none
  | [.int i, .int j] => if (-(2 ^ 62) ≤ i ∧ i < 2 ^ 62) ∧ -(2 ^ 62) ≤ j ∧ j < 2 ^ 62 then some (rngL i (j - i).toNat) else none
  | _ => none
def srcR (args : List Arg) : Src := fun ρ τ => match aFz args ρ τ with
  | .ok ds ρ' τ' => (match rngD ds with
    | some l => .ok l ρ' τ'
    | none => .bad)
  | .exc x ρ' τ' => .exc x ρ' τ'
  | .bad => .bad
theorem wk_rng {w : Wd} {H : Hp} {ρ : Rho} {σ : St} (lo : Int) (n : Nat) : Wk g w H ρ σ (Itr lo n) (rngL lo n) := by
  have hl : (rngL lo n).length = n := by simp [rngL]
  refine ⟨_, _, by rw [hl]; exact walk_range, fun _ _ _ _ _ _ => trivial, fun i d w1 H1 ρ1 τ1 σ1 x H2 hd p y => ?_⟩
  obtain ⟨rfl, rfl⟩ := y
  have hi : i < n := by rw [← hl]; exact (List.getElem?_eq_some_iff.mp hd).1
  have e : d = .int (lo + i) := by
    have : (rngL lo n)[i]? = some (.int (lo + i)) := by simp [rngL, hi]
    rw [this] at hd
    exact (Option.some.inj hd).symm
  subst e
  exact ⟨w1, .refl p.env, rep_int⟩
theorem range_q {args : List Arg} {σ : St} {H : Hp} {R : It → Hp → Prop} (q : tI g W (srcR args) σ H R) : argsT g W args σ H fun vs H1 => (∃ j : Int, vs = [.int j] ∧ -(2 ^ 62) ≤ j ∧ j < 2 ^ 62 ∧ R (Itr 0 j.toNat) H1) ∨ ∃ i j : Int, vs = [.int i, .int j] ∧ (-(2 ^ 62) ≤ i ∧ i < 2 ^ 62 ∧ -(2 ^ 62) ≤ j ∧ j < 2 ^ 62) ∧ R (Itr i (j - i).toNat) H1 := by
  obtain ⟨w, ρ, τ, env, q⟩ := q
  refine args_fz env ?_
  unfold srcR at q
  cases e : aFz args ρ τ with
  | ok ds ρ' τ' =>
    simp only [e] at q
    intro w' H' vs a hr
    cases e2 : rngD ds with
    | none => simp [e2] at q
    | some l =>
      simp only [e2] at q
      unfold rngD at e2
      split at e2
      · split at e2 <;> cases e2
        rename_i c
        obtain ⟨u, rfl, ru⟩ := hr.one'
        rw [Rep] at ru
        subst ru
        exact .inl ⟨_, rfl, c.1, c.2, q w' H' _ a (wk_rng _ _)⟩
      · split at e2 <;> cases e2
        rename_i c
        obtain ⟨u, v, rfl, ru, rv⟩ := hr.two
        rw [Rep] at ru rv
        subst ru rv
        exact .inr ⟨_, _, rfl, ⟨c.1.1, c.1.2, c.2.1, c.2.2⟩, q w' H' _ a (wk_rng _ _)⟩
      · cases e2
  | exc x ρ' τ' => simp only [e] at q; exact q
  | bad => simp only [e] at q
theorem tD_mono {ev : Ev} {σ : St} {H : Hp} {Q Q' : VK} (h : ∀ x H', Q x H' → Q' x H') (q : tD g W ev σ H Q) : tD g W ev σ H Q' := by
  obtain ⟨w, ρ, τ, env, q⟩ := q
  refine ⟨w, ρ, τ, env, ?_⟩
  cases e : ev ρ τ with
  | ok r ρ' τ' => simp only [e] at q; exact fun w' H' v a hr => h _ _ (q w' H' v a hr)
  | exc x ρ' τ' => simp only [e] at q; exact q
  | bad => simp only [e] at q
theorem argE_mono {a : Arg} {σ : St} {H : Hp} {Q Q' : VK} (h : ∀ x H', Q x H' → Q' x H') (q : argE g W a σ H Q) : argE g W a σ H Q' := by
  cases a with
  | ex ev => exact tD_mono h q
  | pk i => obtain ⟨v, e, q⟩ := q; exact ⟨v, e, h _ _ q⟩
  | se ev => exact q
  | sp i => exact q
theorem py_range1 {tg a : Expr} {A : Arg} {p pos : Pos} (ha : PyArg g k X W a A) (hm : g.mg "range" = none) (hg : Gl X "range" := by rfl) (hs : starEach [a] X.env = (false, eval a X.env) :: starEach [] X.env := by rfl) (hs' : starEach [a] X.env = [(false, eval a X.env)] := by rfl) :
    PyI g k X W tg (.Call (.Name "range" p) [a] [] pos) (srcR [A]) := fun At => (pi_range1 hg (by rw [At.mg]; exact hm) (pa_cons (ha.2 At) pa_nil hs) hs').imp' fun σ H R q => by
  have := range_q q
  rw [argsT_cons ha.1] at this
  refine argE_mono (fun x H' z => ?_) this
  rcases z with z | ⟨i, j, e, _⟩
  · exact z
  · cases e
theorem py_range2 {tg a b : Expr} {A B : Arg} {p pos : Pos} (ha : PyArg g k X W a A) (hb : PyArg g k X W b B) (hm : g.mg "range" = none) (hg : Gl X "range" := by rfl) (h1 : starEach [a, b] X.env = (false, eval a X.env) :: starEach [b] X.env := by rfl) (h2 : starEach [b] X.env = (false, eval b X.env) :: starEach [] X.env := by rfl)
    (hs : starEach [a, b] X.env = [(false, eval a X.env), (false, eval b X.env)] := by rfl) (hs2 : starEach [b] X.env = [(false, eval b X.env)] := by rfl) :
    PyI g k X W tg (.Call (.Name "range" p) [a, b] [] pos) (srcR [A, B]) := fun At => (pi_range2 hg (by rw [At.mg]; exact hm) (pa_cons (ha.2 At) (pa_cons (hb.2 At) pa_nil h2) h1) hs hs2).imp' fun σ H R q => by
  have := range_q q
  rw [argsT_cons ha.1, argsT_cons hb.1] at this
  refine argE_mono (fun x H' z => argE_mono (fun y H2 z => ?_) z) this
  rcases z with ⟨j, e, _⟩ | z
  · cases e
  · exact z
def forL (t : Tg) (body : Sv) : List D → Rho → Tape → SO
  | [], ρ, τ => .nx ρ τ
  | d :: ds, ρ, τ => match asg t d ρ with
    | none => .bad
    | some ρ1 => (match body ρ1 τ with
      | .nx ρ2 τ2 => forL t body ds ρ2 τ2
      | .ct ρ2 τ2 => forL t body ds ρ2 τ2
      | .bk ρ2 τ2 => .nx ρ2 τ2
      | .rt r τ2 => .rt r τ2
      | .exc x ρ2 τ2 => .exc x ρ2 τ2
      | .bad => .bad)
theorem forL_no (t : Tg) (body : Sv) : ∀ (ds : List D) (ρ : Rho) (τ : Tape), (∀ ρ2 τ2, forL t body ds ρ τ ≠ .bk ρ2 τ2) ∧ ∀ ρ2 τ2, forL t body ds ρ τ ≠ .ct ρ2 τ2
  | [], ρ, τ => by rw [forL]; exact ⟨fun _ _ z => (nomatch z), fun _ _ z => (nomatch z)⟩
  | d :: ds, ρ, τ => by
    rw [forL]
    split
    · exact ⟨fun _ _ z => (nomatch z), fun _ _ z => (nomatch z)⟩
    · split <;> first | exact forL_no t body ds _ _ | exact ⟨fun _ _ z => (nomatch z), fun _ _ z => (nomatch z)⟩
def sFor (src : Src) (t : Tg) (body : Sv) : Sv := fun ρ τ => match src ρ τ with
  | .ok ds ρ' τ' => forL t body ds ρ' τ'
  | .exc x ρ' τ' => .exc x ρ' τ'
  | .bad => .bad
theorem for_go {w0 : Wd} {H0 : Hp} {ρ0 : Rho} {τ0 : Tape} {σ0 : St} {J : It} {ds : List D} {t : Tg} {body : Sv} {D : Ends} (env : EnvR g w0 H0 ρ0 τ0 σ0) (wk : Wk g w0 H0 ρ0 σ0 J ds) (h : SGo g W w0 H0 ρ0 σ0 D (forL t body ds ρ0 τ0)) :
    ∃ Wt : Nat → Nat → St → Hp → Prop, (∃ m, Wt 0 m σ0 H0) ∧ ∀ i m σ H, Wt i m σ H →
      (J.stop i H ∧ D.nx σ H) ∨ (J.go i H ∧ ∃ N : St → Hp → Prop, (∀ σ' H', N σ' H' → ∃ m', m' < m ∧ Wt (i + 1) m' σ' H') ∧ ∀ x H', J.yld i H x H' → tG g t x σ H' fun σ2 H2 => tS g W body { D with nx := N, ct := N, bk := D.nx } σ2 H2) := by
  obtain ⟨C, Y, wl, hold, yl⟩ := wk
  refine for_it wl (fun i σ H => ∃ w ρ τ, Ps g w0 H0 ρ0 σ0 w H ρ τ σ ∧ SGo g W w0 H0 ρ0 σ0 D (forL t body (ds.drop i) ρ τ)) ⟨w0, ρ0, τ0, .refl env, h⟩ (fun i σ H _ ⟨w, ρ, τ, p, _⟩ => hold w H ρ τ σ p) ?_ ?_
  · rintro i x σ H H' hi ⟨w, ρ, τ, p, go⟩ y
    have hd : ds[i]? = some ds[i] := List.getElem?_eq_getElem hi
    obtain ⟨w2, p2, r2⟩ := yl i _ w H ρ τ σ x H' hd p y
    have p3 := p.trans p2
    rw [List.drop_eq_getElem_cons hi, forL] at go
    refine ⟨w2, ρ, τ, ds[i], p2.env, r2, ?_⟩
    cases e : asg t ds[i] ρ with
    | none => simp only [e] at go; exact go
    | some ρ1 =>
      simp only [e] at go
      intro σ1 a _
      have p4 := p3.trans a
      refine tS_go a.env ?_
      cases e2 : body ρ1 τ with
      | nx ρ2 τ2 => simp only [e2] at go; exact fun w' H2 σ2 b => ⟨w', ρ2, τ2, p4.trans b, go⟩
      | ct ρ2 τ2 => simp only [e2] at go; exact fun w' H2 σ2 b => ⟨w', ρ2, τ2, p4.trans b, go⟩
      | bk ρ2 τ2 => simp only [e2] at go; exact fun w' H2 σ2 b => go w' H2 σ2 (p4.trans b)
      | rt r τ2 => simp only [e2] at go; exact fun w' H2 σ2 ρ' v b hr => go w' H2 σ2 ρ' v (p4.trans b) (hr.from p4)
      | exc x ρ2 τ2 => simp only [e2] at go; exact fun w' H2 σ2 cls dx b hx => go w' H2 σ2 cls dx (p4.trans b) hx
      | bad => simp only [e2] at go; exact go
  · rintro σ H ⟨w, ρ, τ, p, go⟩
    rw [List.drop_length, forL] at go
    exact go w H σ p
theorem py_for {tg iter : Expr} {body : List Stmt} {src : Src} {t : Tg} {b : Sv} {pos : Pos} (hi : PyI g k X W tg iter src) (hg : PyG g k X W tg t) (hb : PySs g k X W body b) (hs : ∀ x, foldedSetIterable iter X.env x = pure x := by intro _; rfl) : PyS g k X W (.For tg iter body [] pos) (sFor src t b) := fun A =>
  (ps_for A.passes A.calm (hi A) (hg A) (hb A) hs).imp' fun D σ H q => by
  obtain ⟨w, ρ, τ, env, q⟩ := q
  refine ⟨w, ρ, τ, env, ?_⟩
  have q : SGo g W w H ρ σ D (sFor src t b ρ τ) := q
  unfold sFor at q
  cases e : src ρ τ with
  | ok ds ρ' τ' =>
    simp only [e] at q
    intro w' H' J a wk
    exact for_go a.env wk (q.from a)
  | exc x ρ' τ' => simp only [e] at q; exact fun w' H' cls dx a hx => q w' H' σ cls dx a hx
  | bad => simp only [e] at q; exact q
/-- over a slot's own list -/
def sForPk (i : Nat) (t : Tg) (body : Sv) : Sv := fun ρ τ => match srcPk i ρ τ with
  | .ok ds ρ' τ' => (match forL t body ds ρ' τ' with
    | .nx ρ2 τ2 => .nx (unbor i (wasOwn i ρ) ρ2) τ2
    | .exc x ρ2 τ2 => .exc x (unbor i (wasOwn i ρ) ρ2) τ2
    | r => r)
  | .exc x ρ' τ' => .exc x ρ' τ'
  | .bad => .bad
theorem RsR.lend {w : Wd} {H : Hp} {ρ : Rho} {τ : Tape} {σ : St} (env : EnvR g w H ρ τ σ) {i : Nat} {d : D} (hi : ρ[i]? = some (.own d)) {w' : Wd} {H' : Hp} {ρ' : Rho} {σ' : St} {r : Rs} {v : V} (h : RsR g w H (ρ.set i (.bor d)) σ w' H' ρ' σ' r v) : RsR g w H ρ σ w' H' ρ' σ' r v := by
  cases r with
  | fz d => exact h
  | own d =>
    obtain ⟨p, e1, h1, h2, h3, h4, h5⟩ := h
    refine ⟨p, e1, h1, h2, h3, h4, h5.imp id fun ⟨j, s, g1, o1, g3⟩ => ?_⟩
    rcases set_get g1 with ⟨rfl, rfl⟩ | ⟨_, g1⟩
    · cases o1
    · exact ⟨j, s, g1, o1, g3⟩
theorem ps_lend {w : Wd} {H : Hp} {ρ : Rho} {τ : Tape} {σ : St} (env : EnvR g w H ρ τ σ) {i : Nat} {d : D} (hi : ρ[i]? = some (.own d)) {w' : Wd} {H' : Hp} {ρ' : Rho} {τ' : Tape} {σ' : St} (b : Ps g w H (ρ.set i (.bor d)) σ w' H' ρ' τ' σ') (n : ∀ e, ρ'[i]? ≠ some (.bor e)) : Ps g w H ρ σ w' H' ρ' τ' σ' := by
  have := unbor_ps env hi b
  have e : unbor i true ρ' = ρ' := by
    unfold unbor
    rw [if_pos rfl]
    split
    · rename_i e he; exact (n e he).elim
    · rfl
  rwa [e] at this
theorem py_forPk {tg : Expr} {body : List Stmt} {i : Nat} {x : Str} {t : Tg} {b : Sv} {p1 pos : Pos} (ho : PE X (.Name x p1) (tVar i)) (hg : PyG g k X W tg t) (hb : PySs g k X W body b) (hs : ∀ y, foldedSetIterable (.Name x p1) X.env y = pure y := by intro _; rfl) : PyS g k X W (.For tg (.Name x p1) body [] pos) (sForPk i t b) := fun A =>
  (ps_for A.passes A.calm (pi_seq ho) (hg A) (hb A) hs).imp' fun D σ H q => by
  obtain ⟨w, ρ, τ, env, q⟩ := q
  have q : SGo g W w H ρ σ D (sForPk i t b ρ τ) := q
  show ∃ v, σ[i]? = some (some v) ∧ ∃ a xs, v = V.ref a ∧ ((SqL X.K H a xs ∧ _) ∨ (SqT X.K H a xs ∧ _))
  unfold sForPk srcPk at q
  have plain : ∀ {o : SO}, SGo g W w H ρ σ D (match o with | .nx ρ2 τ2 => .nx (unbor i false ρ2) τ2 | .exc x ρ2 τ2 => .exc x (unbor i false ρ2) τ2 | r => r) → SGo g W w H ρ σ D o := fun {o} h => by
    cases o <;> first | exact h | (simpa [unbor] using h)
  cases e : ρ[i]? with
  | none => simp only [e] at q; exact q.elim
  | some s =>
    have hs := env.sl i s e
    cases s with
    | un => simp only [e] at q; exact q.elim
    | fz d =>
      obtain ⟨v, h1, h2⟩ := fz_slot env e
      have hw : wasOwn i ρ = false := by unfold wasOwn; rw [e]
      cases d with
      | lst ds =>
        simp only [e, hw] at q
        rw [Rep] at h2
        obtain ⟨a, vs, rfl, h3, h4⟩ := h2
        exact ⟨_, h1, a, vs, rfl, .inl ⟨SqL.of (env.zle _ _ h3), for_go env (wk_list (τ := τ) A.K h4 fun w1 H1 ρ1 τ1 σ1 b => b.env.zle _ _ (b.st.z _ _ h3)) (plain q)⟩⟩
      | tup ds =>
        simp only [e, hw] at q
        rw [Rep] at h2
        obtain ⟨a, vs, rfl, h3, h4⟩ := h2
        exact ⟨_, h1, a, vs, rfl, .inr ⟨by rw [A.K]; exact SqT.mono env.zle h3, for_go env (wk_tup (τ := τ) A.K h4 h3) (plain q)⟩⟩
      | _ => simp only [e] at q; exact q.elim
    | bor d =>
      have hw : wasOwn i ρ = false := by unfold wasOwn; rw [e]
      cases d with
      | lst ds =>
        simp only [e, hw] at q
        obtain ⟨p, h1, ⟨vs, h3, h4⟩, z, tc⟩ : CellR g w H (.lst ds) ((σ[i]?).getD none) := by
          rcases hs with h | ⟨_, _, ⟨_, _, _, _, e9, _⟩, _⟩
          · exact h
          · cases e9
        have h1 := getD_some h1
        refine ⟨_, h1, p, vs, rfl, .inl ⟨SqL.of h3, for_go env (wk_list (τ := τ) A.K h4 fun w1 H1 ρ1 τ1 σ1 b => b.st.fr p _ h3 (fun l => l.elim tc fun ⟨j, s, g1, o1, g3⟩ => ?_) fun ps z => nomatch z) (plain q)⟩⟩
        by_cases hj : j = i
        · subst hj; rw [e] at g1; cases g1; cases o1
        · exact env.ap j i s _ p hj g1 o1 e rfl g3 h1
      | _ => simp only [e] at q; exact q.elim
    | own d =>
      have hw : wasOwn i ρ = true := by unfold wasOwn; rw [e]
      cases d with
      | lst ds =>
        simp only [e, hw] at q
        obtain ⟨p, h1, ⟨vs, h3, h4⟩, z, tc⟩ := own_slot env e
        have env2 := lend_env env e
        have h5 : (ρ.set i (.bor (.lst ds)))[i]? = some (.bor (.lst ds)) := by rw [List.getElem?_set_self (List.getElem?_eq_some_iff.mp e).1]
        refine ⟨_, h1, p, vs, rfl, .inl ⟨SqL.of h3, for_go env2 (wk_list (τ := τ) A.K h4 fun w1 H1 ρ1 τ1 σ1 b => b.st.fr p _ h3 (fun l => l.elim tc fun ⟨j, s, g1, o1, g3⟩ => ?_) fun ps z => nomatch z) ?_⟩⟩
        · rcases set_get g1 with ⟨rfl, rfl⟩ | ⟨n, g1⟩
          · cases o1
          · exact env.ap j i s _ p n g1 o1 e rfl g3 h1
        · cases e2 : forL t b ds (ρ.set i (.bor (.lst ds))) τ with
          | nx ρ2 τ2 => simp only [e2] at q; exact fun w' H' σ' b => q w' H' σ' (unbor_ps env e b)
          | exc x ρ2 τ2 => simp only [e2] at q; exact fun w' H' σ' cls dx b hx => q w' H' σ' cls dx (unbor_ps env e b) hx
          | rt r τ2 =>
            simp only [e2] at q
            refine fun w' H' σ' ρ' v b hr => q w' H' σ' (unbor i true ρ') v (unbor_ps env e b) ?_
            have hr2 := hr.lend env e
            cases r with
            | fz d => exact hr2
            | own d =>
              obtain ⟨a, e3, g1, g2, g3, g4, g5⟩ := hr2
              refine ⟨a, e3, g1, g2, g3, fun c => g4 ?_, g5⟩
              obtain ⟨j, s, c1, c2, c3⟩ := c
              unfold unbor at c1
              rw [if_pos rfl] at c1
              split at c1
              · rename_i e5 he5
                rcases set_get c1 with ⟨rfl, rfl⟩ | ⟨_, c1⟩
                · exact ⟨_, _, he5, rfl, c3⟩
                · exact ⟨j, s, c1, c2, c3⟩
              · exact ⟨j, s, c1, c2, c3⟩
          | bk ρ2 τ2 => exact absurd e2 ((forL_no t b ds _ _).1 _ _)
          | ct ρ2 τ2 => exact absurd e2 ((forL_no t b ds _ _).2 _ _)
          | bad => simp only [e2] at q; exact q
      | _ => simp only [e] at q; exact q.elim
def whileF (c : Tv) (body : Sv) : Nat → Rho → Tape → SO
  | 0, _, _ => .bad
  | n + 1, ρ, τ => match c ρ τ with
    | .ok true ρ1 τ1 => (match body ρ1 τ1 with
      | .nx ρ2 τ2 => whileF c body n ρ2 τ2
      | .ct ρ2 τ2 => whileF c body n ρ2 τ2
      | .bk ρ2 τ2 => .nx ρ2 τ2
      | .rt r τ2 => .rt r τ2
      | .exc x ρ2 τ2 => .exc x ρ2 τ2
      | .bad => .bad)
    | .ok false ρ1 τ1 => .nx ρ1 τ1
    | .exc x ρ1 τ1 => .exc x ρ1 τ1
    | .bad => .bad
def FUEL : Nat := 1000000000000
def sWhile (c : Tv) (body : Sv) : Sv := whileF c body FUEL
theorem py_while {c : Expr} {cv : Tv} {body : List Stmt} {b : Sv} {pos : Pos} (hc : PyT g k X W c cv) (hb : PySs g k X W body b) : PyS g k X W (.While c body [] pos) (sWhile cv b) := fun A => (ps_while A.passes (hc A) (hb A)).imp' fun D σ H q => by
  obtain ⟨w0, ρ0, τ0, env0, q⟩ := q
  have q : SGo g W w0 H ρ0 σ D (whileF cv b FUEL ρ0 τ0) := q
  refine ⟨fun m σ1 H1 => ∃ w ρ τ, Ps g w0 H ρ0 σ w H1 ρ τ σ1 ∧ SGo g W w0 H ρ0 σ D (whileF cv b m ρ τ), ⟨FUEL, w0, ρ0, τ0, .refl env0, q⟩, ?_⟩
  rintro m σ1 H1 ⟨w, ρ, τ, p, go⟩
  cases m with
  | zero => exact go.elim
  | succ m =>
    rw [whileF] at go
    refine ⟨w, ρ, τ, p.env, ?_⟩
    cases e : cv ρ τ with
    | ok v ρ1 τ1 =>
      simp only [e] at go
      intro w1 H2 a
      have p2 := p.trans a
      cases v with
      | false => rw [if_neg Bool.false_ne_true]; exact go w1 H2 σ1 p2
      | true =>
        rw [if_pos rfl]
        refine ⟨fun σ' H' => ∃ m', m' < m + 1 ∧ ∃ w ρ τ, Ps g w0 H ρ0 σ w H' ρ τ σ' ∧ SGo g W w0 H ρ0 σ D (whileF cv b m' ρ τ), fun _ _ h => h, tS_go a.env ?_⟩
        cases e2 : b ρ1 τ1 with
        | nx ρ2 τ2 => simp only [e2] at go; exact fun w' H2 σ2 b => ⟨m, Nat.lt_succ_self m, w', ρ2, τ2, p2.trans b, go⟩
        | ct ρ2 τ2 => simp only [e2] at go; exact fun w' H2 σ2 b => ⟨m, Nat.lt_succ_self m, w', ρ2, τ2, p2.trans b, go⟩
        | bk ρ2 τ2 => simp only [e2] at go; exact fun w' H2 σ2 b => go w' H2 σ2 (p2.trans b)
        | rt r τ2 => simp only [e2] at go; exact fun w' H2 σ2 ρ' v b hr => go w' H2 σ2 ρ' v (p2.trans b) (hr.from p2)
        | exc x ρ2 τ2 => simp only [e2] at go; exact fun w' H2 σ2 cls dx b hx => go w' H2 σ2 cls dx (p2.trans b) hx
        | bad => simp only [e2] at go; exact go
    | exc x ρ1 τ1 => simp only [e] at go; exact fun w' H' cls dx a hx => go w' H' σ1 cls dx (p.trans a) hx
    | bad => simp only [e] at go; exact go
end
end PD
namespace PD
open PySem PySem.Spec L2
open PyProof.Rows hiding St

def noW : WX := fun _ _ _ _ => False
def wipeR (ρ : Rho) : List Nat → Rho
  | [] => ρ
  | v :: vs => (wipeR ρ vs).set v .un
def restR (ρ0 ρ : Rho) : List Nat → Rho
  | [] => ρ
  | v :: vs => (restR ρ0 ρ vs).set v ((ρ0[v]?).getD .un)
/-- the block's own names hold no containers -/
def freeIn (ρ : Rho) (vs : List Nat) : Bool := vs.all fun v => !isCell ((ρ[v]?).getD .un)
def tYesD : Tv := fun ρ τ => .ok true ρ τ
def lcL (t : Tg) (test : Tv) (elt : Ev) (own : List Nat) : List D → List D → Rho → Tape → O (List D)
  | [], acc, ρ, τ => .ok acc ρ τ
  | d :: ds, acc, ρ, τ => match asg t d ρ with
    | none => .bad
    | some ρ1 => (match test ρ1 τ with
      | .ok true ρ2 τ2 => (match vFz elt ρ2 τ2 with
        | .ok (.fz e) ρ3 τ3 => if acc.length < sizeLine then lcL t test elt own ds (acc ++ [e]) (wipeR ρ3 own) τ3 else .bad
        | _ => .bad)
      | .ok false ρ2 τ2 => lcL t test elt own ds acc (wipeR ρ2 own) τ2
      | _ => .bad)
def vLc (src : Src) (t : Tg) (own : List Nat) (test : Tv) (elt : Ev) : Ev := fun ρ τ => match src ρ τ with
  | .ok ds ρ1 τ1 => if freeIn ρ1 own then (match lcL t test elt own ds [] (wipeR ρ1 own) τ1 with
      | .ok acc ρ2 τ2 => .ok (.own (.lst acc)) (restR ρ1 ρ2 own) τ2
      | _ => .bad) else .bad
  | .exc x ρ1 τ1 => .exc x ρ1 τ1
  | .bad => .bad
theorem wipeR_len (ρ : Rho) : ∀ vs, (wipeR ρ vs).length = ρ.length
  | [] => rfl
  | v :: vs => by rw [wipeR, List.length_set, wipeR_len ρ vs]
theorem restR_len (ρ0 ρ : Rho) : ∀ vs, (restR ρ0 ρ vs).length = ρ.length
  | [] => rfl
  | v :: vs => by rw [restR, List.length_set, restR_len ρ0 ρ vs]
theorem wipeR_get {ρ : Rho} {j : Nat} {s : Sl} : ∀ {vs : List Nat}, (wipeR ρ vs)[j]? = some s → (j ∈ vs ∧ s = .un) ∨ (j ∉ vs ∧ ρ[j]? = some s)
  | [], h => .inr ⟨by simp, h⟩
  | v :: vs, h => by
    rw [wipeR] at h
    rcases set_get h with ⟨rfl, rfl⟩ | ⟨n, h⟩
    · exact .inl ⟨List.mem_cons_self, rfl⟩
    · rcases wipeR_get h with ⟨h1, h2⟩ | ⟨h1, h2⟩
      · exact .inl ⟨List.mem_cons_of_mem _ h1, h2⟩
      · exact .inr ⟨by simp only [List.mem_cons, not_or]; exact ⟨n, h1⟩, h2⟩
theorem restR_get {ρ0 ρ : Rho} {j : Nat} {s : Sl} : ∀ {vs : List Nat}, (restR ρ0 ρ vs)[j]? = some s → (j ∈ vs ∧ s = (ρ0[j]?).getD .un) ∨ (j ∉ vs ∧ ρ[j]? = some s)
  | [], h => .inr ⟨by simp, h⟩
  | v :: vs, h => by
    rw [restR] at h
    rcases set_get h with ⟨rfl, rfl⟩ | ⟨n, h⟩
    · exact .inl ⟨List.mem_cons_self, rfl⟩
    · rcases restR_get h with ⟨h1, h2⟩ | ⟨h1, h2⟩
      · exact .inl ⟨List.mem_cons_of_mem _ h1, h2⟩
      · exact .inr ⟨by simp only [List.mem_cons, not_or]; exact ⟨n, h1⟩, h2⟩
theorem wipe_not {σ : St} {j : Nat} : ∀ {vs : List Nat}, j ∉ vs → (wipe σ vs)[j]? = σ[j]?
  | [], _ => rfl
  | v :: vs, h => by
    simp only [List.mem_cons, not_or] at h
    unfold wipe
    rw [List.getElem?_set_ne (Ne.symm h.1)]
    exact wipe_not h.2
theorem wipe_in {σ : St} {j : Nat} {v : V} : ∀ {vs : List Nat}, j ∈ vs → (wipe σ vs)[j]? = some (some v) → False
  | w :: vs, hm, h => by
    unfold wipe at h
    rcases set_get h with ⟨_, e⟩ | ⟨n, h⟩
    · cases e
    · rcases List.mem_cons.mp hm with e | hm
      · exact n e
      · exact wipe_in hm h
theorem wipe_agree {σ σ' : St} {vs l : List Nat} (h : Agree l σ σ') (hl : ∀ j ∈ l, j ∈ vs) : wipe σ' vs = wipe σ vs := by
  refine List.ext_getElem? fun j => ?_
  by_cases hj : j ∈ vs
  · have none_or : ∀ (s : St), (wipe s vs)[j]? = none ∨ (wipe s vs)[j]? = some none := fun s => by
      cases e : (wipe s vs)[j]? with
      | none => exact .inl rfl
      | some o =>
        cases o with
        | none => exact .inr rfl
        | some v => exact (wipe_in hj e).elim
    have len : (wipe σ' vs).length = (wipe σ vs).length := by rw [wipe_length, wipe_length, h.1]
    by_cases hlt : j < (wipe σ vs).length
    · have a1 : (wipe σ vs)[j]? = some none := (none_or σ).resolve_left (by rw [List.getElem?_eq_getElem hlt]; exact fun z => nomatch z)
      have a2 : (wipe σ' vs)[j]? = some none := (none_or σ').resolve_left (by rw [List.getElem?_eq_getElem (len ▸ hlt)]; exact fun z => nomatch z)
      rw [a1, a2]
    · rw [List.getElem?_eq_none (by omega), List.getElem?_eq_none (by omega)]
  · rw [wipe_not hj, wipe_not hj]
    exact h.2 j fun z => hj (hl j z)
section
variable {g : G} {k : Nat} {X : Cx} {W : WX}
/-- the block's own names forgotten -/
theorem Ps.wiped {w : Wd} {H : Hp} {ρ : Rho} {τ : Tape} {σ : St} (env : EnvR g w H ρ τ σ) (vs : List Nat) : Ps g w H ρ σ w H (wipeR ρ vs) τ (wipe σ vs) := by
  refine ⟨⟨by rw [wipeR_len, wipe_length]; exact env.len, fun j s h => ?_, fun i j s t p n h1 o1 h2 o2 h3 h4 => ?_, env.zle, env.tape, env.tabs⟩, Step.refl _ _ _, fun a ⟨j, s, h1, o1, h3⟩ => ?_, fun j d h => ?_⟩
  · rcases wipeR_get h with ⟨_, rfl⟩ | ⟨n, h⟩
    · trivial
    · rw [wipe_not n]; exact env.sl j s h
  · rcases wipeR_get h1 with ⟨_, rfl⟩ | ⟨n1, h1⟩
    · cases o1
    · rcases wipeR_get h2 with ⟨_, rfl⟩ | ⟨n2, h2⟩
      · cases o2
      · rw [wipe_not n1] at h3
        rw [wipe_not n2] at h4
        exact env.ap i j s t p n h1 o1 h2 o2 h3 h4
  · rcases wipeR_get h1 with ⟨_, rfl⟩ | ⟨n1, h1⟩
    · cases o1
    · rw [wipe_not n1] at h3
      exact .inl ⟨j, s, h1, o1, h3⟩
  · rcases wipeR_get h with ⟨_, e⟩ | ⟨n, h⟩
    · cases e
    · exact ⟨h, wipe_not n⟩
theorem free_at {ρ : Rho} {vs : List Nat} (hf : freeIn ρ vs = true) {j : Nat} (hj : j ∈ vs) : isCell ((ρ[j]?).getD .un) = false := by
  have := List.all_eq_true.mp hf j hj
  simpa using this
/-- .. and told again behind it -/
theorem Ps.restored {w : Wd} {H : Hp} {ρ : Rho} {τ : Tape} {σ : St} (env : EnvR g w H ρ τ σ) {vs : List Nat} (hf : freeIn ρ vs = true) {w' : Wd} {H' : Hp} {ρ' : Rho} {τ' : Tape} (b : Ps g w H ρ σ w' H' ρ' τ' (wipe σ vs)) :
    Ps g w H ρ σ w' H' (restR ρ ρ' vs) τ' σ := by
  have notc : ∀ {j : Nat} {s : Sl}, (restR ρ ρ' vs)[j]? = some s → isCell s = true → j ∉ vs ∧ ρ'[j]? = some s ∧ (wipe σ vs)[j]? = σ[j]? := fun {j s} h c => by
    rcases restR_get h with ⟨h1, rfl⟩ | ⟨h1, h2⟩
    · rw [free_at hf h1] at c; cases c
    · exact ⟨h1, h2, wipe_not h1⟩
  refine ⟨⟨?_, fun j s h => ?_, fun i j s t p n h1 o1 h2 o2 h3 h4 => ?_, b.env.zle, b.env.tape, b.env.tabs⟩, b.st, fun a ⟨j, s, h1, o1, h3⟩ => ?_, fun j d h => ?_⟩
  · rw [restR_len, b.env.len, wipe_length]
  · rcases restR_get h with ⟨h1, rfl⟩ | ⟨h1, h2⟩
    · have c := free_at hf h1
      cases e : ρ[j]? with
      | none => trivial
      | some s =>
        have hs := env.sl j s e
        rw [e] at c
        cases s with
        | un => trivial
        | fz d => obtain ⟨u, e1, r⟩ := hs; exact ⟨u, e1, by rw [b.st.tp]; exact Rep.mono b.st.z _ r⟩
        | own d => cases c
        | bor d => cases c
    · have := b.env.sl j s h2
      rwa [wipe_not h1] at this
  · obtain ⟨n1, g1, e1⟩ := notc h1 (isCell_of_own o1)
    obtain ⟨n2, g2, e2⟩ := notc h2 o2
    exact b.env.ap i j s t p n g1 o1 g2 o2 (by rw [e1]; exact h3) (by rw [e2]; exact h4)
  · obtain ⟨n1, g1, e1⟩ := notc h1 (isCell_of_own o1)
    exact b.lic a ⟨j, s, g1, o1, by rw [e1]; exact h3⟩
  · obtain ⟨n1, g1, e1⟩ := notc h rfl
    exact ⟨(b.bor j d g1).1, rfl⟩
/-- a list of one's own, held by no slot, grows -/
theorem Ps.tmp {w : Wd} {H : Hp} {ρ : Rho} {σ : St} {w1 : Wd} {H1 : Hp} {ρ1 : Rho} {τ1 : Tape} {σ1 : St} (a : Ps g w H ρ σ w1 H1 ρ1 τ1 σ1) {acc : List D} {e : D} {v : V} {Dd : Addr} (hn : H Dd = none) (r : RsR g w H ρ σ w1 H1 ρ1 σ1 (.own (.lst acc)) (.ref Dd)) (rv : Rep g w1.Z w1.tp e v) :
    ∃ us, H1 Dd = some (.lst us) ∧ us.length = acc.length ∧ Ps g w H ρ σ w1 (upd H1 Dd (.lst (us ++ [v]))) ρ1 τ1 σ1 ∧ RsR g w H ρ σ w1 (upd H1 Dd (.lst (us ++ [v]))) ρ1 σ1 (.own (.lst (acc ++ [e]))) (.ref Dd) := by
  obtain ⟨p, ep, ⟨us, h1, h2⟩, h3, h4, h5, h6⟩ := r
  injection ep with ep
  subst ep
  have env := a.env
  have ne : ∀ {b : Addr} {o : HO}, w1.Z b = some o → b ≠ Dd := fun {b o} h n => by rw [n, h3] at h; cases h
  have cell : ∀ {x : D} {j : Nat} {s : Sl}, ρ1[j]? = some s → isCell s = true → CellR g w1 H1 x ((σ1[j]?).getD none) → CellR g w1 (upd H1 Dd (.lst (us ++ [v]))) x ((σ1[j]?).getD none) := fun {x j s} h c ⟨b, e2, r2, z2, t2⟩ => by
    have nb : b ≠ Dd := fun q => h5 ⟨j, s, h, c, by rw [← q]; exact getD_some e2⟩
    refine ⟨b, e2, ?_, z2, t2⟩
    cases x with
    | lst ds => obtain ⟨vs, h7, h8⟩ := r2; exact ⟨vs, by rw [upd_ne nb]; exact h7, h8⟩
    | dic kvs => obtain ⟨ks, h7, h8⟩ := r2; exact ⟨ks, by rw [upd_ne nb]; exact h7, h8⟩
    | _ => exact r2
  refine ⟨us, h1, h2.length, ⟨⟨env.len, fun j s h => ?_, env.ap, fun b x h => by rw [upd_ne (ne h)]; exact env.zle b x h, fun tt l c q => ?_, ⟨env.tabs.1, fun P hP => ?_⟩⟩, ⟨a.st.z, a.st.tp, fun b x h n nt => ?_, a.st.nz, fun b h => ?_⟩, a.lic, a.bor⟩, Dd, rfl, ⟨_, upd_same, h2.app (.sing rv)⟩, h3, h4, h5, h6⟩
  · have := env.sl j s h
    cases s with
    | un => trivial
    | fz x => exact this
    | own x => exact cell h rfl this
    | bor x => exact this.imp (cell h rfl) fun g => g.map (fun q x y e1 e2 z2 t2 => ⟨by rw [upd_ne (fun k => h5 ⟨j, _, h, rfl, by rw [← k]; exact getD_some e1⟩)]; exact e2, z2, t2⟩) fun _ _ h => h
  · have T := env.tape tt l c q
    have n3 : ∀ {b : Addr}, tcell w1 b → b ≠ Dd := fun {b} h n => h4 (n ▸ h)
    exact ⟨by rw [upd_ne (n3 ⟨tt, l, c, q, .inl rfl⟩)]; exact T.ht, by rw [upd_ne (n3 ⟨tt, l, c, q, .inr rfl⟩)]; exact T.hl, T.hc, T.zt, T.zl⟩
  · obtain ⟨ps, g1, g2⟩ := env.tabs.2 P hP
    exact ⟨ps, by rw [upd_ne (fun n => by rw [n, h1] at g1; cases g1)]; exact g1, g2⟩
  · have nb : b ≠ Dd := fun q => by rw [q, hn] at h; cases h
    rw [upd_ne nb]
    exact a.st.fr b x h n nt
  · by_cases hb : b = Dd
    · rw [hb]; exact hn
    · rw [upd_ne hb] at h; exact a.st.al b h
theorem At.blk (A : At g k X W) (s : Shared) (H : Hp) (scope : Scope) (cenv : Env) (fp : List Addr) : At g k (X.blk s H scope cenv fp) noW :=
  ⟨A.room, A.prog, A.w, A.K, A.mg, A.base, A.calm, A.nd, A.guards, fun u s' ⟨_, _, _, _, _, _, _, _, _, _, _, _, _, _, _, _, h⟩ => h.elim, PassesOwn.never⟩
def PyTs (g : G) (k : Nat) (X : Cx) (W : WX) (es : List Expr) (tv : Tv) : Prop := At g k X W → PTs X es (tT g W tv)
theorem pts_no : PyTs g k X W [] tYesD := fun A => ⟨fun pins s σ H Q I h => by
  obtain ⟨w, ρ, τ, env, q⟩ := h
  exact pts_nil.run pins s σ H Q I (q w H (.refl env))⟩
theorem pts_if {c : Expr} {tv : Tv} (h : PyT g k X W c tv) : PyTs g k X W [c] tv := fun A => pts_one (h A)
theorem lc_go {src : Src} {t : Tg} {own : List Nat} {test : Tv} {elt : Ev} {σ : St} {H : Hp} {Q : VK} (hsub : ∀ j ∈ t.sl, j ∈ own) (q : tD g W (vLc src t own test elt) σ H Q) : tLc (tI g W src) (tG g t) (tT g noW test) (tD g noW (vFz elt)) own σ H Q := by
  obtain ⟨w, ρ, τ, env, q⟩ := q
  refine ⟨w, ρ, τ, env, ?_⟩
  unfold vLc at q
  cases e : src ρ τ with
  | exc x ρ' τ' => simp only [e] at q; exact q
  | bad => simp only [e] at q
  | ok ds ρ1 τ1 =>
    simp only [e] at q
    by_cases hf : freeIn ρ1 own = true
    · simp only [hf, if_true] at q
      intro w1 H1 J a ⟨C, Y, wl, hold, yl⟩ Dd hD
      obtain ⟨b0, r0⟩ := (Ps.refl a.env).newLst (es := []) (us := []) hD (by rw [RepL])
      have w0 := Ps.wiped b0.env own
      have start := b0.trans w0
      -- the loop's data from a turn on
      refine lc_it wl (fun i H2 => ∃ w2 ρ2 τ2 acc, Ps g w1 H1 ρ1 σ w2 H2 ρ2 τ2 (wipe σ own) ∧ RsR g w1 H1 ρ1 σ w2 H2 ρ2 (wipe σ own) (.own (.lst acc)) (.ref Dd) ∧ lcL t test elt own (ds.drop i) acc ρ2 τ2 = lcL t test elt own ds [] (wipeR ρ1 own) τ1)
        ⟨w1, wipeR ρ1 own, τ1, [], start, r0.keep w0, rfl⟩ (fun i H2 _ ⟨w2, ρ2, τ2, acc, p, _⟩ => hold _ _ _ _ _ p) ?_ ?_
      · rintro i x H2 H3 hi ⟨w2, ρ2, τ2, acc, p, r, go⟩ y
        have hd : ds[i]? = some ds[i] := List.getElem?_eq_getElem hi
        obtain ⟨w3, p3, rx⟩ := yl i _ w2 H2 ρ2 τ2 _ x H3 hd p y
        have r3 := r.keep p3
        have q3 := p.trans p3
        rw [List.drop_eq_getElem_cons hi, lcL] at go
        refine ⟨w3, ρ2, τ2, ds[i], p3.env, rx, ?_⟩
        cases e1 : asg t ds[i] ρ2 with
        | none =>
          simp only [e1] at go
          rw [← go] at q
          exact q
        | some ρ3 =>
          simp only [e1] at go
          intro σ3 a3 ag
          have ew : wipe σ3 own = wipe σ own := (wipe_agree ag hsub).trans (wipe_agree ⟨wipe_length _ _, fun j hj => wipe_not hj⟩ fun _ h => h)
          refine ⟨ew, w3, ρ3, τ2, a3.env, ?_⟩
          have r4 := r3.keep a3
          have q4 := q3.trans a3
          cases e2 : test ρ3 τ2 with
          | exc x ρ4 τ4 => simp only [e2] at go; rw [← go] at q; exact q.elim
          | bad => simp only [e2] at go; rw [← go] at q; exact q.elim
          | ok b ρ4 τ4 =>
            simp only [e2] at go
            intro w4 H4 p4
            have r5 := r4.keep p4
            have q5 := q4.trans p4
            cases b with
            | false =>
              rw [if_neg Bool.false_ne_true]
              have ww := Ps.wiped p4.env own
              rw [ew] at ww
              exact ⟨w4, _, τ4, acc, q5.trans ww, r5.keep ww, go⟩
            | true =>
              rw [if_pos rfl]
              refine ⟨w4, ρ4, τ4, p4.env, ?_⟩
              cases e3 : vFz elt ρ4 τ4 with
              | exc x ρ5 τ5 => simp only [e3] at go; rw [← go] at q; exact q.elim
              | bad => simp only [e3] at go; rw [← go] at q; exact q.elim
              | ok rs ρ5 τ5 =>
                simp only [e3] at go
                cases rs with
                | own d => simp only at go; rw [← go] at q; exact q.elim
                | fz d =>
                  simp only at go
                  intro w5 H5 v p5 rv
                  have r6 := r5.keep p5
                  have q6 := q5.trans p5
                  obtain ⟨us, g1, g2, g3, g4⟩ := q6.tmp hD r6 rv
                  by_cases hl : acc.length < sizeLine
                  · simp only [hl, if_true] at go
                    have ww := Ps.wiped g3.env own
                    rw [ew] at ww
                    exact ⟨us, g1, by rw [g2]; exact hl, w5, _, τ5, _, g3.trans ww, g4.keep ww, go⟩
                  · simp only [hl, if_false] at go
                    rw [← go] at q
                    exact q.elim
      · rintro H2 ⟨w2, ρ2, τ2, acc, p, r, go⟩
        rw [List.drop_length, lcL] at go
        rw [← go] at q
        simp only at q
        have pr := Ps.restored a.env hf p
        refine q w2 H2 (.ref Dd) (a.trans pr) (RsR.from a ?_)
        obtain ⟨p', e1, h1, h2, h3, h4, h5⟩ := r
        injection e1 with e1
        subst e1
        refine ⟨Dd, rfl, h1, h2, h3, fun ⟨j, s, c1, c2, c3⟩ => ?_, .inl hD⟩
        rcases restR_get c1 with ⟨m, rfl⟩ | ⟨m, c1⟩
        · rw [free_at hf m] at c2; cases c2
        · exact h4 ⟨j, s, c1, c2, by rw [wipe_not m]; exact c3⟩
    · simp only [hf] at q
      exact False.elim q
theorem py_lc {elt tg iter : Expr} {ifs : List Expr} {scope : Scope} {own : List (Str × Nat)} {pos : Pos} {src : Src} {t : Tg} {test : Tv} {ev : Ev} (hi : PyI g k X W tg iter src) (ok : blkC X.N X.env.scope scope own = true)
    (hg : ∀ (s : Shared) (H : Hp) (C : Addr) (cl : List (Str × Addr)) (fp : List Addr), PyG g k (X.blk s H scope (compEnvC scope cl C X.env) fp) noW tg t) (ht : ∀ (s : Shared) (H : Hp) (C : Addr) (cl : List (Str × Addr)) (fp : List Addr), PyTs g k (X.blk s H scope (compEnvC scope cl C X.env) fp) noW ifs test)
    (he : ∀ (s : Shared) (H : Hp) (C : Addr) (cl : List (Str × Addr)) (fp : List Addr), PyE g k (X.blk s H scope (compEnvC scope cl C X.env) fp) noW elt ev) (hsub : t.sl.all (fun j => decide (j ∈ own.map (·.2))) = true := by decide) (hs : ∀ x, foldedSetIterable iter X.env x = pure x := by intro _; rfl) :
    PyE g k X W (.ListComp elt [⟨tg, iter, ifs, 0⟩] scope pos) (vLc src t (own.map (·.2)) test ev) := fun A =>
  (pe_lc A.calm A.nd (hi A) (blkOk_by ok) (fun s H C cl fp => hg s H C cl fp (A.blk _ _ _ _ _)) (fun s H C cl fp => ht s H C cl fp (A.blk _ _ _ _ _)) (fun s H C cl fp => py_fz (he s H C cl fp) (A.blk _ _ _ _ _)) hs).imp' fun σ H Q q =>
    lc_go (fun j hj => by simpa using List.all_eq_true.mp hsub j hj) q
theorem py_setLc {i : Nat} {y : Str} {py : Pos} {elt tg iter : Expr} {ifs : List Expr} {scope : Scope} {own : List (Str × Nat)} {pos spos : Pos} {src : Src} {t : Tg} {test : Tv} {ev : Ev} (hi : PyI g k X W tg iter src) (ok : blkC X.N X.env.scope scope own = true)
    (hg : ∀ (s : Shared) (H : Hp) (C : Addr) (cl : List (Str × Addr)) (fp : List Addr), PyG g k (X.blk s H scope (compEnvC scope cl C X.env) fp) noW tg t) (ht : ∀ (s : Shared) (H : Hp) (C : Addr) (cl : List (Str × Addr)) (fp : List Addr), PyTs g k (X.blk s H scope (compEnvC scope cl C X.env) fp) noW ifs test)
    (he : ∀ (s : Shared) (H : Hp) (C : Addr) (cl : List (Str × Addr)) (fp : List Addr), PyE g k (X.blk s H scope (compEnvC scope cl C X.env) fp) noW elt ev) (hsub : t.sl.all (fun j => decide (j ∈ own.map (·.2))) = true := by decide) (hy : X.N[i]? = some y := by rfl) (hyl : X.env.scope.names.lookup y = some .local := by rfl)
    (hk : X.env.scope.kind = .function := by rfl) (hl : (py.line == pos.line) = true := by rfl) (ha : (scope.names.any fun (n, k) => n == y && (k == .local || k == .cell)) = false := by decide +kernel) (hs : ∀ x, foldedSetIterable iter X.env x = pure x := by intro _; rfl) :
    PyS g k X W (.Assign [.Name y py] (.ListComp elt [⟨tg, iter, ifs, 0⟩] scope pos) spos) (sSet i (vLc src t (own.map (·.2)) test ev)) := fun A =>
  (ps_setLc A.calm A.nd hy hyl (sw_true hk hyl hl ha) (hi A) (blkOk_by ok) (fun s H C cl fp => hg s H C cl fp (A.blk _ _ _ _ _)) (fun s H C cl fp => ht s H C cl fp (A.blk _ _ _ _ _)) (fun s H C cl fp => py_fz (he s H C cl fp) (A.blk _ _ _ _ _)) hs).imp' fun D σ H q =>
    lc_go (fun j hj => by simpa using List.all_eq_true.mp hsub j hj) (tS_set q)
end
end PD
namespace PD
open PySem PySem.Spec L2
open PyProof.Rows hiding St

inductive FO where
  | rt (r : Rs) (τ : Tape) | exc (x : D) (τ : Tape) | bad
/-- a function by data: the parameters' slots, the tape -/
abbrev Mf := List Sl → Tape → FO
/-- what stands at the entry -/
structure Ent (g : G) (w : Wd) (H : Hp) (sl : List Sl) (τ : Tape) (vs : List V) : Prop where
  len : sl.length = vs.length
  slt : ∀ (i : Nat) s, sl[i]? = some s → SlR g w H s (vs[i]?)
  no : ∀ s ∈ sl, isOwn s = false
  zle : ZLe w.Z H
  tape : TapeR g w H τ
  tabs : TabsK g.T w.Z H
/-- what a function leaves -/
structure Fin' (g : G) (w : Wd) (H : Hp) (w' : Wd) (H' : Hp) (τ' : Tape) : Prop where
  st : Step (tcell w) w H w' H'
  zle : ZLe w'.Z H'
  tape : TapeR g w' H' τ'
  tabs : TabsK g.T w'.Z H'
def FRs (g : G) (H : Hp) (w' : Wd) (H' : Hp) : Rs → V → Prop
  | .fz d, v => Rep g w'.Z w'.tp d v
  | .own d, v => ∃ p, v = .ref p ∧ OwnR g w' H' d p ∧ w'.Z p = none ∧ ¬ tcell w' p ∧ H p = none
def spM (g : G) (m : Mf) : Sp := fun vs H Q E => ∃ w τ sl, Ent g w H sl τ vs ∧ match m sl τ with
  | .rt r τ' => ∀ w' H' v, Fin' g w H w' H' τ' → FRs g H w' H' r v → Q v H'
  | .exc x τ' => ∀ w' H' cls dx, Fin' g w H w' H' τ' → ExR g w' x cls dx → E cls dx H'
  | .bad => False
/-- the function object at f promises m -/
def FnG (g : G) (k : Nat) (f : Addr) (fd : FuncData) (ps : List Str) (m : Mf) : Prop :=
  ∀ (A : Around) (outer : List Env) (s : Shared) (H : Hp) (args : Args) (us : List Value) (vs : List V) (Q : VK) (E : XK), Room k A → A.guards = some [] →
    Env0 g.prog g.w g.K g.mg g.base A outer s H → BindsTo s fd args (ps.zip us) → Vals vs us → vs.length = ps.length → spM g m vs H Q E →
    codeAny (model g.prog g.w) A (.call (.ref f) args) (CR (L2.CX g.prog g.w) outer g.prog g.w H s Q E) s
theorem FnG.mono {g : G} {j k : Nat} {f : Addr} {fd : FuncData} {ps : List Str} {m : Mf} (F : FnG g j f fd ps m) (h : j ≤ k) : FnG g k f fd ps m := fun A outer s H args us vs Q E hr => F A outer s H args us vs Q E (hr.mono h)

theorem call_ps {g : G} {w : Wd} {H : Hp} {ρ : Rho} {σ : St} {w1 : Wd} {H1 : Hp} {ρ1 : Rho} {τ1 : Tape} {σ1 : St} (a : Ps g w H ρ σ w1 H1 ρ1 τ1 σ1) {w' : Wd} {H' : Hp} {τ' : Tape} (b : Fin' g w1 H1 w' H' τ') : Ps g w H ρ σ w' H' ρ1 τ' σ1 := by
  have e := a.env
  have cell : ∀ {x : D} {v : Option V}, CellR g w1 H1 x v → CellR g w' H' x v := fun {x v} ⟨q, e2, r2, z2, t2⟩ => by
    obtain ⟨o, ho, ht, _⟩ := r2.at
    have ho2 := b.st.fr q o ho t2 ht
    refine ⟨q, e2, ?_, ?_, fun t => t2 ((tcell_tp b.st.tp).mp t)⟩
    · cases x with
      | lst ds => obtain ⟨vs, h3, h4⟩ := r2; rw [ho] at h3; cases h3; exact ⟨vs, ho2, by rw [b.st.tp]; exact RepL.mono b.st.z _ h4⟩
      | dic kvs => obtain ⟨ks, h3, h4⟩ := r2; rw [ho] at h3; cases h3; exact ⟨ks, ho2, by rw [b.st.tp]; exact RepKV.mono b.st.z _ h4⟩
      | _ => exact r2
    · cases q' : w'.Z q with
      | none => rfl
      | some u =>
        rcases b.st.nz q z2 (by rw [q']; exact fun z => nomatch z) with n | n
        · rw [ho] at n; cases n
        · exact (t2 n).elim
  refine ⟨⟨e.len, fun i s h => ?_, e.ap, b.zle, b.tape, b.tabs⟩, a.st.trans b.st fun p l => .inl (.inl ((tcell_tp a.st.tp).mp l)), a.lic, a.bor⟩
  have hs := e.sl i s h
  cases s with
  | un => trivial
  | fz d => obtain ⟨u, e1, r⟩ := hs; exact ⟨u, e1, by rw [b.st.tp]; exact Rep.mono b.st.z _ r⟩
  | own d => exact cell hs
  | bor d =>
    refine hs.imp cell fun h => h.map (fun q x y e1 e2 z2 t2 => ⟨b.st.fr q _ e2 t2 (fun _ q => nomatch q), ?_, fun t => t2 ((tcell_tp b.st.tp).mp t)⟩) fun _ _ h => by rw [b.st.tp]; exact RepKV.mono b.st.z _ h
    cases q' : w'.Z q with
    | none => rfl
    | some u =>
      rcases b.st.nz q z2 (by rw [q']; exact fun z => nomatch z) with n | n
      · rw [e2] at n; cases n
      · exact (t2 n).elim
theorem call_rs {g : G} {w : Wd} {H : Hp} {ρ : Rho} {σ : St} {w1 : Wd} {H1 : Hp} {ρ1 : Rho} {τ1 : Tape} {σ1 : St} (a : Ps g w H ρ σ w1 H1 ρ1 τ1 σ1) {w' : Wd} {H' : Hp} {τ' : Tape} (b : Fin' g w1 H1 w' H' τ') {r : Rs} {v : V} (h : FRs g H1 w' H' r v) : RsR g w H ρ σ w' H' ρ1 σ1 r v := by
  cases r with
  | fz d => exact h
  | own d =>
    obtain ⟨p, e1, h1, h2, h3, h4⟩ := h
    refine ⟨p, e1, h1, h2, h3, fun ⟨i, s, c1, c2, c3⟩ => ?_, .inl (a.st.al p h4)⟩
    have hs := a.env.sl i s c1
    rw [c3] at hs
    cases s with
    | un => cases c2
    | fz d => cases c2
    | own d => obtain ⟨q, e2, r2, _⟩ := hs; obtain ⟨o, ho, _⟩ := r2.at; cases e2; rw [h4] at ho; cases ho
    | bor d =>
      rcases hs with ⟨q, e2, r2, _⟩ | ⟨q, e2, ⟨_, _, _, _, _, ho, _⟩, _⟩
      · obtain ⟨o, ho, _⟩ := r2.at; cases e2; rw [h4] at ho; cases ho
      · cases e2; rw [h4] at ho; cases ho
/-- the slots that a callee gets -/
def slLend : Sl → Option Sl
  | .un => none
  | .fz d => some (.fz d)
  | .own d => some (.bor d)
  | .bor d => some (.bor d)
def aSl (ρ : Rho) : List (Sum D Nat) → Option (List Sl)
  | [] => some []
  | .inl d :: r => (aSl ρ r).map (.fz d :: ·)
  | .inr i :: r => match (ρ[i]?).bind slLend with
    | some s => (aSl ρ r).map (s :: ·)
    | none => none
theorem pre_ent {g : G} {w : Wd} {H : Hp} {ρ : Rho} {τ : Tape} {σ : St} (env : EnvR g w H ρ τ σ) : ∀ {xs : List (Sum D Nat)} {sl : List Sl} {vs : List V}, aSl ρ xs = some sl → PreL g w σ xs vs → Ent g w H sl τ vs
  | [], sl, vs, h, p => by
    cases h
    have p : vs = [] := p
    subst p
    exact ⟨rfl, fun i s h => by simp at h, fun s h => by simp at h, env.zle, env.tape, env.tabs⟩
  | .inl d :: r, sl, vs, h, p => by
    obtain ⟨v, r', e, h1, h2⟩ := p
    rw [aSl] at h
    cases q : aSl ρ r with
    | none => rw [q] at h; cases h
    | some es =>
      rw [q] at h
      cases h
      subst e
      have E := pre_ent env q h2
      refine ⟨congrArg Nat.succ E.len, fun i s h => ?_, fun s h => ?_, env.zle, env.tape, env.tabs⟩
      · cases i with
        | zero => cases h; exact ⟨v, rfl, h1⟩
        | succ i => exact E.slt i s h
      · rcases List.mem_cons.mp h with rfl | h
        · rfl
        · exact E.no s h
  | .inr i :: r, sl, vs, h, p => by
    obtain ⟨v, r', e, h1, h2⟩ := p
    rw [aSl] at h
    cases k : (ρ[i]?).bind slLend with
    | none => rw [k] at h; cases h
    | some d =>
      rw [k] at h
      cases q : aSl ρ r with
      | none => rw [q] at h; cases h
      | some es =>
        rw [q] at h
        cases h
        subst e
        have E := pre_ent env q h2
        obtain ⟨s, k1, k2⟩ := Option.bind_eq_some_iff.mp k
        have hs := env.sl i s k1
        rw [h1] at hs
        refine ⟨congrArg Nat.succ E.len, fun j t h => ?_, fun t h => ?_, env.zle, env.tape, env.tabs⟩
        · cases j with
          | zero =>
            cases h
            cases s <;> cases k2
            · exact hs
            · exact .inl hs
            · exact hs
          | succ j => exact E.slt j t h
        · rcases List.mem_cons.mp h with rfl | h
          · cases s <;> cases k2 <;> rfl
          · exact E.no t h
/-- slots in another order -/
theorem Ent.pick {g : G} {w : Wd} {H : Hp} {sl : List Sl} {τ : Tape} {vs : List V} (E : Ent g w H sl τ vs) (p : List Nat) (hp : ∀ i ∈ p, i < vs.length) : Ent g w H (p.filterMap fun i => sl[i]?) τ (p.filterMap fun i => vs[i]?) := by
  induction p with
  | nil => exact ⟨rfl, fun i s h => by simp at h, fun s h => by simp at h, E.zle, E.tape, E.tabs⟩
  | cons i p ih =>
    have ih := ih fun j hj => hp j (List.mem_cons_of_mem _ hj)
    have hi : i < vs.length := hp i List.mem_cons_self
    have hv : vs[i]? = some vs[i] := List.getElem?_eq_getElem hi
    have hsl : i < sl.length := by rw [E.len]; exact hi
    have hs : sl[i]? = some sl[i] := List.getElem?_eq_getElem hsl
    rw [List.filterMap_cons_some hv, List.filterMap_cons_some hs]
    refine ⟨congrArg Nat.succ ih.len, fun j s h => ?_, fun s h => ?_, E.zle, E.tape, E.tabs⟩
    · cases j with
      | zero =>
        cases h
        have z := E.slt i _ hs
        rw [hv] at z
        exact z
      | succ j => exact ih.slt j s h
    · rcases List.mem_cons.mp h with rfl | h
      · exact E.no _ (List.getElem_mem _)
      · exact ih.no s h

def mBody (n : Nat) (sv : Sv) : Mf := fun sl τ => match sv (sl ++ List.replicate n .un) τ with
  | .rt r τ' => .rt r τ'
  | .nx _ τ' => .rt (.fz .non) τ'
  | .exc x _ τ' => .exc x τ'
  | _ => .bad
theorem start_get {N : List Str} {vs : List V} {i : Nat} (h : i < vs.length) : (L2.start N vs)[i]? = some (vs[i]?) := by
  unfold L2.start
  rw [List.getElem?_append_left (by simpa using h), List.getElem?_map, List.getElem?_eq_getElem h]
  rfl
theorem ent_env {g : G} {w : Wd} {H : Hp} {sl : List Sl} {τ : Tape} {vs : List V} {N : List Str} {n : Nat} (E : Ent g w H sl τ vs) (hn : N.length - vs.length = n) : EnvR g w H (sl ++ List.replicate n .un) τ (L2.start N vs) := by
  have at_ : ∀ {i : Nat} {s : Sl}, (sl ++ List.replicate n Sl.un)[i]? = some s → s = .un ∨ (sl[i]? = some s ∧ (L2.start N vs)[i]? = some (vs[i]?)) := fun {i s} h => by
    by_cases hi : i < sl.length
    · rw [List.getElem?_append_left hi] at h
      exact .inr ⟨h, start_get (by rw [← E.len]; exact hi)⟩
    · rw [List.getElem?_append_right (by omega), List.getElem?_replicate] at h
      split at h
      · cases h; exact .inl rfl
      · cases h
  refine ⟨?_, fun i s h => ?_, fun i j s t p ne h1 o1 h2 o2 h3 h4 => ?_, E.zle, E.tape, E.tabs⟩
  · unfold L2.start
    rw [List.length_append, List.length_append, List.length_map, List.length_replicate, List.length_replicate, E.len, hn]
  · rcases at_ h with rfl | ⟨h1, h2⟩
    · trivial
    · rw [h2]; exact E.slt i s h1
  · rcases at_ h1 with rfl | ⟨g1, _⟩
    · cases o1
    · rw [E.no s (List.mem_of_getElem? g1)] at o1; cases o1
theorem ent_own {g : G} {w : Wd} {H : Hp} {sl : List Sl} {τ : Tape} {vs : List V} {σ : St} {n : Nat} (E : Ent g w H sl τ vs) {a : Addr} (h : ownAt (sl ++ List.replicate n .un) σ a) : False := by
  obtain ⟨i, s, h1, o1, _⟩ := h
  rcases List.mem_append.mp (List.mem_of_getElem? h1) with m | m
  · rw [E.no s m] at o1; cases o1
  · rw [(List.mem_replicate.mp m).2] at o1; cases o1
theorem ps_fin {g : G} {w : Wd} {H : Hp} {sl : List Sl} {τ : Tape} {vs : List V} {σ : St} {n : Nat} (E : Ent g w H sl τ vs) {w' : Wd} {H' : Hp} {ρ' : Rho} {τ' : Tape} {σ' : St} (a : Ps g w H (sl ++ List.replicate n .un) σ w' H' ρ' τ' σ') : Fin' g w H w' H' τ' :=
  ⟨a.st.mono fun p l => l.elim id fun o => (ent_own E o).elim, a.env.zle, a.env.tape, a.env.tabs⟩
theorem rs_fin {g : G} {w : Wd} {H : Hp} {sl : List Sl} {τ : Tape} {vs : List V} {σ : St} {n : Nat} (E : Ent g w H sl τ vs) {w' : Wd} {H' : Hp} {ρ' : Rho} {σ' : St} {r : Rs} {v : V} (h : RsR g w H (sl ++ List.replicate n .un) σ w' H' ρ' σ' r v) : FRs g H w' H' r v := by
  cases r with
  | fz d => exact h
  | own d =>
    obtain ⟨p, e1, h1, h2, h3, h4, h5⟩ := h
    exact ⟨p, e1, h1, h2, h3, h5.elim id fun o => (ent_own E o).elim⟩
abbrev WB (E : XK) : WX := fun cls d _ H => E cls d H
/-- the context of a function's body -/
abbrev cxG (g : G) (N : List Str) (qual : Str) (scope : Scope) (f : Addr) (cd : Value) (A : Around) (outer : List Env) (s : Shared) (H : Hp) (E : XK) : Cx := cxOf (L2.CX g.prog g.w) g.prog g.w g.K g.mg g.base N qual scope f cd A outer s H E
theorem at_fn {g : G} {k : Nat} {N ps : List Str} {qual : Str} {scope : Scope} {f : Addr} {cd : Value} {A : Around} {outer : List Env} {s : Shared} {H : Hp} {E : XK} (S : FnScope N ps scope) (hr : Room k (A.deeper (envOfC qual scope s.heap.objs.size f cd))) (hg : A.guards = some []) : At g k (cxG g N qual scope f cd A outer s H E) (WB E) where
  room := hr
  prog := rfl
  w := rfl
  K := rfl
  mg := rfl
  base := rfl
  calm := rfl
  nd := S.nd
  guards := hg
  takes := takes_of rfl rfl rfl rfl
  passes := passes_of rfl
/-- what a body's reading must give -/
theorem body_spM {g : G} {N ps : List Str} {n : Nat} {sv : Sv} {vs : List V} {H : Hp} {Q : VK} {E : XK} (hl : vs.length = ps.length) (hn : N.length - ps.length = n) (q : spM g (mBody n sv) vs H Q E) : tS g (WB E) sv { nx := fun _ H' => Q .non H', rt := Q } (L2.start N vs) H := by
  obtain ⟨w, τ, sl, en, q⟩ := q
  refine tS_go (ρ := sl ++ List.replicate n .un) (ent_env en (by rw [hl]; exact hn)) ?_
  unfold mBody at q
  cases e : sv (sl ++ List.replicate n .un) τ with
  | nx ρ' τ' => simp only [e] at q; exact fun w' H' σ' a => q w' H' .non (ps_fin en a) (rep_non (g := g) (Z := w'.Z) (tp := w'.tp))
  | rt r τ' => simp only [e] at q; exact fun w' H' σ' ρ' v a hr => q w' H' v (ps_fin en a) (rs_fin en hr)
  | exc x ρ' τ' => simp only [e] at q; exact fun w' H' σ' cls dx a hx => q w' H' cls dx (ps_fin en a) hx
  | bk ρ' τ' => simp only [e] at q
  | ct ρ' τ' => simp only [e] at q
  | bad => simp only [e] at q
/-- THE RULE for a def of the module -/
theorem fnG_of {g : G} {k n : Nat} {x qual : Str} {st : Stmt} {f : Addr} {fd : FuncData} {N ps : List Str} {sv : Sv} (F : L2.Fun g.K x qual st f fd) (S : FnScope N ps (defScope st)) (hn : N.length - ps.length = n)
    (hb : ∀ (cdv : Value) (A : Around) (outer : List Env) (s : Shared) (H : Hp) (E : XK), PySs g k (cxG g N qual (defScope st) f cdv A outer s H E) (WB E) (defBody st) sv) : FnG g (k + 1) f fd ps (mBody n sv) := by
  obtain ⟨oc, od, kV, doc, pm, an, cdv, ct, osl, rfl, lk, hcd⟩ := F.ex
  intro A outer s H args us vs Q E hr hg e0 hbd r hl hsp
  exact LamX.run_ofS lk hcd S hr e0 hbd r hl fun hr' => ⟨_, hb cdv A outer s H E (at_fn S hr' hg), body_spM hl hn hsp⟩

/-- how a call with so many values and these keywords binds: the parameters in order, as places among the values, then the keywords' -/
def Bnd (g : G) (fd : FuncData) (ps : List Str) (n : Nat) (ks : List Str) (p : List Nat) : Prop := p.length = ps.length ∧ (∀ i ∈ p, i < n + ks.length) ∧
  ∀ (s : Shared) (us ws : List Value), g.K.In s.heap → us.length = n → ws.length = ks.length → BindsTo s fd ⟨us, ks.zip ws⟩ (ps.zip (p.filterMap fun i => (us ++ ws)[i]?))
/-- a function of the module, as callers see it -/
structure FnM (g : G) (k : Nat) (x : Str) (fd : FuncData) (ps : List Str) (m : Mf) : Prop where
  ex : ∃ f, g.mg x = some (.ref f) ∧ PySem.W.keepIn g.K (.ref f) = true ∧ FnG g k f fd ps m
theorem vals_pick {vs : List V} {us : List Value} (r : Vals vs us) : ∀ p : List Nat, (∀ i ∈ p, i < vs.length) → Vals (p.filterMap fun i => vs[i]?) (p.filterMap fun i => us[i]?)
  | [], _ => .nil
  | i :: p, h => by
    have hi : i < vs.length := h i List.mem_cons_self
    have hv : vs[i]? = some vs[i] := List.getElem?_eq_getElem hi
    obtain ⟨u, hu, ru⟩ := r.get hv
    rw [List.filterMap_cons_some hv, List.filterMap_cons_some hu]
    exact .cons ru (vals_pick r p fun j hj => h j (List.mem_cons_of_mem _ hj))
theorem pick_len {α : Type} (l : List α) : ∀ p : List Nat, (∀ i ∈ p, i < l.length) → (p.filterMap fun i => l[i]?).length = p.length
  | [], _ => rfl
  | i :: p, h => by
    have hi : i < l.length := h i List.mem_cons_self
    rw [List.filterMap_cons_some (List.getElem?_eq_getElem hi), List.length_cons, List.length_cons, pick_len l p fun j hj => h j (List.mem_cons_of_mem _ hj)]
def vCall (m : Mf) (p : List Nat) (args : List Arg) : Ev := fun ρ τ => match aEx args ρ τ with
  | .ok xs ρ1 τ1 => (match aSl ρ1 xs with
    | some sl => (match m (p.filterMap fun i => sl[i]?) τ1 with
      | .rt r τ2 => .ok r ρ1 τ2
      | .exc x τ2 => .exc x ρ1 τ2
      | .bad => .bad)
    | none => .bad)
  | .exc x ρ1 τ1 => .exc x ρ1 τ1
  | .bad => .bad
section
variable {g : G} {k j : Nat} {X : Cx} {W : WX}
/-- the callee runs -/
theorem run_g {f : Addr} {fd : FuncData} {ps ks : List Str} {m : Mf} {n : Nat} {p : List Nat} (A : At g j X W) (F : FnG g k f fd ps m) (hk : k ≤ j) (B : Bnd g fd ps n ks p) {pins : List (Addr × Obj)} {σ : St} {H : Hp} {s : Shared} {Q : VK} {us ws : List Value} {vs zs : List V}
    (I : Inv X pins σ H s) (r : Vals vs us) (rz : Vals zs ws) (l1 : vs.length = n) (l2 : zs.length = ks.length) (h : spM g m (p.filterMap fun i => (vs ++ zs)[i]?) H Q (WE W σ)) :
    wpAny (model X.prog X.w) X.A (call (.ref f) us (ks.zip ws)) (EP X pins σ Q) X.xe s := by
  obtain ⟨b1, b2, b3⟩ := B
  have r2 := r.append rz
  have hp : ∀ i ∈ p, i < (vs ++ zs).length := fun i hi => by rw [List.length_append, l1, l2]; exact b2 i hi
  have e0 := I.env0
  have bb := b3 s us ws (by rw [← A.K]; exact I.kIn) (r.length.symm.trans l1) (rz.length.symm.trans l2)
  have run := F X.A X.stack s H _ _ _ Q (WE W σ) (A.room.mono hk) A.guards (by rw [← A.prog, ← A.w, ← A.K, ← A.mg, ← A.base]; exact e0) bb (vals_pick r2 p hp) (by rw [pick_len _ _ hp]; exact b1) h
  rw [← A.prog, ← A.w] at run
  refine wpAny_call (codeAny_mono run fun rr s' hq => ?_)
  cases rr with
  | error e => exact passAt A.takes σ pins H s e s' I hq
  | ok fl =>
    cases fl with
    | ret u => exact I.after hq
    | next => exact False.elim hq
    | brk => exact False.elim hq
    | cont => exact False.elim hq
theorem argsT_app : ∀ (as bs : List Arg) {σ : St} {H : Hp} {Q : List V → Hp → Prop}, argsT g W (as ++ bs) σ H Q → argsT g W as σ H fun xs H1 => argsT g W bs σ H1 fun ys H2 => Q (xs ++ ys) H2
  | [], bs, σ, H, Q, h => h
  | .ex ev :: as, bs, σ, H, Q, h => by
    rw [argsT_cons rfl]
    rw [List.cons_append, argsT_cons rfl] at h
    exact argE_mono (a := .ex ev) (fun x H' z => argsT_app as bs z) h
  | .pk i :: as, bs, σ, H, Q, h => by
    rw [argsT_cons rfl]
    rw [List.cons_append, argsT_cons rfl] at h
    exact argE_mono (a := .pk i) (fun x H' z => argsT_app as bs z) h
  | .se ev :: as, bs, σ, H, Q, h => by
    refine tD_mono (fun x H' z => ?_) h
    obtain ⟨a, xs, e, hq, z⟩ := z
    refine ⟨a, xs, e, hq, ?_⟩
    have := argsT_app as bs z
    simp only [List.append_assoc]
    exact this
  | .sp i :: as, bs, σ, H, Q, h => by
    obtain ⟨v, e0, a, xs, e, hq, z⟩ := h
    refine ⟨v, e0, a, xs, e, hq, ?_⟩
    have := argsT_app as bs z
    simp only [List.append_assoc]
    exact this
theorem argsT_len : ∀ (as : List Arg) {σ : St} {H : Hp} {Q : List V → Hp → Prop}, as.all plainA = true → argsT g W as σ H Q → argsT g W as σ H fun xs H1 => xs.length = as.length ∧ Q xs H1
  | [], σ, H, Q, _, h => ⟨rfl, h⟩
  | a :: as, σ, H, Q, hp, h => by
    rw [List.all_cons, Bool.and_eq_true] at hp
    rw [argsT_cons hp.1] at h ⊢
    refine argE_mono (fun x H' z => ?_) h
    have := argsT_len as hp.2 z
    show argsT g W as σ H' fun xs H2 => (x :: xs).length = as.length + 1 ∧ Q (x :: xs) H2
    simpa using this
theorem argsT_mono : ∀ (as : List Arg) {σ : St} {H : Hp} {Q Q' : List V → Hp → Prop}, (∀ xs H', Q xs H' → Q' xs H') → argsT g W as σ H Q → argsT g W as σ H Q'
  | [], σ, H, Q, Q', i, h => i _ _ h
  | .ex ev :: as, σ, H, Q, Q', i, h => tD_mono (fun x H' z => argsT_mono as (fun xs H2 y => i _ _ y) z) h
  | .pk j :: as, σ, H, Q, Q', i, h => by
    obtain ⟨v, e, z⟩ := h
    exact ⟨v, e, argsT_mono as (fun xs H2 y => i _ _ y) z⟩
  | .se ev :: as, σ, H, Q, Q', i, h => by
    refine tD_mono (fun x H' z => ?_) h
    obtain ⟨a, xs, e, hq, z⟩ := z
    exact ⟨a, xs, e, hq, argsT_mono as (fun xs H2 y => i _ _ y) z⟩
  | .sp j :: as, σ, H, Q, Q', i, h => by
    obtain ⟨v, e0, a, xs, e, hq, z⟩ := h
    exact ⟨v, e0, a, xs, e, hq, argsT_mono as (fun xs H2 y => i _ _ y) z⟩
def PyKws (g : G) (k : Nat) (X : Cx) (W : WX) (es : List Keyword) (as : List Arg) : Prop := At g k X W → L2.PK X es (argsT g W as)
theorem pkw_nil : PyKws g k X W [] [] := fun _ => pk_nil
theorem pkw_cons {nm : Option Str} {e : Expr} {kp : Pos} {es : List Keyword} {a : Arg} {as : List Arg} (h : PyArg g k X W e a) (hr : PyKws g k X W es as) : PyKws g k X W (⟨nm, e, kp⟩ :: es) (a :: as) := fun A => by
  rw [argsT_cons h.1]
  exact pk_cons (h.2 A) (hr A)
/-- what a call wants, ahead of its operands -/
theorem call_q {m : Mf} {p : List Nat} {as ks : List Arg} {σ : St} {H : Hp} {Q : VK} (hp : (as ++ ks).all plainA = true) (hb : ∀ i ∈ p, i < as.length + ks.length) (q : tD g W (vCall m p (as ++ ks)) σ H Q) :
    argsT g W as σ H fun vs H1 => vs.length = as.length ∧ argsT g W ks σ H1 fun zs H2 => zs.length = ks.length ∧ spM g m (p.filterMap fun i => (vs ++ zs)[i]?) H2 Q (WE W σ) := by
  have hp1 : as.all plainA = true := List.all_eq_true.mpr fun a ha => List.all_eq_true.mp hp a (List.mem_append_left _ ha)
  have hp2 : ks.all plainA = true := List.all_eq_true.mpr fun a ha => List.all_eq_true.mp hp a (List.mem_append_right _ ha)
  have key : argsT g W (as ++ ks) σ H fun vs H1 => (∀ i ∈ p, i < vs.length) → spM g m (p.filterMap fun i => vs[i]?) H1 Q (WE W σ) := by
    obtain ⟨w, ρ, τ, env, q⟩ := q
    refine args_pre _ env ?_
    unfold vCall at q
    cases e : aEx (as ++ ks) ρ τ with
    | exc x ρ' τ' => rw [e] at q; exact q
    | bad => rw [e] at q; exact q.elim
    | ok xs ρ1 τ1 =>
      simp only [e] at q
      intro w1 H1 vs a pr hlt
      cases e2 : aSl ρ1 xs with
      | none => simp only [e2] at q
      | some sl =>
        simp only [e2] at q
        have en := (pre_ent a.env e2 pr).pick p hlt
        refine ⟨w1, τ1, _, en, ?_⟩
        cases e3 : m (p.filterMap fun i => sl[i]?) τ1 with
        | rt r τ2 => simp only [e3] at q; exact fun w' H' v b hr => q w' H' v (call_ps a b) (call_rs a b hr)
        | exc x τ2 => simp only [e3] at q; exact fun w' H' cls dx b hx => q w' H' cls dx (call_ps a b) hx
        | bad => simp only [e3] at q
  have k1 := argsT_len as hp1 (argsT_app as ks key)
  refine argsT_mono as (fun vs H1 z => ?_) k1
  refine ⟨z.1, argsT_mono ks (fun zs H2 y => ?_) (argsT_len ks hp2 z.2)⟩
  refine ⟨y.1, y.2 fun i hi => ?_⟩
  rw [List.length_append, z.1, y.1]
  exact hb i hi
section
variable {m : Mf} {p : List Nat} {n : Nat} {fd : FuncData} {ps ks : List Str} {x : Str} {e : Expr} {es : List Expr} {as kas : List Arg} {kws : List Keyword} {p1 pos : Pos}
/-- f(e, ..) -/
theorem py_call (F : FnM g j x fd ps m) (B : Bnd g fd ps n [] p) (ha : PyArgs g k X W (e :: es) as) (hj : j ≤ k := by decide) (hl : as.length = n := by rfl) (hp : as.all plainA = true := by rfl) (hg : Gl X x := by rfl)
    (hdb : (x == ("__debug__" : Str)) = false := by decide) (he : starEach (e :: es) X.env = (false, eval e X.env) :: starEach es X.env := by rfl) (hpl : (backTo pos (starEach es X.env)).any (·.1) = false := by rfl) :
    PyE g k X W (.Call (.Name x p1) (e :: es) [] pos) (vCall m p as) := fun A => by
  obtain ⟨f, hm, hk, F⟩ := F.ex
  refine ⟨fun pins s σ H Q I h => ?_⟩
  have q := call_q (as := as) (ks := []) (by rw [List.append_nil]; exact hp) (fun i hi => by rw [hl]; exact B.2.1 i hi) (by rw [List.append_nil]; exact h)
  refine wpAny_Call_Name_kw (ld_glob I hg (by rw [A.mg]; exact hm) ?_ hdb)
  refine PySem.W.callWith_K (h₀ := X.base) I.ok.mod.kin (by rw [A.K]; exact hk) (thn ((ha A).run pos pins s σ H _ I q) fun us s1 ⟨vs, H1, I1, r, l1, l2, q1⟩ => ⟨I1.kIn, ?_⟩) he hpl
  exact run_g (zs := []) (ws := []) A F hj B I1 r .nil (l1.trans hl) rfl q1
theorem py_call0 (F : FnM g j x fd ps m) (B : Bnd g fd ps 0 [] p) (hj : j ≤ k := by decide) (hg : Gl X x := by rfl) (hdb : (x == ("__debug__" : Str)) = false := by decide) : PyE g k X W (.Call (.Name x p1) [] [] pos) (vCall m p []) := fun A => by
  obtain ⟨f, hm, hk, F⟩ := F.ex
  refine ⟨fun pins s σ H Q I h => ?_⟩
  obtain ⟨_, _, q⟩ := call_q (as := []) (ks := []) rfl (fun i hi => B.2.1 i hi) h
  have q : spM g m (p.filterMap fun i => (([] : List V) ++ [])[i]?) H Q (WE W σ) := q
  refine wpAny_Call_Name_kw (ld_glob I hg (by rw [A.mg]; exact hm) ?_ hdb)
  exact PySem.W.callWith_K0 I.kIn (by rw [A.K]; exact hk) (run_g (us := []) (vs := []) (zs := []) (ws := []) A F hj B I .nil .nil rfl rfl q)
theorem py_callK (F : FnM g j x fd ps m) (B : Bnd g fd ps n ks p) (ha : PyArgs g k X W (e :: es) as) (hkw : PyKws g k X W kws kas) (hj : j ≤ k := by decide) (hl : as.length = n := by rfl) (hl2 : kas.length = ks.length := by rfl) (hp : (as ++ kas).all plainA = true := by rfl) (hg : Gl X x := by rfl)
    (hall : (backToKw pos (keywordEach kws X.env)).all (·.1.isSome) = true := by rfl) (hks : (backToKw pos (keywordEach kws X.env)).filterMap (·.1) = ks := by rfl)
    (hdb : (x == ("__debug__" : Str)) = false := by decide) (he : starEach (e :: es) X.env = (false, eval e X.env) :: starEach es X.env := by rfl)
    (hpl : ((backTo pos (starEach (e :: es) X.env)).any (·.1) || (backToKw pos (keywordEach kws X.env)).any (·.1.isNone)) = false := by rfl) :
    PyE g k X W (.Call (.Name x p1) (e :: es) kws pos) (vCall m p (as ++ kas)) := fun A => by
  obtain ⟨f, hm, hk, F⟩ := F.ex
  refine ⟨fun pins s σ H Q I h => ?_⟩
  have q := call_q (as := as) (ks := kas) hp (fun i hi => by rw [hl, hl2]; exact B.2.1 i hi) h
  refine wpAny_Call_Name_kw (ld_glob I hg (by rw [A.mg]; exact hm) ?_ hdb)
  refine PySem.W.callWith_KW (h₀ := X.base) I.ok.mod.kin (by rw [A.K]; exact hk) hall (thn ((ha A).run pos pins s σ H _ I q) fun us s1 ⟨vs, H1, I1, r, l1, q1⟩ => ?_) hpl he
  refine thn ((hkw A).run pos pins s1 σ H1 _ I1 q1) fun ws s2 ⟨zs, H2, I2, rz, l2, q2⟩ => ⟨I2.kIn, ?_⟩
  rw [hks]
  exact run_g A F hj B I2 r rz (l1.trans hl) (l2.trans hl2) q2
theorem py_callK0 (F : FnM g j x fd ps m) (B : Bnd g fd ps 0 ks p) (hkw : PyKws g k X W kws kas) (hj : j ≤ k := by decide) (hl2 : kas.length = ks.length := by rfl) (hp : kas.all plainA = true := by rfl) (hg : Gl X x := by rfl)
    (hall : (backToKw pos (keywordEach kws X.env)).all (·.1.isSome) = true := by rfl) (hks : (backToKw pos (keywordEach kws X.env)).filterMap (·.1) = ks := by rfl)
    (hdb : (x == ("__debug__" : Str)) = false := by decide) (hpl : ((backTo pos (starEach [] X.env)).any (·.1) || (backToKw pos (keywordEach kws X.env)).any (·.1.isNone)) = false := by rfl) :
    PyE g k X W (.Call (.Name x p1) [] kws pos) (vCall m p kas) := fun A => by
  obtain ⟨f, hm, hk, F⟩ := F.ex
  refine ⟨fun pins s σ H Q I h => ?_⟩
  obtain ⟨_, q⟩ := call_q (as := []) (ks := kas) hp (fun i hi => by rw [hl2]; exact B.2.1 i hi) h
  refine wpAny_Call_Name_kw (ld_glob I hg (by rw [A.mg]; exact hm) ?_ hdb)
  refine PySem.W.callWith_KW0 (h₀ := X.base) I.ok.mod.kin (by rw [A.K]; exact hk) hall (thn ((hkw A).run pos pins s σ H _ I q) fun ws s2 ⟨zs, H2, I2, rz, l2, q2⟩ => ⟨I2.kIn, ?_⟩) hpl
  rw [hks]
  exact run_g (us := []) (vs := []) A F hj B I2 .nil rz rfl (l2.trans hl2) q2
end
end
end PD
namespace PD
open PySem PySem.Spec L2
open PyProof.Rows hiding St

def cutD (xs : List D) (lo hi : Option Int) : List D := (xs.drop (HT.sIx xs.length 0 lo)).take (HT.sIx xs.length xs.length hi - HT.sIx xs.length 0 lo)
def sl2 : D → Option Int → Option Int → P
  | .lst ds, lo, hi => .nl (cutD ds lo hi)
  | .tup ds, lo, hi => if HT.sIx ds.length 0 lo = 0 ∧ HT.sIx ds.length ds.length hi = ds.length then .at (.tup ds) else .tp (cutD ds lo hi)
  | .str x, lo, hi => if x.length ≤ sizeLine then .at (.str (Txt.slice x lo hi)) else .bad
  | _, _, _ => .bad
def pSl00 : Prim := p1 fun x => sl2 x none none
def pSl10 : Prim := p2 fun x y => match y with
  | .int i => sl2 x (some i) none
  | _ => .bad
def pSl01 : Prim := p2 fun x y => match y with
  | .int i => sl2 x none (some i)
  | _ => .bad
/-- x[lo:hi] -/
def vSl11 (ea el eu : Ev) : Ev := fun ρ τ => match aFz [.ex ea, .ex el] ρ τ with
  | .ok [x, .int i] ρ1 τ1 => (match vFz eu ρ1 τ1 with
    | .ok (.fz (.int j)) ρ2 τ2 => outP ρ2 τ2 (sl2 x (some i) (some j))
    | .ok _ _ _ => .bad
    | .exc x ρ2 τ2 => .exc x ρ2 τ2
    | .bad => .bad)
  | .ok _ _ _ => .bad
  | .exc x ρ1 τ1 => .exc x ρ1 τ1
  | .bad => .bad
section
variable {g : G} {k : Nat} {X : Cx} {W : WX}
theorem rep_cut {Z : Hp} {tp : Option (Addr × Addr × Addr)} {ds : List D} {us : List V} (r : RepL g Z tp ds us) (lo hi : Option Int) : RepL g Z tp (cutD ds lo hi) (cutV us lo hi) := by
  unfold cutD cutV
  rw [r.length]
  exact (r.drop _).take _
def rSlD (K : PySem.W.Frag) : V → Option Int → Option Int → Hp → VK → Prop := fun x lo hi H Q => (rSlL K x lo hi H Q ∨ rSlA K x lo hi H Q) ∨ C8.rSlX x lo hi H Q
theorem slr_D : L2.SlR X (rSlD X.K) := (sl_list.or sl_tupA).or C8.sl_txt
theorem sl_go {w : Wd} {H : Hp} {x : D} {u : V} {lo hi : Option Int} {Q : VK} (z : ZLe w.Z H) (h1 : Top g w H x u) : PGo g w H Q (sl2 x lo hi) (rSlD g.K u lo hi H Q) := by
  cases x with
  | lst ds =>
    obtain ⟨p, us, rfl, s1, r1⟩ := h1.lst z
    exact fun q => .inl (.inl ⟨p, us, rfl, SqL.of s1, fun b hb => q b _ hb (rep_cut r1 lo hi)⟩)
  | tup ds =>
    obtain ⟨p, us, rfl, s1, r1⟩ := h1.tup z
    by_cases c : HT.sIx ds.length 0 lo = 0 ∧ HT.sIx ds.length ds.length hi = ds.length
    · rw [show sl2 (.tup ds) lo hi = .at (.tup ds) from if_pos c]
      exact fun q => .inl (.inr ⟨p, us, rfl, s1, fun _ => q _ (top_rep_tup h1), fun n => absurd (by rw [r1.length]; exact c) n⟩)
    · rw [show sl2 (.tup ds) lo hi = .tp (cutD ds lo hi) from if_neg c]
      exact fun q => .inl (.inr ⟨p, us, rfl, s1, fun n => absurd (by rw [r1.length] at n; exact n) c, fun _ b hb => q b _ hb (rep_cut r1 lo hi)⟩)
  | str x =>
    by_cases c : x.length ≤ sizeLine
    · rw [show sl2 (.str x) lo hi = .at (.str (Txt.slice x lo hi)) from if_pos c]
      cases h1.str
      exact fun q => .inr ⟨x, rfl, c, q _ rep_str⟩
    · rw [show sl2 (.str x) lo hi = .bad from if_neg c]
      trivial
  | _ => trivial
variable {e l u : Expr} {A L U : Arg} {p2 pos : Pos}
theorem py_sl00 (he : PyArg g k X W e A) : PyE g k X W (.Subscript e (.Slice none none none p2) pos) (vPrim pSl00 [A]) := fun At => (pe_slice slr_D (he.2 At) po_none po_none).imp' fun σ H Q q => by
  have q2 := prim_ok (r := m1 fun x H Q => rSlD g.K x none none H Q) (.one fun w H x u Q z h => sl_go z h) q
  rw [argsT_cons he.1, ← At.K] at q2
  exact q2
theorem py_sl10 (he : PyArg g k X W e A) (hl : PyArg g k X W l L) : PyE g k X W (.Subscript e (.Slice (some l) none none p2) pos) (vPrim pSl10 [A, L]) := fun At => (pe_slice slr_D (he.2 At) (po_some (hl.2 At)) po_none).imp' fun σ H Q q => by
  have q2 := prim_ok (r := m2 fun x y H Q => ∃ i, y = .int i ∧ rSlD g.K x (some i) none H Q) (.two fun w H x y u v Q z h1 h2 => by
    split
    · rename_i i
      cases h2.int
      cases e : sl2 x (some i) none <;> first | trivial | (have := sl_go (g := g) (lo := some i) (hi := none) (Q := Q) z h1; rw [e] at this; exact fun q => ⟨i, rfl, this q⟩)
    · trivial) q
  rw [argsT_cons he.1, argsT_cons hl.1, ← At.K] at q2
  exact q2
theorem py_sl01 (he : PyArg g k X W e A) (hl : PyArg g k X W u U) : PyE g k X W (.Subscript e (.Slice none (some u) none p2) pos) (vPrim pSl01 [A, U]) := fun At => (pe_slice slr_D (he.2 At) po_none (po_some (hl.2 At))).imp' fun σ H Q q => by
  have q2 := prim_ok (r := m2 fun x y H Q => ∃ i, y = .int i ∧ rSlD g.K x none (some i) H Q) (.two fun w H x y u v Q z h1 h2 => by
    split
    · rename_i i
      cases h2.int
      cases e : sl2 x none (some i) <;> first | trivial | (have := sl_go (g := g) (lo := none) (hi := some i) (Q := Q) z h1; rw [e] at this; exact fun q => ⟨i, rfl, this q⟩)
    · trivial) q
  rw [argsT_cons he.1, argsT_cons hl.1, ← At.K] at q2
  exact q2
theorem py_sl11 {ea el eu : Ev} (he : PyE g k X W e ea) (hl : PyE g k X W l el) (hu : PyE g k X W u eu) : PyE g k X W (.Subscript e (.Slice (some l) (some u) none p2) pos) (vSl11 ea el eu) := fun At => (pe_slice slr_D (py_fz he At) (po_some (py_fz hl At)) (po_some (py_fz hu At))).imp' fun σ H Q q => by
  obtain ⟨w, ρ, τ, env, q⟩ := q
  suffices hh : argsT g W [.ex ea, .ex el] σ H fun vs H2 => match vs with
      | [x, y] => ∃ i, y = .int i ∧ tD g W (vFz eu) σ H2 fun z H3 => ∃ j, z = .int j ∧ rSlD g.K x (some i) (some j) H3 Q
      | _ => False by
    rw [← At.K] at hh
    exact hh
  refine args_fz env ?_
  unfold vSl11 at q
  cases e : aFz [.ex ea, .ex el] ρ τ with
  | ok ds ρ1 τ1 =>
    simp only [e] at q
    match ds, q with
    | [x, .int i], q =>
      intro w1 H1 vs a hr
      obtain ⟨u, v, rfl, hu, hv⟩ := hr.two
      rw [Rep] at hv
      refine ⟨i, hv, w1, ρ1, τ1, a.env, ?_⟩
      cases e3 : vFz eu ρ1 τ1 with
      | ok rs ρ2 τ2 =>
        simp only [e3] at q
        match rs, q with
        | .fz (.int j), q =>
          intro w2 H2 vz b hz
          rw [RsR, Rep] at hz
          refine ⟨j, hz, ?_⟩
          have hx : Top g w2 H2 x u := .inl (by rw [b.st.tp]; exact Rep.mono b.st.z _ hu)
          have key := sl_go (g := g) (lo := some i) (hi := some j) (Q := Q) b.env.zle hx
          refine prim_fin (ds := [x]) (vs := [u]) (r := m1 fun x H Q => rSlD g.K x (some i) (some j) H Q) (f := p1 fun x => sl2 x (some i) (some j)) (E := fun x ρ'' τ'' => ∀ w'' H'' cls dx, Ps g w H ρ σ w'' H'' ρ'' τ'' σ → ExR g w'' x cls dx → W cls dx σ H'') (.one fun w H x u Q z h => sl_go z h) (a.trans b) ⟨u, [], rfl, hx, rfl⟩ q
      | exc x ρ2 τ2 => simp only [e3] at q; exact fun w' H' cls dx b hx => q w' H' cls dx (a.trans b) hx
      | bad => simp only [e3] at q
  | exc x ρ' τ' => simp only [e] at q; exact q
  | bad => simp only [e] at q
end

def fReprN (d : D) : P := match d.py with
  | some x => if x.showable = true ∧ x.hasDict = false ∧ x.shown.length ≤ sizeLine ∧ x.depth ≤ 30 then .at (.str x.shown) else .bad
  | none => .bad
def fRepr : D → P
  | .dic [] => .at (.str "{}")
  | d => fReprN d
def pRepr : Prim := p1 fRepr
def rRepr (K : PySem.W.Frag) : RL := fun vs H Q => ∃ v x, vs = [v] ∧ Dp K H v x ∧ x.showable = true ∧ x.hasDict = false ∧ x.shown.length ≤ sizeLine ∧ x.depth ≤ 30 ∧ Q (.str x.shown) H
theorem call_repr {k : Nat} {X : Cx} (hr : Room k X.A) (hg : X.A.guards = some []) : CallR X (.builtin "repr") (rRepr X.K) := by
  intro pins s σ H xs us Q I r h
  obtain ⟨v, x, rfl, dp, h1, h2, h3, h4, q⟩ := h
  obtain ⟨u, rfl, ru⟩ := vals1 r
  obtain ⟨as, rd⟩ := dp.reads I x v u ru
  have un := hr.un
  have hu : X.A.units + (x.depth + 1) < cLine := by omega
  have big : ∀ {a : Addr}, Reads s.heap (.ref a) x as → wpAny (model X.prog X.w) X.A (call (.builtin "repr") [.ref a]) (EP X pins σ Q) X.xe s := fun {a} rd =>
    repr_of_reads' rd h1 (PyData.noDict_hsm h2) hg hu (fun _ _ e => e) (fun h' u tk e => ⟨.str x.shown, H, I.kept (t' := tk) e, ⟨u, rfl⟩, q⟩) h3
  cases rd with
  | none => exact PySem.P.repr_of_none ⟨.str "None", H, I.tok _, ⟨_, rfl⟩, q⟩
  | bool b => exact PySem.P.repr_of_bool ⟨.str (if b then "True" else "False"), H, I.tok _, ⟨_, rfl⟩, q⟩
  | int i t => exact PySem.P.repr_of_int (by simpa [PyData.showable] using h1) ⟨.str (toString i), H, I.tok _, ⟨_, rfl⟩, q⟩
  | str y t => exact PySem.P.repr_of_str ⟨.str (reprText y), H, I.tok _, ⟨_, rfl⟩, q⟩ (by simpa only [PyData.shown] using h3)
  | list a1 a2 a3 a4 => exact big (.list a1 a2 a3 a4)
  | tuple a1 a2 a3 a4 => exact big (.tuple a1 a2 a3 a4)
  | dict a1 a2 a3 a4 a5 => exact big (.dict a1 a2 a3 a4 a5)
/-- repr({}) -/
def rReprE : RL := fun vs H Q => ∃ a, vs = [.ref a] ∧ H a = some (.dK []) ∧ Q (.str "{}") H
theorem call_reprE {k : Nat} {X : Cx} (hr : Room k X.A) (hg : X.A.guards = some []) : CallR X (.builtin "repr") rReprE := by
  intro pins s σ H xs us Q I r h
  obtain ⟨a, rfl, ha, q⟩ := h
  obtain ⟨hz, hS, vs, rk, o, es, ep, ho, he, hd, _, hp, _⟩ := dk_of I.hok ha
  rw [Vals.ref1 r]
  have hv : vs = [] := by cases rk; rfl
  subst hv
  have he2 : es.toList = [] := by
    cases e : es.toList with
    | nil => rfl
    | cons x y => rw [e] at hp; cases hp
  have rd : Reads s.heap (.ref a) (.dict []) [a] := Reads.dict (as := []) (bs := []) ho he.1 hd (by rw [he2]; exact .nil) (by rw [he2]; exact .nil)
  have un := hr.un
  have dp : (PyData.dict []).depth = 1 := by simp [PyData.depth, PyData.depthKv]
  refine repr_of_reads' rd (by simp [PyData.showable, PyData.showableKv]) (fun _ hm => ?_) hg (by rw [dp]; omega) (fun _ _ e => e) (fun h' u tk e => ⟨.str "{}", H, I.kept (t' := tk) e, ⟨u, ?_⟩, q⟩) ?_
  · rw [List.mem_singleton.mp hm] at hS
    simp at hS
  · rfl
  · decide +kernel
section
variable {g : G} {k : Nat} {X : Cx} {W : WX}
theorem ok_repr : CallOk g k X W (.builtin "repr") pRepr := fun A => by
  refine ⟨_, (call_repr A.room A.guards).or (call_reprE A.room A.guards), ?_⟩
  rw [A.K]
  refine .call1 (f := fRepr) fun w H x u Q z h => ?_
  have nn : PGo g w H Q (fReprN x) ((rRepr g.K [u] H Q) ∨ rReprE [u] H Q) := by
    unfold fReprN
    cases e : x.py with
    | none => trivial
    | some y =>
      by_cases c : y.showable = true ∧ y.hasDict = false ∧ y.shown.length ≤ sizeLine ∧ y.depth ≤ 30
      · simp only [c, and_self, if_true]
        exact fun q => .inl ⟨u, y, rfl, h.dp z e, c.1, c.2.1, c.2.2.1, c.2.2.2, q _ rep_str⟩
      · simp only [c, if_false]
        trivial
  unfold fRepr
  split
  · refine fun q => .inr ?_
    rcases h with h | ⟨p, e, h, _⟩
    · rw [Rep] at h
      obtain ⟨a, ks, rfl, h1, h2⟩ := h
      rw [RepKV] at h2
      subst h2
      exact ⟨a, rfl, z _ _ h1, q _ rep_str⟩
    · obtain ⟨ks, h1, h2⟩ := h
      rw [RepKV] at h2
      subst h2
      cases e
      exact ⟨p, rfl, h1, q _ rep_str⟩
  · exact nn
end
section
variable {g : G} {k : Nat} {X : Cx} {W : WX} {x : Str} {pos : Pos}
theorem py_gint {i : Int} (hm : ∃ t, g.mg x = some (.int i t)) (hg : Gl X x := by rfl) (hd : (x == ("__debug__" : Str)) = false := by decide) : PyE g k X W (.Name x pos) (vLit (.int i)) := fun A => by
  obtain ⟨t, hm⟩ := hm
  exact py_lit (pe_glob (v := .int i) hg (by rw [A.mg]; exact hm) ⟨t, rfl⟩ hd) (fun _ _ => rep_int) A
theorem py_gstr {i : Str} (hm : ∃ t, g.mg x = some (.str i t)) (hg : Gl X x := by rfl) (hd : (x == ("__debug__" : Str)) = false := by decide) : PyE g k X W (.Name x pos) (vLit (.str i)) := fun A => by
  obtain ⟨t, hm⟩ := hm
  exact py_lit (pe_glob (v := .str i) hg (by rw [A.mg]; exact hm) ⟨t, rfl⟩ hd) (fun _ _ => rep_str) A
/-- a function or a class of the module as a value -/
theorem py_gfn (hm : ∃ a, g.mg x = some (.ref a)) (hg : Gl X x := by rfl) (hd : (x == ("__debug__" : Str)) = false := by decide) : PyE g k X W (.Name x pos) (vLit (.fn x)) := fun A => by
  obtain ⟨a, hm⟩ := hm
  exact py_lit (pe_glob (v := .ref a) hg (by rw [A.mg]; exact hm) rfl hd) (fun _ _ => by rw [Rep]; exact ⟨a, rfl, hm⟩) A
theorem py_gty {n : String} (hm : g.mg x = none) (hv : bootBuiltins x = some (.type n) := by decide +kernel) (hg : Gl X x := by rfl) (hn : x ≠ "__name__" := by decide) (hd : (x == ("__debug__" : Str)) = false := by decide) : PyE g k X W (.Name x pos) (vLit (.ty n)) := fun A =>
  py_lit (pe_bltn (v := .ty n) hg (by rw [A.mg]; exact hm) hv rfl hn hd) (fun _ _ => by rw [Rep]) A
def vDic0 : Ev := fun ρ τ => .ok (.own (.dic [])) ρ τ
theorem py_dic0 : PyE g k X W (.Dict [] [] pos) vDic0 := fun A => pe_dnewK.imp' fun σ H Q q p hp => by
  obtain ⟨w, ρ, τ, env, q⟩ := q
  obtain ⟨b, r2⟩ := (Ps.refl env).newDic (es := []) (us := []) hp (by rw [RepKV])
  exact q w _ _ b r2
end
end PD
namespace PySem
open Sem (wp)
set_option maxHeartbeats 1000000 in
theorem pd_meets_enum {v : Value} {o : Obj} {Hq : Heap → Prop} (B : Begins v o Hq) :
    Meets (Builtin.«enumerate.__new__» ⟨[.type "enumerate", v], []⟩) (fun _ R s => Hq s.heap ∧
      R (.ok (.ret (.ref (s.heap.push o).objs.size))) { s with heap := (s.heap.push o).push { cls := .type "enumerate", data := .fields #[.none, .bool false, .ref s.heap.objs.size, rawInt 0, .none, .none] } }) :=
  .of_wp fun prog w A R s ⟨h1, hR⟩ => by
    obtain ⟨hp, gs, dr, tk0, os0⟩ := s
    have hsub := sub_enumerate
    have it1 : ∀ {A1 : Around} {E1 : Value → Shared → Prop} {Q1 : Value → Shared → Prop}, Q1 (.ref hp.objs.size) ⟨hp.push o, gs, dr, tk0, os0⟩ → wpAny (model prog w) A1 (pyIter v) Q1 E1 ⟨hp, gs, dr, tk0, os0⟩ := fun q => B.iter prog w _ _ ⟨hp, gs, dr, tk0, os0⟩ _ h1 q
    wp_walk using it1
    refine wpAny_stack_any fun st => wpAny_pure ?_
    split
    · rename_i c _ _ _ _ _
      cases (c == Value.type "enumerate") <;> (wp_walk using it1; exact ⟨_, rfl, hR⟩)
    · wp_walk using it1
      exact ⟨_, rfl, hR⟩
theorem pd_call_enum {prog : Program} {w : World} {A : Around} {E : Value → Shared → Prop} {s : Shared} {v : Value} {o : Obj} {Hq : Heap → Prop} {Q : Value → Shared → Prop} (B : Begins v o Hq) (h1 : Hq s.heap)
    (h : ∀ h', IsEnum h' (s.heap.objs.size + 1) s.heap.objs.size 0 .none → h'.get? s.heap.objs.size = some o → (∀ b u, s.heap.get? b = some u → h'.get? b = some u) → Q (.ref (s.heap.objs.size + 1)) { s with heap := h' }) :
    wpAny (model prog w) A (call (.type "enumerate") [v]) Q E s := by
  refine callType_new F.called_enumerate (by decide) (F.typeCall_enumerate_1 _) (F.newCall_enumerate_1 _) (fun obj => F.args_object_init_2 obj _) F.entry_enumerate_new (pd_meets_enum B) ⟨h1, ?_⟩
  have hz : (s.heap.push o).objs.size = s.heap.objs.size + 1 := Heap.size_push ..
  show _ ∧ _
  rw [hz]
  have he : IsEnum ((s.heap.push o).push { cls := .type "enumerate", data := .fields #[.none, .bool false, .ref s.heap.objs.size, rawInt 0, .none, .none] }) (s.heap.objs.size + 1) s.heap.objs.size 0 .none := by
    have z := Heap.get?_push_size (s.heap.push o) (o := { cls := .type "enumerate", data := .fields #[.none, .bool false, .ref s.heap.objs.size, rawInt 0, .none, .none] }) rfl
    rwa [hz] at z
  exact ⟨⟨_, he, rfl⟩, h _ he (Heap.get?_push_of_some _ (Heap.get?_push_size _ B.free)) fun b u x => Heap.get?_push_of_some _ (Heap.get?_push_of_some _ x)⟩
end PySem
namespace PD
open PySem PySem.Spec L2
open PyProof.Rows hiding St
/-- the tuple at a, each item in a new pair with its number -/
def IteT (K : PySem.W.Frag) (a : Addr) : It :=
  ⟨fun i H => ∃ (xs : List V) (x : V), SqT K H a xs ∧ xs[i]? = some x, fun i H v H' => ∃ T x, v = .ref T ∧ H T = none ∧ H' = upd H T (.tup [.int (i : Nat), x]) ∧ ∀ xs, SqT K H a xs → xs[i]? = some x, fun i H => ∃ xs : List V, SqT K H a xs ∧ xs.length ≤ i⟩
theorem turn_enumT {P : Program} {w : World} {K : PySem.W.Frag} {elts : List Expr} {kk : Nat} {tpos : Pos} (a e it : Addr) :
    Turn P w K (.Tuple elts kk tpos) (IteT K a) [e, it] e (fun i h => (∃ old, IsEnum h e it ((i : Nat) : Int) old) ∧ h.IsTupleIter it a i ∧ e ≠ it ∧ a ≠ it ∧ a ≠ e) where
  mem := by simp
  obj := fun i h st b hb => by
    obtain ⟨⟨old, he⟩, ⟨o, ho, hc, hd⟩, _⟩ := st
    have e2 : b = e ∨ b = it := by simpa using hb
    rcases e2 with z | z
    · rw [z]; exact ⟨_, he, fun v q => nomatch q⟩
    · rw [z]; exact ⟨o, ho, fun v q => by rw [hd] at q; cases q⟩
  keep := fun i h h' st k => let ⟨⟨old, he⟩, hi, hne⟩ := st; ⟨⟨old, k e (by simp) _ he⟩, hi.at fun o q => k it (by simp) o q, hne⟩
  item := by
    intro X hP hw hK hc i pins s σ H E I hf st hg
    subst hP hw hK
    obtain ⟨⟨old, he⟩, hit, hne, hai, hae⟩ := st
    obtain ⟨xs, x, hq, hx⟩ := hg
    obtain ⟨its, rv, p, hz⟩ := I.tuple hq
    obtain ⟨u, hu, ru⟩ := rv.get hx
    have hel : e < s.heap.objs.size := Heap.lt_size he
    have hil : it < s.heap.objs.size := by obtain ⟨_, q, _⟩ := hit; exact Heap.lt_size q
    have hlt : i < its.toArray.size := by
      have := (List.getElem?_eq_some_iff.mp hu).1
      simpa using this
    refine wpAny_pyNext_enum_itemD (A := X.A) (Draws.tuple (A := X.A.in1) (show X.A.in1.handled = none from I.ok.hd hc) it a hai its.toArray) he ⟨hit, p⟩ hlt hne (by simp [hne, Ne.symm hae]) fun u2 h' tk hu2 ho hst' hT hsz hk => ?_
    obtain rfl : u = u2 := by
      have z : its.toArray[i]? = some u2 := hu2
      have z2 : its.toArray[i]? = some u := by simpa using hu
      rw [z2] at z
      exact Option.some.inj z
    refine ⟨_, rfl, wpAny_letOwnedTupleGo_enum (s := { s with heap := h', toks := tk + 1 }) ho fun h'' he' sb => ?_⟩
    have hT2 : h''.get? s.heap.objs.size = some { cls := .type "tuple", data := .seq #[.int i tk, u] } := (sb.2 _ (Nat.ne_of_gt hel)).trans hT
    have new : ObjOk X.prog X.w (upd H s.heap.objs.size (.tup [.int (i : Nat), x])) h'' s.heap.objs.size (.tup [.int (i : Nat), x]) :=
      ⟨by show 2 ≤ sizeLine; decide, [.int i tk, u], .cons ⟨_, rfl⟩ (.cons ru .nil), ⟨_, hT2, rfl, _, rfl⟩⟩
    have I1 : Inv X pins σ (upd H s.heap.objs.size (.tup [.int (i : Nat), x])) { s with heap := h'', toks := tk + 1 } :=
      I.turnedNew (ch := [e, it]) (fun b ob hb q => (sb.2 b (fun z => hb (by simp [z]))).trans (hk b ob (fun z => hb (by simp [z])) (fun z => hb (by simp [z])) q)) hf (Nat.le_refl _) new
    refine ⟨.ref s.heap.objs.size, _, I1, rfl, ⟨_, x, rfl, I.hok.fresh (Nat.le_refl _), rfl, fun ys hy => by rw [I.tuple_inj hy hq]; exact hx⟩, ⟨⟨u, ?_⟩, hst'.1.at fun o q => (sb.2 it (Ne.symm hne)).trans q, hne, hai, hae⟩, fun b hb => ?_⟩
    · have e1 : ((i + 1 : Nat) : Int) = (i : Int) + 1 := by omega
      rw [e1]; exact he'
    · have hb2 : b < s.heap.objs.size := by
        have e2 : b = e ∨ b = it := by simpa using hb
        rcases e2 with z | z
        · rw [z]; exact hel
        · rw [z]; exact hil
      rw [upd_ne (Nat.ne_of_lt hb2)]
      exact (hf b hb).1
  done := by
    intro X hP hw hK hc i pins s σ H E I hf st hg
    subst hP hw hK
    obtain ⟨⟨old, he⟩, hit, hne, hai, hae⟩ := st
    obtain ⟨xs, hq, hx⟩ := hg
    obtain ⟨its, rv, p, hz⟩ := I.tuple hq
    obtain ⟨f0, f1, f2, f3, f4, f5⟩ := hf it (by simp)
    have hl := rv.length
    unfold pyNext
    refine wpAny_bind (wpAny_attempt (wpAny_callSpecial?_slot (name := Str.ofString "__next__") (⟨_, he, rfl⟩ : s.TypeIs (.ref e) "enumerate") F.slot_enumerate_next
      (wpAny_call_entry F.slot_enumerate_next ⟨_, he, rfl⟩ F.entry_enumerate_next ?_ (F.args_enumerate_next_1 _))))
    show wpAny _ _ (field (.ref e) 2 >>= _) _ _ _
    refine wpAny_bind (wpAny_field he rfl (x := .ref it) rfl ?_)
    refine wpAny_bind (wpAny_nextOf_tuple_end (I.ok.hd hc) hit p (by simp; omega) fun h' x eb hx' => ?_)
    obtain ⟨o, ho, hcl⟩ := hx'
    refine wpAny_bind (wpAny_isInstance (T := "StopIteration") (b := true) ⟨o, ho, hcl⟩ isSubtype_stop ?_)
    exact wpAny_pure ⟨rfl, I.turned (t' := s.toks) (fun b o hb q => eb b o hb q) f0 f1 f3 f4 f5⟩
  self := fun A i s Q E st h => let ⟨⟨_, he⟩, _⟩ := st; wpAny_pyIter_enum he h
def iEnumA (K : PySem.W.Frag) (ta : TA) : TI := fun σ H R => ta σ H fun vs H1 => ∃ a xs, vs = [.ref a] ∧ ((SqL K H1 a xs ∧ R (Ite K a) H1) ∨ (SqT K H1 a xs ∧ R (IteT K a) H1))
theorem pi_enumA {X : Cx} {e : Expr} {ta : TA} {p pos tpos : Pos} {elts : List Expr} {kk : Nat} (hg : Gl X "enumerate") (hm : X.mg "enumerate" = none) (ha : PA X [e] ta) (hs : starEach [e] X.env = [(false, eval e X.env)] := by rfl) :
    PI X (.Tuple elts kk tpos) (.Call (.Name "enumerate" p) [e] [] pos) (iEnumA X.K ta) := by
  refine ⟨fun pins s σ H R I h => ?_⟩
  refine Call_ (ld_blt I hg hm boot_enumerate (PyProof.Rows.callWith_type1 (thn (ha.run pos pins s σ H _ I h) fun us s1 ⟨vs, H1, I1, r1, q1⟩ => ?_) hs rfl))
  · obtain ⟨a, xs, ex, q1⟩ := q1
    subst ex
    obtain ⟨u, rfl, ru⟩ := vals1 r1
    cases ru
    have fpO : ∀ b ∈ [s1.heap.objs.size + 1, s1.heap.objs.size], FpOk X pins H1 b := fun b hb => by
      have e2 : b = s1.heap.objs.size + 1 ∨ b = s1.heap.objs.size := by simpa using hb
      have hle : s1.heap.objs.size ≤ b := by
        rcases e2 with z | z
        · rw [z]; exact Nat.le_add_right _ _
        · rw [z]; exact Nat.le_refl _
      exact I1.fpOk hle (I1.hok.fresh hle)
    rcases q1 with ⟨hq, q⟩ | ⟨hq, q⟩
    · obtain ⟨its, rv, p2, hz⟩ := I1.list hq
      refine call_enumerate_list p2.isList fun h' he hit hsz hk => wpAny_pyIter_enum he ?_
      exact ⟨s1.heap.objs.size + 1, [s1.heap.objs.size + 1, s1.heap.objs.size], _, _, H1, rfl, I1.kept (t' := s1.toks) hk, turn_enum a (s1.heap.objs.size + 1) s1.heap.objs.size, ⟨⟨.none, he⟩, hit, Nat.succ_ne_self _⟩, fpO, q⟩
    · obtain ⟨its, rv, p2, hz⟩ := I1.tuple hq
      have hal : a < s1.heap.objs.size := by obtain ⟨o, q, _⟩ := p2; exact Heap.lt_size q
      refine pd_call_enum (begins_tuple a its.toArray) p2 fun h' he hit hk => wpAny_pyIter_enum he ?_
      exact ⟨s1.heap.objs.size + 1, [s1.heap.objs.size + 1, s1.heap.objs.size], _, _, H1, rfl, I1.kept (t' := s1.toks) hk, turn_enumT a (s1.heap.objs.size + 1) s1.heap.objs.size,
        ⟨⟨.none, he⟩, ⟨_, hit, rfl, rfl⟩, Nat.succ_ne_self _, Nat.ne_of_lt hal, Nat.ne_of_lt (Nat.lt_succ_of_lt hal)⟩, fpO, q⟩

def enumD : Nat → List D → List D
  | _, [] => []
  | i, d :: ds => .tup [.int i, d] :: enumD (i + 1) ds
def zipD : List D → List D → List D
  | x :: xs, y :: ys => .tup [x, y] :: zipD xs ys
  | _, _ => []
theorem enumD_len : ∀ (ds : List D) (i : Nat), (enumD i ds).length = ds.length
  | [], _ => rfl
  | d :: ds, i => by rw [enumD, List.length_cons, enumD_len ds, List.length_cons]
theorem enumD_get : ∀ (ds : List D) (i j : Nat), (enumD i ds)[j]? = (ds[j]?).map fun d => .tup [.int ((i + j : Nat) : Int), d]
  | [], i, j => by simp [enumD]
  | d :: ds, i, 0 => by simp [enumD]
  | d :: ds, i, j + 1 => by
    rw [enumD, List.getElem?_cons_succ, enumD_get ds, List.getElem?_cons_succ]
    have : i + 1 + j = i + (j + 1) := by omega
    rw [this]
theorem zipD_len : ∀ (xs ys : List D), (zipD xs ys).length = min xs.length ys.length
  | [], _ => by simp [zipD]
  | _ :: _, [] => by simp [zipD]
  | x :: xs, y :: ys => by rw [zipD, List.length_cons, zipD_len xs, List.length_cons, List.length_cons]; omega
theorem zipD_get : ∀ (xs ys : List D) (j : Nat) (d : D), (zipD xs ys)[j]? = some d → ∃ x y, xs[j]? = some x ∧ ys[j]? = some y ∧ d = .tup [x, y]
  | [], _, j, d, h => by simp [zipD] at h
  | _ :: _, [], j, d, h => by simp [zipD] at h
  | x :: xs, y :: ys, 0, d, h => by
    simp [zipD] at h
    exact ⟨x, y, rfl, rfl, h.symm⟩
  | x :: xs, y :: ys, j + 1, d, h => by
    rw [zipD, List.getElem?_cons_succ] at h
    obtain ⟨a, b, h1, h2, h3⟩ := zipD_get xs ys j d h
    exact ⟨a, b, by simpa using h1, by simpa using h2, h3⟩
section
variable {g : G} {k : Nat} {X : Cx} {W : WX}
/-- a new pair as an item -/
theorem pair_item {w1 : Wd} {H1 : Hp} {ρ1 : Rho} {τ1 : Tape} {σ1 : St} (env : EnvR g w1 H1 ρ1 τ1 σ1) {x : V} {H2 : Hp} {T : Addr} {a b : V} {da db : D} (e1 : x = .ref T) (e2 : H1 T = none) (e3 : H2 = upd H1 T (.tup [a, b])) (ra : Rep g w1.Z w1.tp da a) (rb : Rep g w1.Z w1.tp db b) :
    ∃ w2, Ps g w1 H1 ρ1 σ1 w2 H2 ρ1 τ1 σ1 ∧ Rep g w2.Z w2.tp (.tup [da, db]) x := by
  subst e1 e3
  refine (Ps.refl env).newTup e2 ?_
  rw [RepL]
  refine ⟨a, [b], rfl, ra, ?_⟩
  rw [RepL]
  exact ⟨b, [], rfl, rb, by rw [RepL]⟩
/-- a walk's list, frozen: the list is there whatever runs -/
def SeqF (g : G) (w : Wd) (p : Addr) (vs : List V) : Prop := w.Z p = some (.lst vs) ∨ SqT g.K w.Z p vs
theorem wk_enum {w : Wd} {H : Hp} {ρ : Rho} {σ : St} {a : Addr} {vs : List V} {ds : List D} {K : PySem.W.Frag} (hK : K = g.K) (r : RepL g w.Z w.tp ds vs) (h : ∀ w1 H1 ρ1 τ1 σ1, Ps g w H ρ σ w1 H1 ρ1 τ1 σ1 → SqL K H1 a vs) : Wk g w H ρ σ (Ite K a) (enumD 0 ds) := by
  refine ⟨_, _, by rw [enumD_len, ← r.length]; exact walk_enum (K := K) (a := a) (xs := vs), fun w1 H1 ρ1 τ1 σ1 p => h _ _ _ _ _ p, fun i d w1 H1 ρ1 τ1 σ1 x H2 hd p y => ?_⟩
  obtain ⟨T, u, z, e1, e2, e3, e4, e5⟩ := y
  rw [enumD_get] at hd
  obtain ⟨d2, h2, h3⟩ := Option.map_eq_some_iff.mp hd
  obtain ⟨v, hv, rv⟩ := r.get h2
  have e5 : vs[i]? = some z := e5
  rw [hv] at e5
  cases e5
  cases e4
  subst h3
  refine pair_item p.env e1 e2 e3 ?_ (by rw [p.st.tp]; exact Rep.mono p.st.z _ rv)
  rw [Rep]
  simp
theorem wk_enumT {w : Wd} {H : Hp} {ρ : Rho} {σ : St} {a : Addr} {vs : List V} {ds : List D} {K : PySem.W.Frag} (hK : K = g.K) (r : RepL g w.Z w.tp ds vs) (h : SqT g.K w.Z a vs) : Wk g w H ρ σ (IteT K a) (enumD 0 ds) := by
  subst hK
  refine ⟨fun H1 => SqT g.K H1 a vs, YPair (fun i => some (.int (i : Nat))) (fun i => vs[i]?), ?_, fun w1 H1 ρ1 τ1 σ1 p => SqT.mono (p.st.z.trans p.env.zle) h, fun i d w1 H1 ρ1 τ1 σ1 x H2 hd p y => ?_⟩
  · rw [enumD_len, ← r.length]
    refine ⟨fun i _ hi q => ⟨vs, vs[i], q, by simp [hi]⟩, fun _ q => ⟨vs, q, Nat.le_refl _⟩, fun i H v H' _ q y => ?_⟩
    obtain ⟨T, x, h1, h2, h3, h4⟩ := y
    exact ⟨T, .int (i : Nat), x, h1, h2, h3, rfl, h4 vs q⟩
  · obtain ⟨T, u, z, e1, e2, e3, e4, e5⟩ := y
    rw [enumD_get] at hd
    obtain ⟨d2, h2, h3⟩ := Option.map_eq_some_iff.mp hd
    obtain ⟨v, hv, rv⟩ := r.get h2
    have e5 : vs[i]? = some z := e5
    rw [hv] at e5
    cases e5
    cases e4
    subst h3
    refine pair_item p.env e1 e2 e3 ?_ (by rw [p.st.tp]; exact Rep.mono p.st.z _ rv)
    rw [Rep]
    simp
def srcEnum (ev : Ev) : Src := fun ρ τ => match srcOf ev ρ τ with
  | .ok ds ρ' τ' => .ok (enumD 0 ds) ρ' τ'
  | .exc x ρ' τ' => .exc x ρ' τ'
  | .bad => .bad
theorem py_enum {tg : List Expr} {n : Nat} {tp : Pos} {e : Expr} {ev : Ev} {p pos : Pos} (h : PyE g k X W e ev) (hm : g.mg "enumerate" = none) (hg : Gl X "enumerate" := by rfl) (hs : starEach [e] X.env = (false, eval e X.env) :: starEach [] X.env := by rfl) (hs' : starEach [e] X.env = [(false, eval e X.env)] := by rfl) :
    PyI g k X W (.Tuple tg n tp) (.Call (.Name "enumerate" p) [e] [] pos) (srcEnum ev) := fun A => (pi_enumA hg (by rw [A.mg]; exact hm) (pa_cons (py_fz h A) pa_nil hs) hs').imp' fun σ H R q => by
  obtain ⟨w, ρ, τ, env, q⟩ := q
  refine ⟨w, ρ, τ, env, ?_⟩
  unfold srcEnum srcOf at q
  cases e : vFz ev ρ τ with
  | ok r ρ' τ' =>
    simp only [e] at q
    cases r with
    | own d => simp at q
    | fz d =>
      intro w' H' v a hr
      cases d with
      | lst ds =>
        rw [RsR, Rep] at hr
        obtain ⟨p, vs, rfl, h1, h2⟩ := hr
        exact ⟨p, vs, rfl, .inl ⟨SqL.of (a.env.zle _ _ h1), q w' H' _ a (wk_enum A.K h2 fun w1 H1 ρ1 τ1 σ1 b => SqL.of (b.env.zle _ _ (b.st.z _ _ h1)))⟩⟩
      | tup ds =>
        rw [RsR, Rep] at hr
        obtain ⟨p, vs, rfl, h1, h2⟩ := hr
        exact ⟨p, vs, rfl, .inr ⟨by rw [A.K]; exact SqT.mono a.env.zle h1, q w' H' _ a (wk_enumT A.K h2 h1)⟩⟩
      | _ => simp at q
  | exc x ρ' τ' => simp only [e] at q; exact q
  | bad => simp only [e] at q
/-- zip of two frozen lists, of two tuples -/
def zipOk : D → D → Option (List D)
  | .lst xs, .lst ys => some (zipD xs ys)
  | .tup xs, .tup ys => some (zipD xs ys)
  | _, _ => none
def srcZip (ea eb : Ev) : Src := fun ρ τ => match aFz [.ex ea, .ex eb] ρ τ with
  | .ok [x, y] ρ' τ' => (match zipOk x y with
    | some ds => .ok ds ρ' τ'
    | none => .bad)
  | .ok _ _ _ => .bad
  | .exc x ρ' τ' => .exc x ρ' τ'
  | .bad => .bad
theorem py_zip {tg : List Expr} {n : Nat} {tp : Pos} {a b : Expr} {ea eb : Ev} {p pos : Pos} (ha : PyE g k X W a ea) (hb : PyE g k X W b eb) (hm : g.mg "zip" = none) (hg : Gl X "zip" := by rfl) (hs1 : starEach [a, b] X.env = (false, eval a X.env) :: starEach [b] X.env := by rfl) (hs2 : starEach [b] X.env = (false, eval b X.env) :: starEach [] X.env := by rfl)
    (hpl : (backTo pos (starEach [b] X.env)).any (·.1) = false := by rfl) : PyI g k X W (.Tuple tg n tp) (.Call (.Name "zip" p) [a, b] [] pos) (srcZip ea eb) := fun A => (RZ.pi_zipA hg (by rw [A.mg]; exact hm) (pa_cons (py_fz ha A) (pa_cons (py_fz hb A) pa_nil hs2) hs1) hs1 hpl).imp' fun σ H R q => by
  obtain ⟨w, ρ, τ, env, q⟩ := q
  suffices hh : argsT g W [.ex ea, .ex eb] σ H fun vs H1 => ∃ a b xs ys, vs = [.ref a, .ref b] ∧ ((SqL X.K H1 a xs ∧ SqL X.K H1 b ys ∧ R (Itz X.K a b) H1) ∨ (SqT X.K H1 a xs ∧ SqT X.K H1 b ys ∧ R (RZ.ItzT X.K a b) H1)) from hh
  refine args_fz env ?_
  unfold srcZip at q
  cases e : aFz [.ex ea, .ex eb] ρ τ with
  | exc x ρ' τ' => simp only [e] at q; exact q
  | bad => simp only [e] at q
  | ok ds ρ' τ' =>
    simp only [e] at q
    match ds, q with
    | [x, y], q =>
      intro w' H' vs a hr
      obtain ⟨u, v, rfl, hu, hv⟩ := hr.two
      cases e2 : zipOk x y with
      | none => simp only [e2] at q
      | some l =>
        simp only [e2] at q
        unfold zipOk at e2
        split at e2
        · cases e2
          rename_i xs ys
          rw [Rep] at hu hv
          obtain ⟨a1, us, rfl, s1, r1⟩ := hu
          obtain ⟨a2, zs, rfl, s2, r2⟩ := hv
          refine ⟨a1, a2, us, zs, rfl, .inl ⟨SqL.of (a.env.zle _ _ s1), SqL.of (a.env.zle _ _ s2), q w' H' _ a ⟨fun H1 => SqL X.K H1 a1 us ∧ SqL X.K H1 a2 zs, YPair (fun i => us[i]?) (fun i => zs[i]?), by rw [zipD_len, ← r1.length, ← r2.length]; exact walk_zip (K := X.K) (a := a1) (b := a2) rfl, fun w1 H1 ρ1 τ1 σ1 b => ⟨SqL.of (b.env.zle _ _ (b.st.z _ _ s1)), SqL.of (b.env.zle _ _ (b.st.z _ _ s2))⟩, fun i d w1 H1 ρ1 τ1 σ1 x H2 hd p y => ?_⟩⟩⟩
          obtain ⟨T, u, z, e1, e2, e3, e4, e5⟩ := y
          obtain ⟨dx, dy, g1, g2, rfl⟩ := zipD_get _ _ _ _ hd
          obtain ⟨v1, k1, k2⟩ := r1.get g1
          obtain ⟨v2, k3, k4⟩ := r2.get g2
          have e4 : us[i]? = some u := e4
          have e5 : zs[i]? = some z := e5
          rw [k1] at e4
          rw [k3] at e5
          cases e4
          cases e5
          exact pair_item p.env e1 e2 e3 (by rw [p.st.tp]; exact Rep.mono p.st.z _ k2) (by rw [p.st.tp]; exact Rep.mono p.st.z _ k4)
        · cases e2
          rename_i xs ys
          rw [Rep] at hu hv
          obtain ⟨a1, us, rfl, s1, r1⟩ := hu
          obtain ⟨a2, zs, rfl, s2, r2⟩ := hv
          have K := A.K
          refine ⟨a1, a2, us, zs, rfl, .inr ⟨by rw [K]; exact SqT.mono a.env.zle s1, by rw [K]; exact SqT.mono a.env.zle s2, q w' H' _ a ⟨fun H1 => SqT X.K H1 a1 us ∧ SqT X.K H1 a2 zs, YPair (fun i => us[i]?) (fun i => zs[i]?), ?_, fun w1 H1 ρ1 τ1 σ1 b => ⟨by rw [K]; exact SqT.mono (b.st.z.trans b.env.zle) s1, by rw [K]; exact SqT.mono (b.st.z.trans b.env.zle) s2⟩, fun i d w1 H1 ρ1 τ1 σ1 x H2 hd p y => ?_⟩⟩⟩
          · rw [zipD_len, ← r1.length, ← r2.length]
            refine ⟨fun i _ hi q => ?_, fun _ q => ⟨us, zs, q.1, q.2, by omega⟩, fun i H v H' _ q y => ?_⟩
            · have l1 : i < us.length := by omega
              have l2 : i < zs.length := by omega
              exact ⟨us, zs, us[i], zs[i], q.1, q.2, by simp [l1], by simp [l2]⟩
            · obtain ⟨T, x, z, h1, h2, h3, h4, h5⟩ := y
              exact ⟨T, x, z, h1, h2, h3, h4 us q.1, h5 zs q.2⟩
          · obtain ⟨T, u, z, e1, e2, e3, e4, e5⟩ := y
            obtain ⟨dx, dy, g1, g2, rfl⟩ := zipD_get _ _ _ _ hd
            obtain ⟨v1, k1, k2⟩ := r1.get g1
            obtain ⟨v2, k3, k4⟩ := r2.get g2
            have e4 : us[i]? = some u := e4
            have e5 : zs[i]? = some z := e5
            rw [k1] at e4
            rw [k3] at e5
            cases e4
            cases e5
            exact pair_item p.env e1 e2 e3 (by rw [p.st.tp]; exact Rep.mono p.st.z _ k2) (by rw [p.st.tp]; exact Rep.mono p.st.z _ k4)
        · cases e2
end
end PD
set_option maxHeartbeats 2000000
namespace PD
open PySem PySem.Spec PySem.W PySem.Calls PyProof.Rows
/-- what the words must say -/
structure InitOk (I : InitW) : Prop where
  sup : I.scope.names.lookup ("super" : Str) = some .globalImplicit
  cls : I.scope.names.lookup ("__class__" : Str) = some .free
  slf : I.scope.names.lookup ("self" : Str) = some .local
  par : I.scope.names.lookup I.par = some .local
  ne : I.par ≠ "self"
  nocell : ∀ x ∈ I.scope.names, x.2 ≠ .cell
  kind : I.scope.kind = .function
  co : I.scope.isCoroutine = false
  gen : I.scope.isGenerator = false
  head : ∃ ar, (I.params.posonlyargs ++ I.params.args).head? = some ar ∧ ar.arg = "self"
  bnd : ∀ (q : Str) (cc : Addr) (kV doc pm : Value) (an : Option Addr) (cdv ct : Value) (a b : Value), bindArgs (ksFn "__init__" q I.params I.body I.scope .none kV doc pm an cdv ct cc) ⟨[a, b], []⟩ = pure [(("self" : Str), a), (I.par, b)]
  dbg : (I.par == ("__debug__" : Str)) = false
  mc : ∃ pl : Env → Sem Bool, ∀ env : Env, eval (.Call (.Attribute (.Call (.Name "super" I.p0) [] [] I.p1) "__init__" I.p2) [.Constant (.str I.txt) I.j I.p3] [] I.p4) env = (do
      let ov ← attributeBase (.Call (.Name "super" I.p0) [] [] I.p1) "__init__" env (eval (.Call (.Name "super" I.p0) [] [] I.p1) env)
      standAt I.p2.atName
      let (f, first) ← holding [ov] (getMethod ov "__init__" (pl env))
      callWith I.p4 f first (backTo I.p4 (starEach [.Constant (.str I.txt) I.j I.p3] env)) [])
  sw1 : ∀ env : Env, swapsWith (.Call (.Attribute (.Call (.Name "super" I.p0) [] [] I.p1) "__init__" I.p2) [.Constant (.str I.txt) I.j I.p3] [] I.p4) none I.p5.line env = pure false
  sw2 : ∀ env : Env, swapsWith (.Name I.par I.p8) (some (.Attribute (.Name "self" I.p6) I.fld I.p7)) I.p9.line env = pure false
/-- what the written part must say of the class at C, whose __init__ is the one that the class at D says -/
structure InitK (prog : Program) (K : Frag) (I : InitW) (C : Addr) : Prop where
  fn : ∃ (fI cc cda D : Addr) (oc : Value) (od : Option Addr) (osl : Array (Option Value)) (kV doc pm ct : Value) (an : Option Addr), K.lookup fI = some ⟨oc, od, .func (ksFn "__init__" I.qual I.params I.body I.scope .none kV doc pm an (.ref cda) ct cc), osl⟩ ∧
    codeIn K (.ref cda) I.qual = true ∧ (∃ ccl cdd vs ccs file tf, K.lookup cda = some ⟨ccl, cdd, .fields vs, ccs⟩ ∧ vs[2]? = some (.str file tf) ∧ ((prog.main.file : Str) == file) = true) ∧
    (∃ cl cld csl, K.lookup cc = some ⟨cl, cld, .cell (some (.ref D)), csl⟩) ∧ (∃ cdD, clsIn K D = some cdD) ∧ mroIn K C (.ref D) = some true ∧ ks_superIn K C D "__init__" = some (some (.builtin "ValueError.__init__")) ∧
    findIn K (.ref C) "__init__" = some (some (.ref fI)) ∧ typeIn K (.ref fI) = some (.type "function")
  cls : ∃ nm q N bs bm sn sub ab col dd k0 k1 k2 k3 k5, K.lookup C = some (excClassObj nm q C N bs bm true sn sub ab col dd k0 k1 k2 k3 k5 "ValueError.__new__") ∧ PySem.HandSPX.refsVE bm = true
  sa : findIn K (.ref C) "__setattr__" = some (some (.builtin "object.__setattr__"))
  fld : findIn K (.ref C) I.fld = some none
  exC : subIn K (.ref C) (.type "BaseException") = some true
  ve : subIn K (.ref C) (.type "ValueError") = some true
  ini : excInitIn K C veM "ValueError.__new__" = true
  tyC : typeIn K (.ref C) = some (.type "type")
  kC : keepIn K (.ref C) = true
  st : nsIn K cStatics "thirdparty.any" = some none

section
variable {prog : Program} {w : World} {A : Around} {K : Frag} {I : InitW} {C : Addr} {R : Result → Shared → Prop} {h₀ : Heap} {mg mb : Str → Option Value}
theorem init_run (O : InitOk I) (T : InitK prog K I C) (X₀ : K.In h₀) (hns : h₀.Ns mainGlobals mg) (hmg : mg "super" = none) (hb : h₀.Ns builtinsNs mb) (hbb : mb "super" = bootBuiltins "super") (hlim : h₀.NoLimit) (htop : (prog.main.scope.names.lookup ("super" : Str)).isSome = false)
    {s : Shared} {e t0 : Addr} {u : Value} (kp : ∀ b o, h₀.get? b = some o → s.heap.get? b = some o) (hL : h₀.objs.size ≤ s.heap.objs.size) (ne : h₀.get? e = none) (he : s.heap.get? e = some (excObj C t0 none .none)) (hroom : A.depth < recursionLimit)
    {fI : Addr} (hfI : findIn K (.ref C) "__init__" = some (some (.ref fI)))
    (hR : ∀ h' tk t1 dx, (∀ b o, h₀.get? b = some o → h'.get? b = some o) → h₀.objs.size ≤ dx → h'.get? e = some { cls := .ref C, dict := some dx, data := .fields #[.ref t1, .none, .none, .none, .bool false, .none] } →
      h'.Ns1 dx (fun y => if y = I.fld then some u else none) → R (.ok (.ret .none)) { s with heap := h', toks := tk }) :
    codeAny (model prog w) A (.call (.ref fI) ⟨[.ref e, u], []⟩) R s := by
  obtain ⟨fI', cc, cda, D, oc, od, osl, kV, doc, pm, ct, an, lk, hcd, ⟨ccl, cdd, vs, ccs, file, tf, lcda, hvs, hfile⟩, ⟨cl, cld, csl, lcc⟩, ⟨cdD, hD⟩, hsub, hsup, hini, _⟩ := T.fn
  rw [hini] at hfI
  obtain rfl : fI' = fI := by
    have z := Option.some.inj (Option.some.inj hfI)
    injection z
  have KX : K.In s.heap := X₀.keeps kp
  have lim : s.heap.NoLimit := hlim.keeps kp
  refine ks_codeAny_call_defAt (fd := ksFn "__init__" I.qual I.params I.body I.scope .none kV doc pm an (.ref cda) ct cc) (body := I.body) (binds := [(("self" : Str), .ref e), (I.par, u)]) hroom (KX _ _ lk) rfl lim (codeRec_of KX hcd) rfl (.of_eq (O.bnd _ _ _ _ _ _ _ _ _ _)) O.nocell
    (fun x hx => ?_) (fun h₁ hns₁ hk₁ => ?_) O.co O.gen O.kind
  · rcases List.mem_cons.mp hx with rfl | hx
    · exact O.slf
    · rw [List.mem_singleton.mp hx]; exact O.par
  have nl : ([(("self" : Str), Value.ref e), (I.par, u)] : List (Str × Value)).length = 2 := rfl
  generalize hm : (fun x => ([(("self" : Str), Value.ref e), (I.par, u)] : List (Str × Value)).reverse.lookup x) = m at hns₁
  have m1 : m "self" = some (.ref e) := by
    rw [← hm]
    have q : (("self" : Str) == I.par) = false := by
      have := O.ne
      simp only [beq_eq_false_iff_ne, ne_eq]
      exact fun z => this z.symm
    simp [List.lookup, q]
  have m2 : m I.par = some u := by
    rw [← hm]
    simp [List.lookup]
  have F1 : Fr h₀ s.heap.objs.size h₁ m := ⟨hns₁, fun b o z => hk₁ b o (kp b o z), hL⟩
  have he1 : h₁.get? e = some (excObj C t0 none .none) := hk₁ _ _ he
  have eL : e ≠ s.heap.objs.size := Nat.ne_of_lt (Heap.lt_size he)
  have N1 : News h₀ s.heap.objs.size h₁ [(e, excObj C t0 none .none)] := fun p hp => by
    rw [List.mem_singleton.mp hp]
    exact ⟨he1, eL, ne⟩
  have I1 : InstAt h₁ e (excObj C t0 none .none) C none := ⟨he1, rfl, rfl, trivial⟩
  show PySem.wpAt (model prog w) _ (.func I.body (ksEnv I.qual I.scope s.heap.objs.size fI' (.ref cda) cc)) (execs I.body (ksEnv I.qual I.scope s.heap.objs.size fI' (.ref cda) cc)) _ _ _
  obtain ⟨pl, hpl⟩ := O.mc
  have hint : interactive (ksEnv I.qual I.scope s.heap.objs.size fI' (.ref cda) cc) = false := by
    unfold interactive
    simp [O.kind, envX]
  have K1 : K.In h₁ := X₀.keeps F1.keep
  obtain ⟨oD, hD1, hD2⟩ : ∃ oD, K.lookup D = some oD ∧ oD.data = .cls cdD := by
    unfold clsIn at hD
    split at hD
    · rename_i c d cd' sl ho
      cases hD
      exact ⟨_, ho, rfl⟩
    · cases hD
  obtain ⟨ar, har, hself⟩ := O.head
  refine ks_wpAt_execs_cons (ks_wpAt_Expr_any (ks_wpAt_MethodCall (pl := pl _) ?_ (hpl _)) hint (O.sw1 _))
  refine ks_wpAt_super_base (env := ksEnv I.qual I.scope s.heap.objs.size fI' (.ref cda) cc) O.sup O.cls (by decide) rfl (K1 _ _ lk) rfl har rfl (K1 _ _ lcda) rfl hvs hfile htop ?_
  refine ks_loadName_global O.kind O.sup (loadGlobal_builtin (env := ksEnv I.qual I.scope s.heap.objs.size fI' (.ref cda) cc) (hns.keeps F1.keep) hmg (hb.keeps F1.keep) (hbb.trans (by decide +kernel : bootBuiltins "super" = some (.type "super"))) ⟨rfl, ?_⟩)
  refine wpAny_loadName_free O.kind O.cls rfl ⟨_, K1 _ _ lcc, rfl⟩ ?_
  rw [hself]
  refine wpAny_loadName_local O.kind O.slf F1.ns m1 ?_
  refine ks_wpAny_isType_cls (K1 _ _ hD1) hD2 ⟨rfl, ?_⟩
  refine ks_wpAny_call_super (K1 _ _ hD1) hD2 he1 rfl (fun c z => nomatch z) (looks_mroIn K1 hsub) (fun h2 e2 k2 => ?_)
  obtain ⟨F2, N2, l2⟩ := ks_newsPush (s := { s with heap := h₁ }) F1 N1 rfl e2 k2
  have I2 : InstAt h2 e (excObj C t0 none .none) C none := ⟨k2 _ _ he1, rfl, rfl, trivial⟩
  refine kxs_method kxs_ValueError F2 X₀ N2 List.mem_cons_self I2 T.st hsup T.ve (by decide) fun q h3 F3 N3 l3 => ?_
  refine kxs_callWith1 N3 List.mem_cons_self ?_
  show wpAny _ _ (spliced ((false, eval (.Constant (.str I.txt) I.j I.p3) _) :: backTo I.p4 (starEach [] _))) _ _ _
  refine Calls.spliced_cons (Calls.Constant_str (Calls.spliced_nil ⟨(N3 _ List.mem_cons_self).1, ?_⟩))
  have ql : q ≠ e := Nat.ne_of_gt (l3 (e, excObj C t0 none .none) (by simp))
  have so_ne : s.heap.objs.size ≠ e := Ne.symm eL
  have sl : h₁.objs.size ≠ e := Nat.ne_of_gt (l2 (e, excObj C t0 none .none) (by simp))
  refine kxs_call (s := { s with heap := h3, toks := _ }) (C := C) (x := e) (t := t0) (dv := none) (c2 := .none) (K := K) (news := (q, kxs_mw "ValueError.__init__" e) :: (h₁.objs.size, ks_superObj D e C) :: [(e, excObj C t0 none .none)]) F3 X₀ N3 PySem.F.excBase_ValueError T.ini List.mem_cons_self (.tail ql (.tail sl (.head fun p hp => nomatch hp))) (by show 1 ≤ sizeLine; decide) fun t1 h4 F4 N4 l4 => ?_
  have K4 : K.In h4 := X₀.keeps F4.keep
  have he4 : h4.get? e = some (excObj C t1 none .none) := (N4 (e, excObj C t1 none .none) (by simp)).1
  refine ks_wpAt_execs_cons (ks_wpAt_Assign_Attr ?_ (O.sw2 _))
  refine PySem.wpAt_of_wpAny ?_
  refine PySem.ESX.ldL (env := ksEnv I.qual I.scope s.heap.objs.size fI' (.ref cda) cc) (s := { s with heap := h4, toks := _ }) (m := m) F4.ns m2 ?_ O.kind O.par O.dbg
  refine PySem.ESX.ldL (env := ksEnv I.qual I.scope s.heap.objs.size fI' (.ref cda) cc) (s := { s with heap := h4, toks := _ }) (m := m) F4.ns m1 ?_ O.kind O.slf (by decide)
  have I4 : InstAt h4 e (excObj C t1 none .none) C none := ⟨he4, rfl, rfl, trivial⟩
  obtain ⟨nm, qn, N, bs, bm, sn, sub, ab, col, dd, k0, k1, k2, k3, k5, hC, hbm⟩ := T.cls
  have hcl : clsIn K C = some { name := nm, bases := bs, mro := .ref C :: bm, ns := N, qualname := qn, hasDict := true, slotNames := sn, subclasses := sub, abstract := ab, collection := col, hasDel := false } := by
    unfold clsIn
    rw [hC] <;> rfl
  refine set_plain K4 I4 T.sa ?_
  refine PySem.HandSPX.exc_osa K4 he4 hcl (show PySem.HandSPX.refsVE (.ref C :: bm) = true from hbm) rfl T.fld fun h5 tk5 dx k5' dn dne hx hn => ?_
  have hz4 : h₀.objs.size ≤ h4.objs.size := Nat.le_trans F4.above (by obtain ⟨oL, _, _, hL, _⟩ := F4.ns; exact Nat.le_of_lt (Heap.lt_size hL))
  show PySem.wpAt _ _ _ (execs [] _) _ _ _
  unfold execs
  refine PySem.wpAt_of_wpAny (wpAny_pure ?_)
  exact hR h5 tk5 t1 dx (fun b o z => k5' b o (fun q => by rw [q, ne] at z; cases z) (F4.keep b o z)) (Nat.le_trans hz4 dn) hx hn
end
end PD
namespace PD
open PySem PySem.Spec L2
open PyProof.Rows hiding St
section
variable {X : Cx} {I : InitW} {C : Addr}
/-- x(e): a new exception with its field -/
theorem pmk_fld {k : Nat} {x : Str} {e : Expr} {te : TE} {p pos : Pos} (O : InitOk I) (T : InitK X.prog X.K I C) (gC : X.mg x = some (.ref C)) (hsup : X.mg "super" = none) (htop : (X.prog.main.scope.names.lookup ("super" : Str)).isSome = false) (hr : Room (k + 1) X.A) (hg : Gl X x) (he : PE X e te)
    (hdb : (x == ("__debug__" : Str)) = false := by decide) (hs : starEach [e] X.env = (false, eval e X.env) :: starEach [] X.env := by rfl) (hpl : (backTo pos (starEach ([] : List Expr) X.env)).any (·.1) = false := by rfl) :
    PMk X (.Call (.Name x p) [e] [] pos) (fun σ H Q => tCons te tNil σ H fun vs H1 => ∃ v, vs = [v] ∧ ∀ d, H1 d = none → Q (.ref C) (some d) (upd H1 d (.xd [(I.fld, v)]))) := by
  intro pins s σ H Q J h
  obtain ⟨fI, cc, cda, D, _, _, _, _, _, _, _, _, _, _, _, _, _, _, _, hini, tI⟩ := id T.fn
  obtain ⟨nm, q, N, bs, bm, sn, sub, ab, col, dd, k0, k1, k2, k3, k5, hC, hbm⟩ := T.cls
  refine wpAny_Call_Name_kw (ld_glob J hg gC ?_ hdb)
  refine PySem.W.callWith_K (h₀ := X.base) J.ok.mod.kin T.kC (thn ((pa_cons he pa_nil hs).run pos pins s σ H _ J h) fun us s1 ⟨vs, H1, I1, r1, v, ev, q1⟩ => ⟨I1.kIn, ?_⟩) hs hpl
  subst ev
  obtain ⟨u, rfl, ru⟩ := vals1 r1
  show wpAny _ _ (call (.ref C) [u]) _ _ _
  obtain ⟨hp, g, dr, tk, os⟩ := s1
  have mod := I1.ok.mod
  have hk : ∀ b o, X.base.get? b = some o → hp.get? b = some o := I1.bk
  obtain ⟨mb, hb1, hb2⟩ := mod.blt
  have kk : ∀ b o, hp.get? b = some o → ((hp.push (PySem.W.kdv_tup [u])).push (PySem.HandSPX.excO C hp.objs.size)).get? b = some o := fun b o e => Heap.get?_push_of_some _ (Heap.get?_push_of_some _ e)
  have hget : ((hp.push (PySem.W.kdv_tup [u])).push (PySem.HandSPX.excO C hp.objs.size)).get? (hp.objs.size + 1) = some (PySem.HandSPX.excO C hp.objs.size) := by heap_get
  have nn : hp.get? (hp.objs.size + 1) = none := by
    cases z : hp.get? (hp.objs.size + 1) with
    | none => rfl
    | some o => exact absurd (Heap.lt_size z) (Nat.not_lt_of_le (Nat.le_succ _))
  have hsz : hp.objs.size ≤ ((hp.push (PySem.W.kdv_tup [u])).push (PySem.HandSPX.excO C hp.objs.size)).objs.size := by rw [Heap.size_push, Heap.size_push]; omega
  refine wpAny_call (PySem.HandSPX.call_own F.excBase_ValueError (fun Y => PySem.HandSPX.refsVE_contains Y bm hbm) (I1.kIn _ _ hC) (PySem.W.looks_findIn I1.kIn hini) (fun self => PySem.W.bind_fn I1.kIn self tI) (by show 1 ≤ sizeLine; decide)
    (init_run O T (h₀ := hp) (mg := X.mg) (mb := mb) I1.kIn (mod.glob.keeps hk) hsup (hb1.keeps hk) (hb2 _ (by decide)) (mod.nolimit.keeps hk) htop kk hsz nn hget (by rw [make_depth]; have := hr.dp; omega) hini fun h' tk' t1 dx hkp hdx hx hn => ?_))
  obtain ⟨Gh, g1, g2⟩ := restrict h' fun b => decide (b ≠ hp.objs.size + 1)
  have gk : ∀ b, b ≠ hp.objs.size + 1 → Gh.get? b = h'.get? b := fun b hb => g1 b (decide_eq_true hb)
  have gn : Gh.get? (hp.objs.size + 1) = none := g2 _ (by simp)
  have dne : dx ≠ hp.objs.size + 1 := fun z => by
    obtain ⟨o, es, ep, e1, e2, _⟩ := hn
    rw [z, hx] at e1
    have z2 := Option.some.inj e1
    subst z2
    cases e2
  have nH : H1 dx = none := I1.hok.fresh hdx
  have J1 : Inv X pins σ (upd H1 dx (.xd [(I.fld, v)])) ⟨Gh, g, dr, tk', os⟩ := by
    refine I1.laid (t' := tk') (a := dx) (o := .xd [(I.fld, v)]) (h' := Gh) (fun b o z => ?_) hdx ?_
    · have hb : b ≠ hp.objs.size + 1 := fun y => by rw [y, nn] at z; cases z
      rw [gk b hb]
      exact hkp b o z
    · exact ⟨_, hn.at fun o y => (gk dx dne).trans y, relO_put (fs := []) ru fun f => True.intro⟩
  have nE : upd H1 dx (.xd [(I.fld, v)]) (hp.objs.size + 1) = none := by
    rw [upd_ne (Ne.symm dne)]
    exact I1.hok.fresh (Nat.le_succ _)
  refine ⟨rfl, hp.objs.size + 1, _, _, ⟨Gh, g, dr, tk', os⟩, _, .ref C, some dx, rfl, J1, fun b o z => ?_, gn, hx, ⟨rfl, rfl⟩, rfl, rfl, nE, rfl, I1.bare, raises_own T.exC T.tyC, q1 dx nH⟩
  by_cases hb : b = hp.objs.size + 1
  · rw [hb, gn] at z; cases z
  · exact (gk b hb).symm.trans z
end

theorem Ps.newFz {g : G} {w : Wd} {H : Hp} {ρ : Rho} {σ : St} {w' : Wd} {H' : Hp} {ρ' : Rho} {τ' : Tape} {σ' : St} (a : Ps g w H ρ σ w' H' ρ' τ' σ') {p : Addr} {o : HO} (ho : ∀ ps, o ≠ .tbl ps) (hp : H' p = none) :
    Ps g w H ρ σ { w' with Z := upd w'.Z p o } (upd H' p o) ρ' τ' σ' ∧ ZLe w'.Z (upd w'.Z p o) := by
  obtain ⟨b, z, t, c, hH⟩ := a.laid (o := o) hp
  refine ⟨⟨b.env.zone ho upd_same z t c, ⟨b.st.z.trans (ZLe.upd z), b.st.tp, b.st.fr, fun x e n => ?_, b.st.al⟩, b.lic, b.bor⟩, ZLe.upd z⟩
  by_cases hx : x = p
  · subst hx; exact .inl hH
  · have n' : upd w'.Z p o x ≠ none := n
    rw [upd_ne hx] at n'
    exact b.st.nz x e n'
/-- an own class whose __init__ keeps one field -/
structure ExFld (g : G) (x : Str) (I : InitW) : Prop where
  ok : InitOk I
  ex : ∃ C, g.mg x = some (.ref C) ∧ InitK g.prog g.K I C
  sup : g.mg "super" = none
  top : (g.prog.main.scope.names.lookup ("super" : Str)).isSome = false
/-- an own class that is made with a text -/
structure ExTxt (g : G) (x : Str) : Prop where
  ex : ∃ C, g.mg x = some (.ref C) ∧ PySem.W.excIn g.K C veM "ValueError.__new__" = true ∧ PySem.W.keepIn g.K (.ref C) = true ∧ PySem.W.subIn g.K (.ref C) (.type "BaseException") = some true ∧ PySem.W.typeIn g.K (.ref C) = some (.type "type")
def sRaiseF (c f : Str) (ev : Ev) : Sv := fun ρ τ => match vFz ev ρ τ with
  | .ok (.fz d) ρ' τ' => .exc (.exc c [(f, d)]) ρ' τ'
  | .ok (.own _) _ _ => .bad
  | .exc x ρ' τ' => .exc x ρ' τ'
  | .bad => .bad
def sRaiseT (c : Str) : Sv := fun ρ τ => .exc (.exc c []) ρ τ
section
variable {g : G} {k : Nat} {X : Cx} {W : WX}
theorem py_raiseF {x : Str} {I : InitW} {e : Expr} {ev : Ev} {p pos pos2 : Pos} (F : ExFld g x I) (he : PyE g (k + 1) X W e ev) (hg : Gl X x := by rfl) (hdb : (x == ("__debug__" : Str)) = false := by decide) (hs : starEach [e] X.env = (false, eval e X.env) :: starEach [] X.env := by rfl)
    (hpl : (backTo pos (starEach ([] : List Expr) X.env)).any (·.1) = false := by rfl) : PyS g (k + 1) X W (.Raise (some (.Call (.Name x p) [e] [] pos)) none pos2) (sRaiseF x I.fld ev) := fun A => by
  obtain ⟨C, hm, T⟩ := F.ex
  have P := pmk_fld (k := k) (p := p) (pos := pos) F.ok (X := X) (C := C) (by rw [A.prog, A.K]; exact T) (by rw [A.mg]; exact hm) (by rw [A.mg]; exact F.sup) (by rw [A.prog]; exact F.top) A.room hg (py_fz he A) hdb hs hpl
  refine (ps_raise A.calm A.takes P).imp' fun D σ H q => ?_
  obtain ⟨w, ρ, τ, env, q⟩ := q
  refine ⟨w, ρ, τ, env, ?_⟩
  have q : SGo g W w H ρ σ D (sRaiseF x I.fld ev ρ τ) := q
  unfold sRaiseF at q
  cases e : vFz ev ρ τ with
  | exc y ρ' τ' => simp only [e] at q; exact fun w' H' cls dx a hx => q w' H' σ cls dx a hx
  | bad => simp only [e] at q; exact q
  | ok r ρ' τ' =>
    simp only [e] at q
    cases r with
    | own d => exact q.elim
    | fz d =>
      intro w' H' v a hr
      refine ⟨v, rfl, fun dd hd => ?_⟩
      obtain ⟨b, z⟩ := a.newFz (o := .xd [(I.fld, v)]) (fun _ q => nomatch q) hd
      refine q _ _ σ _ _ b ⟨C, [(I.fld, v)], hm, rfl, .inr ⟨dd, rfl, upd_same⟩, ?_⟩
      rw [RepF]
      exact ⟨v, [], rfl, Rep.mono z _ hr, by rw [RepF]⟩
theorem py_raiseT {x m : Str} {j : Nat} {p p2 pos pos2 : Pos} (T : ExTxt g x) (hg : Gl X x := by rfl) (hdb : (x == ("__debug__" : Str)) = false := by decide) : PyS g k X W (.Raise (some (.Call (.Name x p) [.Constant (.str m) j p2] [] pos)) none pos2) (sRaiseT x) := fun A => by
  obtain ⟨C, hm, h1, h2, h3, h4⟩ := T.ex
  have P := pmk_own (X := X) (p := p) (p2 := p2) (pos := pos) (m := m) (j := j) PySem.F.excBase_ValueError (by rw [A.K]; exact h1) (by rw [A.mg]; exact hm) (by rw [A.K]; exact h2) (raises_own (by rw [A.K]; exact h3) (by rw [A.K]; exact h4)) hg hdb
  refine (ps_raise A.calm A.takes P).imp' fun D σ H q => ?_
  obtain ⟨w, ρ, τ, env, q⟩ := q
  exact q w H σ _ _ (.refl env) ⟨C, [], hm, rfl, .inl ⟨rfl, rfl⟩, by rw [RepF]⟩
end
end PD
namespace PD
open PySem PySem.Spec L2
open PyProof.Rows hiding St
theorem excH_ok {P : Program} {w : World} {H : Hp} {h : Heap} {a C : Addr} {dx : Option Addr} {oe : Obj} {vs : Array Value} (e : h.get? a = some oe) (z : Zc (.ref C) dx oe) (d : oe.data = .fields vs) : ObjOk P w H h a (excH a C dx) :=
  ⟨⟨oe, vs, e, z, d⟩, ⟨oe, e⟩, fun _ _ ⟨o, v, q, r⟩ k => ⟨o, v, k o q, r⟩⟩
section
variable {X : Cx} {I : InitW} {C : Addr}
/-- x(e), an own class without own __init__ -/
theorem pe_excT {x : Str} {e : Expr} {ta : TE} {p pos : Pos} (q : PySem.W.excIn X.K C veM "ValueError.__new__" = true) (gC : X.mg x = some (.ref C)) (kC : PySem.W.keepIn X.K (.ref C) = true) (hg : Gl X x)
    (he : PE X e ta) (hs : starEach [e] X.env = (false, eval e X.env) :: starEach [] X.env := by rfl) (hdb : (x == ("__debug__" : Str)) = false := by decide) :
    PE X (.Call (.Name x p) [e] [] pos) (fun σ H Q => ta σ H fun _ H1 => ∀ a, H1 a = none → Q (.ref a) (upd H1 a (excH a C none))) := by
  refine ⟨fun pins s σ H Q I h => ?_⟩
  refine wpAny_Call_Name_kw (ld_glob I hg gC ?_ hdb)
  refine PySem.W.callWith_K (h₀ := X.base) I.ok.mod.kin kC ?_ hs (by rfl)
  rw [hs]
  show wpAny _ _ (spliced ((false, eval e X.env) :: backTo pos (starEach [] X.env))) _ _ s
  refine Calls.spliced_cons (thn (he.run pins s σ H _ I h) fun u s1 ⟨v, H1, I1, r1, q1⟩ => ?_)
  refine Calls.spliced_nil ⟨I1.kIn, ?_⟩
  show wpAny _ _ (call (.ref C) [u]) _ _ _
  obtain ⟨bm, N, nm, qn, bs, hdct, sn, sub, ab, col, dd, k0, k1, k2, k3, k5, mN, hC, hN, hni, T⟩ := exc_obj I1.kIn q
  refine wpAny_call_exc_subT PySem.F.excBase_ValueError T hC hN hni (fun h' a hm => ?_) (by show 1 ≤ sizeLine; decide)
  have hn : H1 a = none := I1.hok.gone hm.new
  obtain ⟨t, ht, _, _⟩ := hm.there
  exact ⟨.ref a, upd H1 a (excH a C none), I1.laidN hm.keeps hm.new hn (excH_ok ht ⟨rfl, rfl⟩ rfl), rfl, q1 a hn⟩
/-- x(e), an own class with a field -/
theorem pe_excF {k : Nat} {x : Str} {e : Expr} {te : TE} {p pos : Pos} (O : InitOk I) (T : InitK X.prog X.K I C) (gC : X.mg x = some (.ref C)) (hsup : X.mg "super" = none) (htop : (X.prog.main.scope.names.lookup ("super" : Str)).isSome = false) (hr : Room (k + 1) X.A) (hg : Gl X x) (he : PE X e te)
    (hdb : (x == ("__debug__" : Str)) = false := by decide) (hs : starEach [e] X.env = (false, eval e X.env) :: starEach [] X.env := by rfl) (hpl : (backTo pos (starEach ([] : List Expr) X.env)).any (·.1) = false := by rfl) :
    PE X (.Call (.Name x p) [e] [] pos) (fun σ H Q => tCons te tNil σ H fun vs H1 => ∃ v, vs = [v] ∧ ∀ d a, H1 d = none → H1 a = none → d ≠ a → Q (.ref a) (upd (upd H1 d (.xd [(I.fld, v)])) a (excH a C (some d)))) := by
  refine ⟨fun pins s σ H Q J h => ?_⟩
  obtain ⟨fI, cc, cda, D, _, _, _, _, _, _, _, _, _, _, _, _, _, _, _, hini, tI⟩ := id T.fn
  obtain ⟨nm, q, N, bs, bm, sn, sub, ab, col, dd, k0, k1, k2, k3, k5, hC, hbm⟩ := T.cls
  refine wpAny_Call_Name_kw (ld_glob J hg gC ?_ hdb)
  refine PySem.W.callWith_K (h₀ := X.base) J.ok.mod.kin T.kC (thn ((pa_cons he pa_nil hs).run pos pins s σ H _ J h) fun us s1 ⟨vs, H1, I1, r1, v, ev, q1⟩ => ⟨I1.kIn, ?_⟩) hs hpl
  subst ev
  obtain ⟨u, rfl, ru⟩ := vals1 r1
  show wpAny _ _ (call (.ref C) [u]) _ _ _
  obtain ⟨hp, g, dr, tk, os⟩ := s1
  have mod := I1.ok.mod
  have hk : ∀ b o, X.base.get? b = some o → hp.get? b = some o := I1.bk
  obtain ⟨mb, hb1, hb2⟩ := mod.blt
  have kk : ∀ b o, hp.get? b = some o → ((hp.push (PySem.W.kdv_tup [u])).push (PySem.HandSPX.excO C hp.objs.size)).get? b = some o := fun b o e => Heap.get?_push_of_some _ (Heap.get?_push_of_some _ e)
  have hget : ((hp.push (PySem.W.kdv_tup [u])).push (PySem.HandSPX.excO C hp.objs.size)).get? (hp.objs.size + 1) = some (PySem.HandSPX.excO C hp.objs.size) := by heap_get
  have nn : hp.get? (hp.objs.size + 1) = none := by
    cases z : hp.get? (hp.objs.size + 1) with
    | none => rfl
    | some o => exact absurd (Heap.lt_size z) (Nat.not_lt_of_le (Nat.le_succ _))
  have hsz : hp.objs.size ≤ ((hp.push (PySem.W.kdv_tup [u])).push (PySem.HandSPX.excO C hp.objs.size)).objs.size := by rw [Heap.size_push, Heap.size_push]; omega
  refine wpAny_call (PySem.HandSPX.call_own F.excBase_ValueError (fun Y => PySem.HandSPX.refsVE_contains Y bm hbm) (I1.kIn _ _ hC) (PySem.W.looks_findIn I1.kIn hini) (fun self => PySem.W.bind_fn I1.kIn self tI) (by show 1 ≤ sizeLine; decide)
    (init_run O T (h₀ := hp) (mg := X.mg) (mb := mb) I1.kIn (mod.glob.keeps hk) hsup (hb1.keeps hk) (hb2 _ (by decide)) (mod.nolimit.keeps hk) htop kk hsz nn hget (by rw [make_depth]; have := hr.dp; omega) hini fun h' tk' t1 dx hkp hdx hx hn => ?_))
  obtain ⟨Gh, g1, g2⟩ := restrict h' fun b => decide (b ≠ hp.objs.size + 1)
  have gk : ∀ b, b ≠ hp.objs.size + 1 → Gh.get? b = h'.get? b := fun b hb => g1 b (decide_eq_true hb)
  have gn : Gh.get? (hp.objs.size + 1) = none := g2 _ (by simp)
  have dne : dx ≠ hp.objs.size + 1 := fun z => by
    obtain ⟨o, es, ep, e1, e2, _⟩ := hn
    rw [z, hx] at e1
    have z2 := Option.some.inj e1
    subst z2
    cases e2
  have nH : H1 dx = none := I1.hok.fresh hdx
  have J1 : Inv X pins σ (upd H1 dx (.xd [(I.fld, v)])) ⟨Gh, g, dr, tk', os⟩ := by
    refine I1.laid (t' := tk') (a := dx) (o := .xd [(I.fld, v)]) (h' := Gh) (fun b o z => ?_) hdx ?_
    · have hb : b ≠ hp.objs.size + 1 := fun y => by rw [y, nn] at z; cases z
      rw [gk b hb]
      exact hkp b o z
    · exact ⟨_, hn.at fun o y => (gk dx dne).trans y, relO_put (fs := []) ru fun f => True.intro⟩
  have n0 : H1 (hp.objs.size + 1) = none := I1.hok.fresh (Nat.le_succ _)
  have nE : upd H1 dx (.xd [(I.fld, v)]) (hp.objs.size + 1) = none := by
    rw [upd_ne (Ne.symm dne)]
    exact n0
  have J2 : Inv X pins σ (upd (upd H1 dx (.xd [(I.fld, v)])) (hp.objs.size + 1) (excH (hp.objs.size + 1) C (some dx))) ⟨h', g, dr, tk', os⟩ :=
    J1.laidN (h' := h') (t' := tk') (fun b o z => by
      have hb : b ≠ hp.objs.size + 1 := fun y => by
        have z : Gh.get? b = some o := z
        rw [y, gn] at z; cases z
      exact (gk b hb).symm.trans z) gn nE (excH_ok hx ⟨rfl, rfl⟩ rfl)
  exact ⟨rfl, .ref (hp.objs.size + 1), _, J2, rfl, q1 dx _ nH n0 dne⟩
end
def vNewT (c : Str) (ev : Ev) : Ev := fun ρ τ => match vFz ev ρ τ with
  | .ok (.fz _) ρ' τ' => .ok (.fz (.exc c [])) ρ' τ'
  | .ok (.own _) _ _ => .bad
  | .exc x ρ' τ' => .exc x ρ' τ'
  | .bad => .bad
def vNewF (c f : Str) (ev : Ev) : Ev := fun ρ τ => match vFz ev ρ τ with
  | .ok (.fz d) ρ' τ' => .ok (.fz (.exc c [(f, d)])) ρ' τ'
  | .ok (.own _) _ _ => .bad
  | .exc x ρ' τ' => .exc x ρ' τ'
  | .bad => .bad
section
variable {g : G} {k : Nat} {X : Cx} {W : WX}
theorem py_newT {x : Str} {e : Expr} {ev : Ev} {p pos : Pos} (T : ExTxt g x) (he : PyE g k X W e ev) (hg : Gl X x := by rfl) (hdb : (x == ("__debug__" : Str)) = false := by decide) (hs : starEach [e] X.env = (false, eval e X.env) :: starEach [] X.env := by rfl) :
    PyE g k X W (.Call (.Name x p) [e] [] pos) (vNewT x ev) := fun A => by
  obtain ⟨C, hm, h1, h2, h3, h4⟩ := T.ex
  refine (pe_excT (C := C) (by rw [A.K]; exact h1) (by rw [A.mg]; exact hm) (by rw [A.K]; exact h2) hg (py_fz he A) hs hdb).imp' fun σ H Q q => ?_
  obtain ⟨w, ρ, τ, env, q⟩ := q
  refine ⟨w, ρ, τ, env, ?_⟩
  unfold vNewT at q
  cases e : vFz ev ρ τ with
  | exc y ρ' τ' => simp only [e] at q; exact q
  | bad => simp only [e] at q
  | ok r ρ' τ' =>
    simp only [e] at q
    cases r with
    | own d => exact q.elim
    | fz d =>
      intro w' H' v a hr p hp
      obtain ⟨b, z⟩ := a.newFz (o := excH p C none) (fun _ q => nomatch q) hp
      refine q _ _ _ b ?_
      rw [RsR, Rep]
      exact ⟨p, C, none, [], rfl, hm, upd_same, .inl ⟨rfl, rfl⟩, by rw [RepF]⟩
theorem py_newF {x : Str} {I : InitW} {e : Expr} {ev : Ev} {p pos : Pos} (F : ExFld g x I) (he : PyE g (k + 1) X W e ev) (hg : Gl X x := by rfl) (hdb : (x == ("__debug__" : Str)) = false := by decide) (hs : starEach [e] X.env = (false, eval e X.env) :: starEach [] X.env := by rfl)
    (hpl : (backTo pos (starEach ([] : List Expr) X.env)).any (·.1) = false := by rfl) : PyE g (k + 1) X W (.Call (.Name x p) [e] [] pos) (vNewF x I.fld ev) := fun A => by
  obtain ⟨C, hm, T⟩ := F.ex
  refine (pe_excF (k := k) (p := p) (pos := pos) F.ok (X := X) (C := C) (by rw [A.prog, A.K]; exact T) (by rw [A.mg]; exact hm) (by rw [A.mg]; exact F.sup) (by rw [A.prog]; exact F.top) A.room hg (py_fz he A) hdb hs hpl).imp' fun σ H Q q => ?_
  obtain ⟨w, ρ, τ, env, q⟩ := q
  refine ⟨w, ρ, τ, env, ?_⟩
  unfold vNewF at q
  cases e : vFz ev ρ τ with
  | exc y ρ' τ' => simp only [e] at q; exact q
  | bad => simp only [e] at q
  | ok r ρ' τ' =>
    simp only [e] at q
    cases r with
    | own d => exact q.elim
    | fz d =>
      intro w' H' v a hr
      refine ⟨v, rfl, fun dd aa hd ha hne => ?_⟩
      obtain ⟨b, z⟩ := a.newFz (o := .xd [(I.fld, v)]) (fun _ q => nomatch q) hd
      obtain ⟨b2, z2⟩ := b.newFz (p := aa) (o := excH aa C (some dd)) (fun _ q => nomatch q) (by rw [upd_ne (Ne.symm hne)]; exact ha)
      refine q _ _ _ b2 ?_
      rw [RsR, Rep]
      refine ⟨aa, C, some dd, [(I.fld, v)], rfl, hm, upd_same, .inr ⟨dd, rfl, ?_⟩, ?_⟩
      · show upd (upd w'.Z dd (.xd [(I.fld, v)])) aa (excH aa C (some dd)) dd = _
        rw [upd_ne hne]
        exact upd_same
      · rw [RepF]
        exact ⟨v, [], rfl, Rep.mono z2 _ (Rep.mono z _ hr), by rw [RepF]⟩
end
end PD
namespace PD
open PySem PySem.Spec L2
open PyProof.Rows hiding St
def ssOf : List D → Option (List Str)
  | [] => some []
  | .str b :: r => (ssOf r).map (b :: ·)
  | _ :: _ => none
def vJoin (a : Str) (ev : Ev) : Ev := fun ρ τ => match vFz ev ρ τ with
  | .ok (.fz (.lst ds)) ρ' τ' => (match ssOf ds with
    | some ys => if (ys.map (·.length)).sum + ys.length * a.length ≤ 16777216 then .ok (.fz (.str (Txt.join a ys))) ρ' τ' else .bad
    | none => .bad)
  | .ok _ _ _ => .bad
  | .exc x ρ' τ' => .exc x ρ' τ'
  | .bad => .bad
section
variable {g : G} {k : Nat} {X : Cx} {W : WX}
theorem rep_ss {Z : Hp} {tp : Option (Addr × Addr × Addr)} : ∀ {ds : List D} {us : List V} {ys : List Str}, RepL g Z tp ds us → ssOf ds = some ys → us = ys.map V.str
  | [], us, ys, h, e => by rw [RepL] at h; cases e; exact h
  | d :: ds, us, ys, h, e => by
    rw [RepL] at h
    obtain ⟨v, r, rfl, h1, h2⟩ := h
    cases d with
    | str b =>
      rw [ssOf] at e
      cases e2 : ssOf ds with
      | none => rw [e2] at e; cases e
      | some zs =>
        rw [e2] at e
        cases e
        rw [Rep] at h1
        subst h1
        rw [rep_ss h2 e2]
        rfl
    | _ => cases e
theorem py_join {a : Str} {j : Nat} {p apos pos : Pos} {e : Expr} {ev : Ev} (he : PyE g k X W e ev) (hs : starEach [e] X.env = [(false, eval e X.env)] := by rfl) (hbase : attributeBase (.Constant (.str a) j p) "join" X.env (eval (.Constant (.str a) j p) X.env) = eval (.Constant (.str a) j p) X.env := by rfl) (hline : (apos.endLine == pos.line) = true := by rfl) :
    PyE g k X W (.Call (.Attribute (.Constant (.str a) j p) "join" apos) [e] [] pos) (vJoin a ev) := fun A => by
  refine (pe_join (pe_str (X := X)) (py_fz he A) hs hbase hline).imp' fun σ H Q q => ?_
  refine ⟨⟨_, rfl⟩, ?_⟩
  obtain ⟨w, ρ, τ, env, q⟩ := q
  refine ⟨w, ρ, τ, env, ?_⟩
  unfold vJoin at q
  cases e : vFz ev ρ τ with
  | exc y ρ' τ' => simp only [e] at q; exact q
  | bad => simp only [e] at q
  | ok r ρ' τ' =>
    simp only [e] at q
    cases r with
    | own d => exact q.elim
    | fz d =>
      cases d with
      | lst ds =>
        simp only [] at q
        cases e2 : ssOf ds with
        | none => rw [e2] at q; exact q.elim
        | some ys =>
          rw [e2] at q
          simp only [] at q
          by_cases c : (ys.map (·.length)).sum + ys.length * a.length ≤ 16777216
          · rw [if_pos c] at q
            intro w' H' v a hr
            rw [RsR, Rep] at hr
            obtain ⟨l, vs, rfl, h1, h2⟩ := hr
            have e3 := rep_ss h2 e2
            subst e3
            rw [A.K]
            exact ⟨_, l, ys, rfl, rfl, .inl (SqL.of (a.env.zle _ _ h1)), c, q _ _ _ a (by rw [RsR, Rep])⟩
          · rw [if_neg c] at q; exact q.elim
      | _ => exact q.elim
end
end PD
namespace PD
open PySem PySem.Spec L2
open PyProof.Rows hiding St

theorem cellX_ne {a : Addr} {o : Obj} : (∀ xs, CellX a o ≠ .tup xs) ∧ (∀ x u, CellX a o ≠ .frz x u) ∧ (∀ ps, CellX a o ≠ .tbl ps) ∧ ∀ x, CellX a o ≠ .own x :=
  ⟨fun _ z => (nomatch (show HO.ext _ = HO.tup _ from z)), fun _ _ z => (nomatch (show HO.ext _ = HO.frz _ _ from z)), fun _ z => (nomatch (show HO.ext _ = HO.tbl _ from z)), fun _ z => (nomatch (show HO.ext _ = HO.own _ from z))⟩
theorem cellX_ok {P : Program} {w : World} {H : Hp} {h : Heap} {a : Addr} {o : Obj} (e : h.get? a = some o) : ObjOk P w H h a (CellX a o) := ⟨e, ⟨o, e⟩, fun _ _ z k => k _ z⟩
theorem cellX_at {P : Program} {w : World} {H : Hp} {h : Heap} {a : Addr} {o : Obj} (hok : HOk P w H h) (e : H a = some (CellX a o)) : h.get? a = some o := by
  have x : ObjOk P w H h a (.ext fun h => h.get? a = some o) := hok a _ e
  exact x.1
def addC (H : Hp) (cs : Cs) : Hp := fun b => match cs.lookup b with
  | some o => some (CellX b o)
  | none => H b
theorem addC_in {H : Hp} {cs : Cs} {a : Addr} {o : Obj} (h : cs.lookup a = some o) : addC H cs a = some (CellX a o) := by unfold addC; rw [h]
theorem addC_out {H : Hp} {cs : Cs} {a : Addr} (h : cs.lookup a = none) : addC H cs a = H a := by unfold addC; rw [h]
theorem look2 (cs : Cs) (a : Addr) : cs.lookup a = none ∨ ∃ o, cs.lookup a = some o := by
  cases cs.lookup a with
  | none => exact .inl rfl
  | some o => exact .inr ⟨o, rfl⟩
/-- untracked in H, in the heap -/
structure Off (cs : Cs) (H : Hp) (h : Heap) (outer : List Env) : Prop where
  get : ∀ a o, cs.lookup a = some o → h.get? a = some o
  off : ∀ a o, cs.lookup a = some o → H a = none
  nf : ∀ a o, cs.lookup a = some o → a ∉ frs outer
/-- tracked in H -/
def On (cs : Cs) (H : Hp) : Prop := ∀ a o, cs.lookup a = some o → H a = some (CellX a o)
section
variable {P : Program} {w : World} {H H' : Hp} {h h' B : Heap} {cs : Cs} {outer : List Env} {s s' : Shared}
theorem hok_add (x : HOk P w H h) (C : ∀ a o, cs.lookup a = some o → h.get? a = some o) (n : ∀ a o, cs.lookup a = some o → H a = none) : HOk P w (addC H cs) h := fun b u e => by
  rcases look2 cs b with q | ⟨o, q⟩
  · rw [addC_out q] at e
    have up : ∀ c v, H c = some v → addC H cs c = some v := fun c v e2 => by
      rcases look2 cs c with q2 | ⟨o2, q2⟩
      · rw [addC_out q2]; exact e2
      · rw [n c o2 q2] at e2; cases e2
    exact (x b u e).stay (fun _ _ _ z => z) (fun c z => up _ _ z) fun c xs z => up _ _ z
  · rw [addC_in q] at e
    cases e
    exact cellX_ok (C b o q)
theorem hok_del (x : HOk P w H h) (on : ∀ a o, cs.lookup a = some o → H a = none ∨ ∃ o2, H a = some (CellX a o2)) : HOk P w (delC H cs) h := fun b u e => by
  rcases look2 cs b with q | ⟨o, q⟩
  · rw [delC_out q] at e
    refine (x b u e).stay (fun _ _ _ z => z) (fun c z => ?_) fun c xs z => ?_
    · rcases look2 cs c with q2 | ⟨o2, q2⟩
      · rw [delC_out q2]; exact z
      · rcases on c o2 q2 with y | ⟨o3, y⟩
        · rw [y] at z; cases z
        · rw [y] at z; exact (cellX_ne.2.2.2 _ (Option.some.inj z)).elim
    · rcases look2 cs c with q2 | ⟨o2, q2⟩
      · rw [delC_out q2]; exact z
      · rcases on c o2 q2 with y | ⟨o3, y⟩
        · rw [y] at z; cases z
        · rw [y] at z; exact (cellX_ne.1 _ (Option.some.inj z)).elim
  · rw [delC_in q] at e; cases e
/-- a callee may know the cells -/
theorem env0_add {K : PySem.W.Frag} {mg : Str → Option Value} {base : Heap} {A : Around} (e : Env0 P w K mg base A outer s H) (C : Off cs H s.heap outer) (nb : ∀ a o, cs.lookup a = some o → base.get? a = none) : Env0 P w K mg base A outer s (addC H cs) :=
  ⟨e.frames, e.mod, fun b o z => ⟨(e.bs b o z).1, by
      rcases look2 cs b with q | ⟨o2, q⟩
      · rw [addC_out q]; exact (e.bs b o z).2
      · rw [nb b o2 q] at z; cases z⟩, e.bsz, e.funs, fun b hb => by
      rcases look2 cs b with q | ⟨o2, q⟩
      · rw [addC_out q]; exact e.frf b hb
      · exact (C.nf b o2 q hb).elim, hok_add e.hok C.get C.off, e.bare⟩
theorem env0_del {K : PySem.W.Frag} {mg : Str → Option Value} {base : Heap} {A : Around} (e : Env0 P w K mg base A outer s H) (on : On cs H) : Env0 P w K mg base A outer s (delC H cs) :=
  ⟨e.frames, e.mod, fun b o z => ⟨(e.bs b o z).1, by
      rcases look2 cs b with q | ⟨o2, q⟩
      · rw [delC_out q]; exact (e.bs b o z).2
      · rw [delC_in q]⟩, e.bsz, e.funs, fun b hb => by
      rcases look2 cs b with q | ⟨o2, q⟩
      · rw [delC_out q]; exact e.frf b hb
      · rw [delC_in q], hok_del e.hok fun a o q => .inr ⟨o, on a o q⟩, e.bare⟩
/-- .. and behind it they are untracked again -/
theorem ce_add {Q : VK} {u : Value} (C : Off cs H s.heap outer) (h : CE outer P w (addC H cs) s (fun v H' => On cs H' ∧ Q v (delC H' cs)) u s') : CE outer P w H s Q u s' := by
  obtain ⟨v, H', os, bare, un, hok, r, on, q⟩ := h
  have out : ∀ b v, H b = some v → cs.lookup b = none := fun b v e => by
    rcases look2 cs b with q | ⟨o, q⟩
    · exact q
    · rw [C.off b o q] at e; cases e
  refine ⟨v, delC H' cs, os, bare, ⟨fun b o e n hf hx => ?_, fun b o e n hf hx => ?_, fun b o e n hx => ?_, un.there, fun b xs e => ?_, fun b o xs e => ?_, fun b ps e => ?_⟩, hok_del hok fun a o q => .inr ⟨o, on a o q⟩, r, q⟩
  · rcases look2 cs b with q | ⟨o2, q⟩
    · exact un.keep b o e (by rw [addC_out q]; exact n) hf hx
    · have e2 := C.get b o2 q
      rw [e] at e2
      cases e2
      exact cellX_at hok (on b o q)
  · rcases look2 cs b with q | ⟨o2, q⟩
    · exact un.slot b o e (by rw [addC_out q]; exact n) hf hx
    · exact (C.nf b o2 q hf).elim
  · rcases look2 cs b with q | ⟨o2, q⟩
    · rw [delC_out q]; exact un.free b o e (by rw [addC_out q]; exact n) hx
    · exact delC_in q
  · have q := out b _ e
    rw [delC_out q]; exact un.tups b xs (by rw [addC_out q]; exact e)
  · have q := out b _ e
    rw [delC_out q]; exact un.frzs b o xs (by rw [addC_out q]; exact e)
  · have q := out b _ e
    rw [delC_out q]; exact un.tbls b ps (by rw [addC_out q]; exact e)
theorem cx_add {E : XK} {u : Value} (C : Off cs H s.heap outer) (h : L2.CX P w outer (addC H cs) s (fun cls d H' => On cs H' ∧ E cls d (delC H' cs)) u s') : L2.CX P w outer H s E u s' := by
  obtain ⟨a, B, H', cls, d, e0, fl, hok, ub, na, os, ag, on, hE⟩ := h
  have out : ∀ b v, H b = some v → cs.lookup b = none := fun b v e => by
    rcases look2 cs b with q | ⟨o, q⟩
    · exact q
    · rw [C.off b o q] at e; cases e
  refine ⟨a, B, delC H' cs, cls, d, e0, fl, hok_del hok fun a o q => .inr ⟨o, on a o q⟩, ⟨fun b o e n hf => ?_, ub.slot, fun b o e n => ?_, ub.there, fun b xs e => ?_, fun b o xs e => ?_, fun b ps e => ?_⟩, ?_, os, ag, hE⟩
  · rcases look2 cs b with q | ⟨o2, q⟩
    · exact ub.keep b o e (by rw [addC_out q]; exact n) hf
    · have e2 := C.get b o2 q
      rw [e] at e2
      cases e2
      exact cellX_at hok (on b o q)
  · rcases look2 cs b with q | ⟨o2, q⟩
    · rw [delC_out q]; exact ub.free b o e (by rw [addC_out q]; exact n)
    · exact delC_in q
  · have q := out b _ e
    rw [delC_out q]; exact ub.tups b xs (by rw [addC_out q]; exact e)
  · have q := out b _ e
    rw [delC_out q]; exact ub.frzs b o xs (by rw [addC_out q]; exact e)
  · have q := out b _ e
    rw [delC_out q]; exact ub.tbls b ps (by rw [addC_out q]; exact e)
  · rcases look2 cs a with q | ⟨o2, q⟩
    · rw [delC_out q]; exact na
    · exact delC_in q
/-- the function that captured them takes them up; behind it they are tracked again -/
theorem ce_del {K : PySem.W.Frag} {mg : Str → Option Value} {base : Heap} {A : Around} {Q : VK} {u : Value} (e0 : Env0 P w K mg base A outer s H) (on : On cs H) (h : CE outer P w (delC H cs) s (fun v H' => (∀ a o, cs.lookup a = some o → H' a = none) → Q v (addC H' cs)) u s') : CE outer P w H s Q u s' := by
  obtain ⟨v, H', os, bare, un, hok, r, q⟩ := h
  have nf : ∀ a o, cs.lookup a = some o → a ∉ frs outer := fun a o q hb => by
    have := e0.frf a hb
    rw [on a o q] at this; cases this
  have off : ∀ a o, cs.lookup a = some o → H' a = none := fun a o q => un.free a o (cellX_at e0.hok (on a o q)) (delC_in q) (by simp)
  have got : ∀ a o, cs.lookup a = some o → s'.heap.get? a = some o := fun a o q => un.keep a o (cellX_at e0.hok (on a o q)) (delC_in q) (nf a o q) (by simp)
  have out : ∀ b, H b = none → cs.lookup b = none := fun b e => by
    rcases look2 cs b with q | ⟨o, q⟩
    · exact q
    · rw [on b o q] at e; cases e
  refine ⟨v, addC H' cs, os, bare, ⟨fun b o e n hf hx => ?_, fun b o e n hf hx => ?_, fun b o e n hx => ?_, un.there, fun b xs e => ?_, fun b o xs e => ?_, fun b ps e => ?_⟩, hok_add hok got off, r, q off⟩
  · exact un.keep b o e (by rw [delC_out (out b n)]; exact n) hf hx
  · exact un.slot b o e (by rw [delC_out (out b n)]; exact n) hf hx
  · rw [addC_out (out b n)]; exact un.free b o e (by rw [delC_out (out b n)]; exact n) hx
  · rcases look2 cs b with q | ⟨o2, q⟩
    · rw [addC_out q]; exact un.tups b xs (by rw [delC_out q]; exact e)
    · rw [on b o2 q] at e; exact (cellX_ne.1 _ (Option.some.inj e)).elim
  · rcases look2 cs b with q | ⟨o2, q⟩
    · rw [addC_out q]; exact un.frzs b o xs (by rw [delC_out q]; exact e)
    · rw [on b o2 q] at e; exact (cellX_ne.2.1 _ _ (Option.some.inj e)).elim
  · rcases look2 cs b with q | ⟨o2, q⟩
    · rw [addC_out q]; exact un.tbls b ps (by rw [delC_out q]; exact e)
    · rw [on b o2 q] at e; exact (cellX_ne.2.2.1 _ (Option.some.inj e)).elim
theorem cx_del {K : PySem.W.Frag} {mg : Str → Option Value} {base : Heap} {A : Around} {E : XK} {u : Value} (e0 : Env0 P w K mg base A outer s H) (on : On cs H) (h : L2.CX P w outer (delC H cs) s (fun cls d H' => (∀ a o, cs.lookup a = some o → H' a = none) → E cls d (addC H' cs)) u s') : L2.CX P w outer H s E u s' := by
  obtain ⟨a, B, H', cls, d, e1, fl, hok, ub, na, os, ag, hE⟩ := h
  have nf : ∀ a o, cs.lookup a = some o → a ∉ frs outer := fun a o q hb => by
    have := e0.frf a hb
    rw [on a o q] at this; cases this
  have off : ∀ a o, cs.lookup a = some o → H' a = none := fun a o q => ub.free a o (cellX_at e0.hok (on a o q)) (delC_in q)
  have got : ∀ a o, cs.lookup a = some o → B.get? a = some o := fun a o q => ub.keep a o (cellX_at e0.hok (on a o q)) (delC_in q) (nf a o q)
  have out : ∀ b, H b = none → cs.lookup b = none := fun b e => by
    rcases look2 cs b with q | ⟨o, q⟩
    · exact q
    · rw [on b o q] at e; cases e
  refine ⟨a, B, addC H' cs, cls, d, e1, fl, hok_add hok got off, ⟨fun b o e n hf => ?_, ub.slot, fun b o e n => ?_, ub.there, fun b xs e => ?_, fun b o xs e => ?_, fun b ps e => ?_⟩, ?_, os, ag, hE off⟩
  · exact ub.keep b o e (by rw [delC_out (out b n)]; exact n) hf
  · rw [addC_out (out b n)]; exact ub.free b o e (by rw [delC_out (out b n)]; exact n)
  · rcases look2 cs b with q | ⟨o2, q⟩
    · rw [addC_out q]; exact ub.tups b xs (by rw [delC_out q]; exact e)
    · rw [on b o2 q] at e; exact (cellX_ne.1 _ (Option.some.inj e)).elim
  · rcases look2 cs b with q | ⟨o2, q⟩
    · rw [addC_out q]; exact ub.frzs b o xs (by rw [delC_out q]; exact e)
    · rw [on b o2 q] at e; exact (cellX_ne.2.1 _ _ (Option.some.inj e)).elim
  · rcases look2 cs b with q | ⟨o2, q⟩
    · rw [addC_out q]; exact ub.tbls b ps (by rw [delC_out q]; exact e)
    · rw [on b o2 q] at e; exact (cellX_ne.2.2.1 _ (Option.some.inj e)).elim
  · rcases look2 cs a with q | ⟨o2, q⟩
    · rw [addC_out q]; exact na
    · exact absurd (fl.2.1) (by rw [got a o2 q]; simp)
end
end PD
namespace PD
open PySem PySem.Spec L2
open PyProof.Rows hiding St
open LamX (TabB CodeO)

theorem fnL_ne {f c : Addr} {l : LE} {cl : List (Str × Addr)} : (∀ xs, FnL f l cl c ≠ .tup xs) ∧ (∀ xs, FnL f l cl c ≠ .lst xs) ∧ (∀ ps, FnL f l cl c ≠ .tbl ps) ∧ ∀ ks, FnL f l cl c ≠ .dK ks :=
  ⟨fun _ z => (nomatch (show HO.ext _ = HO.tup _ from z)), fun _ z => (nomatch (show HO.ext _ = HO.lst _ from z)), fun _ z => (nomatch (show HO.ext _ = HO.tbl _ from z)), fun _ z => (nomatch (show HO.ext _ = HO.dK _ from z))⟩
theorem upd_self {H : Hp} {a : Addr} {o : HO} (h : H a = some o) : upd H a o = H := by
  funext b
  by_cases hb : b = a
  · rw [hb, upd_same, h]
  · rw [upd_ne hb]
section
variable {X : Cx} {pins : List (Addr × Obj)} {σ : St} {H : Hp} {s : Shared}
theorem inv_fnL {l : LE} {cl : List (Str × Addr)} {c : Addr} {pm ctv : Value} {t' : Nat} (I : Inv X pins σ H s) :
    Inv X pins σ (upd H s.heap.objs.size (FnL s.heap.objs.size l cl c)) { s with heap := s.heap.push (PySem.W.kla_obj "<lambda>" l.qual l.params l.body l.scope cl pm c ctv), toks := t' } := by
  refine I.laid (a := s.heap.objs.size) (fun b u e => Heap.get?_push_of_some _ e) (Nat.le_refl _) ?_
  have e : (s.heap.push (PySem.W.kla_obj "<lambda>" l.qual l.params l.body l.scope cl pm c ctv)).get? s.heap.objs.size = some (PySem.W.kla_obj "<lambda>" l.qual l.params l.body l.scope cl pm c ctv) := Heap.get?_push_size _ rfl
  exact ⟨⟨pm, ctv, e⟩, ⟨_, e⟩, fun h1 h2 ⟨p, t, z⟩ st => ⟨p, t, st _ z⟩⟩
/-- the lambda is evaluated: a new function; its code object is new, or was told by the table -/
theorem lam_mk {T : List NdefX.NTab} {nm : Nat → Nat → Str} {c P : Addr} {l : LE} {pos : Pos} {Z : Hp} {E : Value → Shared → Prop} {Q : Value → Shared → Prop} (I : Inv X pins σ H s) (TB : TabB X.base X.mg c P) (hcode : X.env.code = .ref c) (hq : l.qual = X.env.qual ++ "<lambda>")
    (hm : (P, nm) ∈ T) (hn : nm pos.line pos.col = X.env.qual ++ "<lambda>") (hu : ∀ p ∈ T, p.1 = P → p.2 = nm) (hT : TabsK T Z H) (zle : ZLe Z H) (hdef : defaultsOf l.params X.env = ([], [])) (hfree : ∀ y ∈ l.scope.names, y.2 = .free → ∃ c, X.env.cells.lookup y.1 = some c)
    (h : ∀ (f c' : Addr) (H1 : Hp) (s' : Shared), Inv X pins σ H1 s' → (∀ b o, H b = some o → (∀ ps, o ≠ .tbl ps) → H1 b = some o) → (∀ b, H1 b = none → H b = none) → H f = none → f ≠ c' → H1 f = some (FnL f l (cloFrom X.env.cells l.scope.names []) c') →
      ((Z c' = some (CodeO c' l.qual)) ∨ (H c' = none ∧ H1 c' = some (CodeO c' l.qual))) → TabsK T (upd Z c' (CodeO c' l.qual)) H1 → Q (.ref f) s') :
    wpAny (model X.prog X.w) X.A (eval (.Lambda l.params l.body l.scope pos) X.env) Q E s := by
  obtain ⟨ps, hP, ht, ha⟩ := hT.2 _ hm
  have hP : H P = some (.tbl ps) := hP
  refine PySem.W.kla_eval hdef ?_
  rw [← hq]
  have bP : s.heap.BuiltinsAt X.mg P := TB.bm.keeps I.bk
  have hP' : s.heap.get? P = some { cls := .none, data := .fields ps } := I.hok P _ hP
  have zn : ∀ {b : Addr}, H b = none → Z b = none := fun {b} e => by
    cases q : Z b with
    | none => rfl
    | some u => rw [zle b u q] at e; cases e
  cases hc : codeAmong pos ps.toList with
  | none =>
    refine PySem.W.kla_makeFunction (mg := X.mg) (c := c) (P := P) (ps := ps) (closure_ok hfree) I.ok.glob (I.mod.glob.keeps I.bk) hcode (TB.code.keeps I.bk) hP' ht hc TB.gP bP fun c' ctv h' tk hx hge hlt hrec htb => ?_
    obtain ⟨c2, oc, vs, t, e2, hoc, hd, hv⟩ := hrec
    cases e2
    have nC : H c' = none := I.hok.fresh hge
    have nPc : P ≠ c' := ne_of_none hP nC
    have I1 := LamX.inv_table (t' := tk) (more := #[rawInt pos.line, rawInt pos.col, .ref c']) (h' := h') I hP (fun b o hb e => hx b o hb e) htb hge ⟨oc, vs, t, hoc, hd, hv⟩
    have nF := I1.hok.fresh (Nat.le_refl _)
    have nFH : H h'.objs.size = none := I.hok.fresh (Nat.le_trans hge (Nat.le_of_lt hlt))
    have I2 := inv_fnL (l := l) (cl := cloFrom X.env.cells l.scope.names []) (c := c') (pm := (X.mg "__name__").getD .none) (ctv := ctv) (t' := tk) I1
    have up : ∀ b o, H b = some o → b ≠ h'.objs.size ∧ b ≠ c' := fun b o e => ⟨ne_of_none e nFH, ne_of_none e nC⟩
    refine h h'.objs.size c' _ _ I2 (fun b o e n => ?_) (fun b e => ?_) nFH (Nat.ne_of_gt hlt) upd_same (.inr ⟨nC, ?_⟩) ⟨hT.1.upd LamX.codeO_ne, fun p hp => ?_⟩
    · rw [upd_ne (up b o e).1, upd_ne (up b o e).2, upd_ne (fun z => n ps (Option.some.inj (e.symm.trans (by rw [z]; exact hP))))]
      exact e
    · exact NdefX.upd_none (NdefX.upd_none (NdefX.upd_none e))
    · rw [upd_ne (Nat.ne_of_lt hlt)]; exact upd_same
    · have eL : (ps ++ #[rawInt pos.line, rawInt pos.col, .ref c']).toList = ps.toList ++ [rawInt pos.line, rawInt pos.col, .ref c'] := by simp
      have zu : ∀ {a : Addr} {o : HO}, Z a = some o → upd Z c' (CodeO c' l.qual) a = some o := fun {a o} e => by
        rw [upd_ne (ne_of_none e (zn nC))]; exact e
      by_cases hb : p.1 = P
      · rw [hu p hp hb, hb]
        refine ⟨_, by rw [upd_ne (ne_of_none hP nFH), upd_ne nPc, upd_same], by rw [eL]; exact PySem.TriplesOk_snoc _ _ _ _ ht, fun p' cv hcv => ?_⟩
        rw [eL] at hcv
        rcases NdefX.among_app2 _ ht hcv with z | ⟨z, z1, z2⟩
        · obtain ⟨c0, e1, e2⟩ := ha p' cv z
          exact ⟨c0, e1, zu e2⟩
        · refine ⟨c', z, ?_⟩
          rw [← z1, ← z2, hn, ← hq]
          exact upd_same
      · obtain ⟨ps', a1, a2, a3⟩ := hT.2 p hp
        refine ⟨ps', by rw [upd_ne (ne_of_none a1 nFH), upd_ne (ne_of_none a1 nC), upd_ne hb]; exact a1, a2, fun p' cv hcv => ?_⟩
        obtain ⟨c0, e1, e2⟩ := a3 p' cv hcv
        exact ⟨c0, e1, zu e2⟩
  | some cv =>
    obtain ⟨c', e, hco⟩ := ha pos cv hc
    subst e
    have hco : Z c' = some (CodeO c' (nm pos.line pos.col)) := hco
    rw [hn, ← hq] at hco
    refine PySem.W.kla_makeFunctionHit (mg := X.mg) (c := c) (P := P) (ps := ps) (closure_ok hfree) I.ok.glob (I.mod.glob.keeps I.bk) hcode (TB.code.keeps I.bk) hP' ht hc bP fun ctv h' tk hx hsz => ?_
    have I1 : Inv X pins σ H { s with heap := h', toks := tk } := I.kept hx
    have nF : H h'.objs.size = none := I1.hok.fresh (Nat.le_refl _)
    have I2 := inv_fnL (l := l) (cl := cloFrom X.env.cells l.scope.names []) (c := c') (pm := (X.mg "__name__").getD .none) (ctv := ctv) (t' := tk) I1
    refine h h'.objs.size c' _ _ I2 (fun b o e n => ?_) (fun b e => NdefX.upd_none e) nF (fun z => ?_) upd_same (.inl hco) ?_
    · exact (upd_ne (ne_of_none e nF)).trans e
    · rw [← z] at hco
      rw [zle _ _ hco] at nF; cases nF
    · rw [upd_self hco]
      exact hT.ext fun b ps e => (upd_ne (ne_of_none e nF)).trans e
end
end PD
namespace PD
open PySem PySem.Spec L2
open PyProof.Rows hiding St
open LamX (TabB CodeO)

mutual
def D.nc : D → Bool
  | .tup ds => D.ncL ds
  | .lst ds => D.ncL ds
  | .dic kvs => D.ncK kvs
  | .ins _ fs => D.ncF fs
  | .exc _ fs => D.ncF fs
  | .clo _ caps => caps.isEmpty
  | _ => true
def D.ncL : List D → Bool
  | [] => true
  | d :: ds => d.nc && D.ncL ds
def D.ncK : List (D × D) → Bool
  | [] => true
  | (_, d) :: ds => d.nc && D.ncK ds
def D.ncF : List (Str × D) → Bool
  | [] => true
  | (_, d) :: ds => d.nc && D.ncF ds
end
section
variable {g : G} {Z : Hp} {tp : Option (Addr × Addr × Addr)} {cs : Cs}
/-- the cells' entries in a zone are cells -/
def ZOk (Z : Hp) (cs : Cs) : Prop := ∀ a o, cs.lookup a = some o → Z a = none ∨ ∃ o2, Z a = some (CellX a o2)
theorem del_keep {Z : Hp} {cs : Cs} (z : ZOk Z cs) {a : Addr} {u : HO} (h : Z a = some u) (n : ∀ o, u ≠ CellX a o) : delC Z cs a = some u := by
  rcases look2 cs a with q | ⟨o, q⟩
  · rw [delC_out q]; exact h
  · rcases z a o q with y | ⟨o2, y⟩
    · rw [y] at h; cases h
    · rw [y] at h; exact (n o2 (Option.some.inj h).symm).elim
theorem noTbl_add {Z : Hp} {cs : Cs} (n : NoTbl Z) : NoTbl (addC Z cs) := fun a ps e => by
  rcases look2 cs a with q | ⟨o, q⟩
  · rw [addC_out q] at e; exact n a ps e
  · rw [addC_in q] at e; exact cellX_ne.2.2.1 ps (Option.some.inj e)
theorem noTbl_del {Z : Hp} {cs : Cs} (n : NoTbl Z) : NoTbl (delC Z cs) := fun a ps e => by
  rcases look2 cs a with q | ⟨o, q⟩
  · rw [delC_out q] at e; exact n a ps e
  · rw [delC_in q] at e; cases e
theorem sqT_del {K : PySem.W.Frag} {Z : Hp} {cs : Cs} (z : ZOk Z cs) {a : Addr} {xs : List V} (h : SqT K Z a xs) : SqT K (delC Z cs) a xs := by
  rcases h with (h | ⟨o, h⟩) | h
  · exact .inl (.inl (del_keep z h fun _ q => nomatch q))
  · exact .inl (.inr ⟨o, del_keep z h fun _ q => nomatch q⟩)
  · exact .inr h
theorem sqL_del {K : PySem.W.Frag} {Z : Hp} {cs : Cs} (z : ZOk Z cs) {a : Addr} {xs : List V} (h : SqL K Z a xs) : SqL K (delC Z cs) a xs := by
  rcases h with (h | ⟨o, h⟩) | h
  · exact .inl (.inl (del_keep z h fun _ q => nomatch q))
  · exact .inl (.inr ⟨o, del_keep z h fun _ q => nomatch q⟩)
  · exact .inr h
/-- an exception's object is no cell -/
structure XOk (Z : Hp) (cs : Cs) : Prop where
  exc : ∀ a o, cs.lookup a = some o → ∀ C dx, Z a ≠ some (excH a C dx)
  fnl : ∀ a o, cs.lookup a = some o → ∀ l cl c, Z a ≠ some (FnL a l cl c)
  cod : ∀ a o, cs.lookup a = some o → ∀ q, Z a ≠ some (CodeO a q)
mutual
theorem Rep.del (z : ZOk Z cs) (x : XOk Z cs) : ∀ (d : D) {v : V}, d.nc = true → Rep g Z tp d v → Rep g (delC Z cs) tp d v
  | .non, v, n, h => h
  | .bl b, v, n, h => h
  | .int i, v, n, h => h
  | .str x, v, n, h => h
  | .ty n, v, _, h => h
  | .tup ds, v, n, ⟨a, vs, e, q, r⟩ => ⟨a, vs, e, sqT_del z q, RepL.del z x ds (by rw [D.nc] at n; exact n) r⟩
  | .lst ds, v, n, ⟨a, vs, e, q, r⟩ => ⟨a, vs, e, del_keep z q (fun _ q => nomatch q), RepL.del z x ds (by rw [D.nc] at n; exact n) r⟩
  | .dic kvs, v, n, ⟨a, ks, e, q, r⟩ => ⟨a, ks, e, del_keep z q (fun _ q => nomatch q), RepKV.del z x kvs (by rw [D.nc] at n; exact n) r⟩
  | .ins c fs, v, n, ⟨a, C, dx, vs, e, m, q, r⟩ => ⟨a, C, dx, vs, e, m, del_keep z q (fun _ q => nomatch q), RepF.del z x fs (by rw [D.nc] at n; exact n) r⟩
  | .exc c fs, v, n, ⟨a, C, dx, vs, e, m, q, f, r⟩ => ⟨a, C, dx, vs, e, m, (by
      rcases look2 cs a with y | ⟨o, y⟩
      · rw [delC_out y]; exact q
      · exact (x.exc a o y C dx q).elim), f.imp id (fun ⟨dd, e1, e2⟩ => ⟨dd, e1, del_keep z e2 (fun _ q => nomatch q)⟩), RepF.del z x fs (by rw [D.nc] at n; exact n) r⟩
  | .fn x, v, n, h => h
  | .clo m caps, v, n, h => by
    rw [D.nc, List.isEmpty_iff] at n
    subst n
    rw [Rep] at h ⊢
    obtain ⟨vs, cs0, ⟨l, f, c, cl, h1, h2, h3, h4, h5, h6⟩, r⟩ := h
    have r2 := r
    rw [RepL] at r2
    subst r2
    have e0 : cs0 = [] := h5.emp (List.eq_nil_of_length_eq_zero h5.len.symm)
    refine ⟨[], cs0, ⟨l, f, c, cl, h1, h2, ?_, ?_, h5, fun a o q => by rw [e0] at q; cases q⟩, by rw [RepL]⟩
    · rcases look2 cs f with y | ⟨o, y⟩
      · rw [delC_out y]; exact h3
      · exact (x.fnl f o y _ _ _ h3).elim
    · rcases look2 cs c with y | ⟨o, y⟩
      · rw [delC_out y]; exact h4
      · exact (x.cod c o y _ h4).elim
  | .tape, v, n, h => h
  | .script ns, v, n, ⟨a, e, q⟩ => ⟨a, e, sqL_del z q⟩
theorem RepL.del (z : ZOk Z cs) (x : XOk Z cs) : ∀ (ds : List D) {vs : List V}, D.ncL ds = true → RepL g Z tp ds vs → RepL g (delC Z cs) tp ds vs
  | [], vs, n, h => h
  | d :: ds, vs, n, ⟨v, r, e, h, t⟩ => by
    rw [D.ncL, Bool.and_eq_true] at n
    exact ⟨v, r, e, Rep.del z x d n.1 h, RepL.del z x ds n.2 t⟩
theorem RepKV.del (z : ZOk Z cs) (x : XOk Z cs) : ∀ (ds : List (D × D)) {vs : List (Key × V)}, D.ncK ds = true → RepKV g Z tp ds vs → RepKV g (delC Z cs) tp ds vs
  | [], vs, n, h => h
  | (k, d) :: ds, vs, n, ⟨kk, v, r, e, ek, h, t⟩ => by
    rw [D.ncK, Bool.and_eq_true] at n
    exact ⟨kk, v, r, e, ek, Rep.del z x d n.1 h, RepKV.del z x ds n.2 t⟩
theorem RepF.del (z : ZOk Z cs) (x : XOk Z cs) : ∀ (ds : List (Str × D)) {vs : List (Str × V)}, D.ncF ds = true → RepF g Z tp ds vs → RepF g (delC Z cs) tp ds vs
  | [], vs, n, h => h
  | (k, d) :: ds, vs, n, ⟨v, r, e, h, t⟩ => by
    rw [D.ncF, Bool.and_eq_true] at n
    exact ⟨v, r, e, Rep.del z x d n.1 h, RepF.del z x ds n.2 t⟩
end
end
def Rs.nc : Rs → Bool
  | .fz d => d.nc
  | .own d => d.nc
def Sl.nc : Sl → Bool
  | .un => true
  | .fz d => d.nc
  | .own d => d.nc
  | .bor d => d.nc
/-- the cells' objects are cells' objects, of some heap -/
structure COk (cs : Cs) : Prop where
  cell : ∀ a o, cs.lookup a = some o → ∃ u, o.data = .cell u
  ex : ∀ a o, cs.lookup a = some o → ∃ h : Heap, h.get? a = some o
def ZC (Z : Hp) (cs : Cs) : Prop := ∀ a o, cs.lookup a = some o → Z a = none ∨ Z a = some (CellX a o)
theorem ZC.ok {Z : Hp} {cs : Cs} (z : ZC Z cs) : ZOk Z cs := fun a o q => (z a o q).imp id fun e => ⟨o, e⟩
theorem ext_inj {f f' : Heap → Prop} (h : HO.ext f = HO.ext f') : f = f' := by
  injection h
theorem ZC.no {Z : Hp} {cs : Cs} (z : ZC Z cs) (c : COk cs) {a : Addr} {o : Obj} (q : cs.lookup a = some o) {f : Heap → Prop} (hf : ∀ h : Heap, h.get? a = some o → f h → ∀ u, o.data ≠ .cell u) : Z a ≠ some (.ext f) := fun e => by
  rcases z a o q with y | y
  · rw [y] at e; cases e
  · rw [y] at e
    have e2 := ext_inj (Option.some.inj e)
    obtain ⟨h, hh⟩ := c.ex a o q
    have t : (fun h : Heap => h.get? a = some o) h := hh
    rw [e2] at t
    obtain ⟨u, hu⟩ := c.cell a o q
    exact hf h hh t u hu
theorem ZC.x {Z : Hp} {cs : Cs} (z : ZC Z cs) (c : COk cs) : XOk Z cs where
  exc := fun a o q C dx => z.no c q fun h hh ⟨oe, vs, t1, _, t2⟩ u hu => by
    rw [hh] at t1
    cases t1
    rw [hu] at t2
    cases t2
  fnl := fun a o q l cl cc => z.no c q fun h hh ⟨pm, ctv, t1⟩ u hu => by
    rw [hh] at t1
    cases t1
    cases hu
  cod := fun a o q qq => z.no c q fun h hh ⟨oc, vs, t, t1, t2, _⟩ u hu => by
    rw [hh] at t1
    cases t1
    rw [hu] at t2
    cases t2
section
variable {g : G} {w : Wd} {H : Hp} {cs : Cs}
theorem tcell_tape {τ : Tape} (t : TapeR g w H τ) {a : Addr} (h : tcell w a) : (∃ ks, H a = some (.dK ks)) ∨ ∃ vs, H a = some (.lst vs) := by
  obtain ⟨p, l, c, q, e⟩ := h
  have T := t p l c q
  rcases e with rfl | rfl
  · exact .inl ⟨_, T.ht⟩
  · exact .inr ⟨_, T.hl⟩
theorem zle_add {Z : Hp} {cs : Cs} (n : ∀ a o, cs.lookup a = some o → Z a = none) : ZLe Z (addC Z cs) := fun a u e => by
  rcases look2 cs a with q | ⟨o, q⟩
  · rw [addC_out q]; exact e
  · rw [n a o q] at e; cases e
theorem zle_del {Z : Hp} {cs : Cs} : ZLe (delC Z cs) Z := fun a u e => by
  rcases look2 cs a with q | ⟨o, q⟩
  · rw [delC_out q] at e; exact e
  · rw [delC_in q] at e; cases e
theorem zle_addadd {Z H : Hp} {cs : Cs} (z : ZLe Z H) : ZLe (addC Z cs) (addC H cs) := fun a u e => by
  rcases look2 cs a with q | ⟨o, q⟩
  · rw [addC_out q] at e ⊢; exact z _ _ e
  · rw [addC_in q] at e ⊢; exact e
theorem zle_deldel {Z H : Hp} {cs : Cs} (z : ZLe Z H) : ZLe (delC Z cs) (delC H cs) := fun a u e => by
  rcases look2 cs a with q | ⟨o, q⟩
  · rw [delC_out q] at e ⊢; exact z _ _ e
  · rw [delC_in q] at e; cases e
/-- objects of containers, tables .. are no cells -/
theorem add_obj {H : Hp} {cs : Cs} (n : ∀ a o, cs.lookup a = some o → H a = none) {a : Addr} {u : HO} (e : H a = some u) : addC H cs a = some u := by
  rcases look2 cs a with q | ⟨o, q⟩
  · rw [addC_out q]; exact e
  · rw [n a o q] at e; cases e
theorem Ent.add {sl : List Sl} {τ : Tape} {vs : List V} (E : Ent g w H sl τ vs) (n : ∀ a o, cs.lookup a = some o → H a = none) : Ent g { w with Z := addC w.Z cs } (addC H cs) sl τ vs := by
  have nz : ∀ a o, cs.lookup a = some o → w.Z a = none := fun a o q => by
    cases e : w.Z a with
    | none => rfl
    | some u => have := n a o q; rw [E.zle a u e] at this; cases this
  have zl := zle_add nz
  have cn : ∀ {a : Addr} {u : HO}, H a = some u → cs.lookup a = none := fun {a u} e => by
    rcases look2 cs a with q | ⟨o, q⟩
    · exact q
    · rw [n a o q] at e; cases e
  have cell : ∀ {x : D} {v : Option V}, CellR g w H x v → CellR g { w with Z := addC w.Z cs } (addC H cs) x v := fun {x v} ⟨q, e2, r2, z2, t2⟩ => by
    obtain ⟨o, ho, _⟩ := r2.at
    refine ⟨q, e2, ?_, by show addC w.Z cs q = none; rw [addC_out (cn ho)]; exact z2, t2⟩
    cases x with
    | lst ds => obtain ⟨vs, h1, h2⟩ := r2; exact ⟨vs, add_obj n h1, RepL.mono zl _ h2⟩
    | dic ks => obtain ⟨vs, h1, h2⟩ := r2; exact ⟨vs, add_obj n h1, RepKV.mono zl _ h2⟩
    | _ => exact r2
  refine ⟨E.len, fun i s h => ?_, E.no, zle_addadd E.zle, fun t l c q => ?_, ⟨noTbl_add E.tabs.1, fun p hp => ?_⟩⟩
  · have := E.slt i s h
    cases s with
    | un => trivial
    | fz d => obtain ⟨u, e1, r⟩ := this; exact ⟨u, e1, Rep.mono zl _ r⟩
    | own d => exact cell this
    | bor d => exact this.imp cell fun g => g.map (fun q x y e1 e2 z2 t2 => ⟨add_obj n e2, by show addC w.Z cs q = none; rw [addC_out (cn e2)]; exact z2, t2⟩) fun _ _ => RepKV.mono zl _
  · have T := E.tape t l c q
    have nz2 : ∀ {a : Addr} {u : HO}, H a = some u → w.Z a = none → addC w.Z cs a = none := fun {a u} e z => by rw [addC_out (cn e)]; exact z
    exact ⟨add_obj n T.ht, add_obj n T.hl, zl _ _ T.hc, nz2 T.ht T.zt, nz2 T.hl T.zl⟩
  · obtain ⟨ps, h1, h2, h3⟩ := E.tabs.2 p hp
    refine ⟨ps, add_obj n h1, h2, fun pos cv hc => ?_⟩
    obtain ⟨c, e1, e2⟩ := h3 pos cv hc
    exact ⟨c, e1, zl _ _ e2⟩
/-- slots in a row -/
theorem Ent.cons {sl : List Sl} {τ : Tape} {vs : List V} {s : Sl} {v : V} (h : SlR g w H s (some v)) (hs : isOwn s = false) (E : Ent g w H sl τ vs) : Ent g w H (s :: sl) τ (v :: vs) :=
  ⟨congrArg Nat.succ E.len, fun i t h2 => by
    cases i with
    | zero => cases h2; exact h
    | succ i => exact E.slt i t h2, fun t ht => (List.mem_cons.mp ht).elim (fun e => by rw [e]; exact hs) (E.no t), E.zle, E.tape, E.tabs⟩
theorem Ent.app {s1 s2 : List Sl} {τ : Tape} {v1 v2 : List V} (E1 : Ent g w H s1 τ v1) (E2 : Ent g w H s2 τ v2) : Ent g w H (s1 ++ s2) τ (v1 ++ v2) := by
  refine ⟨by rw [List.length_append, List.length_append, E1.len, E2.len], fun i t h => ?_, fun t ht => (List.mem_append.mp ht).elim (E1.no t) (E2.no t), E1.zle, E1.tape, E1.tabs⟩
  by_cases hi : i < s1.length
  · rw [List.getElem?_append_left hi] at h
    rw [List.getElem?_append_left (by rw [← E1.len]; exact hi)]
    exact E1.slt i t h
  · rw [List.getElem?_append_right (by omega)] at h
    rw [List.getElem?_append_right (by rw [← E1.len]; omega), ← E1.len]
    exact E2.slt _ t h
/-- behind a call that knew the cells: told from the start without them -/
theorem Fin'.back {w' : Wd} {H' : Hp} {τ' : Tape} (n : ∀ a o, cs.lookup a = some o → H a = none) (zle : ZLe w.Z H) (F : Fin' g { w with Z := addC w.Z cs } (addC H cs) w' H' τ') (nt : ∀ a o, cs.lookup a = some o → ¬ tcell w a) (C : COk cs) :
    On cs H' ∧ Fin' g w H { w' with Z := delC w'.Z cs } (delC H' cs) τ' := by
  have nz : ∀ a o, cs.lookup a = some o → w.Z a = none := fun a o q => by
    cases e : w.Z a with
    | none => rfl
    | some u => have := n a o q; rw [zle a u e] at this; cases this
  have on : On cs H' := fun a o q => F.st.fr a _ (addC_in q) (fun t => nt a o q t) (cellX_ne.2.2.1)
  have onZ : ∀ a o, cs.lookup a = some o → w'.Z a = some (CellX a o) := fun a o q => F.st.z a _ (show addC w.Z cs a = _ from addC_in q)
  have hz : ZC w'.Z cs := fun a o q => .inr (onZ a o q)
  have cn : ∀ {a : Addr} {u : HO}, H a = some u → cs.lookup a = none := fun {a u} e => by
    rcases look2 cs a with q | ⟨o, q⟩
    · exact q
    · rw [n a o q] at e; cases e
  have keepH : ∀ {a : Addr} {u : HO}, H' a = some u → (∀ o, u ≠ CellX a o) → cs.lookup a = none := fun {a u} e ne => by
    rcases look2 cs a with q | ⟨o, q⟩
    · exact q
    · rw [on a o q] at e; exact (ne o (Option.some.inj e).symm).elim
  refine ⟨on, ⟨?_, F.st.tp, fun a o h nl nt2 => ?_, fun a h1 h2 => ?_, fun a h => ?_⟩, zle_deldel F.zle, fun t l c q => ?_, ⟨noTbl_del F.tabs.1, fun p hp => ?_⟩⟩
  · intro a u e
    have q := cn (zle _ _ e)
    show delC w'.Z cs a = some u
    rw [delC_out q]
    exact F.st.z a u (by show addC w.Z cs a = some u; rw [addC_out q]; exact e)
  · have q := cn h
    rw [delC_out q]
    exact F.st.fr a o (by rw [addC_out q]; exact h) nl nt2
  · rcases look2 cs a with q | ⟨o, q⟩
    · have h3 : w'.Z a ≠ none := by
        have : delC w'.Z cs a ≠ none := h2
        rwa [delC_out q] at this
      rcases F.st.nz a (by show addC w.Z cs a = none; rw [addC_out q]; exact h1) h3 with y | y
      · rw [addC_out q] at y; exact .inl y
      · exact .inr y
    · exact .inl (n a o q)
  · rcases look2 cs a with q | ⟨o, q⟩
    · rw [delC_out q] at h
      have y := F.st.al a h
      rwa [addC_out q] at y
    · exact n a o q
  · have T := F.tape t l c q
    have dk : ∀ {a : Addr} {u : HO}, H' a = some u → (∀ o, u ≠ CellX a o) → w'.Z a = none → delC H' cs a = some u ∧ delC w'.Z cs a = none := fun {a u} e ne z => by
      have q := keepH e ne
      rw [delC_out q, delC_out q]; exact ⟨e, z⟩
    have a1 := dk T.ht (fun _ q => nomatch q) T.zt
    have a2 := dk T.hl (fun _ q => nomatch q) T.zl
    exact ⟨a1.1, a2.1, del_keep hz.ok T.hc (fun _ q => nomatch q), a1.2, a2.2⟩
  · obtain ⟨ps, h1, h2, h3⟩ := F.tabs.2 p hp
    refine ⟨ps, by rw [delC_out (keepH h1 fun _ q => nomatch q)]; exact h1, h2, fun pos cv hc => ?_⟩
    obtain ⟨c, e1, e2⟩ := h3 pos cv hc
    refine ⟨c, e1, ?_⟩
    show delC w'.Z cs c = _
    rcases look2 cs c with q | ⟨o, q⟩
    · rw [delC_out q]; exact e2
    · rw [onZ c o q] at e2
      have e3 := ext_inj (Option.some.inj e2)
      obtain ⟨h, hh⟩ := C.ex c o q
      have t : (fun h : Heap => h.get? c = some o) h := hh
      rw [e3] at t
      obtain ⟨oc, vs, t0, t1, t2, _⟩ := t
      rw [hh] at t1
      cases t1
      obtain ⟨u, hu⟩ := C.cell c o q
      rw [hu] at t2
      cases t2
theorem FRs.back {w' : Wd} {H' : Hp} {r : Rs} {v : V} (n : ∀ a o, cs.lookup a = some o → H a = none) (on : On cs H') (onZ : ∀ a o, cs.lookup a = some o → w'.Z a = some (CellX a o)) (C : COk cs) (hr : r.nc = true) (h : FRs g (addC H cs) w' H' r v) : FRs g H { w' with Z := delC w'.Z cs } (delC H' cs) r v := by
  have hz : ZC w'.Z cs := fun a o q => .inr (onZ a o q)
  cases r with
  | fz d => exact Rep.del hz.ok (hz.x C) d hr h
  | own d =>
    obtain ⟨p, e, h1, h2, h3, h4⟩ := h
    obtain ⟨o, ho, _⟩ := h1.at
    have q : cs.lookup p = none := by
      rcases look2 cs p with q | ⟨o, q⟩
      · exact q
      · rw [addC_in q] at h4; cases h4
    refine ⟨p, e, ?_, by show delC w'.Z cs p = none; rw [delC_out q]; exact h2, h3, by rw [addC_out q] at h4; exact h4⟩
    cases d with
    | lst ds => obtain ⟨vs, k1, k2⟩ := h1; exact ⟨vs, by rw [delC_out q]; exact k1, RepL.del hz.ok (hz.x C) ds (by have z : (D.lst ds).nc = true := hr; rwa [D.nc] at z) k2⟩
    | dic ks => obtain ⟨vs, k1, k2⟩ := h1; exact ⟨vs, by rw [delC_out q]; exact k1, RepKV.del hz.ok (hz.x C) ks (by have z : (D.dic ks).nc = true := hr; rwa [D.nc] at z) k2⟩
    | _ => exact h1
theorem ExR.back {w' : Wd} {x : D} {cls : Value} {dx : Option Addr} (onZ : ∀ a o, cs.lookup a = some o → w'.Z a = some (CellX a o)) (C : COk cs) (hx : x.nc = true) (h : ExR g w' x cls dx) : ExR g { w' with Z := delC w'.Z cs } x cls dx := by
  have hz : ZC w'.Z cs := fun a o q => .inr (onZ a o q)
  cases x with
  | exc c fs =>
    obtain ⟨Cc, vs, h1, h2, h3, h4⟩ := h
    exact ⟨Cc, vs, h1, h2, h3.imp id fun ⟨dd, e1, e2⟩ => ⟨dd, e1, del_keep hz.ok e2 fun _ q => nomatch q⟩, RepF.del hz.ok (hz.x C) fs (by rw [D.nc] at hx; exact hx) h4⟩
  | _ => exact h.elim
theorem Ent.del {sl : List Sl} {τ : Tape} {vs : List V} (E : Ent g w H sl τ vs) (on : On cs H) (onZ : On cs w.Z) (C : COk cs) (hn : sl.all Sl.nc = true) : Ent g { w with Z := delC w.Z cs } (delC H cs) sl τ vs := by
  have hz : ZC w.Z cs := fun a o q => .inr (onZ a o q)
  have keepH : ∀ {a : Addr} {u : HO}, H a = some u → (∀ o, u ≠ CellX a o) → cs.lookup a = none := fun {a u} e ne => by
    rcases look2 cs a with q | ⟨o, q⟩
    · exact q
    · rw [on a o q] at e; exact (ne o (Option.some.inj e).symm).elim
  have cell : ∀ {x : D} {v : Option V}, x.nc = true → CellR g w H x v → CellR g { w with Z := delC w.Z cs } (delC H cs) x v := fun {x v} nx ⟨q, e2, r2, z2, t2⟩ => by
    cases x with
    | lst ds =>
      obtain ⟨vs, h1, h2⟩ := r2
      have q1 := keepH h1 fun _ q => nomatch q
      exact ⟨q, e2, ⟨vs, by rw [delC_out q1]; exact h1, RepL.del hz.ok (hz.x C) ds (by rwa [D.nc] at nx) h2⟩, by show delC w.Z cs q = none; rw [delC_out q1]; exact z2, t2⟩
    | dic ks =>
      obtain ⟨vs, h1, h2⟩ := r2
      have q1 := keepH h1 fun _ q => nomatch q
      exact ⟨q, e2, ⟨vs, by rw [delC_out q1]; exact h1, RepKV.del hz.ok (hz.x C) ks (by rwa [D.nc] at nx) h2⟩, by show delC w.Z cs q = none; rw [delC_out q1]; exact z2, t2⟩
    | _ => exact r2.elim
  refine ⟨E.len, fun i s h => ?_, E.no, zle_deldel E.zle, fun t l c q => ?_, ⟨noTbl_del E.tabs.1, fun p hp => ?_⟩⟩
  · have ns := List.all_eq_true.mp hn s (List.mem_of_getElem? h)
    have := E.slt i s h
    cases s with
    | un => trivial
    | fz d => obtain ⟨u, e1, r⟩ := this; exact ⟨u, e1, Rep.del hz.ok (hz.x C) d ns r⟩
    | own d => exact cell ns this
    | bor d =>
      rcases this with h | ⟨_, _, ⟨n, kvs, o, ks, rfl, _⟩, _⟩
      · exact .inl (cell ns h)
      · cases ns
  · have T := E.tape t l c q
    have dk : ∀ {a : Addr} {u : HO}, H a = some u → (∀ o, u ≠ CellX a o) → w.Z a = none → delC H cs a = some u ∧ delC w.Z cs a = none := fun {a u} e ne z => by
      have q := keepH e ne
      rw [delC_out q, delC_out q]; exact ⟨e, z⟩
    have a1 := dk T.ht (fun _ q => nomatch q) T.zt
    have a2 := dk T.hl (fun _ q => nomatch q) T.zl
    exact ⟨a1.1, a2.1, del_keep hz.ok T.hc (fun _ q => nomatch q), a1.2, a2.2⟩
  · obtain ⟨ps, h1, h2, h3⟩ := E.tabs.2 p hp
    refine ⟨ps, by rw [delC_out (keepH h1 fun _ q => nomatch q)]; exact h1, h2, fun pos cv hc => ?_⟩
    obtain ⟨c, e1, e2⟩ := h3 pos cv hc
    refine ⟨c, e1, ?_⟩
    show delC w.Z cs c = _
    rcases look2 cs c with q | ⟨o, q⟩
    · rw [delC_out q]; exact e2
    · rw [onZ c o q] at e2
      have e3 := ext_inj (Option.some.inj e2)
      obtain ⟨h, hh⟩ := C.ex c o q
      have t : (fun h : Heap => h.get? c = some o) h := hh
      rw [e3] at t
      obtain ⟨oc, vs, t0, t1, t2, _⟩ := t
      rw [hh] at t1
      cases t1
      obtain ⟨u, hu⟩ := C.cell c o q
      rw [hu] at t2
      cases t2
theorem Fin'.re {w' : Wd} {H' : Hp} {τ' : Tape} (on : On cs H) (onZ : On cs w.Z) (F : Fin' g { w with Z := delC w.Z cs } (delC H cs) w' H' τ') (off : ∀ a o, cs.lookup a = some o → H' a = none) : ZLe w'.Z (addC w'.Z cs) ∧ Fin' g w H { w' with Z := addC w'.Z cs } (addC H' cs) τ' := by
  have nzZ : ∀ a o, cs.lookup a = some o → w'.Z a = none := fun a o q => by
    cases e : w'.Z a with
    | none => rfl
    | some u => have := off a o q; rw [F.zle a u e] at this; cases this
  have up := zle_add (Z := w'.Z) nzZ
  have cn : ∀ {a : Addr} {u : HO}, H' a = some u → cs.lookup a = none := fun {a u} e => by
    rcases look2 cs a with q | ⟨o, q⟩
    · exact q
    · rw [off a o q] at e; cases e
  refine ⟨up, ⟨?_, F.st.tp, fun a o h nl nt2 => ?_, fun a h1 h2 => ?_, fun a h => ?_⟩, zle_addadd F.zle, fun t l c q => ?_, ⟨noTbl_add F.tabs.1, fun p hp => ?_⟩⟩
  · intro a u e
    show addC w'.Z cs a = some u
    rcases look2 cs a with q | ⟨o, q⟩
    · rw [addC_out q]
      exact F.st.z a u (by show delC w.Z cs a = some u; rw [delC_out q]; exact e)
    · rw [addC_in q]
      rw [onZ a o q] at e
      exact e
  · rcases look2 cs a with q | ⟨o2, q⟩
    · rw [addC_out q]
      exact F.st.fr a o (by rw [delC_out q]; exact h) nl nt2
    · rw [addC_in q]
      rw [on a o2 q] at h
      exact h
  · rcases look2 cs a with q | ⟨o, q⟩
    · have h3 : w'.Z a ≠ none := by
        have : addC w'.Z cs a ≠ none := h2
        rwa [addC_out q] at this
      rcases F.st.nz a (by show delC w.Z cs a = none; rw [delC_out q]; exact h1) h3 with y | y
      · rw [delC_out q] at y; exact .inl y
      · exact .inr y
    · rw [onZ a o q] at h1; cases h1
  · rcases look2 cs a with q | ⟨o, q⟩
    · rw [addC_out q] at h
      have y := F.st.al a h
      rwa [delC_out q] at y
    · rw [addC_in q] at h; cases h
  · have T := F.tape t l c q
    have dk : ∀ {a : Addr} {u : HO}, H' a = some u → w'.Z a = none → addC H' cs a = some u ∧ addC w'.Z cs a = none := fun {a u} e z => by
      have q := cn e
      rw [addC_out q, addC_out q]; exact ⟨e, z⟩
    have a1 := dk T.ht T.zt
    have a2 := dk T.hl T.zl
    exact ⟨a1.1, a2.1, up _ _ T.hc, a1.2, a2.2⟩
  · obtain ⟨ps, h1, h2, h3⟩ := F.tabs.2 p hp
    refine ⟨ps, by rw [addC_out (cn h1)]; exact h1, h2, fun pos cv hc => ?_⟩
    obtain ⟨c, e1, e2⟩ := h3 pos cv hc
    exact ⟨c, e1, up _ _ e2⟩
theorem FRs.re {w' : Wd} {H' : Hp} {r : Rs} {v : V} (on : On cs H) (off : ∀ a o, cs.lookup a = some o → H' a = none) (up : ZLe w'.Z (addC w'.Z cs)) (h : FRs g (delC H cs) w' H' r v) : FRs g H { w' with Z := addC w'.Z cs } (addC H' cs) r v := by
  cases r with
  | fz d => exact Rep.mono up _ h
  | own d =>
    obtain ⟨p, e, h1, h2, h3, h4⟩ := h
    obtain ⟨o, ho, _⟩ := h1.at
    have q : cs.lookup p = none := by
      rcases look2 cs p with q | ⟨o, q⟩
      · exact q
      · rw [off p o q] at ho; cases ho
    refine ⟨p, e, ?_, by show addC w'.Z cs p = none; rw [addC_out q]; exact h2, h3, by rw [delC_out q] at h4; exact h4⟩
    cases d with
    | lst ds => obtain ⟨vs, k1, k2⟩ := h1; exact ⟨vs, by rw [addC_out q]; exact k1, RepL.mono up _ k2⟩
    | dic ks => obtain ⟨vs, k1, k2⟩ := h1; exact ⟨vs, by rw [addC_out q]; exact k1, RepKV.mono up _ k2⟩
    | _ => exact h1
theorem ExR.mono {w w' : Wd} {x : D} {cls : Value} {dx : Option Addr} (z : ZLe w.Z w'.Z) (tp : w'.tp = w.tp) (h : ExR g w x cls dx) : ExR g w' x cls dx := by
  cases x with
  | exc c fs =>
    obtain ⟨Cc, vs, h1, h2, h3, h4⟩ := h
    exact ⟨Cc, vs, h1, h2, h3.imp id fun ⟨dd, e1, e2⟩ => ⟨dd, e1, z _ _ e2⟩, by rw [tp]; exact RepF.mono z _ h4⟩
  | _ => exact h.elim
end

/-- the promise, the world told -/
def spW (g : G) (w : Wd) (m : Mf) : Sp := fun vs H Q E => ∃ τ sl, Ent g w H sl τ vs ∧ match m sl τ with
  | .rt r τ' => ∀ w' H' v, Fin' g w H w' H' τ' → FRs g H w' H' r v → Q v H'
  | .exc x τ' => ∀ w' H' cls dx, Fin' g w H w' H' τ' → ExR g w' x cls dx → E cls dx H'
  | .bad => False
def AnyOk (g : G) (k : Nat) (d : D) (m : Mf) : Prop := ∀ (w : Wd) (v : V), Rep g w.Z w.tp d v → ∃ f, v = .ref f ∧ (∀ (H : Hp) (h : Heap), HOk g.prog g.w H h → ZLe w.Z H → g.K.In h → PySem.W.FnAt f h) ∧
  ∀ (A : Around) (outer : List Env) (s : Shared) (H : Hp) (us : List Value) (vs : List V) (Q : VK) (E : XK), Room k A → A.guards = some [] → Env0 g.prog g.w g.K g.mg g.base A outer s H → Vals vs us → spW g w m vs H Q E →
    codeAny (model g.prog g.w) A (.call (.ref f) ⟨us, []⟩) (CR (L2.CX g.prog g.w) outer g.prog g.w H s Q E) s
/-- a lambda's body -/
def mLam (np n : Nat) (ev : Ev) (caps : List D) : Mf := fun sl τ => if sl.length = np ∧ sl.all Sl.nc = true then (match ev (sl ++ (caps.map Sl.fz ++ List.replicate n .un)) τ with
    | .ok r _ τ' => .rt r τ'
    | .exc x _ τ' => .exc x τ'
    | .bad => .bad) else .bad
theorem caps_ent {g : G} {w : Wd} {H : Hp} {τ : Tape} (zle : ZLe w.Z H) (tp : TapeR g w H τ) (tb : TabsK g.T w.Z H) : ∀ {ds : List D} {vs : List V}, RepL g w.Z w.tp ds vs → Ent g w H (ds.map Sl.fz) τ vs
  | [], vs, h => by
    rw [RepL] at h
    subst h
    exact ⟨rfl, fun i s h => by simp at h, fun s h => by simp at h, zle, tp, tb⟩
  | d :: ds, vs, h => by
    rw [RepL] at h
    obtain ⟨v, r, rfl, h1, h2⟩ := h
    exact Ent.cons ⟨v, rfl, h1⟩ rfl (caps_ent zle tp tb h2)
abbrev lmF (l : LE) (cl : List (Str × Addr)) (c : Addr) : NdefX.NF := ⟨"<lambda>", l.qual, l.params, [], l.scope, cl, c⟩
/-- the context of a lambda's body -/
abbrev cxL (g : G) (N : List Str) (l : LE) (cl : List (Str × Addr)) (c f : Addr) (A : Around) (outer : List Env) (s : Shared) (H : Hp) (E : XK) : Cx := NdefX.ncx (L2.CX g.prog g.w) g.prog g.w g.K g.mg g.base N (lmF l cl c) f A outer s H E
theorem at_lam {g : G} {k : Nat} {N : List Str} {l : LE} {cl : List (Str × Addr)} {c f : Addr} {A : Around} {outer : List Env} {s : Shared} {H : Hp} {E : XK} (nd : N.Nodup) (hr : Room k (A.deeper (NdefX.envF (lmF l cl c) f s.heap.objs.size))) (hg : A.guards = some []) : At g k (cxL g N l cl c f A outer s H E) (WB E) where
  room := hr
  prog := rfl
  w := rfl
  K := rfl
  mg := rfl
  base := rfl
  calm := rfl
  nd := nd
  guards := hg
  takes := takes_of rfl rfl rfl rfl
  passes := passes_of rfl
theorem startF_eq {N : List Str} {vs ws : List V} : NdefX.startF N vs (ws.map some) = L2.start N (vs ++ ws) := by
  unfold NdefX.startF L2.start
  rw [List.length_map, List.map_append, List.append_assoc, List.length_append, Nat.sub_sub]
theorem clo_any {g : G} {k n np nl : Nat} {l : LE} {N : List Str} {ev : Ev} (hl : g.tab n = some l) (S : NdefX.NScope N l.ps l.fr l.scope) (hnp : l.ps.length = np) (hn : N.length - (l.ps.length + l.fr.length) = nl)
    (hbd : ∀ (cl : List (Str × Addr)) (pm cv ctv : Value) (us : List Value), us.length = l.ps.length → bindArgs (PySem.W.kla_fn "<lambda>" l.qual l.params l.body l.scope cl pm cv ctv) ⟨us, []⟩ = pure (l.ps.zip us))
    (hb : ∀ (cl : List (Str × Addr)) (c f : Addr) (A : Around) (outer : List Env) (s : Shared) (H : Hp) (E : XK), PyE g k (cxL g N l cl c f A outer s H E) (WB E) l.body ev) (caps : List D) : AnyOk g (k + 1) (.clo n caps) (mLam np nl ev caps) := by
  intro w v hr
  rw [Rep] at hr
  obtain ⟨vs, cs, ⟨l', f, c, cl, h1, rfl, h3, h4, h5, h6⟩, hc⟩ := hr
  rw [hl] at h1
  cases h1
  refine ⟨f, rfl, fun H h hok z _ => ?_, fun A outer s H us vs' Q E hr hg e0 rv hsp => ?_⟩
  · have x : ObjOk g.prog g.w H h f (FnL f l cl c) := hok f _ (z _ _ h3)
    obtain ⟨⟨pm, ctv, e⟩, _⟩ := x
    exact ⟨_, _, _, _, e⟩
  obtain ⟨τ, sl, en, q⟩ := hsp
  unfold mLam at q
  by_cases cc : sl.length = np ∧ sl.all Sl.nc = true
  · simp only [cc, and_self, if_true] at q
    obtain ⟨c1, c2⟩ := cc
    have on : On cs H := fun a o q => en.zle _ _ (h6 a o q)
    have C : COk cs := ⟨fun a o q => h5.cell a o q, fun a o q => ⟨s.heap, cellX_at e0.hok (on a o q)⟩⟩
    have hz : ZC w.Z cs := fun a o q => .inr (h6 a o q)
    have e1 := env0_del e0 on
    have en1 := en.del on h6 C c2
    have en2 := en1.app (caps_ent en1.zle en1.tape en1.tabs hc)
    have lv : vs'.length = l.ps.length := by rw [← en.len, c1, hnp]
    have lim : s.heap.NoLimit := e0.mod.nolimit.keeps fun b o e => (e0.bs b o e).1
    have x : ObjOk g.prog g.w H s.heap f (FnL f l cl c) := e0.hok f _ (en.zle _ _ h3)
    obtain ⟨⟨pm, ctv, ho⟩, _⟩ := x
    have CA : NdefX.CellsAt cl l.fr (vs.map some) s.heap (delC H cs) := by
      refine ⟨by rw [List.length_map]; exact h5.len, fun y a e => ?_, h5.inj, fun i y e => ?_⟩
      · obtain ⟨o, q⟩ := h5.sub y a e
        obtain ⟨u, hu⟩ := h5.cell a o q
        exact ⟨delC_in q, u, o, cellX_at e0.hok (on a o q), hu⟩
      · obtain ⟨a, o, k1, k2, k3⟩ := h5.has i y e
        refine ⟨a, k1, fun v ev => ?_⟩
        rw [List.getElem?_map] at ev
        cases e9 : vs[i]? with
        | none => rw [e9] at ev; cases ev
        | some v2 =>
          rw [e9] at ev
          cases ev
          obtain ⟨u, r, k4⟩ := k3 v e9
          exact ⟨u, r, o, cellX_at e0.hok (on a o k2), k4⟩
    suffices hh : codeAny (model g.prog g.w) A (.call (.ref f) ⟨us, []⟩) (CR (L2.CX g.prog g.w) outer g.prog g.w (delC H cs) s (fun v H' => (∀ a o, cs.lookup a = some o → H' a = none) → Q v (addC H' cs)) (fun cls d H' => (∀ a o, cs.lookup a = some o → H' a = none) → E cls d (addC H' cs))) s by
      refine codeAny_mono hh fun r s' hq => ?_
      cases r with
      | error e => exact cx_del e0 on hq
      | ok fl =>
        cases fl with
        | ret u => exact ce_del e0 on hq
        | next => exact False.elim hq
        | brk => exact False.elim hq
        | cont => exact False.elim hq
    refine PySem.W.kla_callFunE hr.depth ho rfl S.co S.gen rfl (NdefX.codeO_at e0.hok (en.zle _ _ h4)) ?_
    rw [hbd cl pm (.ref c) ctv us (by rw [← rv.length]; exact lv)]
    refine wpAny_pure (wpAny_newFunctionEnv S.nocell (fun ⟨n, _⟩ hy => S.par n (List.of_mem_zip hy).1) (fun h₁ hns hsb => ⟨lim.fresh _ hsb, ?_⟩) S.kind)
    show codeAny _ _ (.expr l.body (NdefX.envF (lmF l cl c) f s.heap.objs.size)) _ _
    have kp : ∀ b o, s.heap.get? b = some o → h₁.get? b = some o := fun b o e => hsb.extBut b o (Nat.ne_of_lt (Heap.lt_size e)) (Heap.get?_push_of_some _ e)
    have J := NdefX.inv_startN (CX := L2.CX g.prog g.w) (F := lmF l cl c) (f := f) (N := N) (E := fun cls d H' => (∀ a o, cs.lookup a = some o → H' a = none) → E cls d (addC H' cs)) (tk := s.toks + (l.ps.zip us).length) S hr.hd e1 lv rv CA hns kp
    rw [startF_eq] at J
    have AtL := at_lam (g := g) (k := k) (N := N) (l := l) (cl := cl) (c := c) (f := f) (outer := outer) (s := s) (H := delC H cs) (E := fun cls d H' => (∀ a o, cs.lookup a = some o → H' a = none) → E cls d (addC H' cs)) S.nd (hr.deeper (NdefX.envF (lmF l cl c) f s.heap.objs.size)) hg
    refine PySem.W.kla_codeExpr (wpAny_mono ((hb cl c f A outer s _ _ AtL).run [] _ _ _ (fun v H' => (∀ a o, cs.lookup a = some o → H' a = none) → Q v (addC H' cs)) J ?_) (fun v s' hq => ?_) fun e s' hq => hq)
    · refine ⟨_, _, τ, ent_env en2 (n := nl) (by rw [List.length_append, lv, h5.len]; exact hn), ?_⟩
      rw [List.append_assoc]
      cases e9 : ev (sl ++ (caps.map Sl.fz ++ List.replicate nl .un)) τ with
      | bad => simp only [e9] at q
      | ok r ρ' τ' =>
        simp only [e9] at q
        intro w' H' v a hr off
        rw [← List.append_assoc] at a hr
        have F := ps_fin en2 a
        obtain ⟨up, F2⟩ := F.re on h6 off
        exact q _ _ v F2 ((rs_fin en2 hr).re on off up)
      | exc x ρ' τ' =>
        simp only [e9] at q
        intro w' H' cls dx a hx off
        rw [← List.append_assoc] at a
        have F := ps_fin en2 a
        obtain ⟨up, F2⟩ := F.re on h6 off
        exact q _ _ cls dx F2 (hx.mono up rfl)
    · obtain ⟨v', H', J', rv', q'⟩ := hq
      exact ⟨v', H', J'.os, J'.bare, J'.base, J'.hok, rv', q'⟩
  · simp only [cc, if_false] at q
end PD
namespace PD
open PySem PySem.Spec L2
open PyProof.Rows hiding St
open LamX (TabB CodeO)

/-- a module function as a value -/
def mFn (n : Nat) (m : Mf) : Mf := fun sl τ => if sl.length = n then m sl τ else .bad
theorem fn_any {g : G} {k : Nat} {x : Str} {fd : FuncData} {ps : List Str} {m : Mf} {n : Nat} (F : FnM g k x fd ps m) (hn : ps.length = n) (hl : ∀ f, g.mg x = some (.ref f) → ∃ oc od osl, g.K.lookup f = some ⟨oc, od, .func fd, osl⟩) (hb : ∀ (s : Shared) (us : List Value), g.K.In s.heap → us.length = ps.length → BindsTo s fd ⟨us, []⟩ (ps.zip us)) : AnyOk g k (.fn x) (mFn n m) := by
  intro w v hr
  rw [Rep] at hr
  obtain ⟨a, rfl, hm⟩ := hr
  obtain ⟨f, hm2, hk, F⟩ := F.ex
  rw [hm] at hm2
  cases hm2
  obtain ⟨oc, od, osl, lk⟩ := hl a hm
  refine ⟨a, rfl, fun H h _ _ hK => ⟨_, _, _, _, hK _ _ lk⟩, fun A outer s H us vs Q E hr hg e0 rv hsp => ?_⟩
  obtain ⟨τ, sl, en, q⟩ := hsp
  unfold mFn at q
  by_cases c : sl.length = n
  · simp only [c, if_true] at q
    have lv : vs.length = ps.length := by rw [← en.len, c, hn]
    exact F A outer s H _ us vs Q E hr hg e0 (hb s us (e0.mod.kin.keeps fun b o e => (e0.bs b o e).1) (by rw [← rv.length]; exact lv)) rv lv ⟨w, τ, sl, en, q⟩
  · simp only [c, if_false] at q
/-- what may be called, and what it does -/
structure Ap where
  can : D → Bool
  run : D → Mf
def ApOk (g : G) (k : Nat) (ap : Ap) : Prop := ∀ d, ap.can d = true → AnyOk g k d (ap.run d)
theorem AnyOk.mono {g : G} {j k : Nat} {d : D} {m : Mf} (h : AnyOk g j d m) (hk : j ≤ k) : AnyOk g k d m := fun w v r => by
  obtain ⟨f, h1, h2, h3⟩ := h w v r
  exact ⟨f, h1, h2, fun A outer s H us vs Q E hr => h3 A outer s H us vs Q E (hr.mono hk)⟩
/-- x(e, ..), x a slot -/
def vCallV (ap : Ap) (i : Nat) (args : List Arg) : Ev := fun ρ τ => match ρ[i]? with
  | some (.fz d) => if ap.can d then (match aEx args ρ τ with
      | .ok xs ρ1 τ1 => (match aSl ρ1 xs with
        | some sl => (match ap.run d sl τ1 with
          | .rt r τ2 => .ok r ρ1 τ2
          | .exc x τ2 => .exc x ρ1 τ2
          | .bad => .bad)
        | none => .bad)
      | .exc x ρ1 τ1 => .exc x ρ1 τ1
      | .bad => .bad) else .bad
  | _ => .bad
section
variable {g : G} {k j : Nat} {X : Cx} {W : WX}
theorem run_any {d : D} {m : Mf} {w : Wd} {f : Addr} (A : At g j X W) (hk : k ≤ j)
    (F : ∀ (A : Around) (outer : List Env) (s : Shared) (H : Hp) (us : List Value) (vs : List V) (Q : VK) (E : XK), Room k A → A.guards = some [] → Env0 g.prog g.w g.K g.mg g.base A outer s H → Vals vs us → spW g w m vs H Q E → codeAny (model g.prog g.w) A (.call (.ref f) ⟨us, []⟩) (CR (L2.CX g.prog g.w) outer g.prog g.w H s Q E) s)
    {pins : List (Addr × Obj)} {σ : St} {H : Hp} {s : Shared} {Q : VK} {us : List Value} {vs : List V} (I : Inv X pins σ H s) (r : Vals vs us) (h : spW g w m vs H Q (WE W σ)) : wpAny (model X.prog X.w) X.A (call (.ref f) us) (EP X pins σ Q) X.xe s := by
  have e0 := I.env0
  have run := F X.A X.stack s H us vs Q (WE W σ) (A.room.mono hk) A.guards (by rw [← A.prog, ← A.w, ← A.K, ← A.mg, ← A.base]; exact e0) r h
  rw [← A.prog, ← A.w] at run
  refine wpAny_call (codeAny_mono run fun rr s' hq => ?_)
  cases rr with
  | error e => exact passAt A.takes σ pins H s e s' I hq
  | ok fl =>
    cases fl with
    | ret u => exact I.after hq
    | next => exact False.elim hq
    | brk => exact False.elim hq
    | cont => exact False.elim hq
theorem call_w {w : Wd} {H : Hp} {ρ : Rho} {σ : St} {w1 : Wd} {H1 : Hp} {ρ1 : Rho} {τ1 : Tape} (a : Ps g w H ρ σ w1 H1 ρ1 τ1 σ) {m : Mf} {sl : List Sl} {vs : List V} {Q : VK} (en : Ent g w1 H1 sl τ1 vs)
    (q : match (match m sl τ1 with
        | .rt r τ2 => O.ok r ρ1 τ2
        | .exc x τ2 => .exc x ρ1 τ2
        | .bad => .bad) with
      | .ok r ρ' τ' => ∀ w' H' v, Ps g w H ρ σ w' H' ρ' τ' σ → RsR g w H ρ σ w' H' ρ' σ r v → Q v H'
      | .exc x ρ' τ' => ∀ w' H' cls dx, Ps g w H ρ σ w' H' ρ' τ' σ → ExR g w' x cls dx → W cls dx σ H'
      | .bad => False) : spW g w1 m vs H1 Q (WE W σ) := by
  refine ⟨τ1, sl, en, ?_⟩
  cases e3 : m sl τ1 with
  | rt r τ2 => simp only [e3] at q; exact fun w' H' v b hr => q w' H' v (call_ps a b) (call_rs a b hr)
  | exc x τ2 => simp only [e3] at q; exact fun w' H' cls dx b hx => q w' H' cls dx (call_ps a b) hx
  | bad => simp only [e3] at q
theorem py_callV {ap : Ap} {i : Nat} {x : Str} {e : Expr} {es : List Expr} {as : List Arg} {p1 pos : Pos} (P : ApOk g j ap) (ho : PE X (.Name x p1) (tVar i)) (ha : PyArgs g k X W (e :: es) as) (hj : j ≤ k := by decide)
    (he : starEach (e :: es) X.env = (false, eval e X.env) :: starEach es X.env := by rfl) (hpl : (backTo pos (starEach es X.env)).any (·.1) = false := by rfl) : PyE g k X W (.Call (.Name x p1) (e :: es) [] pos) (vCallV ap i as) := fun A => by
  refine ⟨fun pins s σ H Q I h => ?_⟩
  obtain ⟨w, ρ, τ, env, q⟩ := h
  unfold vCallV at q
  cases e0 : ρ[i]? with
  | none => simp only [e0] at q
  | some s0 =>
    cases s0 with
    | un => simp only [e0] at q
    | own d => simp only [e0] at q
    | bor d => simp only [e0] at q
    | fz d =>
      simp only [e0] at q
      by_cases c : ap.can d = true
      · simp only [c, if_true] at q
        obtain ⟨v, hv, hr⟩ := fz_slot env e0
        obtain ⟨f, rfl, _, _⟩ := P d c w v hr
        refine wpAny_Call_Name_kw (thn (ho.run pins s σ H (fun x H1 => x = .ref f ∧ H1 = H) I ⟨.ref f, hv, rfl, rfl⟩) fun u s1 ⟨x, H1, I1, r1, ex, eH⟩ => ?_)
        subst ex
        rw [eH] at I1
        obtain rfl : u = Value.ref f := r1
        have fnAt : ∀ {w' : Wd} {H' : Hp} {s' : Shared}, Inv X pins σ H' s' → ZLe w.Z w'.Z → w'.tp = w.tp → ZLe w'.Z H' → PySem.W.FnAt f s'.heap := fun {w' H' s'} J z t zz => by
          obtain ⟨f2, e2, h2, _⟩ := P d c w' (.ref f) (by rw [t]; exact Rep.mono z _ hr)
          cases e2
          exact h2 H' s'.heap (by rw [← A.prog, ← A.w]; exact J.hok) zz (by rw [← A.K]; exact J.kIn)
        refine PySem.W.callWith_F (first := []) (fnAt I1 (ZLe.refl _) rfl env.zle) (thn ((ha A).run pos pins s1 σ H (fun vs H1 => ∃ w1, ZLe w.Z w1.Z ∧ w1.tp = w.tp ∧ ZLe w1.Z H1 ∧ spW g w1 (ap.run d) vs H1 Q (WE W σ)) I1 ?_) fun us s2 ⟨vs, H2, I2, r, w1, z1, t1, zz, q1⟩ => ⟨fnAt I2 z1 t1 zz, ?_⟩) he hpl
        · refine args_pre _ env ?_
          cases e1 : aEx as ρ τ with
          | exc y ρ' τ' => simp only [e1] at q; exact q
          | bad => simp only [e1] at q
          | ok xs ρ1 τ1 =>
            simp only [e1] at q
            intro w1 H1 vs a pr
            cases e2 : aSl ρ1 xs with
            | none => simp only [e2] at q
            | some sl =>
              simp only [e2] at q
              exact ⟨w1, a.st.z, a.st.tp, a.env.zle, call_w a (pre_ent a.env e2 pr) q⟩
        · obtain ⟨f2, e2, _, F⟩ := P d c w1 (.ref f) (by rw [t1]; exact Rep.mono z1 _ hr)
          cases e2
          exact run_any (d := d) A hj F I2 r q1
      · simp only [c] at q
        exact False.elim q
theorem py_callV0 {ap : Ap} {i : Nat} {x : Str} {p1 pos : Pos} (P : ApOk g j ap) (ho : PE X (.Name x p1) (tVar i)) (hj : j ≤ k := by decide) : PyE g k X W (.Call (.Name x p1) [] [] pos) (vCallV ap i []) := fun A => by
  refine ⟨fun pins s σ H Q I h => ?_⟩
  obtain ⟨w, ρ, τ, env, q⟩ := h
  unfold vCallV at q
  cases e0 : ρ[i]? with
  | none => simp only [e0] at q
  | some s0 =>
    cases s0 with
    | un => simp only [e0] at q
    | own d => simp only [e0] at q
    | bor d => simp only [e0] at q
    | fz d =>
      simp only [e0] at q
      by_cases c : ap.can d = true
      · simp only [c, if_true, aEx, aSl] at q
        obtain ⟨v, hv, hr⟩ := fz_slot env e0
        obtain ⟨f, rfl, h2, F⟩ := P d c w v hr
        refine wpAny_Call_Name_kw (thn (ho.run pins s σ H (fun x H1 => x = .ref f ∧ H1 = H) I ⟨.ref f, hv, rfl, rfl⟩) fun u s1 ⟨x, H1, I1, r1, ex, eH⟩ => ?_)
        subst ex
        rw [eH] at I1
        obtain rfl : u = Value.ref f := r1
        refine PySem.W.callWith_F0 (first := []) (h2 H s1.heap (by rw [← A.prog, ← A.w]; exact I1.hok) env.zle (by rw [← A.K]; exact I1.kIn)) ?_
        have en : Ent g w H [] τ [] := pre_ent env (xs := []) (sl := []) (vs := []) rfl rfl
        exact run_any (d := d) A hj F I1 .nil (call_w (Ps.refl env) en q)
      · simp only [c] at q
        exact False.elim q
end
end PD
namespace PD
open PySem PySem.Spec L2
open PyProof.Rows hiding St
open LamX (TabB CodeO)

def frzL : List Nat → Rho → Option (List D × Rho)
  | [], ρ => some ([], ρ)
  | j :: js, ρ => match ρ[j]? with
    | some (.fz d) => (frzL js ρ).map fun p => (d :: p.1, p.2)
    | some (.own d) => (frzL js (ρ.set j (.fz d))).map fun p => (d :: p.1, p.2)
    | _ => none
section
variable {g : G}
theorem frz_ps : ∀ {js : List Nat} {w : Wd} {H : Hp} {ρ : Rho} {τ : Tape} {σ : St} {ds : List D} {ρ' : Rho}, EnvR g w H ρ τ σ → frzL js ρ = some (ds, ρ') →
    ∃ w' vs, Ps g w H ρ σ w' H ρ' τ σ ∧ RepL g w'.Z w'.tp ds vs ∧ vs.length = js.length ∧ ∀ (i : Nat) j, js[i]? = some j → ∃ v, vs[i]? = some v ∧ σ[j]? = some (some v)
  | [], w, H, ρ, τ, σ, ds, ρ', env, h => by
    cases h
    exact ⟨w, [], .refl env, by rw [RepL], rfl, fun i j h => by simp at h⟩
  | j :: js, w, H, ρ, τ, σ, ds, ρ', env, h => by
    rw [frzL] at h
    cases e : ρ[j]? with
    | none => rw [e] at h; cases h
    | some s =>
      rw [e] at h
      cases s with
      | un => cases h
      | bor d => cases h
      | fz d =>
        obtain ⟨p, h1, h2⟩ := Option.map_eq_some_iff.mp h
        cases h2
        obtain ⟨v, hv, hr⟩ := fz_slot env e
        obtain ⟨w', vs, a, r, l, at_⟩ := frz_ps env (show frzL js ρ = some (p.1, p.2) from h1)
        refine ⟨w', v :: vs, a, ?_, congrArg Nat.succ l, fun i j' hj => ?_⟩
        · rw [RepL]
          exact ⟨v, vs, rfl, by rw [a.st.tp]; exact Rep.mono a.st.z _ hr, r⟩
        · cases i with
          | zero => cases hj; exact ⟨v, rfl, hv⟩
          | succ i => exact at_ i j' hj
      | own d =>
        obtain ⟨p, h1, h2⟩ := Option.map_eq_some_iff.mp h
        cases h2
        obtain ⟨q, hv, _⟩ := own_slot env e
        obtain ⟨w1, a1, r1⟩ := frz_slot env e hv
        obtain ⟨w', vs, a, r, l, at_⟩ := frz_ps a1.env (show frzL js (ρ.set j (.fz d)) = some (p.1, p.2) from h1)
        refine ⟨w', .ref q :: vs, a1.trans a, ?_, congrArg Nat.succ l, fun i j' hj => ?_⟩
        · rw [RepL]
          exact ⟨.ref q, vs, rfl, by rw [a.st.tp]; exact Rep.mono a.st.z _ r1, r⟩
        · cases i with
          | zero => cases hj; exact ⟨.ref q, rfl, hv⟩
          | succ i => exact at_ i j' hj
/-- a lambda has been made -/
theorem lam_ps {w : Wd} {H : Hp} {ρ : Rho} {τ : Tape} {σ : St} (env : EnvR g w H ρ τ σ) {f c' : Addr} {H1 : Hp} {l : LE} {cl : List (Str × Addr)} (fr : ∀ b o, H b = some o → (∀ ps, o ≠ .tbl ps) → H1 b = some o) (al : ∀ b, H1 b = none → H b = none) (nf : H f = none) (fc : f ≠ c')
    (hf : H1 f = some (FnL f l cl c')) (hc : w.Z c' = some (CodeO c' l.qual) ∨ (H c' = none ∧ H1 c' = some (CodeO c' l.qual))) (tb : TabsK g.T (upd w.Z c' (CodeO c' l.qual)) H1) :
    ∃ w2, Ps g w H ρ σ w2 H1 ρ τ σ ∧ w2.Z f = some (FnL f l cl c') ∧ w2.Z c' = some (CodeO c' l.qual) := by
  have nZ : ∀ {a : Addr}, H a = none → w.Z a = none := fun {a} e => by
    cases q : w.Z a with
    | none => rfl
    | some u => rw [env.zle a u q] at e; cases e
  have z1 : ZLe w.Z (upd w.Z c' (CodeO c' l.qual)) := by
    rcases hc with hc | ⟨hc, _⟩
    · rw [upd_self hc]; exact ZLe.refl _
    · exact ZLe.upd (nZ hc)
  have nf2 : upd w.Z c' (CodeO c' l.qual) f = none := by rw [upd_ne fc]; exact nZ nf
  have z2 : ZLe w.Z (upd (upd w.Z c' (CodeO c' l.qual)) f (FnL f l cl c')) := z1.trans (ZLe.upd nf2)
  have hZ1 : H1 c' = some (CodeO c' l.qual) := by
    rcases hc with hc | ⟨_, hc⟩
    · exact fr _ _ (env.zle _ _ hc) LamX.codeO_ne
    · exact hc
  -- a place that is told and not in the zone stays out of it
  have out : ∀ {a : Addr} {o : HO}, H a = some o → w.Z a = none → upd (upd w.Z c' (CodeO c' l.qual)) f (FnL f l cl c') a = none := fun {a o} e z => by
    have a1 : a ≠ f := ne_of_none e nf
    have a2 : a ≠ c' := by
      rcases hc with hc | ⟨hc, _⟩
      · rintro rfl; rw [hc] at z; cases z
      · exact ne_of_none e hc
    rw [upd_ne a1, upd_ne a2]; exact z
  have cell : ∀ {x : D} {v : Option V}, CellR g w H x v → CellR g ⟨upd (upd w.Z c' (CodeO c' l.qual)) f (FnL f l cl c'), w.tp⟩ H1 x v := fun {x v} ⟨q, e2, r2, z3, t2⟩ => by
    obtain ⟨o, ho, ht, _⟩ := r2.at
    refine ⟨q, e2, ?_, out ho z3, t2⟩
    cases x with
    | lst ds => obtain ⟨vs, h1, h2⟩ := r2; exact ⟨vs, fr _ _ h1 (fun _ q => nomatch q), RepL.mono z2 _ h2⟩
    | dic ks => obtain ⟨vs, h1, h2⟩ := r2; exact ⟨vs, fr _ _ h1 (fun _ q => nomatch q), RepKV.mono z2 _ h2⟩
    | _ => exact r2
  refine ⟨⟨upd (upd w.Z c' (CodeO c' l.qual)) f (FnL f l cl c'), w.tp⟩, ⟨⟨env.len, fun i s h => ?_, env.ap, fun a u e => ?_, fun t l c q => ?_, tb.mono (ZLe.upd nf2) (tb.1.upd fnL_ne.2.2.1)⟩, ⟨z2, rfl, fun a o h _ n => fr a o h n, fun a h1 h2 => ?_, al⟩, fun a h => .inl h, fun i d h => ⟨h, rfl⟩⟩, upd_same, ?_⟩
  · have := env.sl i s h
    cases s with
    | un => trivial
    | fz d => obtain ⟨u, e1, r⟩ := this; exact ⟨u, e1, Rep.mono z2 _ r⟩
    | own d => exact cell this
    | bor d => exact this.imp cell fun g => g.map (fun q x y e1 e2 z2 t2 => ⟨fr _ _ e2 (fun _ q => nomatch q), out e2 z2, t2⟩) fun _ _ => RepKV.mono z2 _
  · have e : upd (upd w.Z c' (CodeO c' l.qual)) f (FnL f l cl c') a = some u := e
    by_cases h1 : a = f
    · rw [h1, upd_same] at e; cases e; rw [h1]; exact hf
    · rw [upd_ne h1] at e
      by_cases h2 : a = c'
      · rw [h2, upd_same] at e; cases e; rw [h2]; exact hZ1
      · rw [upd_ne h2] at e
        exact fr _ _ (env.zle _ _ e) fun ps q => env.tabs.1 a ps (by rw [e, q])
  · have T := env.tape t l c q
    exact ⟨fr _ _ T.ht (fun _ q => nomatch q), fr _ _ T.hl (fun _ q => nomatch q), z2 _ _ T.hc, out T.ht T.zt, out T.hl T.zl⟩
  · have h2 : upd (upd w.Z c' (CodeO c' l.qual)) f (FnL f l cl c') a ≠ none := h2
    by_cases h3 : a = f
    · rw [h3]; exact .inl nf
    · rw [upd_ne h3] at h2
      by_cases h4 : a = c'
      · rcases hc with hc | ⟨hc, _⟩
        · rw [h4, hc] at h1; cases h1
        · rw [h4]; exact .inl hc
      · rw [upd_ne h4] at h2
        exact (h2 h1).elim
  · show upd (upd w.Z c' (CodeO c' l.qual)) f (FnL f l cl c') c' = _
    rw [upd_ne (Ne.symm fc), upd_same]
end

def tLamE (g : G) (X : Cx) (l : LE) : TE := fun σ H Q => ∃ Z, ZLe Z H ∧ TabsK g.T Z H ∧ ∀ (f c' : Addr) (H1 : Hp), (∀ b o, H b = some o → (∀ ps, o ≠ .tbl ps) → H1 b = some o) → (∀ b, H1 b = none → H b = none) → H f = none → f ≠ c' → H1 f = some (FnL f l (cloFrom X.env.cells l.scope.names []) c') →
  ((Z c' = some (CodeO c' l.qual)) ∨ (H c' = none ∧ H1 c' = some (CodeO c' l.qual))) → TabsK g.T (upd Z c' (CodeO c' l.qual)) H1 → Q (.ref f) H1
/-- what the making asks of the context -/
structure LamIn (g : G) (X : Cx) (l : LE) (pos : Pos) : Prop where
  tab : ∃ c P nm, TabB g.base g.mg c P ∧ X.env.code = .ref c ∧ (P, nm) ∈ g.T ∧ nm pos.line pos.col = X.env.qual ++ "<lambda>" ∧ ∀ p ∈ g.T, p.1 = P → p.2 = nm
  qual : l.qual = X.env.qual ++ "<lambda>"
  dflt : defaultsOf l.params X.env = ([], [])
  free : ∀ y ∈ l.scope.names, y.2 = .free → X.env.scope.names.lookup y.1 = some .cell ∨ X.env.scope.names.lookup y.1 = some .free
theorem pe_lamE {g : G} {k : Nat} {X : Cx} {W : WX} {l : LE} {pos : Pos} (A : At g k X W) (L : LamIn g X l pos) : PE X (.Lambda l.params l.body l.scope pos) (tLamE g X l) := by
  refine ⟨fun pins s σ H Q I h => ?_⟩
  obtain ⟨Z, z, tb, h⟩ := h
  obtain ⟨c, P, nm, TB, hcode, hm, hn, hu⟩ := L.tab
  exact lam_mk I (by rw [A.base, A.mg]; exact TB) hcode L.qual hm hn hu tb z L.dflt (fun y hy e => (L.free y hy e).elim (fun z => I.ok.has _ (.inl z)) fun z => I.ok.has _ (.inr z)) fun f c' H1 s' J h1 h2 h3 h4 h5 h6 h7 => ⟨.ref f, H1, J, rfl, h f c' H1 h1 h2 h3 h4 h5 h6 h7⟩
def tArgL (g : G) (W : WX) (X : Cx) (l : LE) : List Arg → List Arg → TA
  | [], as2 => tCons (tLamE g X l) (argsT g W as2)
  | a :: as1, as2 => tCons (argE g W a) (tArgL g W X l as1 as2)
def PyArgsL (g : G) (k : Nat) (X : Cx) (W : WX) (es : List Expr) (as1 : List Arg) (l : LE) (as2 : List Arg) : Prop := as1.all plainA = true ∧ (At g k X W → PA X es (tArgL g W X l as1 as2))
section
variable {g : G} {k j : Nat} {X : Cx} {W : WX}
theorem pal_here {l : LE} {pos : Pos} {es : List Expr} {as2 : List Arg} (L : LamIn g X l pos) (h : PyArgs g k X W es as2) (hs : starEach (.Lambda l.params l.body l.scope pos :: es) X.env = (false, eval (.Lambda l.params l.body l.scope pos) X.env) :: starEach es X.env := by rfl) : PyArgsL g k X W (.Lambda l.params l.body l.scope pos :: es) [] l as2 := ⟨rfl, fun A => pa_cons (pe_lamE A L) (h A) hs⟩
theorem pal_cons {l : LE} {e : Expr} {es : List Expr} {a : Arg} {as1 as2 : List Arg} (h : PyArg g k X W e a) (hr : PyArgsL g k X W es as1 l as2) (hs : starEach (e :: es) X.env = (false, eval e X.env) :: starEach es X.env := by rfl) : PyArgsL g k X W (e :: es) (a :: as1) l as2 := ⟨by rw [List.all_cons, h.1, hr.1]; rfl, fun A => pa_cons (h.2 A) (hr.2 A) hs⟩
theorem argL_go {l : LE} : ∀ {as1 as2 : List Arg} {σ : St} {H : Hp} {Q : List V → Hp → Prop}, as1.all plainA = true → (argsT g W as1 σ H fun xs H1 => tLamE g X l σ H1 fun f H2 => argsT g W as2 σ H2 fun ys H3 => Q (xs ++ f :: ys) H3) → tArgL g W X l as1 as2 σ H Q
  | [], as2, σ, H, Q, _, h => h
  | a :: as1, as2, σ, H, Q, hp, h => by
    rw [List.all_cons, Bool.and_eq_true] at hp
    rw [argsT_cons hp.1] at h
    exact argE_mono (fun x H' z => argL_go hp.2 z) h
/-- f(.., lambda: .., ..) -/
def vCallL (m : Mf) (nn : Nat) (as1 : List Arg) (n : Nat) (js : List Nat) (as2 : List Arg) : Ev := fun ρ τ => match aEx as1 ρ τ with
  | .ok xs ρ1 τ1 => (match aEx as2 ρ1 τ1 with
    | .ok ys ρ2 τ2 => (match frzL js ρ2 with
      | some (ds, ρ3) => (match aSl ρ3 xs, aSl ρ3 ys with
        | some s1, some s2 => if s1.length + 1 + s2.length = nn then (match m (s1 ++ .fz (.clo n ds) :: s2) τ2 with
          | .rt r τ3 => if r.nc then .ok r ρ3 τ3 else .bad
          | .exc x τ3 => if x.nc then .exc x ρ3 τ3 else .bad
          | .bad => .bad) else .bad
        | _, _ => .bad)
      | none => .bad)
    | .exc x ρ2 τ2 => .exc x ρ2 τ2
    | .bad => .bad)
  | .exc x ρ1 τ1 => .exc x ρ1 τ1
  | .bad => .bad
/-- what the operands leave -/
structure LamGot (g : G) (X : Cx) (W : WX) (l : LE) (m : Mf) (nn : Nat) (n : Nat) (js : List Nat) (w : Wd) (H : Hp) (ρ : Rho) (σ : St) (Q : VK) (vs : List V) (H3 : Hp) : Prop where
  got : ∃ (w3 : Wd) (ρ3 : Rho) (τ2 : Tape) (xs ys us : List V) (ds : List D) (s1 s2 : List Sl) (f c' : Addr), vs = xs ++ .ref f :: ys ∧ Ps g w H ρ σ w3 H3 ρ3 τ2 σ ∧ Ent g w3 H3 s1 τ2 xs ∧ Ent g w3 H3 s2 τ2 ys ∧ w3.Z f = some (FnL f l (cloFrom X.env.cells l.scope.names []) c') ∧ w3.Z c' = some (CodeO c' l.qual) ∧
    RepL g w3.Z w3.tp ds us ∧ us.length = js.length ∧ (∀ (i : Nat) j, js[i]? = some j → ∃ v, us[i]? = some v ∧ σ[j]? = some (some v)) ∧ s1.length + 1 + s2.length = nn ∧
    match m (s1 ++ .fz (.clo n ds) :: s2) τ2 with
      | .rt r τ3 => r.nc = true ∧ ∀ w' H' v, Ps g w H ρ σ w' H' ρ3 τ3 σ → RsR g w H ρ σ w' H' ρ3 σ r v → Q v H'
      | .exc x τ3 => x.nc = true ∧ ∀ w' H' cls dx, Ps g w H ρ σ w' H' ρ3 τ3 σ → ExR g w' x cls dx → W cls dx σ H'
      | .bad => False
theorem lam_got {l : LE} {m : Mf} {nn n : Nat} {js : List Nat} {as1 as2 : List Arg} {w : Wd} {H : Hp} {ρ : Rho} {τ : Tape} {σ : St} {Q : VK} (hp : as1.all plainA = true) (env : EnvR g w H ρ τ σ)
    (q : match vCallL m nn as1 n js as2 ρ τ with
      | .ok r ρ' τ' => ∀ w' H' v, Ps g w H ρ σ w' H' ρ' τ' σ → RsR g w H ρ σ w' H' ρ' σ r v → Q v H'
      | .exc x ρ' τ' => ∀ w' H' cls dx, Ps g w H ρ σ w' H' ρ' τ' σ → ExR g w' x cls dx → W cls dx σ H'
      | .bad => False) : tArgL g W X l as1 as2 σ H (fun vs H3 => LamGot g X W l m nn n js w H ρ σ Q vs H3) := by
  refine argL_go hp (args_pre as1 env ?_)
  unfold vCallL at q
  cases e1 : aEx as1 ρ τ with
  | exc x ρ' τ' => simp only [e1] at q; exact q
  | bad => simp only [e1] at q
  | ok xs ρ1 τ1 =>
    simp only [e1] at q
    intro w1 H1 vs1 a1 pr1
    refine ⟨w1.Z, a1.env.zle, a1.env.tabs, fun f c' H2 h1 h2 h3 h4 h5 h6 h7 => ?_⟩
    obtain ⟨w2, a2, zf, zc⟩ := lam_ps a1.env h1 h2 h3 h4 h5 h6 h7
    have a12 := a1.trans a2
    refine args_pre as2 a2.env ?_
    cases e2 : aEx as2 ρ1 τ1 with
    | exc x ρ' τ' => simp only [e2] at q; exact fun w' H' cls dx b hx => q w' H' cls dx (a12.trans b) hx
    | bad => simp only [e2] at q
    | ok ys ρ2 τ2 =>
      simp only [e2] at q
      intro w3 H3 vs2 a3 pr2
      have a13 := a12.trans a3
      cases e3 : frzL js ρ2 with
      | none => simp only [e3] at q
      | some dr =>
        obtain ⟨ds, ρ3⟩ := dr
        simp only [e3] at q
        obtain ⟨w4, us, a4, ru, lu, hu⟩ := frz_ps a3.env e3
        have a14 := a13.trans a4
        cases e4 : aSl ρ3 xs with
        | none => simp only [e4] at q
        | some s1 =>
          cases e5 : aSl ρ3 ys with
          | none => simp only [e4, e5] at q
          | some s2 =>
            simp only [e4, e5] at q
            by_cases cn : ¬ (s1.length + 1 + s2.length = nn)
            · simp only [cn, if_false] at q
            have cl : s1.length + 1 + s2.length = nn := Decidable.not_not.mp cn
            simp only [cl, if_true] at q
            have zz := (a2.st.z.trans a3.st.z).trans a4.st.z
            have tt : w4.tp = w1.tp := (a4.st.tp.trans a3.st.tp).trans a2.st.tp
            have z34 := a3.st.z.trans a4.st.z
            refine ⟨w4, ρ3, τ2, vs1, vs2, us, ds, s1, s2, f, c', rfl, a14, pre_ent a4.env e4 (pr1.mono zz tt), pre_ent a4.env e5 (pr2.mono a4.st.z a4.st.tp), z34 _ _ zf, z34 _ _ zc, ru, lu, hu, cl, ?_⟩
            cases e6 : m (s1 ++ .fz (.clo n ds) :: s2) τ2 with
            | rt r τ3 =>
              simp only [e6] at q
              by_cases c : r.nc = true
              · simp only [c, if_true] at q; exact ⟨c, q⟩
              · simp only [c] at q; exact False.elim q
            | exc x τ3 =>
              simp only [e6] at q
              by_cases c : x.nc = true
              · simp only [c, if_true] at q; exact ⟨c, q⟩
              · simp only [c] at q; exact False.elim q
            | bad => simp only [e6] at q

def cellsL (as : List Addr) (f : Addr → Obj) : Cs := as.map fun a => (a, f a)
theorem cellsL_look {as : List Addr} {f : Addr → Obj} {a : Addr} {o : Obj} (h : (cellsL as f).lookup a = some o) : a ∈ as ∧ o = f a := by
  induction as with
  | nil => cases h
  | cons b as ih =>
    unfold cellsL at h
    rw [List.map_cons, List.lookup_cons] at h
    by_cases e : a = b
    · subst e
      simp at h
      exact ⟨List.mem_cons_self, h.symm⟩
    · have e2 : (a == b) = false := by simpa using e
      rw [e2] at h
      obtain ⟨h1, h2⟩ := ih h
      exact ⟨List.mem_cons_of_mem _ h1, h2⟩
theorem cellsL_has {as : List Addr} {f : Addr → Obj} {a : Addr} (h : a ∈ as) : (cellsL as f).lookup a = some (f a) := by
  induction as with
  | nil => cases h
  | cons b as ih =>
    unfold cellsL
    rw [List.map_cons, List.lookup_cons]
    by_cases e : a = b
    · subst e; simp
    · have e2 : (a == b) = false := by simpa using e
      rw [e2]
      exact ih ((List.mem_cons.mp h).resolve_left e)
/-- how the captured names lie in the running frame -/
structure Caps (X : Cx) (l : LE) (js : List Nat) : Prop where
  at_ : js.map (fun j => X.N[j]?) = l.fr.map some
  kin : ∀ y ∈ l.fr, X.env.scope.names.lookup y = some .cell ∨ X.env.scope.names.lookup y = some .free
  fr : ∀ y ∈ l.fr, (y, NameKind.free) ∈ l.scope.names
  all : ∀ y ∈ l.scope.names, y.2 = .free → y.1 ∈ l.fr
  fn : ∀ y ∈ l.fr, X.fn y = true
theorem cells_now {X : Cx} {pins : List (Addr × Obj)} {σ : St} {H : Hp} {s : Shared} {l : LE} {js : List Nat} (I : Inv X pins σ H s) (K : Caps X l js) {us : List V} (lu : us.length = js.length) (hu : ∀ (i : Nat) j, js[i]? = some j → ∃ v, us[i]? = some v ∧ σ[j]? = some (some v)) :
    ∃ cs : Cs, CloC (cloFrom X.env.cells l.scope.names []) l.fr cs us ∧ Off cs H s.heap X.stack ∧ (∀ a o, cs.lookup a = some o → X.base.get? a = none) ∧ COk cs := by
  have hfree : ∀ y ∈ l.scope.names, y.2 = .free → ∃ c, X.env.cells.lookup y.1 = some c := fun y hy e => (K.kin _ (K.all y hy e)).elim (fun z => I.ok.has _ (.inl z)) fun z => I.ok.has _ (.inr z)
  have lfr : l.fr.length = js.length := by
    have := congrArg List.length K.at_
    rw [List.length_map, List.length_map] at this
    exact this.symm
  have adr : ∀ y ∈ l.fr, ∃ c, X.env.cells.lookup y = some c := fun y hy => hfree _ (K.fr y hy) rfl
  obtain ⟨ad, had⟩ : ∃ ad : Str → Addr, ∀ y ∈ l.fr, X.env.cells.lookup y = some (ad y) := ⟨fun y => (X.env.cells.lookup y).getD 0, fun y hy => by
    obtain ⟨c, hc⟩ := adr y hy
    show X.env.cells.lookup y = some ((X.env.cells.lookup y).getD 0)
    rw [hc]; rfl⟩
  obtain ⟨ob, hob⟩ : ∃ ob : Addr → Obj, ∀ y ∈ l.fr, s.heap.get? (ad y) = some (ob (ad y)) := ⟨fun a => (s.heap.get? a).getD default, fun y hy => by
    obtain ⟨v, o, ho, _⟩ := I.cell y _ (had y hy)
    show s.heap.get? (ad y) = some ((s.heap.get? (ad y)).getD default)
    rw [ho]; rfl⟩
  have look : ∀ {a : Addr} {o : Obj}, (cellsL (l.fr.map ad) ob).lookup a = some o → ∃ y ∈ l.fr, a = ad y ∧ o = ob a := fun {a o} h => by
    obtain ⟨h1, h2⟩ := cellsL_look h
    obtain ⟨y, hy, e⟩ := List.mem_map.mp h1
    exact ⟨y, hy, e.symm, h2⟩
  have cell : ∀ y ∈ l.fr, ∃ u, (ob (ad y)).data = .cell u := fun y hy => by
    obtain ⟨v, o, ho, hd⟩ := I.cell y _ (had y hy)
    rw [hob y hy] at ho
    cases ho
    exact ⟨v, hd⟩
  have big : ∀ y ∈ l.fr, X.s_0.heap.objs.size ≤ ad y := fun y hy => I.ok.cab y _ (K.fn y hy) (had y hy)
  refine ⟨cellsL (l.fr.map ad) ob, ⟨lu.trans lfr.symm, fun y c e => ?_, fun x y c e1 e2 => I.ok.inj x y c (NdefX.clo_cm hfree e1) (NdefX.clo_cm hfree e2), fun c o h => ?_, fun e => by rw [e]; rfl, fun i y e => ?_⟩, ⟨fun a o h => ?_, fun a o h => ?_, fun a o h => ?_⟩, fun a o h => ?_, ⟨fun a o h => ?_, fun a o h => ?_⟩⟩
  · have h1 := NdefX.clo_cm hfree e
    have hy : y ∈ l.fr := by
      rcases cloFrom_mem (PySem.mem_of_lookup e) with hm | ⟨hm, _⟩
      · cases hm
      · exact K.all _ hm rfl
    have : c = ad y := by have := had y hy; rw [h1] at this; exact Option.some.inj this
    subst this
    exact ⟨_, cellsL_has (List.mem_map_of_mem hy)⟩
  · obtain ⟨y, hy, rfl, rfl⟩ := look h
    exact cell y hy
  · have hy := List.mem_of_getElem? e
    refine ⟨ad y, ob (ad y), NdefX.clo_has hfree (K.fr y hy) (had y hy), cellsL_has (List.mem_map_of_mem hy), fun v hv => ?_⟩
    have hj : ∃ j, js[i]? = some j ∧ X.N[j]? = some y := by
      have := congrArg (fun l => l[i]?) K.at_
      simp only [List.getElem?_map] at this
      rw [e] at this
      cases ej : js[i]? with
      | none => rw [ej] at this; cases this
      | some j => rw [ej] at this; exact ⟨j, rfl, Option.some.inj this⟩
    obtain ⟨j, ej, hN⟩ := hj
    obtain ⟨v2, k1, k2⟩ := hu i j ej
    rw [hv] at k1
    cases k1
    obtain ⟨m, hn, hl⟩ := I.loc
    have kk := K.kin y hy
    obtain ⟨u, r, lk⟩ := hl j y v hN k2 (kk.elim (fun z => .inr (.inl z)) fun z => .inr (.inr z))
    rcases lk with ⟨z, _⟩ | ⟨_, a', ha', o, ho, hd⟩
    · have z' : X.env.scope.names.lookup y = some .local := z
      rcases kk with k | k <;> rw [k] at z' <;> cases z'
    · rw [had y hy] at ha'
      cases ha'
      rw [hob y hy] at ho
      cases ho
      exact ⟨u, r, hd⟩
  · obtain ⟨y, hy, rfl, rfl⟩ := look h
    exact hob y hy
  · obtain ⟨y, hy, rfl, rfl⟩ := look h
    exact I.freeC y _ (had y hy)
  · obtain ⟨y, hy, rfl, rfl⟩ := look h
    intro hm
    rcases List.mem_cons.mp (I.stkSub _ hm) with z | z
    · exact I.cne y _ (had y hy) z
    · obtain ⟨_, o, ho, _⟩ := I.ok.funs.mem z
      exact absurd (Nat.lt_of_lt_of_le (Heap.lt_size ho) (big y hy)) (Nat.lt_irrefl _)
  · obtain ⟨y, hy, rfl, rfl⟩ := look h
    exact Heap.get?_none_of_le (Nat.le_trans I.ok.bsz (big y hy))
  · obtain ⟨y, hy, rfl, rfl⟩ := look h
    exact cell y hy
  · obtain ⟨y, hy, rfl, rfl⟩ := look h
    exact ⟨s.heap, hob y hy⟩
theorem range_pick {α : Type} : ∀ (l : List α), (List.range l.length).filterMap (fun i => l[i]?) = l
  | [] => rfl
  | a :: l => by
    rw [List.length_cons, List.range_succ_eq_map, List.filterMap_cons_some (f := fun i => (a :: l)[i]?) (b := a) rfl, List.filterMap_map]
    exact congrArg (a :: ·) (range_pick l)
/-- f(.., lambda: .., ..), all operands by place -/
theorem py_callL {l : LE} {m : Mf} {n nn : Nat} {js : List Nat} {as1 as2 : List Arg} {fd : FuncData} {ps : List Str} {x : Str} {e : Expr} {es : List Expr} {p1 pos : Pos} (F : FnM g j x fd ps m) (B : Bnd g fd ps nn [] (List.range nn)) (ht : g.tab n = some l) (K : Caps X l js) (ha : PyArgsL g k X W (e :: es) as1 l as2) (hj : j ≤ k := by decide) (hg : Gl X x := by rfl)
    (hdb : (x == ("__debug__" : Str)) = false := by decide) (he : starEach (e :: es) X.env = (false, eval e X.env) :: starEach es X.env := by rfl) (hpl : (backTo pos (starEach es X.env)).any (·.1) = false := by rfl) :
    PyE g k X W (.Call (.Name x p1) (e :: es) [] pos) (vCallL m nn as1 n js as2) := fun A => by
  obtain ⟨f0, hm, hk, F⟩ := F.ex
  refine ⟨fun pins s σ H Q I h => ?_⟩
  obtain ⟨w, ρ, τ, env, q⟩ := h
  refine wpAny_Call_Name_kw (ld_glob I hg (by rw [A.mg]; exact hm) ?_ hdb)
  refine PySem.W.callWith_K (h₀ := X.base) I.ok.mod.kin (by rw [A.K]; exact hk) (thn ((ha.2 A).run pos pins s σ H _ I (lam_got (n := n) (nn := nn) (js := js) ha.1 env q)) fun us s1 ⟨vs, H3, I3, r, got⟩ => ⟨I3.kIn, ?_⟩) he hpl
  obtain ⟨w3, ρ3, τ2, xs, ys, zs, ds, sa, sb, f, c', rfl, a, en1, en2, zf, zc, ru, lu, hu, ln, q3⟩ := got.got
  obtain ⟨cs, CC, off, nb, C⟩ := cells_now I3 K lu hu
  have nt : ∀ a o, cs.lookup a = some o → ¬ tcell w3 a := fun b o h t => by
    rcases tcell_tape a.env.tape t with ⟨_, e⟩ | ⟨_, e⟩ <;> (rw [off.off b o h] at e; cases e)
  have nz : ∀ a o, cs.lookup a = some o → w3.Z a = none := fun b o h => by
    cases e : w3.Z b with
    | none => rfl
    | some u => have := a.env.zle b u e; rw [off.off b o h] at this; cases this
  have zl := zle_add nz
  have clo : SlR g { w3 with Z := addC w3.Z cs } (addC H3 cs) (.fz (.clo n ds)) (some (.ref f)) := by
    refine ⟨.ref f, rfl, ?_⟩
    rw [Rep]
    refine ⟨zs, cs, ⟨l, f, c', _, ht, rfl, zl _ _ zf, zl _ _ zc, CC, fun a o q => addC_in q⟩, RepL.mono (fun b u e => ?_) _ ru⟩
    have hb : cs.lookup b = none := by
      rcases look2 cs b with q | ⟨o, q⟩
      · exact q
      · rw [nz b o q] at e; cases e
    rw [delC_out hb]
    exact zl _ _ e
  have en := (en1.add off.off).app (Ent.cons clo rfl (en2.add off.off))
  have e0 : Env0 g.prog g.w g.K g.mg g.base X.A X.stack s1 (addC H3 cs) := by
    have := env0_add I3.env0 off nb
    rw [← A.prog, ← A.w, ← A.K, ← A.mg, ← A.base]; exact this
  obtain ⟨b1, b2, b3⟩ := B
  have lv : us.length = nn := by rw [← r.length, ← en.len, List.length_append, List.length_cons]; omega
  have bb := b3 s1 us [] (by rw [← A.K]; exact I3.kIn) lv rfl
  have eu : (List.range nn).filterMap (fun i => (us ++ [])[i]?) = us := by rw [List.append_nil, ← lv]; exact range_pick us
  rw [eu] at bb
  have run := F X.A X.stack s1 (addC H3 cs) _ us _ (fun v H' => On cs H' ∧ Q v (delC H' cs)) (fun cls d H' => On cs H' ∧ WE W σ cls d (delC H' cs)) (A.room.mono hj) A.guards e0 bb r (by rw [r.length, lv, ← b1, List.length_range]) ⟨_, τ2, _, en, ?_⟩
  · rw [← A.prog, ← A.w] at run
    refine wpAny_call (codeAny_mono run fun rr s' hq => ?_)
    cases rr with
    | error e => exact passAt A.takes σ pins H3 s1 e s' I3 (cx_add off hq)
    | ok fl =>
      cases fl with
      | ret u => exact I3.after (ce_add off hq)
      | next => exact False.elim hq
      | brk => exact False.elim hq
      | cont => exact False.elim hq
  · cases e6 : m (sa ++ .fz (.clo n ds) :: sb) τ2 with
    | bad => simp only [e6] at q3
    | rt rr τ3 =>
      simp only [e6] at q3
      intro w' H' v F hr
      obtain ⟨on, F2⟩ := F.back off.off a.env.zle nt C
      have onZ : ∀ a o, cs.lookup a = some o → w'.Z a = some (CellX a o) := fun a o q => F.st.z a _ (show addC w3.Z cs a = _ from addC_in q)
      exact ⟨on, q3.2 _ _ v (call_ps a F2) (call_rs a F2 (hr.back off.off on onZ C q3.1))⟩
    | exc x τ3 =>
      simp only [e6] at q3
      intro w' H' cls dx F hx
      obtain ⟨on, F2⟩ := F.back off.off a.env.zle nt C
      have onZ : ∀ a o, cs.lookup a = some o → w'.Z a = some (CellX a o) := fun a o q => F.st.z a _ (show addC w3.Z cs a = _ from addC_in q)
      exact ⟨on, q3.2 _ _ cls dx (call_ps a F2) (hx.back onZ C q3.1)⟩
end
end PD
namespace PD
open PySem PySem.Spec L2
open PyProof.Rows hiding St

section
variable {X : Cx} {pins : List (Addr × Obj)} {σ : St} {H : Hp} {s : Shared}
/-- an object that stands untracked is told from now on -/
theorem inv_track {a : Addr} {ho : HO} (I : Inv X pins σ H s) (na : H a = none) (n0 : X.s_0.heap.get? a = none) (nL : a ≠ X.env.locals) (nc : ∀ x c, X.env.cells.lookup x = some c → c ≠ a) (np : ∀ p ∈ X.pn ++ pins, p.1 ≠ a) (new : ObjOk X.prog X.w (upd H a ho) s.heap a ho) : Inv X pins σ (upd H a ho) s := by
  have nb : ∀ b o, X.s_0.heap.get? b = some o → b ≠ a := fun b o e z => by rw [z, n0] at e; cases e
  have up : ∀ {b u}, H b = some u → upd H a ho b = some u := fun {b u} e => by rw [upd_ne (ne_of_none e na)]; exact e
  refine ⟨I.ok, I.os, I.bare, ⟨I.base.keep, I.base.slot, fun b o e n hx => ?_, I.base.there, fun b xs e => up (I.base.tups b xs e), fun b o xs e => up (I.base.frzs b o xs e), fun b ps e => ?_⟩, I.loc, I.cell, ?_, fun x c e => ?_, fun p hp => ?_, ?_, I.len⟩
  · rw [upd_ne (nb b o e)]; exact I.base.free b o e n hx
  · obtain ⟨more, e2⟩ := I.base.tbls b ps e
    exact ⟨more, up e2⟩
  · rw [upd_ne (Ne.symm nL)]; exact I.free
  · rw [upd_ne (nc x c e)]; exact I.freeC x c e
  · obtain ⟨e, n, r⟩ := I.pin p hp
    exact ⟨e, by rw [upd_ne (np p hp)]; exact n, r⟩
  · intro b u e
    by_cases hb : b = a
    · rw [hb, upd_same] at e; cases e; rw [hb]; exact new
    · rw [upd_ne hb] at e
      exact (I.hok b u e).stay (fun _ _ _ z => z) (fun c z => up z) fun c xs z => up z
end
/-- what the clause wishes of an exception -/
def wAsT (K : PySem.W.Frag) (c : Value) (i j : Nat) (Wout : WX) (D : Ends) : WX := fun cls d σ H =>
  ∃ b, PySem.W.exmOne K cls c = some b ∧ (b = true → ∃ C, cls = .ref C ∧ ∀ a, H a = none → D.nx (((σ.set i (some (.ref a))).set j (some (.ref a))).set i none) (upd H a (excH a C d))) ∧ (b = false → Wout cls d σ H)
section
variable {X : Cx} {x n y : Str} {c : Value} {i j : Nat} {body : List Stmt} {npp yp ep ap pos pos' : Pos} {tb : WX → TS} {Wout : WX}
theorem ps_try_asT (hex : X.ex = []) (hs : X.stack = X.env :: X.outer) (hf : X.env.frame = some X.env.locals) (hN : X.N.Nodup) (hi : X.N[i]? = some n) (hj : X.N[j]? = some y) (hln : X.env.kindOf n = some .local) (hly : X.env.kindOf y = some .local) (hc : Names X x c) (tk : Takes X Wout)
    (hsw : swapsWith (.Name n ep) (some (.Name y yp)) ap.line X.env = pure false) (hd : (n == ("__debug__" : Str)) = false := by decide) (hcd : (n == ("__classdict__" : Str)) = false := by decide)
    (hb : ∀ (W : WX) (pn : List (Addr × Obj)) (xe : Value → Shared → Prop), Takes (X.tr pn xe) W → PassesOwn (model X.prog X.w) X.A X.env xe → PSs (X.tr pn xe) body (tb W)) :
    PS X (.Try body [.ExceptHandler (some (.Name x npp)) (some n) [.Assign [.Name y yp] (.Name n ep) ap] pos'] [] [] pos) (fun D σ H => tb (wAsT X.K c i j Wout D) D σ H) := by
  refine ⟨fun pins s σ H D I h => ?_⟩
  have ok := I.ok
  have hfr : X.A.frames = some (X.env :: X.outer) := by rw [ok.frames, hs]
  have hsu : ∀ (a : Addr) (pn : List (Addr × Obj)), PSs (X.suite a pn) [.Assign [.Name y yp] (.Name n ep) ap] (tAsg (tVar i) (gName j)) := fun a pn =>
    pss_one (ps_set (X := X.suite a pn) hN hj (.inl hly) (pe_var (X := X.suite a pn) hi (.inl hln) hd hcd) hsw (.inr hly))
  refine wpAny_Try_except ?_
  refine wpAny_mono ((hb (wAsT X.K c i j Wout D) (X.pn ++ pins) (fun e s₁ => wpAny (model X.prog X.w) X.A (noteFrame e X.env) (fun _ s₂ => wpAny (model X.prog X.w) X.A (setFlight e none) (fun _ s₃ =>
    wpAny (model X.prog X.w) X.A (handleBy e X.env [.ExceptHandler (some (.Name x npp)) (some n) [.Assign [.Name y yp] (.Name n ep) ap] pos']) (SP X pins D) X.xe s₃) X.xe s₂) X.xe s₁) (fun u s' xx => ?_) PassesOwn.looking).run [] s σ H D (I.toTry _) h) (fun f s1 hsp => ?_) (fun e s1 he => he)
  · obtain ⟨a, B, sI, pins', σ', H', cls, d, rfl, J', nb, up, sky, na, os, ag, b, hb1, hyes, hno⟩ := xx
    have J : Inv X pins σ' H' sI := J'.ofTry ok
    have sky' : Sky B (X.env :: X.outer) a (Zc cls d) X.env.locals s'.heap := by rw [← hs]; exact sky
    show wpAny (model X.prog X.w) X.A (noteFrame (.ref a) X.env) _ _ _
    refine Sky.land Zc.steady hfr hf sky' fun h3 fl3 up3 => ?_
    have J3 : Inv X pins σ' H' { s' with heap := h3 } := J.landed nb fl3.1 (up.trans up3) os ag
    obtain ⟨oe3, vs3, he3, hz3, hd3⟩ := fl3.there
    have aB : B.get? a = none := fl3.2.1
    have notFr : ∀ {h : Heap} {o : Obj} {vs : Array Value}, h.FunFrames B (X.env :: X.outer) → h.get? a = some o → o.data = .fields vs → a ∉ frs (X.env :: X.outer) := fun {h o vs} ff e dd hm => by
      obtain ⟨_, o2, e2, hnf⟩ := ff.mem hm
      rw [e] at e2
      cases e2
      exact hnf _ dd
    have nfr := notFr fl3.2.2.1 he3 hd3
    have nL : a ≠ X.env.locals := fun z => nfr (List.mem_filterMap.mpr ⟨X.env, List.mem_cons_self, by rw [hf, z]⟩)
    have nF : a ∉ X.fs := fun hm => by
      obtain ⟨e, he, q⟩ := List.mem_filterMap.mp hm
      exact nfr (List.mem_filterMap.mpr ⟨e, List.mem_cons_of_mem _ he, q⟩)
    -- nothing of before is the exception
    have old : ∀ b o, sI.heap.get? b = some o → b ≠ a := fun b o e z => by
      by_cases hbf : b ∈ frs X.stack
      · rw [hs] at hbf; exact nfr (z ▸ hbf)
      · have := nb b o e hbf
        rw [z, aB] at this; cases this
    have n0 : X.s_0.heap.get? a = none := by
      cases e : X.s_0.heap.get? a with
      | none => rfl
      | some o =>
        obtain ⟨o2, e2⟩ := J.base.there a o e (by rw [hex]; simp)
        exact (old a o2 e2 rfl).elim
    have np : ∀ p ∈ X.pn ++ pins, p.1 ≠ a := fun p hp => old _ _ (J.pin p hp).1
    have nc : ∀ x c, X.env.cells.lookup x = some c → c ≠ a := fun x c e => by
      obtain ⟨v, o, ho, _⟩ := J.cell x c e
      exact old c o ho
    have S3 := J3.suite he3 hd3 na nL nF
    refine wpAny_handleBy_cons (codeAny_handlers_test ?_) (by intro q; cases q)
    have LT : PySem.W.Looks (model X.prog X.w) h3 (typeOf (.ref a)) cls := fun A Q E s k q => wpAny_typeOf_ref (k _ _ he3) (by rw [hz3.1]; exact q)
    have LM := PySem.W.exm_one (M := model X.prog X.w) (J3.kIn) LT hb1
    have test : ∀ {Q : Value → Shared → Prop} {E : Value → Shared → Prop}, Q c { s' with heap := h3 } → wpAny (model X.prog X.w) (X.A.mark (some (.ref a))) (eval (.Name x npp) X.env) Q E { s' with heap := h3 } := fun {Q E} q => by
      obtain ⟨hg, hdbg, hm | ⟨hm, hv, hnn⟩⟩ := hc
      · exact ld_glob (X := X.suite a ((a, oe3) :: (X.pn ++ pins))) S3 hg hm q hdbg
      · exact ld_blt (X := X.suite a ((a, oe3) :: (X.pn ++ pins))) S3 hg hm hv q hnn hdbg
    refine test (LM.here ?_)
    cases b with
    | true =>
      obtain ⟨C, hcls, hy2⟩ := hyes rfl
      subst hcls
      refine codeAny_handlers_suite_as ?_
      refine HandSPX.lands_againZ fl3 fun h4 fl4 up4 => ?_
      have J4 : Inv X pins σ' H' { s' with heap := h4 } := J.landed nb fl4.1 ((up.trans up3).trans up4) os ag
      obtain ⟨oe4, vs4, he4, hz4, hd4⟩ := fl4.there
      have S4 := J4.suite he4 hd4 na nL nF
      refine store_ok (X := X.suite a ((a, oe4) :: (X.pn ++ pins))) (v := .ref a) S4 hN hi (.inl hln) rfl (fun s5 S5 => ?_) (.inr hln)
      have li : i < σ'.length := by rw [J.len]; exact (List.getElem?_eq_some_iff.mp hi).1
      refine wpAny_mono ((hsu a ((a, oe4) :: (X.pn ++ pins))).run [] s5 _ H' { nx := fun σ6 H6 => σ6 = (σ'.set i (some (.ref a))).set j (some (.ref a)) ∧ H6 = H', rt := fun _ _ => False } S5 ⟨.ref a, List.getElem?_set_self li, ⟨rfl, rfl⟩⟩) (fun f s6 hsp => ?_) (fun _ _ z => False.elim z)
      cases f with
      | next =>
        obtain ⟨σ6, H6, S6, e6, eH⟩ := hsp
        subst e6 eH
        refine gone_ok (X := X.suite a ((a, oe4) :: (X.pn ++ pins))) S6 hN hi hln fun s7 S7 => ?_
        obtain ⟨g7, _⟩ := S7.pin (a, oe4) (List.mem_append_left _ List.mem_cons_self)
        have g7 : s7.heap.get? a = some oe4 := g7
        have J7 := S7.unsuite ok
        exact ⟨_, _, inv_track (ho := excH a C d) J7 na n0 nL nc np ⟨⟨oe4, vs4, g7, hz4, hd4⟩, ⟨oe4, g7⟩, fun h1 h2 ⟨o, v, e1, e2, e3⟩ k => ⟨o, v, k _ e1, e2, e3⟩⟩, hy2 a na⟩
      | brk =>
        obtain ⟨_, _, _, z⟩ := hsp
        exact False.elim z
      | cont =>
        obtain ⟨_, _, _, z⟩ := hsp
        exact False.elim z
      | ret u =>
        obtain ⟨_, _, _, _, _, z⟩ := hsp
        exact False.elim z
    | false =>
      show wpAny _ X.A (handleBy (.ref a) X.env []) _ _ _
      refine wpAny_handleBy_nil ?_
      obtain ⟨_, _, _, oe, vs, T, oT, _, he, hz, hd, h1, hr⟩ := id fl3
      unfold PySem.passOn
      refine wpAny_bind (wpAny_field he hd h1 ?_)
      rw [if_neg (show ¬ ((Value.ref T == Value.none) = true) from by simp)]
      have fin : wpAny (model X.prog X.w) X.A (setFlight (.ref a) X.env.frame) (fun _ s4 => wpAny (model X.prog X.w) X.A (throw (.ref a) : Sem Flow) (SP X pins D) X.xe s4) X.xe { s' with heap := h3 } := by
        rw [hf]
        refine HandSPX.setFlight_upZ fl3 fun h4 hh4 up4 => wpAny_throw (tk _ _ ?_)
        exact ⟨a, B, sI, pins, σ', H', cls, d, rfl, J, nb, (up.trans up3).trans up4, .inr (.inr (by rw [hs]; exact hh4)), na, os, ag, hno rfl⟩
      first
        | exact wpAny_bind (wpAny_pure (wpAny_bind fin))
        | exact wpAny_bind fin
  · cases f with
    | next =>
      obtain ⟨σ2, H2, J2, q⟩ := hsp
      exact wpAny_execs_nil ⟨σ2, H2, J2.ofTry ok, q⟩
    | brk =>
      obtain ⟨σ2, H2, J2, q⟩ := hsp
      exact ⟨σ2, H2, J2.ofTry ok, q⟩
    | cont =>
      obtain ⟨σ2, H2, J2, q⟩ := hsp
      exact ⟨σ2, H2, J2.ofTry ok, q⟩
    | ret u =>
      obtain ⟨v, σ2, H2, J2, r, q⟩ := hsp
      exact ⟨v, σ2, H2, J2.ofTry ok, r, q⟩
end

/-- the clause's answer for the classes that fly -/
def CatchOk (g : G) (cn : Str) (can : Str → Option Bool) : Prop := ∃ CE, g.mg cn = some (.ref CE) ∧ ∀ c b, can c = some b → ∀ C, g.mg c = some (.ref C) → PySem.W.exmOne g.K (.ref C) (.ref CE) = some b
def sTry (body : Sv) (can : Str → Option Bool) (i j : Nat) : Sv := fun ρ τ => match body ρ τ with
  | .exc x ρ' τ' => (match x with
    | .exc c fs => (match can c with
      | some true => .nx (((ρ'.set i (.fz (.exc c fs))).set j (.fz (.exc c fs))).set i .un) τ'
      | some false => .exc (.exc c fs) ρ' τ'
      | none => .bad)
    | _ => .bad)
  | r => r
section
variable {g : G} {k : Nat} {X : Cx} {W : WX}
theorem py_try {cn n y : Str} {i j : Nat} {body : List Stmt} {sv : Sv} {can : Str → Option Bool} {npp yp ep ap pos pos' : Pos} (C : CatchOk g cn can) (hb : ∀ (W' : WX) (pn : List (Addr × Obj)) (xe : Value → Shared → Prop), PySs g k (X.tr pn xe) W' body sv)
    (hg : Gl X cn := by rfl) (hdg : (cn == ("__debug__" : Str)) = false := by decide) (hi : X.N[i]? = some n := by rfl) (hj : X.N[j]? = some y := by rfl) (hln : X.env.kindOf n = some .local := by rfl) (hly : X.env.kindOf y = some .local := by rfl)
    (hsw : swapsWith (.Name n ep) (some (.Name y yp)) ap.line X.env = pure false := by rfl) (hd : (n == ("__debug__" : Str)) = false := by decide) (hcd : (n == ("__classdict__" : Str)) = false := by decide) (hs : X.stack = X.env :: X.outer := by rfl) (hf : X.env.frame = some X.env.locals := by rfl) (hex : X.ex = [] := by rfl) :
    PyS g k X W (.Try body [.ExceptHandler (some (.Name cn npp)) (some n) [.Assign [.Name y yp] (.Name n ep) ap] pos'] [] [] pos) (sTry sv can i j) := fun A => by
  obtain ⟨CE, hm, hc⟩ := C
  refine (ps_try_asT (c := .ref CE) (tb := fun W' => tS g W' sv) hex hs hf A.nd hi hj hln hly ⟨hg, hdg, .inl (by rw [A.mg]; exact hm)⟩ A.takes hsw hd hcd (fun W' pn xe tk ps => hb W' pn xe ⟨A.room, A.prog, A.w, A.K, A.mg, A.base, A.calm, A.nd, A.guards, tk, ps⟩)).imp' fun D σ H q => ?_
  obtain ⟨w, ρ, τ, env, q⟩ := q
  refine ⟨w, ρ, τ, env, ?_⟩
  have q : SGo g W w H ρ σ D (sTry sv can i j ρ τ) := q
  unfold sTry at q
  cases e : sv ρ τ with
  | nx ρ' τ' => simp only [e] at q; exact q
  | bk ρ' τ' => simp only [e] at q; exact q
  | ct ρ' τ' => simp only [e] at q; exact q
  | rt r τ' => simp only [e] at q; exact q
  | bad => simp only [e] at q; exact q
  | exc x ρ' τ' =>
    simp only [e] at q
    intro w' H' σ' cls dx a hx
    cases x with
    | exc c fs =>
      obtain ⟨Cc, vs, h1, h2, h3, h4⟩ := hx
      subst h2
      simp only at q
      cases e2 : can c with
      | none => simp only [e2] at q; exact q.elim
      | some b =>
        refine ⟨b, by rw [A.K]; exact hc c b e2 Cc h1, fun hb => ?_, fun hb => ?_⟩
        · subst hb
          simp only [e2] at q
          refine ⟨Cc, rfl, fun p hp => ?_⟩
          obtain ⟨a2, z2⟩ := a.newFz (o := excH p Cc dx) (fun _ q => nomatch q) hp
          have rp : Rep g (upd w'.Z p (excH p Cc dx)) w'.tp (.exc c fs) (.ref p) := by
            rw [Rep]
            exact ⟨p, Cc, dx, vs, rfl, h1, upd_same, h3.imp id fun ⟨dd, e1, e2⟩ => ⟨dd, e1, z2 _ _ e2⟩, RepF.mono z2 _ h4⟩
          have a3 := a2.store (r := .fz (.exc c fs)) (v := .ref p) rp i
          have a4 := a3.store (r := .fz (.exc c fs)) (v := .ref p) rp j
          have a5 := a4.trans (Ps.wiped a4.env [i])
          exact q _ _ _ a5
        · subst hb
          simp only [e2] at q
          exact q w' H' σ' (.ref Cc) dx a ⟨Cc, vs, h1, rfl, h3, h4⟩
    | _ => exact hx.elim
end
end PD
namespace PD
section
open PySem PySem.Spec PySem.W PySem.Calls PyProof.Rows
variable {prog : Program} {w : World} {A : Around} {E : Value → Shared → Prop} {s : Shared} {K : Frag} {x D : Addr} {ox : Obj} {od : Option Obj}
/-- the class of an own exception, its dict there or not -/
theorem exc_class {Q : Option Value → Shared → Prop} (T : L2.ExcC K D) (X : K.In s.heap) (I : InstAt s.heap x ox D od) (hq : Q (some (.ref D)) { s with toks := s.toks + 1 }) : wpAny (model prog w) A (getAttr? (.ref x) "__class__") Q E s := by
  have hcl : (clsIn K D).isSome = true := by
    obtain ⟨cd, hc, _⟩ := any_some T.hd
    rw [hc]; rfl
  have hf : findObj K D od "__class__" = some (.bind (.builtin "getset_descriptor.__get__") (.builtin "object.__class__")) := by
    cases od with
    | none => exact findObj_dataN hcl T.ha T.hn T.ht
    | some o => exact findObj_data hcl T.ha T.hn T.ht
  obtain ⟨hp, gs, dr, tk, os0⟩ := s
  have L0 := I.type (M := model prog w); have L1 := looks_findIn (M := model prog w) X T.hg; have L2' := looks_findIn (M := model prog w) X T.hk; have L3 := looks_find (M := model prog w) X I hf
  have sub : Looks (model prog w) hp (isInstance (.ref x) (.type "BaseException")) true := L0.andThen (looks_subIn X T.hs)
  have n0 : (false && onTheHeap (Value.builtin "BaseException.__getattribute__")) = false := rfl
  have n2 : (Value.builtin "BaseException.__getattribute__" == Value.builtin "object.__getattribute__") = false := by decide +kernel
  have n1 : (onTheHeap (Value.ref D) && Value.builtin "BaseException.__getattribute__" == Value.builtin "object.__getattribute__") = false := by rw [n2]; rfl
  unfold getAttr? getAttrBy? getAttrBy
  refine wpAny_bind (wpAny_mkText (wpAny_bind (wpAny_attempt (wpAny_holding (wpAny_bind (L0.at (wpAny_bind (L1.at ?_)))))))); show wpAny _ _ (if (onTheHeap (Value.ref D) && Value.builtin "BaseException.__getattribute__" == Value.builtin "object.__getattribute__") = true then _ else _) _ _ _
  rw [n1, if_neg Bool.false_ne_true]; unfold getAttrByItsOwn hookBefore
  refine wpAny_bind ?_; rw [if_pos (show onTheHeap (Value.ref D) = true from rfl)]
  refine L2'.at ?_; refine wpAny_bind (wpAny_attempt (wpAny_holding ?_)); unfold callGetattribute
  rw [n0, if_neg Bool.false_ne_true]; unfold boundAndCalled; rw [PySem.F.excAttr_ValueError.ga.bind (.ref x)]
  refine wpAny_bind (wpAny_pure ?_); show wpAny _ _ (call (.builtin "BaseException.__getattribute__") [.ref x, .str "__class__" tk]) _ _ _
  refine wpAny_call (codeAny_call_builtin PySem.F.excAttr_ValueError.ga.plain PySem.F.entry_bexc_ga ?_)
  refine @check_slot (model prog w) _ _ ⟨hp, gs, dr, tk + 1, os0⟩ "BaseException.__getattribute__" "BaseException" "__getattribute__" (.ref x) [.str "__class__" tk] [] _ (by decide +kernel) (by decide +kernel) sub (PySem.F.args_bexc_ga (.ref x) (.str "__class__" tk)) ?_
  unfold Builtin.«object.__getattribute__»; refine wpAny_bind (wpAny_of_eq (a := ((Value.ref x : Value), [Value.str "__class__" tk])) (by first | rfl | (simp only [slotArgs]; rfl)) ?_)
  refine wpAny_bind (wpAny_pure (wpAny_bind (L0.at (wpAny_bind (L3.at ?_))))); show wpAny _ _ (holding [Value.builtin "object.__class__"] (call (.builtin "getset_descriptor.__get__") [.builtin "object.__class__", .ref x, .ref D]) >>= ret) _ _ _
  refine wpAny_bind (wpAny_holding (wpAny_call (class_get (s := ⟨hp, gs, dr, tk + 1, os0⟩) (ox := ox) (od := od) X I T.hm ?_))); refine wpAny_pure ?_
  show wpAny _ _ (handedOut (.ref D)) _ _ _; rw [handedOut_of (v := .ref D) rfl]
  first | exact wpAny_pure (wpAny_pure hq) | exact wpAny_pure hq | exact wpAny_pure (wpAny_bind (wpAny_pure (wpAny_pure hq)))
theorem kitx_exc (T : L2.ExcC K D) : KitX K (.ref x) (.ref D) (fun h => InstAt h x ox D od) where
  ty := fun _ _ _ I => I.type
  it := fun _ _ X _ => by
    obtain ⟨cdD, hcD, _⟩ := any_some T.hd
    unfold clsIn at hcD
    split at hcD
    · rename_i ho
      intro A1 Q1 E1 s1 k q
      unfold isType loadHead
      exact wpAny_bind (wpAny_loadPart (k _ _ (X _ _ ho)) (wpAny_pure q))
    · cases hcD
  ne := fun h tp dd its n sl X htp => by
    obtain ⟨cdD, hcD, _⟩ := any_some T.hd
    refine Bool.eq_false_iff.mpr fun q => ?_
    have e : D = tp := Value.ref.inj (beq_iff_eq.mp q)
    subst e
    unfold clsIn at hcD
    split at hcD
    · rename_i ho
      cases (X _ _ ho).symm.trans htp
    · cases hcD
  ca := fun X I k => exc_class T X I k
end
open PySem PySem.Spec L2
open PyProof.Rows hiding St
def Tag.val (g : G) : Tag → Option Value
  | .b n => some (.type n)
  | .o c => match g.mg c with
    | some (.ref C) => some (.ref C)
    | _ => none
def tagD : D → Option Tag
  | .non => some (.b "NoneType")
  | .bl _ => some (.b "bool")
  | .int _ => some (.b "int")
  | .str _ => some (.b "str")
  | .tup _ => some (.b "tuple")
  | .lst _ => some (.b "list")
  | .dic _ => some (.b "dict")
  | .exc c _ => some (.o c)
  | _ => none
def clsD : D → Option Tag
  | .ty n => some (.b n)
  | .fn x => some (.o x)
  | _ => none
/-- the answers, by the written part -/
def IsiOk (g : G) (sub : Tag → Tag → Option Bool) : Prop := ∀ a b r, sub a b = some r → ∃ u v, a.val g = some u ∧ b.val g = some v ∧ PySem.W.kitOne g.K u v = some r
def ExcOk (g : G) (sub : Tag → Tag → Option Bool) : Prop := ∀ c b r, sub (.o c) b = some r → ∀ C, g.mg c = some (.ref C) → ExcC g.K C
theorem val_o {g : G} {c : Str} {C : Addr} (m : g.mg c = some (.ref C)) : (Tag.o c).val g = some (.ref C) := by simp [Tag.val, m]
def anyT (sub : Tag → Tag → Option Bool) (a : Tag) : List D → Option Bool
  | [] => some false
  | d :: ds => match clsD d with
    | some b => (match sub a b, anyT sub a ds with
      | some r, some q => some (r || q)
      | _, _ => none)
    | none => none
def fIsi (sub : Tag → Tag → Option Bool) (x c : D) : P := match tagD x with
  | some a => (match c with
    | .tup (d :: ds) => (match anyT sub a (d :: ds) with
      | some r => .at (.bl r)
      | none => .bad)
    | c => (match clsD c with
      | some b => (match sub a b with
        | some r => .at (.bl r)
        | none => .bad)
      | none => .bad))
  | none => .bad
def pIsi (sub : Tag → Tag → Option Bool) : Prim := p2 (fIsi sub)
/-- the library's rule, the value's kind by data -/
def KOf (X : Cx) (H : Hp) (v : V) (t : Value) : Prop := ∀ (pins : List (Addr × Obj)) (σ : St) (s : Shared) (u : Value), Inv X pins σ H s → RelV v u → ∃ P : Heap → Prop, PySem.W.KitX X.K u t P ∧ P s.heap ∧ u ≠ .builtin "__main__.__loader__#opaque"
def rIsi1 (X : Cx) : RL := fun vs H Q => (∃ (x c : V) (t u : Value) (b : Bool), vs = [x, c] ∧ ClsV c u ∧ KOf X H x t ∧ PySem.W.kitOne X.K t u = some b ∧ Q (.bl b) H) ∨
  ∃ (x : V) (tp : Addr) (cs : List V) (t : Value) (us : List Value) (b : Bool), vs = [x, .ref tp] ∧ SqT X.K H tp cs ∧ Paired ClsV cs us ∧ KOf X H x t ∧ PySem.W.kitAny X.K t us = some b ∧ Q (.bl b) H
theorem call_isi1 {X : Cx} : CallR X (.builtin "isinstance") (rIsi1 X) := by
  intro pins s σ H xs us Q I r h
  rcases h with ⟨x, c, t, u, b, rfl, k, ty, e, q⟩ | ⟨x, tp, cs, t, ws, b, rfl, hT, k, ty, e, q⟩
  · obtain ⟨u1, u2, rfl, r1, r2⟩ := vals2 r
    have e2 := k.eq r2
    subst e2
    obtain ⟨P, Z, p, hx⟩ := ty pins σ s u1 I r1
    exact PySem.W.kia_one Z I.kIn p e hx fun tk => ⟨.bl b, H, I.tok tk, rfl, q⟩
  · obtain ⟨u1, u2, rfl, r1, r2⟩ := vals2 r
    cases (show u2 = Value.ref tp from r2)
    obtain ⟨P, Z, p, hx⟩ := ty pins σ s u1 I r1
    obtain ⟨its, rv, ⟨o, h1, h2, n, h3⟩, _⟩ := I.tuple hT
    have e3 := ClsV.all k rv
    subst e3
    obtain ⟨oc, od, dt, sl⟩ := o
    simp only at h2 h3
    subst h2 h3
    exact PySem.W.kia_tup Z I.kIn p h1 e hx fun tk => ⟨.bl b, H, I.tok tk, rfl, q⟩
section
variable {g : G} {k : Nat} {X : Cx} {W : WX} {sub : Tag → Tag → Option Bool}
theorem kof_base {H : Hp} {v : V} {t : Value} (h : TyX X.K H v t) : KOf X H v t := fun pins σ s u I r => kit_of I r h
theorem kof_tup {H : Hp} {a : Addr} {xs : List V} (h : SqT X.K H a xs) : KOf X H (.ref a) (.type "tuple") := fun pins σ s u I r => by
  cases (show u = Value.ref a from r)
  obtain ⟨its, rv, ⟨o, h1, h2, _⟩, _⟩ := I.tuple h
  exact ⟨_, PySem.W.kitx_tuple, ⟨o, h1, h2⟩, fun z => nomatch z⟩
theorem kof_exc {H : Hp} {a C : Addr} {dx : Option Addr} (T : ExcC X.K C) (h : H a = some (excH a C dx)) (hd : dx = none ∨ ∃ dd vs, dx = some dd ∧ H dd = some (.xd vs)) : KOf X H (.ref a) (.ref C) := fun pins σ s u I r => by
  cases (show u = Value.ref a from r)
  have x : ObjOk X.prog X.w H s.heap a (excH a C dx) := I.hok a _ h
  obtain ⟨⟨oe, vs, e1, ⟨e2, e3⟩, e4⟩, _⟩ := x
  obtain ⟨oc, od, oda, osl⟩ := oe
  dsimp only at e2 e3 e4
  subst e2 e3 e4
  rcases hd with rfl | ⟨dd, fs, rfl, hdd⟩
  · exact ⟨_, kitx_exc (od := none) T, ⟨e1, rfl, rfl, trivial⟩, fun z => nomatch z⟩
  · have y : ObjOk X.prog X.w H s.heap dd (.xd fs) := I.hok dd _ hdd
    obtain ⟨mA, hns, hr⟩ := y
    obtain ⟨o, ho, _⟩ := lookIn_ns hns
    exact ⟨_, kitx_exc (od := some o) T, ⟨e1, rfl, rfl, ho⟩, fun z => nomatch z⟩
theorem tag_kof (A : At g k X W) (hE : ExcOk g sub) {w : Wd} {H : Hp} (z : ZLe w.Z H) {d : D} {v : V} (h : Top g w H d v) {a b : Tag} {r : Bool} (ht : tagD d = some a) (hs : sub a b = some r) : ∃ t, a.val g = some t ∧ KOf X H v t := by
  cases d with
  | non => cases ht; cases h.non; exact ⟨_, rfl, kof_base (.base .non)⟩
  | bl x => cases ht; cases h.bl; exact ⟨_, rfl, kof_base (.base (.bl x))⟩
  | int x => cases ht; cases h.int; exact ⟨_, rfl, kof_base (.base (.int x))⟩
  | str x => cases ht; cases h.str; exact ⟨_, rfl, kof_base (.base (.str x))⟩
  | tup ds =>
    cases ht
    obtain ⟨p, us, rfl, s1, _⟩ := h.tup z
    exact ⟨_, rfl, kof_tup (by rw [A.K]; exact s1)⟩
  | lst ds =>
    cases ht
    obtain ⟨p, us, rfl, s1, _⟩ := h.lst z
    exact ⟨_, rfl, kof_base (.base (.lst s1))⟩
  | dic ds =>
    cases ht
    obtain ⟨p, us, rfl, s1, _⟩ := h.dic z
    exact ⟨_, rfl, kof_base (.base (.dK s1))⟩
  | exc c fs =>
    cases ht
    have hr := h.atom fun p r => r
    rw [Rep] at hr
    obtain ⟨p, C, dx, vs, rfl, m, q, f, _⟩ := hr
    refine ⟨.ref C, val_o m, kof_exc (by rw [A.K]; exact hE c b r hs C m) (z _ _ q) ?_⟩
    exact f.imp (fun h => h.1) fun ⟨dd, e1, e2⟩ => ⟨dd, vs, e1, z _ _ e2⟩
  | _ => cases ht
theorem cls_val {w : Wd} {H : Hp} {d : D} {v : V} (h : Top g w H d v) {b : Tag} (hb : clsD d = some b) {u : Value} (hu : b.val g = some u) : ClsV v u := by
  cases d with
  | ty n =>
    cases hb
    have hr := h.atom fun p r => r
    rw [Rep] at hr
    subst hr
    cases hu
    exact .ty n
  | fn x =>
    cases hb
    have hr := h.atom fun p r => r
    rw [Rep] at hr
    obtain ⟨a, rfl, m⟩ := hr
    rw [val_o m] at hu
    cases hu
    exact .own a
  | _ => cases hb
theorem any_ok (hI : IsiOk g sub) {w : Wd} {H : Hp} {a : Tag} {t : Value} (ha : a.val g = some t) : ∀ {ds : List D} {vs : List V} {r : Bool}, RepL g w.Z w.tp ds vs → anyT sub a ds = some r → (∃ us, Paired ClsV vs us ∧ PySem.W.kitAny g.K t us = some r)
  | [], vs, r, hr, h => by
    rw [RepL] at hr
    subst hr
    rw [anyT] at h
    cases h
    exact ⟨[], .nil, kitAny_nil⟩
  | d :: ds, vs, r, hr, h => by
    rw [RepL] at hr
    obtain ⟨v, r', rfl, h1, h2⟩ := hr
    rw [anyT] at h
    cases e1 : clsD d with
    | none => rw [e1] at h; cases h
    | some b =>
      rw [e1] at h
      simp only at h
      cases e2 : sub a b with
      | none => simp [e2] at h
      | some c =>
        cases e3 : anyT sub a ds with
        | none => simp [e2, e3] at h
        | some q =>
          simp only [e2, e3] at h
          obtain ⟨u, v2, k1, k2, k3⟩ := hI a b c e2
          rw [ha] at k1
          cases k1
          have cv := cls_val (w := w) (H := H) (.inl h1) e1 k2
          obtain ⟨us, p, kq⟩ := any_ok (H := H) hI ha h2 e3
          have h := Option.some.inj h
          refine ⟨v2 :: us, .cons cv p, kitAny_cons k3 (fun hc => ?_) fun hc => ?_⟩
          · rw [← h, hc]; exact kq
          · rw [← h, hc]; rfl
theorem ok_isi (hI : IsiOk g sub) (hE : ExcOk g sub) : CallOk g k X W (.builtin "isinstance") (pIsi sub) := fun A => by
  refine ⟨_, call_isi1, ?_⟩
  refine .call2 (f := fIsi sub) fun w H x c u v Q z h1 h2 => ?_
  have one : ∀ {a b : Tag} {r : Bool}, tagD x = some a → clsD c = some b → sub a b = some r → PGo g w H Q (.at (.bl r)) (rIsi1 X [u, v] H Q) := fun {a b r} t1 c1 s1 q => by
    obtain ⟨t, k1, k2⟩ := tag_kof A hE z h1 t1 s1
    obtain ⟨u2, v2, k3, k4, k5⟩ := hI a b r s1
    rw [k1] at k3
    cases k3
    exact .inl ⟨u, v, t, v2, r, rfl, cls_val h2 c1 k4, k2, by rw [A.K]; exact k5, q _ rep_bl⟩
  unfold fIsi
  cases t1 : tagD x with
  | none => trivial
  | some a =>
    simp only
    split
    · rename_i d ds
      cases e : anyT sub a (d :: ds) with
      | none => trivial
      | some r =>
        intro q
        obtain ⟨p, vs, rfl, s1, r1⟩ := h2.tup z
        obtain ⟨b, c0, e1, e2⟩ : ∃ b c0, clsD d = some b ∧ sub a b = some c0 := by
          rw [anyT] at e
          cases e1 : clsD d with
          | none => rw [e1] at e; cases e
          | some b =>
            cases e2 : sub a b with
            | none => simp [e1, e2] at e
            | some c0 => exact ⟨b, c0, rfl, e2⟩
        obtain ⟨t, k1, k2⟩ := tag_kof A hE z h1 t1 e2
        obtain ⟨us, k3, k4⟩ := any_ok (H := H) hI k1 r1 e
        exact .inr ⟨u, p, vs, t, us, r, rfl, by rw [A.K]; exact s1, k3, k2, by rw [A.K]; exact k4, q _ rep_bl⟩
    · rename_i c' hne
      cases c1 : clsD c with
      | none => trivial
      | some b =>
        simp only
        cases s1 : sub a b with
        | none => trivial
        | some r => exact one t1 c1 s1
end
end PD
namespace PD
open PySem PySem.Spec L2
open PyProof.Rows hiding St
def tXfT (K : PySem.W.Frag) (f : Str) (te : TE) : TE := fun σ H Q => te σ H fun x H1 => ∃ (a C dd : Addr) (fs : List (Str × V)) (v : V), x = .ref a ∧ H1 a = some (excH a C (some dd)) ∧ H1 dd = some (.xd fs) ∧ fs.lookup f = some v ∧ XfC K C ∧ PySem.W.findIn K (.ref C) f = some none ∧ Q v H1
theorem pe_xfT {X : Cx} {e : Expr} {te : TE} {pos : Pos} {n : Str} (he : PE X e te) (hb : attributeBase e n X.env (eval e X.env) = eval e X.env := by rfl) : PE X (.Attribute e n pos) (tXfT X.K n te) := by
  refine ⟨fun pins s σ H Q I h => ?_⟩
  refine attr_of hb (thn (he.run pins s σ H _ I h) fun u s1 ⟨x, H1, I1, rx, a, C, dd, fs, v, ex, e1, e2, l, T, hno, q⟩ => ?_)
  subst ex
  obtain rfl : u = Value.ref a := rx
  have x1 : ObjOk X.prog X.w H1 s1.heap a (excH a C (some dd)) := I1.hok a _ e1
  obtain ⟨⟨oe, vs, g1, ⟨z1, z2⟩, z3⟩, _⟩ := x1
  have x2 : ObjOk X.prog X.w H1 s1.heap dd (.xd fs) := I1.hok dd _ e2
  obtain ⟨mA, hns, hr⟩ := x2
  obtain ⟨od, ho, hl⟩ := lookIn_ns hns
  obtain ⟨u, hu, ru⟩ := RelO.some_of (v := v) (o := mA n) (by rw [← l]; exact hr n)
  have J : PySem.W.InstAt s1.heap a oe C (some od) := ⟨g1, z1, by unfold PySem.W.notCls; rw [z3] <;> rfl, by rw [z2]; exact ho⟩
  exact HandSPX.exc_get I1.kIn J T.ga T.gg T.exC (PySem.W.findObj_own T.hdC hno rfl (by rw [hl, hu])) (handed_of ru) ⟨v, H1, I1.tok _, ru, q⟩
def FldOk (g : G) (f : Str) (has : Str → Bool) : Prop := ∀ c, has c = true → ∀ C, g.mg c = some (.ref C) → XfC g.K C ∧ PySem.W.findIn g.K (.ref C) f = some none
def vFld (f : Str) (has : Str → Bool) (ev : Ev) : Ev := fun ρ τ => match vFz ev ρ τ with
  | .ok (.fz (.exc c fs)) ρ' τ' => if has c then (match fs.lookup f with
      | some d => .ok (.fz d) ρ' τ'
      | none => .bad) else .bad
  | .ok _ _ _ => .bad
  | .exc x ρ' τ' => .exc x ρ' τ'
  | .bad => .bad
theorem RepF.look {g : G} {Z : Hp} {tp : Option (Addr × Addr × Addr)} {f : Str} {d : D} : ∀ {fs : List (Str × D)} {vs : List (Str × V)}, RepF g Z tp fs vs → fs.lookup f = some d → ∃ v, vs.lookup f = some v ∧ Rep g Z tp d v
  | [], vs, h, e => by cases e
  | (k, x) :: fs, vs, h, e => by
    rw [RepF] at h
    obtain ⟨v, r, rfl, h1, h2⟩ := h
    rw [List.lookup_cons] at e ⊢
    by_cases hk : f = k
    · subst hk
      simp at e ⊢
      subst e
      exact h1
    · have : (f == k) = false := by simpa using hk
      rw [this] at e ⊢
      exact RepF.look h2 e
theorem py_fld {g : G} {k : Nat} {X : Cx} {W : WX} {f : Str} {has : Str → Bool} {e : Expr} {ev : Ev} {pos : Pos} (F : FldOk g f has) (he : PyE g k X W e ev) (hb : attributeBase e f X.env (eval e X.env) = eval e X.env := by rfl) : PyE g k X W (.Attribute e f pos) (vFld f has ev) := fun A => (pe_xfT (py_fz he A) hb).imp' fun σ H Q q => by
  obtain ⟨w, ρ, τ, env, q⟩ := q
  refine ⟨w, ρ, τ, env, ?_⟩
  unfold vFld at q
  cases e : vFz ev ρ τ with
  | exc x ρ' τ' => simp only [e] at q; exact q
  | bad => simp only [e] at q
  | ok r ρ' τ' =>
    simp only [e] at q
    match r, q with
    | .fz (.exc c fs), q =>
      simp only at q
      by_cases hc : has c = true
      · simp only [hc, if_true] at q
        cases e2 : fs.lookup f with
        | none => simp only [e2] at q
        | some d =>
          simp only [e2] at q
          intro w' H' v a hr
          rw [RsR, Rep] at hr
          obtain ⟨p, C, dx, vs, rfl, m, h1, h2, h3⟩ := hr
          obtain ⟨v, hv, rv⟩ := h3.look e2
          rcases h2 with ⟨_, rfl⟩ | ⟨dd, rfl, h4⟩
          · cases e2
          · obtain ⟨k1, k2⟩ := F c hc C m
            exact ⟨p, C, dd, vs, v, rfl, a.env.zle _ _ h1, a.env.zle _ _ h4, hv, by rw [A.K]; exact k1, by rw [A.K]; exact k2, q w' H' v a rv⟩
      · simp only [hc] at q
        exact False.elim q
end PD
namespace PD
open PySem PySem.Spec L2
open PyProof.Rows hiding St

/-- how the tape's dict lies -/
structure TkOk (g : G) (kl kc kr kt : Str) : Prop where
  lg : ∀ l c r t, valV (g.tkv l c r t) (.inr kl) = some (.ref l)
  cl : ∀ l c r t, valV (g.tkv l c r t) (.inr kc) = some (.ref c)
  rs : ∀ l c r t, valV (g.tkv l c r t) (.inr kr) = some (.int r)
  tn : ∀ l c r t, valV (g.tkv l c r t) (.inr kt) = some (.int t)
  prs : ∀ l c r t n, putK (g.tkv l c r t) (.inr kr) (.int n) = g.tkv l c n t
  ptn : ∀ l c r t n, putK (g.tkv l c r t) (.inr kt) (.int n) = g.tkv l c r n
  len : ∀ l c r t, (g.tkv l c r t).length ≤ 10
section
variable {g : G} {k : Nat} {X : Cx} {W : WX}
/-- the tape is written -/
theorem Ps.tapeW {w : Wd} {H : Hp} {ρ : Rho} {σ : St} {w1 : Wd} {H1 : Hp} {ρ1 : Rho} {τ1 τ2 : Tape} {σ1 : St} (a : Ps g w H ρ σ w1 H1 ρ1 τ1 σ1) {p : Addr} {o : HO} (hp : tcell w1 p) (ho : ∀ ps, o ≠ .tbl ps) (hT : TapeR g w1 (upd H1 p o) τ2) : Ps g w H ρ σ w1 (upd H1 p o) ρ1 τ2 σ1 := by
  have e := a.env
  have pz : w1.Z p = none := by
    obtain ⟨t, l, c, q, h⟩ := hp
    have T := e.tape t l c q
    rcases h with rfl | rfl
    · exact T.zt
    · exact T.zl
  have nt : ∀ ps, H1 p ≠ some (.tbl ps) := fun ps z => by
    obtain ⟨t, l, c, q, h⟩ := hp
    have T := e.tape t l c q
    rcases h with rfl | rfl
    · rw [T.ht] at z; cases z
    · rw [T.hl] at z; cases z
  have cell : ∀ {x : D} {v : Option V}, CellR g w1 H1 x v → CellR g w1 (upd H1 p o) x v := fun {x v} ⟨b, e2, r2, z2, t2⟩ => by
    have nb : b ≠ p := fun q => t2 (q ▸ hp)
    refine ⟨b, e2, ?_, z2, t2⟩
    cases x with
    | lst ds => obtain ⟨vs, h3, h4⟩ := r2; exact ⟨vs, by rw [upd_ne nb]; exact h3, h4⟩
    | dic kvs => obtain ⟨ks, h3, h4⟩ := r2; exact ⟨ks, by rw [upd_ne nb]; exact h3, h4⟩
    | _ => exact r2
  refine ⟨⟨e.len, fun i s h => ?_, e.ap, fun b x h => ?_, hT, ⟨e.tabs.1, fun P hP => ?_⟩⟩, ⟨a.st.z, a.st.tp, fun b x h n nt2 => ?_, a.st.nz, fun b h => ?_⟩, a.lic, a.bor⟩
  · have := e.sl i s h
    cases s with
    | un => trivial
    | fz d => exact this
    | own d => exact cell this
    | bor d => exact this.imp cell fun g => g.map (fun q x y e1 e2 z2 t2 => ⟨by rw [upd_ne (fun k : q = p => t2 (by rw [k]; exact hp))]; exact e2, z2, t2⟩) fun _ _ h => h
  · have nb : b ≠ p := fun z => by rw [z, pz] at h; cases h
    rw [upd_ne nb]; exact e.zle b x h
  · obtain ⟨ps, h1, h2⟩ := e.tabs.2 P hP
    exact ⟨ps, by rw [upd_ne (fun z => nt ps (by rw [← z]; exact h1))]; exact h1, h2⟩
  · have nb : b ≠ p := fun z => n (.inl (by rw [z]; exact (tcell_tp a.st.tp).mp hp))
    rw [upd_ne nb]; exact a.st.fr b x h n nt2
  · by_cases hb : b = p
    · rw [hb, upd_same] at h; cases h
    · rw [upd_ne hb] at h; exact a.st.al b h
theorem tape_at {w : Wd} {H : Hp} {ρ : Rho} {τ : Tape} {σ : St} (env : EnvR g w H ρ τ σ) {i : Nat} (hi : ρ[i]? = some (.fz .tape)) : ∃ t l c, σ[i]? = some (some (.ref t)) ∧ w.tp = some (t, l, c) ∧ TapeAt g w H τ t l c := by
  obtain ⟨v, hv, hr⟩ := fz_slot env hi
  rw [Rep] at hr
  obtain ⟨t, l, c, e, rfl⟩ := hr
  exact ⟨t, l, c, hv, e, env.tape t l c e⟩
theorem tape_dict {w : Wd} {H : Hp} {ρ : Rho} {σ : St} {w1 : Wd} {H1 : Hp} {ρ1 : Rho} {τ1 : Tape} {σ1 : St} (a : Ps g w H ρ σ w1 H1 ρ1 τ1 σ1) {t l c : Addr} (e : w1.tp = some (t, l, c)) (r u : Int) : Ps g w H ρ σ w1 (upd H1 t (.dK (g.tkv l c r u))) ρ1 { τ1 with rest := r, turn := u } σ1 := by
  have T := a.env.tape t l c e
  refine a.tapeW ⟨t, l, c, e, .inl rfl⟩ (fun _ q => nomatch q) fun t2 l2 c2 e2 => ?_
  rw [e] at e2
  cases e2
  exact ⟨upd_same, by rw [upd_ne (fun z => by have := T.hl; rw [z, T.ht] at this; cases this)]; exact T.hl, T.hc, T.zt, T.zl⟩
theorem tape_list {w : Wd} {H : Hp} {ρ : Rho} {σ : St} {w1 : Wd} {H1 : Hp} {ρ1 : Rho} {τ1 : Tape} {σ1 : St} (a : Ps g w H ρ σ w1 H1 ρ1 τ1 σ1) {t l c : Addr} (e : w1.tp = some (t, l, c)) (ns : List Int) : Ps g w H ρ σ w1 (upd H1 l (.lst (ns.map V.int))) ρ1 { τ1 with large := ns } σ1 := by
  have T := a.env.tape t l c e
  refine a.tapeW ⟨t, l, c, e, .inr rfl⟩ (fun _ q => nomatch q) fun t2 l2 c2 e2 => ?_
  rw [e] at e2
  cases e2
  exact ⟨by rw [upd_ne (fun z => by have := T.ht; rw [z, T.hl] at this; cases this)]; exact T.ht, upd_same, T.hc, T.zt, T.zl⟩

def vTI (f : Tape → Int) (i : Nat) : Ev := fun ρ τ => match ρ[i]? with
  | some (.fz .tape) => .ok (.fz (.int (f τ))) ρ τ
  | _ => .bad
def vTC (i : Nat) : Ev := fun ρ τ => match ρ[i]? with
  | some (.fz .tape) => .ok (.fz (.lst (τ.cells.map D.int))) ρ τ
  | _ => .bad
theorem room_u (A : At g k X W) : X.A.units + 1 < cLine := by have := A.room.un; omega
theorem tape_case {i : Nat} {ρ : Rho} {α : Type} {x y : α} {P : α → Prop} (h : P (match ρ[i]? with
    | some (.fz .tape) => x
    | _ => y)) (hy : ¬ P y) : ρ[i]? = some (.fz .tape) ∧ P x := by
  split at h
  · rename_i e; exact ⟨e, h⟩
  · exact (hy h).elim
variable {kl kc kr kt : Str} {x : Str} {i j : Nat} {p1 p2 pos pos' : Pos}
theorem py_trest (T : TkOk g kl kc kr kt) (ho : PE X (.Name x p1) (tVar i)) (hs : NoSl (.Constant (.str kr) j p2) := by intro _ _; rfl) : PyE g k X W (.Subscript (.Name x p1) (.Constant (.str kr) j p2) pos) (vTI (·.rest) i) := fun A => (pe_dget (room_u A) ho pe_str hs).imp' fun σ H Q q => by
  obtain ⟨w, ρ, τ, env, q⟩ := q
  unfold vTI at q
  split at q
  · rename_i hq
    split at hq
    · rename_i hi
      cases hq
      obtain ⟨t, l, c, h1, h2, h3⟩ := tape_at env hi
      refine ⟨.ref t, h1, t, .int τ.rest, rfl, ?_, q w H _ (.refl env) (by rw [RsR, Rep])⟩
      have := DGet.k (k := .inr kr) h3.ht
      rw [T.rs] at this
      exact this
    · cases hq
  · rename_i hq; split at hq <;> cases hq
  · exact q.elim
theorem py_tturn (T : TkOk g kl kc kr kt) (ho : PE X (.Name x p1) (tVar i)) (hs : NoSl (.Constant (.str kt) j p2) := by intro _ _; rfl) : PyE g k X W (.Subscript (.Name x p1) (.Constant (.str kt) j p2) pos) (vTI (·.turn) i) := fun A => (pe_dget (room_u A) ho pe_str hs).imp' fun σ H Q q => by
  obtain ⟨w, ρ, τ, env, q⟩ := q
  unfold vTI at q
  split at q
  · rename_i hq
    split at hq
    · rename_i hi
      cases hq
      obtain ⟨t, l, c, h1, h2, h3⟩ := tape_at env hi
      refine ⟨.ref t, h1, t, .int τ.turn, rfl, ?_, q w H _ (.refl env) (by rw [RsR, Rep])⟩
      have := DGet.k (k := .inr kt) h3.ht
      rw [T.tn] at this
      exact this
    · cases hq
  · rename_i hq; split at hq <;> cases hq
  · exact q.elim
theorem py_tcells (T : TkOk g kl kc kr kt) (ho : PE X (.Name x p1) (tVar i)) (hs : NoSl (.Constant (.str kc) j p2) := by intro _ _; rfl) : PyE g k X W (.Subscript (.Name x p1) (.Constant (.str kc) j p2) pos) (vTC i) := fun A => (pe_dget (room_u A) ho pe_str hs).imp' fun σ H Q q => by
  obtain ⟨w, ρ, τ, env, q⟩ := q
  unfold vTC at q
  split at q
  · rename_i hq
    split at hq
    · rename_i hi
      cases hq
      obtain ⟨t, l, c, h1, h2, h3⟩ := tape_at env hi
      refine ⟨.ref t, h1, t, .ref c, rfl, ?_, q w H _ (.refl env) ?_⟩
      · have := DGet.k (k := .inr kc) h3.ht
        rw [T.cl] at this
        exact this
      · rw [RsR, Rep]
        exact ⟨c, _, rfl, h3.hc, ns_rep _⟩
    · cases hq
  · rename_i hq; split at hq <;> cases hq
  · exact q.elim
/-- tape['large'] != [] -/
def vTNe (i : Nat) : Ev := fun ρ τ => match ρ[i]? with
  | some (.fz .tape) => .ok (.fz (.bl (!τ.large.isEmpty))) ρ τ
  | _ => .bad
theorem lay_ints : ∀ ns : List Int, PyData.canLayAll0 (ns.map PyData.int) = true
  | [] => rfl
  | n :: ns => by rw [List.map_cons, PyData.canLayAll0, lay_ints ns]; rfl
theorem depth_ints : ∀ ns : List Int, PyData.depthAll (ns.map PyData.int) ≤ 1
  | [] => by rw [List.map_nil, PyData.depthAll]; decide
  | n :: ns => by
    have := depth_ints ns
    rw [List.map_cons, PyData.depthAll, PyData.depth]
    omega
theorem shaped_ints (ns : List Int) : SeqAt.shaped (.list (ns.map PyData.int)) = true := by
  unfold SeqAt.shaped
  rw [Bool.and_eq_true]
  refine ⟨by rw [PyData.canLay0]; exact lay_ints ns, ?_⟩
  have := depth_ints ns
  rw [PyData.depth]
  simp
  omega
theorem dp_ints {K : PySem.W.Frag} {H : Hp} : ∀ ns : List Int, DpAll K H (ns.map V.int) (ns.map PyData.int)
  | [] => .nil
  | n :: ns => .cons (.int n) (dp_ints ns)
theorem eqv_nil (ns : List Int) : PyData.eqv (.list (ns.map PyData.int)) (.list []) = ns.isEmpty := by
  cases ns <;> simp [PyData.eqv, PyData.eqvAll]
theorem py_tne (T : TkOk g kl kc kr kt) (ho : PE X (.Name x p1) (tVar i)) {p3 p4 : Pos} (hs : NoSl (.Constant (.str kl) j p2) := by intro _ _; rfl) : PyE g k X W (.Compare (.Subscript (.Name x p1) (.Constant (.str kl) j p2) pos) [.NotEq] [.List [] p3] p4) (vTNe i) := fun A => by
  have hu : X.A.units + 64 < cLine := by have := A.room.un; omega
  refine (pe_cmpR (op_neD hu) (pe_dget (room_u A) ho pe_str hs) (pe_lst pa_nil) rfl).imp' fun σ H Q q => ?_
  obtain ⟨w, ρ, τ, env, q⟩ := q
  unfold vTNe at q
  split at q
  · rename_i hq
    split at hq
    · rename_i hi
      cases hq
      obtain ⟨t, l, c, h1, h2, h3⟩ := tape_at env hi
      refine ⟨.ref t, h1, t, .ref l, rfl, ?_, Nat.zero_le _, fun p hp => ?_⟩
      · have := DGet.k (k := .inr kl) h3.ht
        rw [T.lg] at this
        exact this
      · have nl : l ≠ p := fun z => by have := h3.hl; rw [z, hp] at this; cases this
        obtain ⟨b, _⟩ := (Ps.refl env).newLst (es := []) (us := []) hp (by rw [RepL])
        refine ⟨.list (τ.large.map PyData.int), .list [], .lst (SqL.of (by rw [upd_ne nl]; exact h3.hl)) (dp_ints _), .lst (SqL.of upd_same) .nil, shaped_ints _, shaped_ints [], ?_⟩
        rw [eqv_nil]
        exact q w _ _ b (by rw [RsR, Rep])
    · cases hq
  · rename_i hq; split at hq <;> cases hq
  · exact q.elim
/-- tape['large'].pop(0) -/
def vTPop (i : Nat) : Ev := fun ρ τ => match ρ[i]?, τ.large with
  | some (.fz .tape), n :: ns => .ok (.fz (.int n)) ρ { τ with large := ns }
  | _, _ => .bad
theorem py_tpop (T : TkOk g kl kc kr kt) (ho : PE X (.Name x p1) (tVar i)) {j0 : Nat} {p3 apos cpos : Pos} (pa : PlainAttrs "list") (slot : Slot "list" "pop" "list.pop") (hty : typeOf (.builtin "list.pop") = pure (.type "method_descriptor")) (hs : NoSl (.Constant (.str kl) j p2) := by intro _ _; rfl)
    (hbase : attributeBase (.Subscript (.Name x p1) (.Constant (.str kl) j p2) pos) "pop" X.env (eval (.Subscript (.Name x p1) (.Constant (.str kl) j p2) pos) X.env) = eval (.Subscript (.Name x p1) (.Constant (.str kl) j p2) pos) X.env := by rfl)
    (hfew : ((backTo cpos (starEach [.Constant (.int 0) j0 p3] X.env)).all (fun x => !x.1) && (backToKw cpos (keywordEach [] X.env)).all (fun x => x.1.isSome)
      && decide (([.Constant (.int 0) j0 p3] : List Expr).length + ([] : List Keyword).length + (if ([] : List Keyword).isEmpty then 0 else 1) < 30)) = true := by rfl)
    (hline : (apos.endLine == cpos.line) = true := by rfl) : PyE g k X W (.Call (.Attribute (.Subscript (.Name x p1) (.Constant (.str kl) j p2) pos) "pop" apos) [.Constant (.int 0) j0 p3] [] cpos) (vTPop i) := fun A => by
  obtain ⟨r, h1, hf⟩ := mok_popAt (X := X) (g := g)
  refine (pe_bm pa slot hty h1 (pe_dget (room_u A) ho pe_str hs) (pa_cons pe_int pa_nil) hbase hfew hline rfl rfl).imp' fun σ H Q q => ?_
  obtain ⟨w, ρ, τ, env, q⟩ := q
  unfold vTPop at q
  cases e1 : ρ[i]? with
  | none => simp only [e1] at q
  | some s =>
    cases s with
    | fz d =>
      cases d with
      | tape =>
        cases e2 : τ.large with
        | nil => simp only [e1, e2] at q
        | cons n ns =>
          simp only [e1, e2] at q
          obtain ⟨t, l, c, h1, h2, h3⟩ := tape_at env e1
          refine ⟨.ref t, h1, t, .ref l, rfl, ?_, .inl ⟨rfl, _, SqL.of h3.hl⟩, ?_⟩
          · have := DGet.k (k := .inr kl) h3.ht
            rw [T.lg] at this
            exact this
          · refine hf w H l _ _ (τ.large.map D.int) [.int 0] (.int n) (ns.map D.int) _ env.zle h3.hl (ns_rep _) (.sing rep_int) ?_ fun v us rv ru => ?_
            · rw [e2]
              simp [mPopAt, seqIndex?]
            · rw [Rep] at rv
              subst rv
              have eu := rep_ns ru (bs := ns) (by
                clear ru q e2
                induction ns with
                | nil => rfl
                | cons m ns ih => simp [nsOf, ih])
              subst eu
              exact q w _ _ (tape_list (.refl env) h2 ns) (by rw [RsR, Rep])
      | _ => simp only [e1] at q
    | _ => simp only [e1] at q
/-- the stores -/
def sTPut (f : Tape → Int → Tape) (i : Nat) (ev : Ev) : Sv := fun ρ τ => match vFz ev ρ τ with
  | .ok (.fz (.int n)) ρ' τ' => (match ρ'[i]? with
    | some (.fz .tape) => .nx ρ' (f τ' n)
    | _ => .bad)
  | .ok _ _ _ => .bad
  | .exc x ρ' τ' => .exc x ρ' τ'
  | .bad => .bad
def putRest (τ : Tape) (n : Int) : Tape := { τ with rest := n }
def putTurn (τ : Tape) (n : Int) : Tape := { τ with turn := n }
theorem tput_go {key : Str} {f : Tape → Int → Tape} (hp : ∀ l c (τ : Tape) n, putK (g.tkv l c τ.rest τ.turn) (.inr key) (.int n) = g.tkv l c (f τ n).rest (f τ n).turn ∧ (f τ n).large = τ.large ∧ (f τ n).cells = τ.cells) (hl : ∀ l c r t, (g.tkv l c r t).length ≤ 10) {ev : Ev} {D : Ends} {σ : St} {H : Hp} (q : tS g W (sTPut f i ev) D σ H) : sDPut (tVar i) (tC (.str key)) (tD g W (vFz ev)) D σ H := by
  obtain ⟨w, ρ, τ, env, q⟩ := q
  refine ⟨w, ρ, τ, env, ?_⟩
  have q : SGo g W w H ρ σ D (sTPut f i ev ρ τ) := q
  unfold sTPut at q
  cases e : vFz ev ρ τ with
  | exc y ρ' τ' => simp only [e] at q; exact fun w' H' cls dx a hx => q w' H' σ cls dx a hx
  | bad => simp only [e] at q; exact q
  | ok r ρ' τ' =>
    simp only [e] at q
    match r, q with
    | .fz (.int n), q =>
      simp only at q
      intro w' H' v a hr
      rw [RsR, Rep] at hr
      subst hr
      cases e1 : ρ'[i]? with
      | none => simp only [e1] at q; exact q.elim
      | some s =>
        cases s with
        | fz d =>
          cases d with
          | tape =>
            simp only [e1] at q
            obtain ⟨t, l, c, h1, h2, h3⟩ := tape_at a.env e1
            obtain ⟨k1, k2, k3⟩ := hp l c τ' n
            refine ⟨.ref t, h1, t, _, rfl, DPut.k (k := .inr key) h3.ht (Nat.lt_of_le_of_lt (hl _ _ _ _) (by decide)), ?_⟩
            rw [k1]
            have b := tape_dict a h2 (f τ' n).rest (f τ' n).turn
            have ef : ({ τ' with rest := (f τ' n).rest, turn := (f τ' n).turn } : Tape) = f τ' n := by
              cases h : f τ' n
              rw [h] at k2 k3
              simp only at k2 k3
              rw [k2, k3]
            rw [ef] at b
            exact q w' _ σ b
          | _ => simp only [e1] at q; exact q.elim
        | _ => simp only [e1] at q; exact q.elim
    | .own d, q => exact q.elim
theorem py_tput {key : Str} {f : Tape → Int → Tape} {e : Expr} {ev : Ev} (hp : ∀ l c (τ : Tape) n, putK (g.tkv l c τ.rest τ.turn) (.inr key) (.int n) = g.tkv l c (f τ n).rest (f τ n).turn ∧ (f τ n).large = τ.large ∧ (f τ n).cells = τ.cells) (hl : ∀ l c r t, (g.tkv l c r t).length ≤ 10)
    (ho : PE X (.Name x p1) (tVar i)) (he : PyE g k X W e ev) (hsw : swapsWith e (some (.Subscript (.Name x p1) (.Constant (.str key) j p2) pos')) pos.line X.env = pure false := by rfl) : PyS g k X W (.Assign [.Subscript (.Name x p1) (.Constant (.str key) j p2) pos'] e pos) (sTPut f i ev) := fun A =>
  (ps_dput (room_u A) ho pe_str (py_fz he A) hsw).imp' fun D σ H q => tput_go hp hl q
theorem py_tputR {e : Expr} {ev : Ev} (T : TkOk g kl kc kr kt) (ho : PE X (.Name x p1) (tVar i)) (he : PyE g k X W e ev) (hsw : swapsWith e (some (.Subscript (.Name x p1) (.Constant (.str kr) j p2) pos')) pos.line X.env = pure false := by rfl) : PyS g k X W (.Assign [.Subscript (.Name x p1) (.Constant (.str kr) j p2) pos'] e pos) (sTPut putRest i ev) :=
  py_tput (fun l c τ n => ⟨T.prs _ _ _ _ _, rfl, rfl⟩) T.len ho he hsw
theorem py_tputT {e : Expr} {ev : Ev} (T : TkOk g kl kc kr kt) (ho : PE X (.Name x p1) (tVar i)) (he : PyE g k X W e ev) (hsw : swapsWith e (some (.Subscript (.Name x p1) (.Constant (.str kt) j p2) pos')) pos.line X.env = pure false := by rfl) : PyS g k X W (.Assign [.Subscript (.Name x p1) (.Constant (.str kt) j p2) pos'] e pos) (sTPut putTurn i ev) :=
  py_tput (fun l c τ n => ⟨T.ptn _ _ _ _ _, rfl, rfl⟩) T.len ho he hsw
end
end PD
namespace PD
open PySem PySem.Spec L2
open PyProof.Rows hiding St

def keyD : D → Option Key
  | .int i => some (.inl i)
  | .str x => some (.inr x)
  | _ => none
theorem keyD_kD (k : Key) : keyD (kD k) = some k := by cases k <;> rfl
theorem kD_of {d : D} {k : Key} (h : keyD d = some k) : d = kD k := by
  cases d <;> first | (cases h; rfl) | cases h
def lookK : List (D × D) → Key → Option D
  | [], _ => none
  | (a, d) :: r, k => if keyD a = some k then some d else lookK r k
def putKD (kvs : List (D × D)) (k : Key) (d : D) : List (D × D) := if (kvs.any fun p => decide (keyD p.1 = some k)) = true then kvs.map (fun p => if keyD p.1 = some k then (p.1, d) else p) else kvs ++ [(kD k, d)]
section
variable {g : G} {Z : Hp} {tp : Option (Addr × Addr × Addr)}
theorem rep_key {k : Key} {y : V} (h : Rep g Z tp (kD k) y) : y = kV k := by
  cases k <;> (rw [kD, Rep] at h; exact h)
theorem rep_look : ∀ {kvs : List (D × D)} {ks : List (Key × V)} {k : Key} {d : D}, RepKV g Z tp kvs ks → lookK kvs k = some d → ∃ v, valV ks k = some v ∧ Rep g Z tp d v
  | [], ks, k, d, r, h => by cases h
  | (a, e) :: kvs, ks, k, d, r, h => by
    rw [RepKV] at r
    obtain ⟨kk, v, r', rfl, rfl, h1, h2⟩ := r
    rw [lookK, keyD_kD] at h
    by_cases c : kk = k
    · subst c
      rw [if_pos rfl] at h
      cases h
      exact ⟨v, by simp [valV], h1⟩
    · rw [if_neg (fun e => c (Option.some.inj e))] at h
      obtain ⟨u, e1, e2⟩ := rep_look h2 h
      refine ⟨u, ?_, e2⟩
      unfold valV at e1 ⊢
      rw [List.find?_cons_of_neg (by simpa using c)]
      exact e1
theorem rep_lookN : ∀ {kvs : List (D × D)} {ks : List (Key × V)} {k : Key}, RepKV g Z tp kvs ks → lookK kvs k = none → valV ks k = none
  | [], ks, k, r, h => by rw [RepKV] at r; subst r; rfl
  | (a, e) :: kvs, ks, k, r, h => by
    rw [RepKV] at r
    obtain ⟨kk, v, r', rfl, rfl, h1, h2⟩ := r
    rw [lookK, keyD_kD] at h
    by_cases c : kk = k
    · subst c
      rw [if_pos rfl] at h
      cases h
    · rw [if_neg (fun e => c (Option.some.inj e))] at h
      have e1 := rep_lookN h2 h
      unfold valV at e1 ⊢
      rw [List.find?_cons_of_neg (by simpa using c)]
      exact e1
theorem rep_any : ∀ {kvs : List (D × D)} {ks : List (Key × V)} {k : Key}, RepKV g Z tp kvs ks → (kvs.any fun p => decide (keyD p.1 = some k)) = (ks.any fun kv => decide (kv.1 = k))
  | [], ks, k, r => by rw [RepKV] at r; subst r; rfl
  | (a, e) :: kvs, ks, k, r => by
    rw [RepKV] at r
    obtain ⟨kk, v, r', rfl, rfl, h1, h2⟩ := r
    rw [List.any_cons, List.any_cons, rep_any h2, keyD_kD]
    congr 1
    simp
theorem rep_mapK {k : Key} {d : D} {v : V} (hd : Rep g Z tp d v) : ∀ {kvs : List (D × D)} {ks : List (Key × V)}, RepKV g Z tp kvs ks → RepKV g Z tp (kvs.map fun p => if keyD p.1 = some k then (p.1, d) else p) (ks.map fun kv => if kv.1 = k then (kv.1, v) else kv)
  | [], ks, r => by rw [RepKV] at r; subst r; rw [List.map_nil, List.map_nil, RepKV]
  | (a, e) :: kvs, ks, r => by
    rw [RepKV] at r
    obtain ⟨kk, u, r', rfl, rfl, h1, h2⟩ := r
    rw [List.map_cons, List.map_cons, keyD_kD]
    have ih := rep_mapK (k := k) hd h2
    by_cases c : kk = k
    · subst c
      rw [if_pos rfl, if_pos rfl, RepKV]
      exact ⟨kk, v, _, rfl, rfl, hd, ih⟩
    · rw [if_neg (fun e => c (Option.some.inj e)), if_neg c, RepKV]
      exact ⟨kk, u, _, rfl, rfl, h1, ih⟩
theorem rep_appK {k : Key} {d : D} {v : V} (hd : Rep g Z tp d v) : ∀ {kvs : List (D × D)} {ks : List (Key × V)}, RepKV g Z tp kvs ks → RepKV g Z tp (kvs ++ [(kD k, d)]) (ks ++ [(k, v)])
  | [], ks, r => by rw [RepKV] at r; subst r; rw [List.nil_append, List.nil_append, RepKV]; exact ⟨k, v, [], rfl, rfl, hd, by rw [RepKV]⟩
  | (a, e) :: kvs, ks, r => by
    rw [RepKV] at r
    obtain ⟨kk, u, r', rfl, rfl, h1, h2⟩ := r
    rw [List.cons_append, List.cons_append, RepKV]
    exact ⟨kk, u, _, rfl, rfl, h1, rep_appK hd h2⟩
theorem rep_put {kvs : List (D × D)} {ks : List (Key × V)} {k : Key} {d : D} {v : V} (r : RepKV g Z tp kvs ks) (hd : Rep g Z tp d v) : RepKV g Z tp (putKD kvs k d) (putK ks k v) := by
  unfold putKD putK
  rw [rep_any r]
  split
  · exact rep_mapK hd r
  · exact rep_appK hd r
theorem rep_lenK : ∀ {kvs : List (D × D)} {ks : List (Key × V)}, RepKV g Z tp kvs ks → ks.length = kvs.length
  | [], ks, r => by rw [RepKV] at r; subst r; rfl
  | (a, e) :: kvs, ks, r => by
    rw [RepKV] at r
    obtain ⟨kk, u, r', rfl, rfl, h1, h2⟩ := r
    rw [List.length_cons, List.length_cons, rep_lenK h2]
theorem rep_atK : ∀ {kvs : List (D × D)} {ks : List (Key × V)} {i : Nat} {k : Key} {v : V}, RepKV g Z tp kvs ks → ks[i]? = some (k, v) → ∃ d, kvs[i]? = some (kD k, d)
  | [], ks, i, k, v, r, h => by rw [RepKV] at r; subst r; simp at h
  | (a, e) :: kvs, ks, i, k, v, r, h => by
    rw [RepKV] at r
    obtain ⟨kk, u, r', rfl, rfl, h1, h2⟩ := r
    cases i with
    | zero => simp at h; obtain ⟨rfl, rfl⟩ := h; exact ⟨e, rfl⟩
    | succ i => simp only [List.getElem?_cons_succ] at h ⊢; exact rep_atK h2 h
end
/-- the dict at a slot -/
def dicAt (ρ : Rho) (i : Nat) : Option (List (D × D)) := match ρ[i]? with
  | some (.own (.dic kvs)) => some kvs
  | some (.bor (.dic kvs)) => some kvs
  | some (.fz (.dic kvs)) => some kvs
  | some (.bor (.clo _ [.dic kvs])) => some kvs
  | _ => none
def vDGet (i : Nat) (ev : Ev) : Ev := fun ρ τ => match dicAt ρ i with
  | none => .bad
  | some _ => (match vFz ev ρ τ with
    | .ok (.fz k) ρ1 τ1 => (match dicAt ρ1 i, keyD k with
      | some kvs, some key => (match lookK kvs key with
        | some d => .ok (.fz d) ρ1 τ1
        | none => .bad)
      | _, _ => .bad)
    | .ok (.own _) _ _ => .bad
    | .exc x ρ1 τ1 => .exc x ρ1 τ1
    | .bad => .bad)
/-- y in d, y not in d -/
def vDIn (neg : Bool) (i : Nat) (ev : Ev) : Ev := fun ρ τ => match vFz ev ρ τ with
  | .ok (.fz k) ρ1 τ1 => (match dicAt ρ1 i, keyD k with
    | some kvs, some key => .ok (.fz (.bl ((lookK kvs key).isSome != neg))) ρ1 τ1
    | _, _ => .bad)
  | .ok (.own _) _ _ => .bad
  | .exc x ρ1 τ1 => .exc x ρ1 τ1
  | .bad => .bad
/-- d[k] = e -/
def sDPutK (i : Nat) (ek ev : Ev) : Sv := fun ρ τ => match vFz ev ρ τ with
  | .ok (.fz d) ρ1 τ1 => (match dicAt ρ1 i with
    | none => .bad
    | some _ => (match vFz ek ρ1 τ1 with
      | .ok (.fz k) ρ2 τ2 => (match ρ2[i]?, keyD k with
        | some (.own (.dic kvs)), some key => if kvs.length < sizeLine then .nx (ρ2.set i (.own (.dic (putKD kvs key d)))) τ2 else .bad
        | _, _ => .bad)
      | .ok (.own _) _ _ => .bad
      | .exc x ρ2 τ2 => .exc x ρ2 τ2
      | .bad => .bad))
  | .ok (.own _) _ _ => .bad
  | .exc x ρ1 τ1 => .exc x ρ1 τ1
  | .bad => .bad
section
variable {g : G} {k : Nat} {X : Cx} {W : WX} {x : Str} {p1 pos pos' : Pos} {i : Nat}
theorem dic_at {w : Wd} {H : Hp} {ρ : Rho} {τ : Tape} {σ : St} (env : EnvR g w H ρ τ σ) {kvs : List (D × D)} (h : dicAt ρ i = some kvs) : ∃ a ks, σ[i]? = some (some (V.ref a)) ∧ Rd H a (.dK ks) ∧ RepKV g w.Z w.tp kvs ks := by
  unfold dicAt at h
  split at h
  · rename_i e
    cases h
    obtain ⟨p, h1, ⟨ks, h2, h3⟩, _⟩ := own_slot env e
    exact ⟨p, ks, h1, .inl h2, h3⟩
  · rename_i e
    cases h
    rcases env.sl i _ e with ⟨p, h1, ⟨ks, h2, h3⟩, _⟩ | ⟨p, h1, ⟨_, _, _, _, e9, _⟩, _⟩
    · exact ⟨p, ks, getD_some h1, .inl h2, h3⟩
    · cases e9
  · rename_i e
    cases h
    obtain ⟨v, h1, h2⟩ := fz_slot env e
    rw [Rep] at h2
    obtain ⟨a, ks, rfl, h3, h4⟩ := h2
    exact ⟨a, ks, h1, .inl (env.zle _ _ h3), h4⟩
  · rename_i e
    cases h
    rcases env.sl i _ e with ⟨p, h1, h2, _⟩ | ⟨p, h1, ⟨_, _, o, ks, e9, h2, h3⟩, _⟩
    · exact h2.elim
    · cases e9
      exact ⟨p, ks, getD_some h1, .inr ⟨o, h2⟩, h3⟩
  · cases h
theorem py_dgetK {e : Expr} {ev : Ev} (ho : PE X (.Name x p1) (tVar i)) (he : PyE g k X W e ev) (hs : NoSl e := by intro _ _; rfl) : PyE g k X W (.Subscript (.Name x p1) e pos) (vDGet i ev) := fun A => (pe_dget (room_u A) ho (py_fz he A) hs).imp' fun σ H Q q => by
  obtain ⟨w, ρ, τ, env, q⟩ := q
  unfold vDGet at q
  cases e0 : dicAt ρ i with
  | none => simp only [e0] at q
  | some kvs0 =>
    obtain ⟨a0, ks0, g1, _, _⟩ := dic_at env e0
    refine ⟨.ref a0, g1, w, ρ, τ, env, ?_⟩
    simp only [e0] at q
    cases e1 : vFz ev ρ τ with
    | exc y ρ' τ' => simp only [e1] at q; exact q
    | bad => simp only [e1] at q
    | ok r ρ1 τ1 =>
      simp only [e1] at q
      cases r with
      | own d => exact q.elim
      | fz kd =>
        simp only [] at q
        intro w' H' y a hr
        cases e2 : dicAt ρ1 i with
        | none => simp only [e2] at q
        | some kvs =>
          cases e3 : keyD kd with
          | none => simp only [e2, e3] at q
          | some key =>
            cases e4 : lookK kvs key with
            | none => simp only [e2, e3, e4] at q
            | some d =>
              simp only [e2, e3, e4] at q
              obtain ⟨a1, ks, g2, g3, g4⟩ := dic_at a.env e2
              rw [g1] at g2
              cases g2
              rw [RsR, kD_of e3] at hr
              obtain ⟨v, g5, g6⟩ := rep_look g4 e4
              exact ⟨a0, v, rfl, .inl ⟨ks, key, g3, rep_key hr, g5.symm⟩, q w' H' v a g6⟩
theorem py_dputK {e ek : Expr} {ev evk : Ev} (ho : PE X (.Name x p1) (tVar i)) (he : PyE g k X W e ev) (hk : PyE g k X W ek evk) (hsw : swapsWith e (some (.Subscript (.Name x p1) ek pos')) pos.line X.env = pure false := by rfl) :
    PyS g k X W (.Assign [.Subscript (.Name x p1) ek pos'] e pos) (sDPutK i evk ev) := fun A => (ps_dput (room_u A) ho (py_fz hk A) (py_fz he A) hsw).imp' fun D σ H q => by
  obtain ⟨w, ρ, τ, env, q⟩ := q
  refine ⟨w, ρ, τ, env, ?_⟩
  have q : SGo g W w H ρ σ D (sDPutK i evk ev ρ τ) := q
  unfold sDPutK at q
  cases e1 : vFz ev ρ τ with
  | exc y ρ' τ' => simp only [e1] at q; exact fun w' H' cls dx a hx => q w' H' σ cls dx a hx
  | bad => simp only [e1] at q; exact q
  | ok r ρ1 τ1 =>
    simp only [e1] at q
    cases r with
    | own d => exact q.elim
    | fz d =>
      simp only [] at q
      intro w1 H1 v a hr
      cases e0 : dicAt ρ1 i with
      | none => simp only [e0] at q; exact q.elim
      | some kvs0 =>
        simp only [e0] at q
        obtain ⟨a0, ks0, g1, _, _⟩ := dic_at a.env e0
        refine ⟨.ref a0, g1, w1, ρ1, τ1, a.env, ?_⟩
        cases e2 : vFz evk ρ1 τ1 with
        | exc y ρ' τ' => simp only [e2] at q; exact fun w' H' cls dx b hx => q w' H' σ cls dx (a.trans b) hx
        | bad => simp only [e2] at q; exact q
        | ok r2 ρ2 τ2 =>
          simp only [e2] at q
          cases r2 with
          | own d => exact q.elim
          | fz kd =>
            simp only [] at q
            intro w2 H2 y b hk2
            cases e3 : keyD kd with
            | none => simp only [e3] at q; split at q <;> first | exact q.elim | (rename_i h; cases h)
            | some key =>
              cases e4 : ρ2[i]? with
              | none => simp only [e3, e4] at q; exact q.elim
              | some s =>
                cases s with
                | own dd =>
                  cases dd with
                  | dic kvs =>
                    simp only [e3, e4] at q
                    by_cases c : kvs.length < sizeLine
                    · rw [if_pos c] at q
                      obtain ⟨p, h1, ⟨ks, h2, h3⟩, hz, ht⟩ := own_slot b.env e4
                      rw [g1] at h1
                      cases h1
                      rw [RsR, kD_of e3] at hk2
                      have rv : Rep g w2.Z w2.tp d v := by rw [b.st.tp]; exact Rep.mono b.st.z _ hr
                      refine ⟨a0, _, rfl, .inl ⟨ks, key, h2, rep_key hk2, by rw [rep_lenK h3]; exact c, rfl⟩, ?_⟩
                      exact q w2 _ σ ((a.trans b).write e4 g1 ⟨_, h2, (fun xs z => nomatch z), (fun xs z => nomatch z)⟩ fun H3 h8 => ⟨_, h8, rep_put h3 rv⟩)
                    · rw [if_neg c] at q; exact q.elim
                  | _ => simp only [e3, e4] at q; exact q.elim
                | _ => simp only [e3, e4] at q; exact q.elim
end
end PD
namespace PD
open PySem PySem.Spec L2
open PyProof.Rows hiding St
/-- while ev runs, the container at the slot is only read -/
def vBor (i : Nat) (ev : Ev) : Ev := fun ρ τ => match ρ[i]? with
  | some (.own d) => (match ev (ρ.set i (.bor d)) τ with
    | .ok r ρ' τ' => .ok r (unbor i true ρ') τ'
    | .exc x ρ' τ' => .exc x (unbor i true ρ') τ'
    | .bad => .bad)
  | _ => ev ρ τ
/-- a list at a slot that is not one's own here -/
def srcB (i : Nat) : Src := fun ρ τ => match ρ[i]? with
  | some (.bor (.lst ds)) => .ok ds ρ τ
  | some (.fz (.lst ds)) => .ok ds ρ τ
  | some (.fz (.tup ds)) => .ok ds ρ τ
  | _ => .bad
def srcEnumB (i : Nat) : Src := fun ρ τ => match srcB i ρ τ with
  | .ok ds ρ' τ' => .ok (enumD 0 ds) ρ' τ'
  | .exc x ρ' τ' => .exc x ρ' τ'
  | .bad => .bad
section
variable {g : G} {k : Nat} {X : Cx} {W : WX} {x : Str} {p1 pos : Pos} {i : Nat}
theorem unbor_own {ρ : Rho} {σ : St} {a : Addr} {d : D} (h : cellAt (unbor i true ρ) σ a) : cellAt ρ σ a := by
  obtain ⟨j, s, h1, h2, h3⟩ := h
  unfold unbor at h1
  rw [if_pos rfl] at h1
  split at h1
  · rename_i e he
    rcases set_get h1 with ⟨rfl, rfl⟩ | ⟨_, h1⟩
    · exact ⟨_, _, he, rfl, h3⟩
    · exact ⟨j, s, h1, h2, h3⟩
  · exact ⟨j, s, h1, h2, h3⟩
theorem tD_bor {ev : Ev} {σ : St} {H : Hp} {Q : VK} (q : tD g W (vBor i ev) σ H Q) : tD g W ev σ H Q := by
  obtain ⟨w, ρ, τ, env, q⟩ := q
  unfold vBor at q
  split at q
  · rename_i hq
    split at hq
    · rename_i d e0
      refine ⟨w, ρ.set i (.bor d), τ, lend_env env e0, ?_⟩
      cases e1 : ev (ρ.set i (.bor d)) τ with
      | ok r ρ' τ' =>
        rw [e1] at hq
        injection hq with q1 q2 q3
        subst q1 q2 q3
        intro w' H' v a hr
        refine q w' H' v (unbor_ps env e0 a) ?_
        cases r with
        | fz d => exact hr
        | own d2 =>
          obtain ⟨p, e2, r1, r2, r3, r4, r5⟩ := hr
          refine ⟨p, e2, r1, r2, r3, fun c => r4 (unbor_own (d := d) c), r5.imp id ?_⟩
          rintro ⟨j, s, h1, h2, h3⟩
          rcases set_get h1 with ⟨rfl, rfl⟩ | ⟨_, h1⟩
          · cases h2
          · exact ⟨j, s, h1, h2, h3⟩
      | exc y ρ' τ' => rw [e1] at hq; cases hq
      | bad => rw [e1] at hq; cases hq
    · exact ⟨w, ρ, τ, env, by rw [hq]; exact q⟩
  · rename_i hq
    split at hq
    · rename_i d e0
      refine ⟨w, ρ.set i (.bor d), τ, lend_env env e0, ?_⟩
      cases e1 : ev (ρ.set i (.bor d)) τ with
      | ok r ρ' τ' => rw [e1] at hq; cases hq
      | exc y ρ' τ' =>
        rw [e1] at hq
        cases hq
        exact fun w' H' cls dx a hx => q w' H' cls dx (unbor_ps env e0 a) hx
      | bad => rw [e1] at hq; cases hq
    · exact ⟨w, ρ, τ, env, by rw [hq]; exact q⟩
  · exact q.elim
theorem py_bor {e : Expr} {ev : Ev} (h : PyE g k X W e ev) : PyE g k X W e (vBor i ev) := fun A => (h A).imp' fun _ _ _ q => tD_bor q
theorem bor_keep {w : Wd} {H : Hp} {ρ : Rho} {τ : Tape} {σ : St} (env : EnvR g w H ρ τ σ) {ds : List D} (e : ρ[i]? = some (.bor (.lst ds))) : ∃ p vs, σ[i]? = some (some (V.ref p)) ∧ H p = some (.lst vs) ∧ RepL g w.Z w.tp ds vs ∧ ∀ w1 H1 ρ1 τ1 σ1, Ps g w H ρ σ w1 H1 ρ1 τ1 σ1 → H1 p = some (.lst vs) := by
  obtain ⟨p, h1, ⟨vs, h3, h4⟩, z, tc⟩ : CellR g w H (.lst ds) ((σ[i]?).getD none) := by
    rcases env.sl i _ e with h | ⟨_, _, ⟨_, _, _, _, e9, _⟩, _⟩
    · exact h
    · cases e9
  have h1 := getD_some h1
  refine ⟨p, vs, h1, h3, h4, fun w1 H1 ρ1 τ1 σ1 b => b.st.fr p _ h3 (fun l => l.elim tc fun ⟨j, s, g1, o1, g3⟩ => ?_) fun ps z => nomatch z⟩
  by_cases hj : j = i
  · subst hj; rw [e] at g1; cases g1; cases o1
  · exact env.ap j i s _ p hj g1 o1 e rfl g3 h1
theorem py_srcB {tg : Expr} (ho : PE X (.Name x p1) (tVar i)) : PyI g k X W tg (.Name x p1) (srcB i) := fun A => (pi_seq ho).imp' fun σ H R q => by
  obtain ⟨w, ρ, τ, env, q⟩ := q
  unfold srcB at q
  show ∃ v, σ[i]? = some (some v) ∧ ∃ a xs, v = V.ref a ∧ ((SqL X.K H a xs ∧ _) ∨ (SqT X.K H a xs ∧ _))
  split at q
  · rename_i hq
    split at hq
    · rename_i e0
      cases hq
      obtain ⟨p, vs, h1, h3, h4, kp⟩ := bor_keep env e0
      exact ⟨_, h1, p, vs, rfl, .inl ⟨SqL.of h3, q w H _ (.refl env) (wk_list (τ := τ) A.K h4 kp)⟩⟩
    · rename_i e0
      cases hq
      obtain ⟨v, h1, h2⟩ := fz_slot env e0
      rw [Rep] at h2
      obtain ⟨a, vs, rfl, h3, h4⟩ := h2
      exact ⟨_, h1, a, vs, rfl, .inl ⟨SqL.of (env.zle _ _ h3), q w H _ (.refl env) (wk_list (τ := τ) A.K h4 fun w1 H1 ρ1 τ1 σ1 b => b.env.zle _ _ (b.st.z _ _ h3))⟩⟩
    · rename_i e0
      cases hq
      obtain ⟨v, h1, h2⟩ := fz_slot env e0
      rw [Rep] at h2
      obtain ⟨a, vs, rfl, h3, h4⟩ := h2
      exact ⟨_, h1, a, vs, rfl, .inr ⟨by rw [A.K]; exact SqT.mono env.zle h3, q w H _ (.refl env) (wk_tup (τ := τ) A.K h4 h3)⟩⟩
    · cases hq
  · rename_i hq; split at hq <;> cases hq
  · exact q.elim
theorem py_enumB {tg : List Expr} {n : Nat} {tp : Pos} {p : Pos} (ho : PE X (.Name x p1) (tVar i)) (hm : g.mg "enumerate" = none) (hg : Gl X "enumerate" := by rfl) (hs : starEach [.Name x p1] X.env = (false, eval (.Name x p1) X.env) :: starEach [] X.env := by rfl) (hs' : starEach [.Name x p1] X.env = [(false, eval (.Name x p1) X.env)] := by rfl) :
    PyI g k X W (.Tuple tg n tp) (.Call (.Name "enumerate" p) [.Name x p1] [] pos) (srcEnumB i) := fun A => (pi_enumA hg (by rw [A.mg]; exact hm) (pa_cons ho pa_nil hs) hs').imp' fun σ H R q => by
  obtain ⟨w, ρ, τ, env, q⟩ := q
  unfold srcEnumB srcB at q
  show ∃ v, σ[i]? = some (some v) ∧ ∃ a xs, [v] = [V.ref a] ∧ ((SqL X.K H a xs ∧ _) ∨ (SqT X.K H a xs ∧ _))
  split at q
  · rename_i hq
    split at hq
    · rename_i h2
      cases hq
      split at h2
      · rename_i e0
        cases h2
        obtain ⟨p, vs, h1, h3, h4, kp⟩ := bor_keep env e0
        exact ⟨_, h1, p, vs, rfl, .inl ⟨SqL.of h3, q w H _ (.refl env) (wk_enum A.K h4 fun w1 H1 ρ1 τ1 σ1 b => SqL.of (kp w1 H1 ρ1 τ1 σ1 b))⟩⟩
      · rename_i e0
        cases h2
        obtain ⟨v, h1, h2⟩ := fz_slot env e0
        rw [Rep] at h2
        obtain ⟨a, vs, rfl, h3, h4⟩ := h2
        exact ⟨_, h1, a, vs, rfl, .inl ⟨SqL.of (env.zle _ _ h3), q w H _ (.refl env) (wk_enum A.K h4 fun w1 H1 ρ1 τ1 σ1 b => SqL.of (b.env.zle _ _ (b.st.z _ _ h3)))⟩⟩
      · rename_i e0
        cases h2
        obtain ⟨v, h1, h2⟩ := fz_slot env e0
        rw [Rep] at h2
        obtain ⟨a, vs, rfl, h3, h4⟩ := h2
        exact ⟨_, h1, a, vs, rfl, .inr ⟨by rw [A.K]; exact SqT.mono env.zle h3, q w H _ (.refl env) (wk_enumT A.K h4 h3)⟩⟩
      · cases h2
    · cases hq
    · cases hq
  · rename_i hq
    split at hq
    · cases hq
    · rename_i h2; split at h2 <;> cases h2
    · cases hq
  · exact q.elim
end
def noDic (i : Nat) (ρ : Rho) : Bool := (List.range ρ.length).all fun j => decide (j = i) || (match ρ[j]? with
  | some (.bor (.dic _)) => false
  | _ => true)
def unlk (i : Nat) (ρ : Rho) : Rho := match ρ[i]? with
  | some (.bor (.clo _ [.dic kvs])) => ρ.set i (.bor (.dic kvs))
  | _ => ρ
def sForK (i : Nat) (t : Tg) (body : Sv) : Sv := fun ρ τ => match ρ[i]? with
  | some (.bor (.dic kvs)) => if noDic i ρ then (match forL t body (kvs.map (·.1)) (ρ.set i (.bor (.clo 0 [.dic kvs]))) τ with
    | .nx ρ2 τ2 => .nx (unlk i ρ2) τ2
    | .rt r τ2 => .rt r τ2
    | _ => .bad) else .bad
  | _ => .bad
section
variable {g : G} {k : Nat} {X : Cx} {W : WX} {x : Str} {p1 pos : Pos} {i : Nat}
theorem lock_env {w : Wd} {H : Hp} {ρ : Rho} {τ : Tape} {σ : St} (env : EnvR g w H ρ τ σ) {kvs : List (D × D)} (e : ρ[i]? = some (.bor (.dic kvs))) (nd : noDic i ρ = true) {p : Addr} {ks : List (Key × V)} (hp : σ[i]? = some (some (V.ref p))) (h1 : H p = some (.dK ks)) (h2 : RepKV g w.Z w.tp kvs ks) (hz : w.Z p = none) (ht : ¬ tcell w p) (od : Obj) :
    EnvR g w (upd H p (.frz od (.dK ks))) (ρ.set i (.bor (.clo 0 [.dic kvs]))) τ σ := by
  have il : i < ρ.length := (List.getElem?_eq_some_iff.mp e).1
  have own_ne : ∀ (j : Nat) d, ρ[j]? = some (.own d) → σ[j]? = some (some (V.ref p)) → False := fun j d h h' => by
    have n : j ≠ i := fun q => by rw [q, e] at h; cases h
    exact env.ap j i _ _ p n h rfl e rfl h' hp
  refine ⟨by rw [List.length_set]; exact env.len, fun j s h => ?_, fun j l s t q n g1 o1 g2 o2 g3 g4 => ?_, fun a o q => ?_, fun t l c q => ?_, env.tabs.ext fun b ps h => ?_⟩
  · rcases set_get h with ⟨rfl, rfl⟩ | ⟨n, h⟩
    · refine .inr ⟨p, by rw [hp]; rfl, ⟨0, kvs, od, ks, rfl, upd_same, h2⟩, hz, ht⟩
    · have := env.sl j s h
      cases s with
      | un => trivial
      | fz d => exact this
      | own d =>
        obtain ⟨q, e2, r2, z2, t2⟩ := this
        have nq : q ≠ p := fun z => own_ne j d h (by rw [← z]; exact getD_some e2)
        refine ⟨q, e2, ?_, z2, t2⟩
        cases d with
        | lst ds => obtain ⟨vs, k1, k2⟩ := r2; exact ⟨vs, by rw [upd_ne nq]; exact k1, k2⟩
        | dic ds => obtain ⟨vs, k1, k2⟩ := r2; exact ⟨vs, by rw [upd_ne nq]; exact k1, k2⟩
        | _ => exact r2
      | bor d =>
        rcases this with ⟨q, e2, r2, z2, t2⟩ | ⟨q, e2, ⟨m, kv2, o2, ks2, e3, k1, k2⟩, z2, t2⟩
        · left
          refine ⟨q, e2, ?_, z2, t2⟩
          cases d with
          | lst ds =>
            obtain ⟨vs, k1, k2⟩ := r2
            have nq : q ≠ p := fun z => by rw [z, h1] at k1; cases k1
            exact ⟨vs, by rw [upd_ne nq]; exact k1, k2⟩
          | dic ds =>
            exfalso
            have jl : j < ρ.length := (List.getElem?_eq_some_iff.mp h).1
            have := List.all_eq_true.mp nd j (List.mem_range.mpr jl)
            rw [h] at this
            simp [n] at this
          | _ => exact r2
        · right
          have nq : q ≠ p := fun z => by rw [z, h1] at k1; cases k1
          exact ⟨q, e2, ⟨m, kv2, o2, ks2, e3, by rw [upd_ne nq]; exact k1, k2⟩, z2, t2⟩
  · rcases set_get g1 with ⟨_, e8⟩ | ⟨n1, k1⟩
    · rw [e8] at o1; cases o1
    · rcases set_get g2 with ⟨e7, e8⟩ | ⟨n2, k2⟩
      · exact env.ap j i s _ q n1 k1 o1 e rfl g3 (by rw [← e7]; exact g4)
      · exact env.ap j l s t q n k1 o1 k2 o2 g3 g4
  · have nq : a ≠ p := fun z => by rw [z, hz] at q; cases q
    rw [upd_ne nq]; exact env.zle a o q
  · have T := env.tape t l c q
    have n1 : t ≠ p := fun z => ht (z ▸ ⟨t, l, c, q, .inl rfl⟩)
    have n2 : l ≠ p := fun z => ht (z ▸ ⟨t, l, c, q, .inr rfl⟩)
    exact ⟨by rw [upd_ne n1]; exact T.ht, by rw [upd_ne n2]; exact T.hl, T.hc, T.zt, T.zl⟩
  · have nq : b ≠ p := fun z => by rw [z, h1] at h; cases h
    rw [upd_ne nq]; exact h
theorem lock_ps {w : Wd} {H : Hp} {ρ : Rho} {τ : Tape} {σ : St} (env : EnvR g w H ρ τ σ) {kvs : List (D × D)} (e : ρ[i]? = some (.bor (.dic kvs))) {p : Addr} {ks : List (Key × V)} (hp : σ[i]? = some (some (V.ref p))) (h1 : H p = some (.dK ks)) (h2 : RepKV g w.Z w.tp kvs ks) (hz : w.Z p = none) (ht : ¬ tcell w p) {od : Obj}
    {w' : Wd} {H' : Hp} {ρ' : Rho} {τ' : Tape} {σ' : St} (b : Ps g w (upd H p (.frz od (.dK ks))) (ρ.set i (.bor (.clo 0 [.dic kvs]))) σ w' H' ρ' τ' σ') :
    H' p = some (.frz od (.dK ks)) ∧ Ps g w H ρ σ w' (upd H' p (.dK ks)) (unlk i ρ') τ' σ' ∧ (∀ q d, OwnR g w' H' d q → OwnR g w' (upd H' p (.dK ks)) d q) ∧ (∀ q, cellAt (unlk i ρ') σ' q → cellAt ρ' σ' q) ∧ (∀ q, ownAt (ρ.set i (.bor (.clo 0 [.dic kvs]))) σ q → ownAt ρ σ q) := by
  have il : i < ρ.length := (List.getElem?_eq_some_iff.mp e).1
  have own_ne : ¬ ownAt ρ σ p := fun ⟨j, s, h, o, h'⟩ => by
    have n : j ≠ i := fun q => by rw [q, e] at h; cases h; cases o
    exact env.ap j i _ _ p n h o e rfl h' hp
  have lo : ∀ q, ownAt (ρ.set i (.bor (.clo 0 [.dic kvs]))) σ q → ownAt ρ σ q := fun q ⟨j, s, g1, o1, g3⟩ => by
    rcases set_get g1 with ⟨rfl, rfl⟩ | ⟨_, g1⟩
    · cases o1
    · exact ⟨j, s, g1, o1, g3⟩
  have nl : ¬ Lic w (ρ.set i (.bor (.clo 0 [.dic kvs]))) σ p := fun l => l.elim ht fun o => own_ne (lo p o)
  have hH' : H' p = some (.frz od (.dK ks)) := b.st.fr p _ upd_same nl fun ps z => nomatch z
  have zp : w'.Z p = none := by
    cases q : w'.Z p with
    | none => rfl
    | some u =>
      rcases b.st.nz p hz (by rw [q]; exact fun z => nomatch z) with n | n
      · rw [upd_same] at n; cases n
      · exact (nl n).elim
  have tp' : ¬ tcell w' p := fun t => ht ((tcell_tp b.st.tp).mp t)
  have h2' : RepKV g w'.Z w'.tp kvs ks := by rw [b.st.tp]; exact RepKV.mono b.st.z _ h2
  have ow : ∀ q d, OwnR g w' H' d q → OwnR g w' (upd H' p (.dK ks)) d q := fun q d r => by
    cases d with
    | lst ds =>
      obtain ⟨vs, k1, k2⟩ := r
      have nq : q ≠ p := fun z => by rw [z, hH'] at k1; cases k1
      exact ⟨vs, by rw [upd_ne nq]; exact k1, k2⟩
    | dic ds =>
      obtain ⟨vs, k1, k2⟩ := r
      have nq : q ≠ p := fun z => by rw [z, hH'] at k1; cases k1
      exact ⟨vs, by rw [upd_ne nq]; exact k1, k2⟩
    | _ => exact r
  -- what stands at the slots behind
  have lkd : ∀ (j : Nat) m kv2, ρ'[j]? = some (.bor (.clo m [.dic kv2])) → σ'[j]? = some (some (V.ref p)) → j = i ∧ kv2 = kvs := fun j m kv2 h h' => by
    obtain ⟨g1, g2⟩ := b.bor j _ h
    rcases set_get g1 with ⟨rfl, e9⟩ | ⟨n, g1⟩
    · cases e9; exact ⟨rfl, rfl⟩
    · exfalso
      rcases env.sl j _ g1 with ⟨q, e2, r2, _⟩ | ⟨q, e2, ⟨_, _, _, _, _, k1, _⟩, _⟩
      · exact r2.elim
      · rw [← g2, h'] at e2
        cases e2
        rw [h1] at k1; cases k1
  have slot : ∀ (j : Nat) s, ρ'[j]? = some s → (∀ m kv2, s ≠ .bor (.clo m [.dic kv2]) ∨ j ≠ i) → SlR g w' (upd H' p (.dK ks)) s ((σ'[j]?).getD none) := fun j s h ns => by
    have := b.env.sl j s h
    cases s with
    | un => trivial
    | fz d => exact this
    | own d => obtain ⟨q, e2, r2, z2, t2⟩ := this; exact ⟨q, e2, ow q d r2, z2, t2⟩
    | bor d =>
      rcases this with ⟨q, e2, r2, z2, t2⟩ | ⟨q, e2, ⟨m, kv2, o2, ks2, rfl, k1, k2⟩, z2, t2⟩
      · exact .inl ⟨q, e2, ow q d r2, z2, t2⟩
      · right
        have nq : q ≠ p := fun z => by
          obtain ⟨e8, _⟩ := lkd j m kv2 h (by rw [← z]; exact getD_some e2)
          rcases ns m kv2 with n | n
          · exact n rfl
          · exact n e8
        exact ⟨q, e2, ⟨m, kv2, o2, ks2, rfl, by rw [upd_ne nq]; exact k1, k2⟩, z2, t2⟩
  have unl : ∀ (j : Nat) s, (unlk i ρ')[j]? = some s → (j = i ∧ s = .bor (.dic kvs) ∧ σ'[j]? = some (some (V.ref p)) ∧ ρ'[j]? = some (.bor (.clo 0 [.dic kvs]))) ∨ (ρ'[j]? = some s ∧ ∀ m kv2, s ≠ .bor (.clo m [.dic kv2]) ∨ j ≠ i) := fun j s h => by
    unfold unlk at h
    split at h
    · rename_i m kv2 he
      obtain ⟨g1, g2⟩ := b.bor i _ he
      rcases set_get g1 with ⟨_, e9⟩ | ⟨n, _⟩
      · cases e9
        rcases set_get h with ⟨rfl, rfl⟩ | ⟨n, h⟩
        · exact .inl ⟨rfl, rfl, by rw [g2]; exact hp, he⟩
        · exact .inr ⟨h, fun _ _ => .inr n⟩
      · exact (n rfl).elim
    · rename_i hno
      refine .inr ⟨h, fun m kv2 => ?_⟩
      by_cases c : j = i
      · subst c
        exact .inl fun z => hno m kv2 (by rw [h, z])
      · exact .inr c
  have cl : ∀ q, cellAt (unlk i ρ') σ' q → cellAt ρ' σ' q := fun q ⟨j, s, g1, o1, g3⟩ => by
    rcases unl j s g1 with ⟨rfl, rfl, _, h⟩ | ⟨h, _⟩
    · exact ⟨_, _, h, rfl, g3⟩
    · exact ⟨j, s, h, o1, g3⟩
  have ol : ∀ q, ownAt (unlk i ρ') σ' q → ownAt ρ' σ' q := fun q ⟨j, s, g1, o1, g3⟩ => by
    rcases unl j s g1 with ⟨rfl, rfl, _, h⟩ | ⟨h, _⟩
    · cases o1
    · exact ⟨j, s, h, o1, g3⟩
  refine ⟨hH', ⟨⟨?_, fun j s h => ?_, fun j l s t q n g1 o1 g2 o2 g3 g4 => ?_, fun a o q => ?_, fun t l c q => ?_, b.env.tabs.ext fun c ps h => ?_⟩, ⟨b.st.z, b.st.tp, fun a o h n nt => ?_, fun a e2 n => ?_, fun a h => ?_⟩, fun a h => ?_, fun j d h => ?_⟩, ow, cl, lo⟩
  · rw [← b.env.len]
    unfold unlk
    split
    · rw [List.length_set]
    · rfl
  · rcases unl j s h with ⟨rfl, rfl, h', _⟩ | ⟨h, ns⟩
    · exact .inl ⟨p, by rw [h']; rfl, ⟨ks, upd_same, h2'⟩, zp, tp'⟩
    · exact slot j s h ns
  · have c2 : ∃ t', ρ'[l]? = some t' ∧ isCell t' = true := by
      rcases unl l t g2 with ⟨rfl, rfl, _, h⟩ | ⟨h, _⟩
      · exact ⟨_, h, rfl⟩
      · exact ⟨t, h, o2⟩
    obtain ⟨t', k1, k2⟩ := c2
    rcases unl j s g1 with ⟨rfl, rfl, _, h⟩ | ⟨h, _⟩
    · cases o1
    · exact b.env.ap j l s t' q n h o1 k1 k2 g3 g4
  · have nq : a ≠ p := fun z => by rw [z, zp] at q; cases q
    rw [upd_ne nq]; exact b.env.zle a o q
  · have T := b.env.tape t l c q
    have n1 : t ≠ p := fun z => tp' (z ▸ ⟨t, l, c, q, .inl rfl⟩)
    have n2 : l ≠ p := fun z => tp' (z ▸ ⟨t, l, c, q, .inr rfl⟩)
    exact ⟨by rw [upd_ne n1]; exact T.ht, by rw [upd_ne n2]; exact T.hl, T.hc, T.zt, T.zl⟩
  · have nq : c ≠ p := fun z => by rw [z, hH'] at h; cases h
    rw [upd_ne nq]; exact h
  · by_cases ha : a = p
    · subst ha
      rw [h1] at h
      cases h
      exact upd_same
    · rw [upd_ne ha]
      exact b.st.fr a o (by rw [upd_ne ha]; exact h) (fun l => n (l.imp id (lo a))) nt
  · by_cases ha : a = p
    · subst ha
      exact (n zp).elim
    · rcases b.st.nz a e2 n with m | m
      · rw [upd_ne ha] at m; exact .inl m
      · exact .inr (m.imp id (lo a))
  · by_cases ha : a = p
    · subst ha
      rw [upd_same] at h; cases h
    · rw [upd_ne ha] at h
      have := b.st.al a h
      rwa [upd_ne ha] at this
  · rcases b.lic a (ol a h) with m | m
    · exact .inl (lo a m)
    · by_cases ha : a = p
      · subst ha; rw [upd_same] at m; cases m
      · rw [upd_ne ha] at m; exact .inr m
  · rcases unl j _ h with ⟨rfl, e9, h', _⟩ | ⟨h, ns⟩
    · cases e9
      exact ⟨e, by rw [h', hp]⟩
    · obtain ⟨g1, g2⟩ := b.bor j d h
      rcases set_get g1 with ⟨rfl, e9⟩ | ⟨n, g1⟩
      · cases e9
        rcases ns 0 kvs with m | m
        · exact (m rfl).elim
        · exact (m rfl).elim
      · exact ⟨g1, g2⟩
theorem walk_keysK {d : Addr} {o : Obj} {kvs : List (Key × V)} : Walk (Itk d o kvs) kvs.length (fun H => H d = some (.frz o (.dK kvs))) (fun i H x H' => H' = H ∧ ∃ k v, kvs[i]? = some (k, v) ∧ x = kV k) :=
  ⟨fun i H h q => ⟨q, h⟩, fun H q => ⟨q, Nat.le_refl _⟩, fun i H x H' _ _ y => y⟩
theorem py_forK {tg : Expr} {body : List Stmt} {t : Tg} {b : Sv} (ho : PE X (.Name x p1) (tVar i)) (hg : PyG g k X W tg t) (hb : PySs g k X W body b) (hs : ∀ y, foldedSetIterable (.Name x p1) X.env y = pure y := by intro _; rfl) :
    PyS g k X W (.For tg (.Name x p1) body [] pos) (sForK i t b) := fun A => (ps_lock (ps_for A.passes A.calm (pi_keys ho) (hg A) (hb A) hs)).imp' fun D σ H q => by
  obtain ⟨w, ρ, τ, env, q⟩ := q
  have q : SGo g W w H ρ σ D (sForK i t b ρ τ) := q
  unfold sForK at q
  split at q
  · rename_i kvs e
    by_cases nd : noDic i ρ = true
    · rw [if_pos nd] at q
      obtain ⟨p, hp, ⟨ks, h1, h2⟩, hz, ht⟩ : CellR g w H (.dic kvs) ((σ[i]?).getD none) := by
        rcases env.sl i _ e with h | ⟨_, _, ⟨_, _, _, _, e9, _⟩, _⟩
        · exact h
        · cases e9
      have hp := getD_some hp
      refine ⟨p, .dK ks, h1, trivial, fun od => ?_⟩
      have env1 := lock_env env e nd hp h1 h2 hz ht od
      show ∃ v, σ[i]? = some (some v) ∧ ∃ d o, v = V.ref d ∧ _
      refine ⟨.ref p, hp, p, od, rfl, .inl ⟨ks, upd_same, for_go env1 (ds := kvs.map (·.1)) ⟨_, _, by rw [List.length_map, ← rep_lenK h2]; exact walk_keysK, fun w1 H1 ρ1 τ1 σ1 c => (lock_ps env e hp h1 h2 hz ht c).1, fun j d w1 H1 ρ1 τ1 σ1 y H2 hd c yy => ?_⟩ ?_⟩⟩
      · obtain ⟨rfl, kk, v, hk, rfl⟩ := yy
        obtain ⟨dd, hdd⟩ := rep_atK h2 hk
        rw [List.getElem?_map, hdd] at hd
        cases hd
        refine ⟨w1, .refl c.env, ?_⟩
        cases kk <;> (rw [kD, Rep]; rfl)
      · cases e2 : forL t b (kvs.map (·.1)) (ρ.set i (.bor (.clo 0 [.dic kvs]))) τ with
        | nx ρ2 τ2 =>
          simp only [e2] at q
          intro w' H' σ' c
          obtain ⟨z1, z2, _⟩ := lock_ps env e hp h1 h2 hz ht c
          exact ⟨z1, q w' _ σ' z2⟩
        | rt r τ2 =>
          simp only [e2] at q
          intro w' H' σ' ρ' v c hr
          obtain ⟨z1, z2, z3, z4, z5⟩ := lock_ps env e hp h1 h2 hz ht c
          refine ⟨z1, q w' _ σ' _ v z2 ?_⟩
          cases r with
          | fz d => exact hr
          | own d =>
            obtain ⟨a, e3, r1, r2, r3, r4, r5⟩ := hr
            refine ⟨a, e3, z3 _ _ r1, r2, r3, fun c => r4 (z4 _ c), ?_⟩
            rcases r5 with m | m
            · by_cases ha : a = p
              · subst ha; rw [upd_same] at m; cases m
              · rw [upd_ne ha] at m; exact .inl m
            · exact .inr (z5 _ m)
        | _ => simp only [e2] at q; exact q.elim
    · rw [if_neg nd] at q; exact q.elim
  · exact q.elim
end
end PD
namespace PD
open PySem PySem.Spec L2
open PyProof.Rows hiding St
def dist (ns : List Int) : Nat := (firstMet (fun i => ns.getD i 0) ns.length).length
def tLenSetI (K : PySem.W.Frag) (ta : TE) : TE := fun σ H Q => ta σ H fun x H1 => ∃ l, ∃ ns : List Int, x = .ref l ∧ SqL K H1 l (ns.map V.int) ∧ ns.length + 1 < scanBound ∧ Q (.int (dist ns)) H1
theorem pe_lenSetI {X : Cx} {a : Expr} {ta : TE} {p p2 q pos : Pos} (hc : X.calm = true) (hg : Gl X "len") (hm : X.mg "len" = none) (hg2 : Gl X "set") (hm2 : X.mg "set" = none) (ha : PE X a ta)
    (na : starEach [a] X.env = (false, eval a X.env) :: starEach [] X.env := by rfl) : PE X (.Call (.Name "len" p) [.Call (.Name "set" p2) [a] [] q] [] pos) (tLenSetI X.K ta) := by
  refine ⟨fun pins s σ H Q I h => ?_⟩
  refine Call_ (ld_blt I hg hm boot_len ?_)
  refine PyProof.Rows.callWith_builtin1 (PyProof.Rows.args_cons ?_ rfl) rfl rfl
  refine Call_ (ld_blt I hg2 hm2 boot_set ?_)
  refine PyProof.Rows.callWith_type1 (PyProof.Rows.args_cons (thn (ha.run pins s σ H _ I h) fun v s1 ⟨x, H1, I1, r1, q1⟩ => PyProof.Rows.args_nil ?_) na) na rfl
  obtain ⟨l, ns, rfl, hq, h1, q1⟩ := q1
  cases r1
  obtain ⟨its, r, pl, hz⟩ := I1.list hq
  have hl : its.toArray.size = ns.length := by rw [List.size_toArray, ← r.length, List.length_map]
  refine PySem.call_set_list (I1.ok.hd hc) pl.isList (by simpa using r.ints) (by rw [hl]; exact h1) fun h' tk hS hk => ?_
  refine PyProof.Rows.args_nil ?_
  rw [hl] at hS
  obtain ⟨o, es, ep, t, ho, hex, hd, _, _, _, hf, hn⟩ := hS
  have I2 : Inv X pins σ H1 { s1 with heap := h', toks := tk } := I1.kept fun b o e => hk b o (Heap.lt_size e) e
  have hle := firstMet_length_le (fun i => ns.getD i 0) ns.length
  have hsb : scanBound = 4096 := rfl
  refine call_len_set ho hex hd hf (by rw [hn]; have : (2:Nat)^63 = 9223372036854775808 := rfl; omega) ⟨.int (dist ns), H1, I2.tok _, ⟨_, by rw [hn]; rfl⟩, q1⟩
def vLenSet (ev : Ev) : Ev := fun ρ τ => match vFz ev ρ τ with
  | .ok (.fz (.lst ds)) ρ1 τ1 => (match nsOf ds with
    | some ns => if ns.length + 1 < scanBound then .ok (.fz (.int (dist ns))) ρ1 τ1 else .bad
    | none => .bad)
  | .ok _ _ _ => .bad
  | .exc x ρ1 τ1 => .exc x ρ1 τ1
  | .bad => .bad
theorem py_lenSet {g : G} {k : Nat} {X : Cx} {W : WX} {e : Expr} {ev : Ev} {p p2 q pos : Pos} (he : PyE g k X W e ev) (hm : g.mg "len" = none) (hm2 : g.mg "set" = none) (hg : Gl X "len" := by rfl) (hg2 : Gl X "set" := by rfl) (na : starEach [e] X.env = (false, eval e X.env) :: starEach [] X.env := by rfl) :
    PyE g k X W (.Call (.Name "len" p) [.Call (.Name "set" p2) [e] [] q] [] pos) (vLenSet ev) := fun A => (pe_lenSetI A.calm hg (by rw [A.mg]; exact hm) hg2 (by rw [A.mg]; exact hm2) (py_fz he A) na).imp' fun σ H Q q => by
  obtain ⟨w, ρ, τ, env, q⟩ := q
  refine ⟨w, ρ, τ, env, ?_⟩
  unfold vLenSet at q
  cases e : vFz ev ρ τ with
  | exc y ρ' τ' => simp only [e] at q; exact q
  | bad => simp only [e] at q
  | ok r ρ1 τ1 =>
    simp only [e] at q
    cases r with
    | own d => exact q.elim
    | fz d =>
      cases d with
      | lst ds =>
        simp only [] at q
        cases e2 : nsOf ds with
        | none => rw [e2] at q; exact q.elim
        | some ns =>
          rw [e2] at q
          simp only [] at q
          by_cases c : ns.length + 1 < scanBound
          · rw [if_pos c] at q
            intro w' H' v a hr
            rw [RsR, Rep] at hr
            obtain ⟨l, vs, rfl, h1, h2⟩ := hr
            cases rep_ns h2 e2
            rw [A.K]
            exact ⟨l, ns, rfl, SqL.of (a.env.zle _ _ h1), c, q _ _ _ a (by rw [RsR, Rep])⟩
          · rw [if_neg c] at q; exact q.elim
      | _ => exact q.elim
end PD
namespace PD
open PySem PySem.Spec L2
open PyProof.Rows hiding St
theorem it_any {J : It} {n : Nat} {G : Hp → Prop} {Y : Nat → Hp → V → Hp → Prop} (w : Walk J n G Y) {B : V → Hp → (Hp → Prop) → Prop} {H0 : Hp} {Qd : Hp → Prop} (Pv : Nat → Hp → Prop) (h0 : Pv 0 H0) (hG : ∀ i H, i ≤ n → Pv i H → G H)
    (hs : ∀ i x H H', i < n → Pv i H → Y i H x H' → B x H' (Pv (i + 1))) (hd : ∀ H, Pv n H → Qd H) :
    ∃ W : Nat → Nat → Hp → Prop, (∃ m, W 0 m H0) ∧ ∀ i m H, W i m H → (J.stop i H ∧ Qd H) ∨ (J.go i H ∧ ∃ Nx : Hp → Prop, (∀ H', Nx H' → ∃ m', m' < m ∧ W (i + 1) m' H') ∧ ∀ x H', J.yld i H x H' → B x H' Nx) := by
  refine ⟨fun i m H => m = n - i ∧ i ≤ n ∧ Pv i H, ⟨n, by simp, Nat.zero_le _, h0⟩, ?_⟩
  rintro i m H ⟨rfl, hi, p⟩
  have q := hG i H hi p
  by_cases hlt : i < n
  · exact .inr ⟨w.goes i H hlt q, Pv (i + 1), fun H' p' => ⟨n - (i + 1), by omega, rfl, hlt, p'⟩, fun x H' y => hs i x H H' hlt p (w.yields i H x H' hlt q y)⟩
  · have e : i = n := by omega
    subst e
    exact .inl ⟨w.stops H q, hd H p⟩
def tIr (g : G) (W : WX) (src : Src) : TI := fun σ H R => ∃ w ρ τ, EnvR g w H ρ τ σ ∧ match src ρ τ with
  | .ok ds ρ' τ' => ∀ w' H' lo n, Ps g w H ρ σ w' H' ρ' τ' σ → ds = rngL lo n → R (Itr lo n) H'
  | .exc x ρ' τ' => ∀ w' H' cls dx, Ps g w H ρ σ w' H' ρ' τ' σ → ExR g w' x cls dx → W cls dx σ H'
  | .bad => False
def PyIr (g : G) (k : Nat) (X : Cx) (W : WX) (tg e : Expr) (src : Src) : Prop := At g k X W → PI X tg e (tIr g W src)
section
variable {g : G} {k : Nat} {X : Cx} {W : WX}
theorem range_qr {args : List Arg} {σ : St} {H : Hp} {R : It → Hp → Prop} (q : tIr g W (srcR args) σ H R) : argsT g W args σ H fun vs H1 => (∃ j : Int, vs = [.int j] ∧ -(2 ^ 62) ≤ j ∧ j < 2 ^ 62 ∧ R (Itr 0 j.toNat) H1) ∨ ∃ i j : Int, vs = [.int i, .int j] ∧ (-(2 ^ 62) ≤ i ∧ i < 2 ^ 62 ∧ -(2 ^ 62) ≤ j ∧ j < 2 ^ 62) ∧ R (Itr i (j - i).toNat) H1 := by
  obtain ⟨w, ρ, τ, env, q⟩ := q
  refine args_fz env ?_
  unfold srcR at q
  cases e : aFz args ρ τ with
  | ok ds ρ' τ' =>
    simp only [e] at q
    intro w' H' vs a hr
    cases e2 : rngD ds with
    | none => simp [e2] at q
    | some l =>
      simp only [e2] at q
      unfold rngD at e2
      split at e2
      · split at e2 <;> cases e2
        rename_i c
        obtain ⟨u, rfl, ru⟩ := hr.one'
        rw [Rep] at ru
        subst ru
        exact .inl ⟨_, rfl, c.1, c.2, q w' H' _ _ a rfl⟩
      · split at e2 <;> cases e2
        rename_i c
        obtain ⟨u, v, rfl, ru, rv⟩ := hr.two
        rw [Rep] at ru rv
        subst ru rv
        exact .inr ⟨_, _, rfl, ⟨c.1.1, c.1.2, c.2.1, c.2.2⟩, q w' H' _ _ a rfl⟩
      · cases e2
  | exc x ρ' τ' => simp only [e] at q; exact q
  | bad => simp only [e] at q
theorem pyr_range1 {tg a : Expr} {A : Arg} {p pos : Pos} (ha : PyArg g k X W a A) (hm : g.mg "range" = none) (hg : Gl X "range" := by rfl) (hs : starEach [a] X.env = (false, eval a X.env) :: starEach [] X.env := by rfl) (hs' : starEach [a] X.env = [(false, eval a X.env)] := by rfl) :
    PyIr g k X W tg (.Call (.Name "range" p) [a] [] pos) (srcR [A]) := fun At => (pi_range1 hg (by rw [At.mg]; exact hm) (pa_cons (ha.2 At) pa_nil hs) hs').imp' fun σ H R q => by
  have := range_qr q
  rw [argsT_cons ha.1] at this
  refine argE_mono (fun x H' z => ?_) this
  rcases z with z | ⟨i, j, e, _⟩
  · exact z
  · cases e
theorem pyr_range2 {tg a b : Expr} {A B : Arg} {p pos : Pos} (ha : PyArg g k X W a A) (hb : PyArg g k X W b B) (hm : g.mg "range" = none) (hg : Gl X "range" := by rfl) (h1 : starEach [a, b] X.env = (false, eval a X.env) :: starEach [b] X.env := by rfl) (h2 : starEach [b] X.env = (false, eval b X.env) :: starEach [] X.env := by rfl)
    (hs : starEach [a, b] X.env = [(false, eval a X.env), (false, eval b X.env)] := by rfl) (hs2 : starEach [b] X.env = [(false, eval b X.env)] := by rfl) :
    PyIr g k X W tg (.Call (.Name "range" p) [a, b] [] pos) (srcR [A, B]) := fun At => (pi_range2 hg (by rw [At.mg]; exact hm) (pa_cons (ha.2 At) (pa_cons (hb.2 At) pa_nil h2) h1) hs hs2).imp' fun σ H R q => by
  have := range_qr q
  rw [argsT_cons ha.1, argsT_cons hb.1] at this
  refine argE_mono (fun x H' z => argE_mono (fun y H2 z => ?_) z) this
  rcases z with ⟨j, e, _⟩ | z
  · cases e
  · exact z
/-- a walk of the second clause is a range -/
def isRng (ds : List D) : Option (Int × Nat) := match ds with
  | [] => some (0, 0)
  | .int lo :: _ => some (lo, ds.length)
  | _ => none
def lcL2 (t : Tg) (test : Tv) (src1 : Src) (t1 : Tg) (test1 : Tv) (elt : Ev) (own vs1 : List Nat) : List D → List D → Rho → Tape → O (List D)
  | [], acc, ρ, τ => .ok acc ρ τ
  | d :: ds, acc, ρ, τ => match asg t d ρ with
    | none => .bad
    | some ρ1 => (match test ρ1 τ with
      | .ok true ρ2 τ2 => (match src1 ρ2 τ2 with
        | .ok ds1 ρ3 τ3 => (match lcL t1 test1 elt vs1 ds1 acc (wipeR ρ3 vs1) τ3 with
          | .ok acc' ρ4 τ4 => lcL2 t test src1 t1 test1 elt own vs1 ds acc' (wipeR ρ4 own) τ4
          | _ => .bad)
        | _ => .bad)
      | .ok false ρ2 τ2 => lcL2 t test src1 t1 test1 elt own vs1 ds acc (wipeR ρ2 own) τ2
      | _ => .bad)
def vLc2 (src : Src) (t : Tg) (own : List Nat) (test : Tv) (src1 : Src) (t1 : Tg) (vs1 : List Nat) (test1 : Tv) (elt : Ev) : Ev := fun ρ τ => match src ρ τ with
  | .ok ds ρ1 τ1 => if freeIn ρ1 own then (match lcL2 t test src1 t1 test1 elt own vs1 ds [] (wipeR ρ1 own) τ1 with
      | .ok acc ρ2 τ2 => .ok (.own (.lst acc)) (restR ρ1 ρ2 own) τ2
      | _ => .bad) else .bad
  | .exc x ρ1 τ1 => .exc x ρ1 τ1
  | .bad => .bad
theorem wipe_wipe {σ : St} {vs l : List Nat} (h : ∀ j ∈ l, j ∈ vs) : wipe (wipe σ l) vs = wipe σ vs :=
  wipe_agree (l := l) ⟨wipe_length _ _, fun j hj => wipe_not hj⟩ h
theorem lc2_go {src src1 : Src} {t t1 : Tg} {own vs1 : List Nat} {test test1 : Tv} {elt : Ev} {σ : St} {H : Hp} {Q : VK} (hsub : ∀ j ∈ t.sl, j ∈ own) (hsub1 : ∀ j ∈ t1.sl, j ∈ vs1) (hv : ∀ j ∈ vs1, j ∈ own) (hr : ∀ ρ τ ds ρ' τ', src1 ρ τ = .ok ds ρ' τ' → ∃ lo n, ds = rngL lo n) (q : tD g W (vLc2 src t own test src1 t1 vs1 test1 elt) σ H Q) :
    tLc2 (tI g W src) (tG g t) (tT g noW test) (tIr g noW src1) (tG g t1) (tT g noW test1) (tD g noW (vFz elt)) own vs1 σ H Q := by
  obtain ⟨w, ρ, τ, env, q⟩ := q
  refine ⟨w, ρ, τ, env, ?_⟩
  unfold vLc2 at q
  cases e : src ρ τ with
  | exc x ρ' τ' => simp only [e] at q; exact q
  | bad => simp only [e] at q
  | ok ds ρ1 τ1 =>
    simp only [e] at q
    by_cases hf : freeIn ρ1 own = true
    · simp only [hf, if_true] at q
      intro w1 H1 J a ⟨C, Y, wl, hold, yl⟩ Dd hD
      obtain ⟨b0, r0⟩ := (Ps.refl a.env).newLst (es := []) (us := []) hD (by rw [RepL])
      have w0 := Ps.wiped b0.env own
      have start := b0.trans w0
      refine it_any wl (B := fun x H' Nx => tG g t x (wipe σ own) H' fun σ2 H2 => wipe σ2 own = wipe σ own ∧ tT g noW test σ2 H2 fun b H3 => if b = true then tIr g noW src1 σ2 H3 fun J1 H4 => ∃ W1 : Nat → Nat → Hp → Prop, (∃ m, W1 0 m H4) ∧ ∀ j k H, W1 j k H →
        (J1.stop j H ∧ Nx H) ∨ (J1.go j H ∧ ∃ Nx1 : Hp → Prop, (∀ H', Nx1 H' → ∃ k', k' < k ∧ W1 (j + 1) k' H') ∧ ∀ x H', J1.yld j H x H' → tG g t1 x (wipe σ2 vs1) H' fun σ3 H5 => wipe σ3 vs1 = wipe σ2 vs1 ∧ tT g noW test1 σ3 H5 fun b H6 =>
          if b = true then tD g noW (vFz elt) σ3 H6 fun y H7 => ∃ acc, H7 Dd = some (.lst acc) ∧ acc.length < sizeLine ∧ Nx1 (upd H7 Dd (.lst (acc ++ [y]))) else Nx1 H6) else Nx H3)
        (fun i H2 => ∃ w2 ρ2 τ2 acc, Ps g w1 H1 ρ1 σ w2 H2 ρ2 τ2 (wipe σ own) ∧ RsR g w1 H1 ρ1 σ w2 H2 ρ2 (wipe σ own) (.own (.lst acc)) (.ref Dd) ∧ lcL2 t test src1 t1 test1 elt own vs1 (ds.drop i) acc ρ2 τ2 = lcL2 t test src1 t1 test1 elt own vs1 ds [] (wipeR ρ1 own) τ1)
        ⟨w1, wipeR ρ1 own, τ1, [], start, r0.keep w0, rfl⟩ (fun i H2 _ ⟨w2, ρ2, τ2, acc, p, _⟩ => hold _ _ _ _ _ p) ?_ ?_
      · rintro i x H2 H3 hi ⟨w2, ρ2, τ2, acc, p, r, go⟩ y
        have hd : ds[i]? = some ds[i] := List.getElem?_eq_getElem hi
        obtain ⟨w3, p3, rx⟩ := yl i _ w2 H2 ρ2 τ2 _ x H3 hd p y
        have r3 := r.keep p3
        have q3 := p.trans p3
        rw [List.drop_eq_getElem_cons hi, lcL2] at go
        refine ⟨w3, ρ2, τ2, ds[i], p3.env, rx, ?_⟩
        cases e1 : asg t ds[i] ρ2 with
        | none =>
          simp only [e1] at go
          rw [← go] at q
          exact q
        | some ρ3 =>
          simp only [e1] at go
          intro σ3 a3 ag
          have ew : wipe σ3 own = wipe σ own := (wipe_agree ag hsub).trans (wipe_agree ⟨wipe_length _ _, fun j hj => wipe_not hj⟩ fun _ h => h)
          refine ⟨ew, w3, ρ3, τ2, a3.env, ?_⟩
          have r4 := r3.keep a3
          have q4 := q3.trans a3
          cases e2 : test ρ3 τ2 with
          | exc x ρ4 τ4 => simp only [e2] at go; rw [← go] at q; exact q.elim
          | bad => simp only [e2] at go; rw [← go] at q; exact q.elim
          | ok b ρ4 τ4 =>
            simp only [e2] at go
            intro w4 H4 p4
            have r5 := r4.keep p4
            have q5 := q4.trans p4
            cases b with
            | false =>
              rw [if_neg Bool.false_ne_true]
              have ww := Ps.wiped p4.env own
              rw [ew] at ww
              exact ⟨w4, _, τ4, acc, q5.trans ww, r5.keep ww, go⟩
            | true =>
              rw [if_pos rfl]
              refine ⟨w4, ρ4, τ4, p4.env, ?_⟩
              cases e3 : src1 ρ4 τ4 with
              | exc x ρ5 τ5 => simp only [e3] at go; rw [← go] at q; exact q.elim
              | bad => simp only [e3] at go; rw [← go] at q; exact q.elim
              | ok ds1 ρ5 τ5 =>
                simp only [e3] at go
                intro w5 H5 lo n p5 er
                have r6 := r5.keep p5
                have q6 := q5.trans p5
                have wv := Ps.wiped p5.env vs1
                have hl1 : ds1.length = n := by rw [er]; simp [rngL]
                refine it_any (walk_range (lo := lo) (n := n)) (B := fun x H' Nx1 => tG g t1 x (wipe σ3 vs1) H' fun σ4 H5 => wipe σ4 vs1 = wipe σ3 vs1 ∧ tT g noW test1 σ4 H5 fun b H6 =>
                    if b = true then tD g noW (vFz elt) σ4 H6 fun y H7 => ∃ acc, H7 Dd = some (.lst acc) ∧ acc.length < sizeLine ∧ Nx1 (upd H7 Dd (.lst (acc ++ [y]))) else Nx1 H6)
                  (fun j H6 => ∃ w6 ρ6 τ6 acc6, Ps g w1 H1 ρ1 σ w6 H6 ρ6 τ6 (wipe σ3 vs1) ∧ RsR g w1 H1 ρ1 σ w6 H6 ρ6 (wipe σ3 vs1) (.own (.lst acc6)) (.ref Dd) ∧ lcL t1 test1 elt vs1 (ds1.drop j) acc6 ρ6 τ6 = lcL t1 test1 elt vs1 ds1 acc (wipeR ρ5 vs1) τ5)
                  ⟨w5, wipeR ρ5 vs1, τ5, acc, q6.trans wv, r6.keep wv, rfl⟩ (fun _ _ _ _ => trivial) ?_ ?_
                · rintro j x H6 H7 hj ⟨w6, ρ6, τ6, acc6, p6, r7, go1⟩ ⟨rfl, rfl⟩
                  have hj2 : j < ds1.length := by omega
                  have ed : ds1[j] = .int (lo + j) := by
                    have : ds1[j]? = some (.int (lo + j)) := by rw [er]; simp [rngL, hj]
                    rw [List.getElem?_eq_getElem hj2] at this
                    exact Option.some.inj this
                  rw [List.drop_eq_getElem_cons hj2, lcL, ed] at go1
                  have fail : lcL t1 test1 elt vs1 ds1 acc (wipeR ρ5 vs1) τ5 = .bad → False := fun z => by
                    rw [z] at go
                    simp only at go
                    rw [← go] at q
                    exact q
                  refine ⟨w6, ρ6, τ6, .int (lo + j), p6.env, rep_int, ?_⟩
                  cases f1 : asg t1 (.int (lo + j)) ρ6 with
                  | none =>
                    simp only [f1] at go1
                    exact (fail go1.symm).elim
                  | some ρ7 =>
                    simp only [f1] at go1
                    intro σ4 a7 ag1
                    have ew1 : wipe σ4 vs1 = wipe σ3 vs1 := (wipe_agree ag1 hsub1).trans (wipe_agree ⟨wipe_length _ _, fun j hj => wipe_not hj⟩ fun _ h => h)
                    refine ⟨ew1, w6, ρ7, τ6, a7.env, ?_⟩
                    have r8 := r7.keep a7
                    have q8 := p6.trans a7
                    cases f2 : test1 ρ7 τ6 with
                    | exc x ρ8 τ8 => simp only [f2] at go1; exact (fail go1.symm).elim
                    | bad => simp only [f2] at go1; exact (fail go1.symm).elim
                    | ok b ρ8 τ8 =>
                      simp only [f2] at go1
                      intro w8 H8 p8
                      have r9 := r8.keep p8
                      have q9 := q8.trans p8
                      cases b with
                      | false =>
                        rw [if_neg Bool.false_ne_true]
                        have ww := Ps.wiped p8.env vs1
                        rw [ew1] at ww
                        exact ⟨w8, _, τ8, acc6, q9.trans ww, r9.keep ww, go1⟩
                      | true =>
                        rw [if_pos rfl]
                        refine ⟨w8, ρ8, τ8, p8.env, ?_⟩
                        cases f3 : vFz elt ρ8 τ8 with
                        | exc x ρ9 τ9 => simp only [f3] at go1; exact (fail go1.symm).elim
                        | bad => simp only [f3] at go1; exact (fail go1.symm).elim
                        | ok rs ρ9 τ9 =>
                          simp only [f3] at go1
                          cases rs with
                          | own d => simp only at go1; exact (fail go1.symm).elim
                          | fz d =>
                            simp only at go1
                            intro w9 H9 v p9 rv
                            have r10 := r9.keep p9
                            have q10 := q9.trans p9
                            obtain ⟨us, g1, g2, g3, g4⟩ := q10.tmp hD r10 rv
                            by_cases hl : acc6.length < sizeLine
                            · simp only [hl, if_true] at go1
                              have ww := Ps.wiped g3.env vs1
                              rw [ew1] at ww
                              exact ⟨us, g1, by rw [g2]; exact hl, w9, _, τ9, _, g3.trans ww, g4.keep ww, go1⟩
                            · simp only [hl, if_false] at go1
                              exact (fail go1.symm).elim
                · rintro H6 ⟨w6, ρ6, τ6, acc6, p6, r7, go1⟩
                  rw [← hl1, List.drop_length, lcL] at go1
                  rw [← go1] at go
                  simp only at go
                  have ww := Ps.wiped p6.env own
                  rw [wipe_wipe hv, ew] at ww
                  exact ⟨w6, _, τ6, acc6, p6.trans ww, r7.keep ww, go⟩
      · rintro H2 ⟨w2, ρ2, τ2, acc, p, r, go⟩
        rw [List.drop_length, lcL2] at go
        rw [← go] at q
        simp only at q
        have pr := Ps.restored a.env hf p
        refine q w2 H2 (.ref Dd) (a.trans pr) (RsR.from a ?_)
        obtain ⟨p', e1, h1, h2, h3, h4, h5⟩ := r
        injection e1 with e1
        subst e1
        refine ⟨Dd, rfl, h1, h2, h3, fun ⟨j, s, c1, c2, c3⟩ => ?_, .inl hD⟩
        rcases restR_get c1 with ⟨m, rfl⟩ | ⟨m, c1⟩
        · rw [free_at hf m] at c2; cases c2
        · exact h4 ⟨j, s, c1, c2, by rw [wipe_not m]; exact c3⟩
    · simp only [hf] at q
      exact False.elim q
theorem py_lc2 {elt tg iter tg1 iter1 : Expr} {ifs ifs1 : List Expr} {scope : Scope} {own : List (Str × Nat)} {vs1 : List Nat} {pos : Pos} {src : Src} {t t1 : Tg} {test test1 : Tv} {as1 : List Arg} {ev : Ev} (hi : PyI g k X W tg iter src) (ok : blkC X.N X.env.scope scope own = true)
    (hg : ∀ (s : Shared) (H : Hp) (C : Addr) (cl : List (Str × Addr)) (fp : List Addr), PyG g k (X.blk s H scope (compEnvC scope cl C X.env) fp) noW tg t) (ht : ∀ (s : Shared) (H : Hp) (C : Addr) (cl : List (Str × Addr)) (fp : List Addr), PyTs g k (X.blk s H scope (compEnvC scope cl C X.env) fp) noW ifs test)
    (hi1 : ∀ (s : Shared) (H : Hp) (C : Addr) (cl : List (Str × Addr)) (fp : List Addr), PyIr g k (X.blk s H scope (compEnvC scope cl C X.env) fp) noW tg1 iter1 (srcR as1))
    (hg1 : ∀ (s : Shared) (H : Hp) (C : Addr) (cl : List (Str × Addr)) (fp : List Addr), PyG g k (X.blk s H scope (compEnvC scope cl C X.env) fp) noW tg1 t1) (ht1 : ∀ (s : Shared) (H : Hp) (C : Addr) (cl : List (Str × Addr)) (fp : List Addr), PyTs g k (X.blk s H scope (compEnvC scope cl C X.env) fp) noW ifs1 test1)
    (he : ∀ (s : Shared) (H : Hp) (C : Addr) (cl : List (Str × Addr)) (fp : List Addr), PyE g k (X.blk s H scope (compEnvC scope cl C X.env) fp) noW elt ev) (hsub : t.sl.all (fun j => decide (j ∈ own.map (·.2))) = true := by decide) (hsub1 : t1.sl.all (fun j => decide (j ∈ vs1)) = true := by decide) (hv : vs1.all (fun j => decide (j ∈ own.map (·.2))) = true := by decide) (hs : ∀ x, foldedSetIterable iter X.env x = pure x := by intro _; rfl) (hs1 : ∀ env x, foldedSetIterable iter1 env x = pure x := by intro _ _; rfl) :
    PyE g k X W (.ListComp elt [⟨tg, iter, ifs, 0⟩, ⟨tg1, iter1, ifs1, 0⟩] scope pos) (vLc2 src t (own.map (·.2)) test (srcR as1) t1 vs1 test1 ev) := fun A =>
  (pe_lc2 A.calm A.nd (hi A) (blkOk_by ok) (fun j hj => by simpa using List.all_eq_true.mp hv j hj) (fun s H C cl fp => hg s H C cl fp (A.blk _ _ _ _ _)) (fun s H C cl fp => ht s H C cl fp (A.blk _ _ _ _ _)) (fun s H C cl fp => hi1 s H C cl fp (A.blk _ _ _ _ _)) (fun s H C cl fp => hg1 s H C cl fp (A.blk _ _ _ _ _)) (fun s H C cl fp => ht1 s H C cl fp (A.blk _ _ _ _ _)) (fun s H C cl fp => py_fz (he s H C cl fp) (A.blk _ _ _ _ _)) hs hs1).imp' fun σ H Q q =>
    lc2_go (fun j hj => by simpa using List.all_eq_true.mp hsub j hj) (fun j hj => by simpa using List.all_eq_true.mp hsub1 j hj) (fun j hj => by simpa using List.all_eq_true.mp hv j hj) (fun ρ τ ds ρ' τ' e => by
      unfold srcR at e
      split at e
      · split at e
        · rename_i l el
          cases e
          unfold rngD at el
          split at el
          · split at el <;> cases el
            exact ⟨_, _, rfl⟩
          · split at el <;> cases el
            exact ⟨_, _, rfl⟩
          · cases el
        · cases e
      · cases e
      · cases e) q
theorem py_setLc2 {i : Nat} {y : Str} {py spos : Pos} {elt tg iter tg1 iter1 : Expr} {ifs ifs1 : List Expr} {scope : Scope} {own : List (Str × Nat)} {vs1 : List Nat} {pos : Pos} {src : Src} {t t1 : Tg} {test test1 : Tv} {as1 : List Arg} {ev : Ev} (hi : PyI g k X W tg iter src) (ok : blkC X.N X.env.scope scope own = true)
    (hg : ∀ (s : Shared) (H : Hp) (C : Addr) (cl : List (Str × Addr)) (fp : List Addr), PyG g k (X.blk s H scope (compEnvC scope cl C X.env) fp) noW tg t) (ht : ∀ (s : Shared) (H : Hp) (C : Addr) (cl : List (Str × Addr)) (fp : List Addr), PyTs g k (X.blk s H scope (compEnvC scope cl C X.env) fp) noW ifs test)
    (hi1 : ∀ (s : Shared) (H : Hp) (C : Addr) (cl : List (Str × Addr)) (fp : List Addr), PyIr g k (X.blk s H scope (compEnvC scope cl C X.env) fp) noW tg1 iter1 (srcR as1))
    (hg1 : ∀ (s : Shared) (H : Hp) (C : Addr) (cl : List (Str × Addr)) (fp : List Addr), PyG g k (X.blk s H scope (compEnvC scope cl C X.env) fp) noW tg1 t1) (ht1 : ∀ (s : Shared) (H : Hp) (C : Addr) (cl : List (Str × Addr)) (fp : List Addr), PyTs g k (X.blk s H scope (compEnvC scope cl C X.env) fp) noW ifs1 test1)
    (he : ∀ (s : Shared) (H : Hp) (C : Addr) (cl : List (Str × Addr)) (fp : List Addr), PyE g k (X.blk s H scope (compEnvC scope cl C X.env) fp) noW elt ev) (hsub : t.sl.all (fun j => decide (j ∈ own.map (·.2))) = true := by decide) (hsub1 : t1.sl.all (fun j => decide (j ∈ vs1)) = true := by decide) (hv : vs1.all (fun j => decide (j ∈ own.map (·.2))) = true := by decide) (hy : X.N[i]? = some y := by rfl) (hyl : X.env.scope.names.lookup y = some .local := by rfl)
    (hk : X.env.scope.kind = .function := by rfl) (hl : (py.line == pos.line) = true := by rfl) (ha : (scope.names.any fun (n, k) => n == y && (k == .local || k == .cell)) = false := by decide +kernel) (hs : ∀ x, foldedSetIterable iter X.env x = pure x := by intro _; rfl) (hs1 : ∀ env x, foldedSetIterable iter1 env x = pure x := by intro _ _; rfl) :
    PyS g k X W (.Assign [.Name y py] (.ListComp elt [⟨tg, iter, ifs, 0⟩, ⟨tg1, iter1, ifs1, 0⟩] scope pos) spos) (sSet i (vLc2 src t (own.map (·.2)) test (srcR as1) t1 vs1 test1 ev)) := fun A =>
  (ps_setLc2 A.calm A.nd hy hyl (sw_true hk hyl hl ha) (hi A) (blkOk_by ok) (fun j hj => by simpa using List.all_eq_true.mp hv j hj) (fun s H C cl fp => hg s H C cl fp (A.blk _ _ _ _ _)) (fun s H C cl fp => ht s H C cl fp (A.blk _ _ _ _ _)) (fun s H C cl fp => hi1 s H C cl fp (A.blk _ _ _ _ _)) (fun s H C cl fp => hg1 s H C cl fp (A.blk _ _ _ _ _)) (fun s H C cl fp => ht1 s H C cl fp (A.blk _ _ _ _ _)) (fun s H C cl fp => py_fz (he s H C cl fp) (A.blk _ _ _ _ _)) hs hs1).imp' fun D σ H q =>
    lc2_go (fun j hj => by simpa using List.all_eq_true.mp hsub j hj) (fun j hj => by simpa using List.all_eq_true.mp hsub1 j hj) (fun j hj => by simpa using List.all_eq_true.mp hv j hj) (fun ρ τ ds ρ' τ' e => by
      unfold srcR at e
      split at e
      · split at e
        · rename_i l el
          cases e
          unfold rngD at el
          split at el
          · split at el <;> cases el
            exact ⟨_, _, rfl⟩
          · split at el <;> cases el
            exact ⟨_, _, rfl⟩
          · cases el
        · cases e
      · cases e
      · cases e) (tS_set q)
end
end PD
namespace PD
open PySem PySem.Spec L2
open PyProof.Rows hiding St
theorem cloFrom_none {cells : List (Str × Addr)} : ∀ {names : List (Str × NameKind)} {acc : List (Str × Addr)}, (names.all fun y => y.2 != .free) = true → cloFrom cells names acc = acc
  | [], acc, _ => rfl
  | (n, k) :: r, acc, h => by
    rw [List.all_cons, Bool.and_eq_true] at h
    have hk : (k == NameKind.free) = false := by
      have := h.1
      simp only [bne, Bool.not_eq_true'] at this
      exact this
    rw [cloFrom, hk]
    exact cloFrom_none h.2
def vLam0 (n : Nat) : Ev := fun ρ τ => .ok (.fz (.clo n [])) ρ τ
section
variable {g : G} {k : Nat} {X : Cx} {W : WX}
theorem py_lam0 {l : LE} {pos : Pos} {n : Nat} (L : LamIn g X l pos) (ht : g.tab n = some l) (hn : (l.scope.names.all fun y => y.2 != .free) = true) (hf : l.fr = [] := by rfl) : PyE g k X W (.Lambda l.params l.body l.scope pos) (vLam0 n) := fun A => (pe_lamE A L).imp' fun σ H Q q => by
  obtain ⟨w, ρ, τ, env, q⟩ := q
  refine ⟨w.Z, env.zle, env.tabs, fun f c' H2 h1 h2 h3 h4 h5 h6 h7 => ?_⟩
  obtain ⟨w2, a2, zf, zc⟩ := lam_ps env h1 h2 h3 h4 h5 h6 h7
  rw [cloFrom_none hn] at zf
  refine q w2 H2 (.ref f) a2 ?_
  rw [RsR, Rep]
  refine ⟨[], [], ⟨l, f, c', [], ht, rfl, zf, zc, ⟨by rw [hf]; rfl, fun y c e => ?_, fun x y c e => ?_, fun c o e => ?_, fun _ => rfl, fun i y e => ?_⟩, fun a o e => ?_⟩, by rw [RepL]⟩
  · cases e
  · cases e
  · cases e
  · rw [hf] at e; simp at e
  · cases e
/-- one or the other -/
def apOr (a b : Ap) : Ap := ⟨fun d => a.can d || b.can d, fun d => if a.can d then a.run d else b.run d⟩
theorem apOr_ok {j1 j2 j : Nat} {a b : Ap} (h1 : ApOk g j1 a) (h2 : ApOk g j2 b) (l1 : j1 ≤ j := by decide) (l2 : j2 ≤ j := by decide) : ApOk g j (apOr a b) := fun d hd => by
  show AnyOk g j d (if a.can d then a.run d else b.run d)
  by_cases c : a.can d = true
  · rw [if_pos c]; exact (h1 d c).mono l1
  · rw [if_neg c]
    have : b.can d = true := by
      have hd : (a.can d || b.can d) = true := hd
      rw [Bool.not_eq_true] at c
      rw [c, Bool.false_or] at hd
      exact hd
    exact (h2 d this).mono l2
end
def evL : List (Key × Ev) → Rho → Tape → O (List (Key × D))
  | [], ρ, τ => .ok [] ρ τ
  | (k, ev) :: r, ρ, τ => match vFz ev ρ τ with
    | .ok (.fz d) ρ1 τ1 => (match evL r ρ1 τ1 with
      | .ok l ρ2 τ2 => .ok ((k, d) :: l) ρ2 τ2
      | .exc x ρ2 τ2 => .exc x ρ2 τ2
      | .bad => .bad)
    | .ok (.own _) _ _ => .bad
    | .exc x ρ1 τ1 => .exc x ρ1 τ1
    | .bad => .bad
def vDicK (kes : List (Key × Ev)) : Ev := fun ρ τ => match evL kes ρ τ with
  | .ok l ρ1 τ1 => .ok (.own (.dic (l.map fun p => (kD p.1, p.2)))) ρ1 τ1
  | .exc x ρ1 τ1 => .exc x ρ1 τ1
  | .bad => .bad
section
variable {g : G} {k : Nat} {X : Cx} {W : WX}
def tKey (k : Key) : TE := fun _ H Q => Q (kV k) H
def trsK (g : G) (W : WX) (kes : List (Key × Ev)) : List (TE × TE) := kes.map fun p => (tKey p.1, tD g W (vFz p.2))
def PyKVs (g : G) (k : Nat) (X : Cx) (W : WX) (pos : Pos) (ks : List (Option Expr)) (vs : List Expr) (kes : List (Key × Ev)) : Prop := At g k X W → PPs X pos ks vs (trsK g W kes)
theorem pkv_nil {pos : Pos} : PyKVs g k X W pos [] [] [] := fun _ => pps_nil
theorem pkv_int {pos p : Pos} {n : Int} {kk : Nat} {e : Expr} {ev : Ev} {ks : List (Option Expr)} {vs : List Expr} {kes : List (Key × Ev)} (hk : PE X (.Constant (.int n) kk p) (tKey (.inl n))) (he : PyE g k X W e ev) (hr : PyKVs g k X W pos ks vs kes) : PyKVs g k X W pos (some (.Constant (.int n) kk p) :: ks) (e :: vs) ((.inl n, ev) :: kes) := fun A => pps_cons hk (py_fz he A) (hr A)
/-- keys and data, as values -/
def KVs (g : G) (w : Wd) : List (Key × D) → List (Key × V) → Prop
  | [], [] => True
  | (k, d) :: r, (k', v) :: r' => k' = k ∧ Rep g w.Z w.tp d v ∧ KVs g w r r'
  | _, _ => False
theorem KVs.mono {w w' : Wd} (z : ZLe w.Z w'.Z) (tp : w'.tp = w.tp) : ∀ {l : List (Key × D)} {us : List (Key × V)}, KVs g w l us → KVs g w' l us
  | [], [], h => h
  | (k, d) :: r, (k', v) :: r', h => ⟨h.1, by rw [tp]; exact Rep.mono z _ h.2.1, KVs.mono z tp h.2.2⟩
  | [], _ :: _, h => h.elim
  | _ :: _, [], h => h.elim
theorem KVs.rep {w : Wd} : ∀ {l : List (Key × D)} {us : List (Key × V)}, KVs g w l us → RepKV g w.Z w.tp (l.map fun p => (kD p.1, p.2)) us
  | [], [], _ => by rw [List.map_nil, RepKV]
  | (k, d) :: r, (k', v) :: r', h => by
    obtain ⟨rfl, h2, h3⟩ := h
    rw [List.map_cons, RepKV]
    exact ⟨k', v, r', rfl, rfl, h2, KVs.rep h3⟩
  | [], _ :: _, h => h.elim
  | _ :: _, [], h => h.elim
theorem KVs.keys {w : Wd} : ∀ {l : List (Key × D)} {us : List (Key × V)}, KVs g w l us → us.map (·.1) = l.map (·.1)
  | [], [], _ => rfl
  | (k, d) :: r, (k', v) :: r', h => by rw [List.map_cons, List.map_cons, KVs.keys h.2.2, h.1]
  | [], _ :: _, h => h.elim
  | _ :: _, [], h => h.elim
theorem evL_keys : ∀ {kes : List (Key × Ev)} {ρ ρ' : Rho} {τ τ' : Tape} {l : List (Key × D)}, evL kes ρ τ = .ok l ρ' τ' → l.map (·.1) = kes.map (·.1)
  | [], _, _, _, _, _, e => by rw [evL] at e; cases e; rfl
  | (k, ev) :: r, ρ, ρ', τ, τ', l, e => by
    rw [evL] at e
    cases e1 : vFz ev ρ τ with
    | ok rr ρ1 τ1 =>
      rw [e1] at e
      cases rr with
      | own _ => cases e
      | fz d =>
        simp only at e
        cases e2 : evL r ρ1 τ1 with
        | ok l2 ρ2 τ2 =>
          rw [e2] at e
          cases e
          rw [List.map_cons, List.map_cons, evL_keys e2]
        | exc _ _ _ => rw [e2] at e; cases e
        | bad => rw [e2] at e; cases e
    | exc _ _ _ => rw [e1] at e; cases e
    | bad => rw [e1] at e; cases e
theorem mergeK_new : ∀ {us acc : List (Key × V)}, ((acc ++ us).map (·.1)).Nodup → mergeK acc us = acc ++ us
  | [], acc, _ => by rw [List.append_nil]; rfl
  | (k, v) :: us, acc, h => by
    have hk : (acc.any fun kv => decide (kv.1 = k)) = false := by
      rw [Bool.eq_false_iff]
      intro c
      obtain ⟨x, hx, e⟩ := List.any_eq_true.mp c
      rw [List.map_append, List.nodup_append] at h
      exact h.2.2 x.1 (List.mem_map.mpr ⟨x, hx, rfl⟩) k (by simp) (of_decide_eq_true e)
    have e : putK acc k v = acc ++ [(k, v)] := by
      unfold putK
      rw [hk]
      rfl
    show mergeK (putK acc k v) us = _
    rw [e, mergeK_new (by rw [List.append_assoc]; exact h), List.append_assoc]
    rfl
/-- the pairs, evaluated one by one -/
theorem pairs_go : ∀ (kes : List (Key × Ev)) {w : Wd} {H : Hp} {ρ : Rho} {τ : Tape} {σ : St} {Q : List (V × V) → Hp → Prop}, EnvR g w H ρ τ σ → (match evL kes ρ τ with
      | .ok l ρ' τ' => ∀ w' H' us, Ps g w H ρ σ w' H' ρ' τ' σ → KVs g w' l us → Q (us.map fun kv => (kV kv.1, kv.2)) H'
      | .exc x ρ' τ' => ∀ w' H' cls dx, Ps g w H ρ σ w' H' ρ' τ' σ → ExR g w' x cls dx → W cls dx σ H'
      | .bad => False) → tPairs (trsK g W kes) σ H Q
  | [], w, H, ρ, τ, σ, Q, env, q => by
    rw [evL] at q
    exact q w H [] (.refl env) trivial
  | (k, ev) :: r, w, H, ρ, τ, σ, Q, env, q => by
    rw [evL] at q
    show tKey k σ H fun x H1 => tD g W (vFz ev) σ H1 fun y H2 => tPairs (trsK g W r) σ H2 fun ps H3 => Q ((x, y) :: ps) H3
    show tD g W (vFz ev) σ H fun y H2 => tPairs (trsK g W r) σ H2 fun ps H3 => Q ((kV k, y) :: ps) H3
    refine ⟨w, ρ, τ, env, ?_⟩
    cases e1 : vFz ev ρ τ with
    | exc x ρ1 τ1 => rw [e1] at q; exact q
    | bad => rw [e1] at q; exact q
    | ok rr ρ1 τ1 =>
      rw [e1] at q
      cases rr with
      | own _ => exact q.elim
      | fz d =>
        simp only at q
        intro w1 H1 v a hv
        refine pairs_go r a.env ?_
        cases e2 : evL r ρ1 τ1 with
        | ok l ρ2 τ2 =>
          rw [e2] at q
          intro w2 H2 us b hu
          have hv2 : Rep g w2.Z w2.tp d v := by rw [b.st.tp]; exact Rep.mono b.st.z _ hv
          exact q w2 H2 ((k, v) :: us) (a.trans b) ⟨rfl, hv2, hu⟩
        | exc x ρ2 τ2 => rw [e2] at q; exact fun w' H' cls dx b hx => q w' H' cls dx (a.trans b) hx
        | bad => rw [e2] at q; exact q
/-- a dict of one's own, held by no slot, is filled -/
theorem Ps.tmpD {w : Wd} {H : Hp} {ρ : Rho} {σ : St} {w1 : Wd} {H1 : Hp} {ρ1 : Rho} {τ1 : Tape} {σ1 : St} (a : Ps g w H ρ σ w1 H1 ρ1 τ1 σ1) {kv0 kvs : List (D × D)} {ks : List (Key × V)} {Dd : Addr} (hn : H Dd = none) (r : RsR g w H ρ σ w1 H1 ρ1 σ1 (.own (.dic kv0)) (.ref Dd)) (rv : RepKV g w1.Z w1.tp kvs ks) :
    Ps g w H ρ σ w1 (upd H1 Dd (.dK ks)) ρ1 τ1 σ1 ∧ RsR g w H ρ σ w1 (upd H1 Dd (.dK ks)) ρ1 σ1 (.own (.dic kvs)) (.ref Dd) := by
  obtain ⟨p, ep, ⟨us, h1, h2⟩, h3, h4, h5, h6⟩ := r
  injection ep with ep
  subst ep
  have env := a.env
  have ne : ∀ {b : Addr} {o : HO}, w1.Z b = some o → b ≠ Dd := fun {b o} h n => by rw [n, h3] at h; cases h
  have cell : ∀ {x : D} {j : Nat} {s : Sl}, ρ1[j]? = some s → isCell s = true → CellR g w1 H1 x ((σ1[j]?).getD none) → CellR g w1 (upd H1 Dd (.dK ks)) x ((σ1[j]?).getD none) := fun {x j s} h c ⟨b, e2, r2, z2, t2⟩ => by
    have nb : b ≠ Dd := fun q => h5 ⟨j, s, h, c, by rw [← q]; exact getD_some e2⟩
    refine ⟨b, e2, ?_, z2, t2⟩
    cases x with
    | lst ds => obtain ⟨vs, h7, h8⟩ := r2; exact ⟨vs, by rw [upd_ne nb]; exact h7, h8⟩
    | dic kvs => obtain ⟨ks, h7, h8⟩ := r2; exact ⟨ks, by rw [upd_ne nb]; exact h7, h8⟩
    | _ => exact r2
  refine ⟨⟨⟨env.len, fun j s h => ?_, env.ap, fun b x h => by rw [upd_ne (ne h)]; exact env.zle b x h, fun tt l c q => ?_, ⟨env.tabs.1, fun P hP => ?_⟩⟩, ⟨a.st.z, a.st.tp, fun b x h n nt => ?_, a.st.nz, fun b h => ?_⟩, a.lic, a.bor⟩, Dd, rfl, ⟨_, upd_same, rv⟩, h3, h4, h5, h6⟩
  · have := env.sl j s h
    cases s with
    | un => trivial
    | fz x => exact this
    | own x => exact cell h rfl this
    | bor x => exact this.imp (cell h rfl) fun g => g.map (fun q x y e1 e2 z2 t2 => ⟨by rw [upd_ne (fun k => h5 ⟨j, _, h, rfl, by rw [← k]; exact getD_some e1⟩)]; exact e2, z2, t2⟩) fun _ _ h => h
  · have T := env.tape tt l c q
    have n3 : ∀ {b : Addr}, tcell w1 b → b ≠ Dd := fun {b} h n => h4 (n ▸ h)
    exact ⟨by rw [upd_ne (n3 ⟨tt, l, c, q, .inl rfl⟩)]; exact T.ht, by rw [upd_ne (n3 ⟨tt, l, c, q, .inr rfl⟩)]; exact T.hl, T.hc, T.zt, T.zl⟩
  · obtain ⟨ps, g1, g2⟩ := env.tabs.2 P hP
    exact ⟨ps, by rw [upd_ne (fun n => by rw [n, h1] at g1; cases g1)]; exact g1, g2⟩
  · have nb : b ≠ Dd := fun q => by rw [q, hn] at h; cases h
    rw [upd_ne nb]
    exact a.st.fr b x h n nt
  · by_cases hb : b = Dd
    · rw [hb]; exact hn
    · rw [upd_ne hb] at h; exact a.st.al b h
theorem upd_upd {H : Hp} {a : Addr} {o o' : HO} : upd (upd H a o) a o' = upd H a o' := by
  funext b
  by_cases h : b = a
  · subst h; rw [upd_same, upd_same]
  · rw [upd_ne h, upd_ne h, upd_ne h]
theorem py_dicK {pos : Pos} {ks : List (Option Expr)} {vs : List Expr} {kes : List (Key × Ev)} (h : PyKVs g k X W pos ks vs kes) (hd : decide (kes.map (·.1)).Nodup = true := by decide) (hk : decide (kes.length ≤ 15) = true := by decide) (hall : ks.all (·.isSome) = true := by rfl) (hl : ks.length = vs.length := by rfl) (h0 : ks ≠ [] := by exact List.cons_ne_nil _ _) (h15 : decide (ks.length ≤ 15) = true := by rfl) :
    PyE g k X W (.Dict ks vs pos) (vDicK kes) := fun A => (pe_disp (h A) hall hl h0 (of_decide_eq_true h15)).imp' fun σ H Q q p hp => by
  obtain ⟨w, ρ, τ, env, q⟩ := q
  obtain ⟨b, r0⟩ := (Ps.refl env).newDic (es := []) (us := []) hp (by rw [RepKV])
  refine pairs_go kes b.env ?_
  unfold vDicK at q
  cases e : evL kes ρ τ with
  | exc x ρ1 τ1 => rw [e] at q; exact fun w' H' cls dx a hx => q w' H' cls dx (b.trans a) hx
  | bad => rw [e] at q; exact q
  | ok l ρ1 τ1 =>
    rw [e] at q
    simp only at q
    intro w1 H1 us a hu
    have r1 := r0.keep a
    have a1 := b.trans a
    obtain ⟨p', ep, ⟨us0, h1, h2⟩, h3⟩ := id r1
    injection ep with ep
    subst ep
    have e0 : us0 = [] := by rw [RepKV] at h2; exact h2
    subst e0
    have nd : ((([] : List (Key × V)) ++ us).map (·.1)).Nodup := by
      rw [List.nil_append, hu.keys, evL_keys e]
      exact of_decide_eq_true hd
    have ll : us.length ≤ 15 := by
      have : us.length = kes.length := by
        have h4 := congrArg List.length hu.keys
        have h5 := congrArg List.length (evL_keys e)
        simp only [List.length_map] at h4 h5
        omega
      rw [this]
      exact of_decide_eq_true hk
    obtain ⟨g1, g2⟩ := a1.tmpD hp r1 hu.rep
    refine ⟨h1, us, rfl, ll, ?_⟩
    rw [mergeK_new nd, List.nil_append]
    exact q w1 _ _ g1 g2
end
end PD
namespace PD
open PySem PySem.Spec L2
open PyProof.Rows hiding St
def sPar3 (i j l : Nat) (ea eb ec : Ev) : Sv := fun ρ τ => match ea ρ τ with
  | .ok r ρ1 τ1 => (match eb ρ1 τ1 with
    | .ok r' ρ2 τ2 => (match ec ρ2 τ2 with
      | .ok r'' ρ3 τ3 => .nx (((ρ3.set i (slOf r)).set j (slOf r')).set l (slOf r'')) τ3
      | .exc x ρ3 τ3 => .exc x ρ3 τ3
      | .bad => .bad)
    | .exc x ρ2 τ2 => .exc x ρ2 τ2
    | .bad => .bad)
  | .exc x ρ1 τ1 => .exc x ρ1 τ1
  | .bad => .bad
section
variable {g : G} {k : Nat} {X : Cx} {W : WX}
theorem py_par3 {i j l : Nat} {x y z : Str} {a b c : Expr} {ea eb ec : Ev} {px py pz pt : Pos} {kt k2 : Nat} {pt2 pos : Pos} (ha : PyE g k X W a ea) (hb : PyE g k X W b eb) (hc : PyE g k X W c ec) (hi : X.N[i]? = some x := by rfl) (hj : X.N[j]? = some y := by rfl) (hl : X.N[l]? = some z := by rfl) (hij : i ≠ j := by decide) (hil : i ≠ l := by decide) (hjl : j ≠ l := by decide)
    (hx : X.env.scope.names.lookup x = some .local := by rfl) (hy : X.env.scope.names.lookup y = some .local := by rfl) (hz : X.env.scope.names.lookup z = some .local := by rfl) (hw : swappedStores [.Tuple [.Name x px, .Name y py, .Name z pz] kt pt] (.Tuple [a, b, c] k2 pt2) X.env = pure (some [x, y, z]) := by rfl)
    (hs : swapsWithSole [.Tuple [.Name x px, .Name y py, .Name z pz] kt pt] (.Tuple [a, b, c] k2 pt2) pos.line X.env = pure false := by rfl) (h0 : starEach [a, b, c] X.env = (false, eval a X.env) :: starEach [b, c] X.env := by rfl) (h1 : starEach [b, c] X.env = (false, eval b X.env) :: starEach [c] X.env := by rfl) (h2 : starEach [c] X.env = (false, eval c X.env) :: starEach [] X.env := by rfl) :
    PyS g k X W (.Assign [.Tuple [.Name x px, .Name y py, .Name z pz] kt pt] (.Tuple [a, b, c] k2 pt2) pos) (sPar3 i j l ea eb ec) := fun A => (ps_par3 A.calm A.nd hi hj hl hij hil hjl hx hy hz (pa_cons (ha A) (pa_cons (hb A) (pa_cons (hc A) pa_nil h2) h1) h0) hw hs).imp' fun D σ H q => by
  obtain ⟨w, ρ, τ, env, q⟩ := q
  show tD g W ea σ H fun u H1 => tD g W eb σ H1 fun u' H2 => tD g W ec σ H2 fun u'' H3 => ∃ v v' v'', [u, u', u''] = [v, v', v''] ∧ D.nx (((σ.set i (some v)).set j (some v')).set l (some v'')) H3
  refine ⟨w, ρ, τ, env, ?_⟩
  unfold sPar3 at q
  cases e : ea ρ τ with
  | ok r ρ1 τ1 =>
    simp only [e] at q
    intro w1 H1 u a1 hr
    refine ⟨w1, ρ1, τ1, a1.env, ?_⟩
    cases e2 : eb ρ1 τ1 with
    | ok r' ρ2 τ2 =>
      simp only [e2] at q
      intro w2 H2 u' a2 hr'
      refine ⟨w2, ρ2, τ2, a2.env, ?_⟩
      cases e3 : ec ρ2 τ2 with
      | ok r'' ρ3 τ3 =>
        simp only [e3] at q
        intro w3 H3 u'' a3 hr''
        have k1 := (hr.keep a2).keep a3
        have k2 := hr'.keep a3
        have a13 := (a1.trans a2).trans a3
        have ap12 := hr.apart hr'
        have ap13 := (hr.keep a2).apart hr''
        have ap23 := hr'.apart hr''
        refine ⟨u, u', u'', rfl, q w3 H3 _ ?_⟩
        have b1 := a13.store k1 i
        have r2 : RsR g w H ρ σ w3 H3 ρ3 σ r' u' := k2.from a1
        have r3 : RsR g w H ρ σ w3 H3 ρ3 σ r'' u'' := hr''.from (a1.trans a2)
        have r2' := RsR.store r2 k1 (fun d d' p z1 z2 z3 z4 => ap12 d' d p z2 z1 z4 z3) i
        have r3' := RsR.store r3 k1 (fun d d' p z1 z2 z3 z4 => ap13 d' d p z2 z1 z4 z3) i
        have b2 := b1.store r2' j
        exact b2.store (RsR.store r3' r2' (fun d d' p z1 z2 z3 z4 => ap23 d' d p z2 z1 z4 z3) j) l
      | exc x ρ' τ' => simp only [e3] at q; exact fun w' H' cls dx a hx => q w' H' σ cls dx ((a1.trans a2).trans a) hx
      | bad => simp only [e3] at q
    | exc x ρ' τ' => simp only [e2] at q; exact fun w' H' cls dx a hx => q w' H' σ cls dx (a1.trans a) hx
    | bad => simp only [e2] at q
  | exc x ρ' τ' => simp only [e] at q; exact fun w' H' cls dx a hx => q w' H' σ cls dx a hx
  | bad => simp only [e] at q
theorem py_setLcB {i b : Nat} {y : Str} {py : Pos} {elt tg iter : Expr} {ifs : List Expr} {scope : Scope} {own : List (Str × Nat)} {pos spos : Pos} {src : Src} {t : Tg} {test : Tv} {ev : Ev} (hi : PyI g k X W tg iter src) (ok : blkC X.N X.env.scope scope own = true)
    (hg : ∀ (s : Shared) (H : Hp) (C : Addr) (cl : List (Str × Addr)) (fp : List Addr), PyG g k (X.blk s H scope (compEnvC scope cl C X.env) fp) noW tg t) (ht : ∀ (s : Shared) (H : Hp) (C : Addr) (cl : List (Str × Addr)) (fp : List Addr), PyTs g k (X.blk s H scope (compEnvC scope cl C X.env) fp) noW ifs test)
    (he : ∀ (s : Shared) (H : Hp) (C : Addr) (cl : List (Str × Addr)) (fp : List Addr), PyE g k (X.blk s H scope (compEnvC scope cl C X.env) fp) noW elt ev) (hsub : t.sl.all (fun j => decide (j ∈ own.map (·.2))) = true := by decide) (hy : X.N[i]? = some y := by rfl) (hyl : X.env.scope.names.lookup y = some .local := by rfl)
    (hk : X.env.scope.kind = .function := by rfl) (hl : (py.line == pos.line) = true := by rfl) (ha : (scope.names.any fun (n, k) => n == y && (k == .local || k == .cell)) = false := by decide +kernel) (hs : ∀ x, foldedSetIterable iter X.env x = pure x := by intro _; rfl) :
    PyS g k X W (.Assign [.Name y py] (.ListComp elt [⟨tg, iter, ifs, 0⟩] scope pos) spos) (sSet i (vBor b (vLc src t (own.map (·.2)) test ev))) := fun A =>
  (ps_setLc A.calm A.nd hy hyl (sw_true hk hyl hl ha) (hi A) (blkOk_by ok) (fun s H C cl fp => hg s H C cl fp (A.blk _ _ _ _ _)) (fun s H C cl fp => ht s H C cl fp (A.blk _ _ _ _ _)) (fun s H C cl fp => py_fz (he s H C cl fp) (A.blk _ _ _ _ _)) hs).imp' fun D σ H q =>
    lc_go (fun j hj => by simpa using List.all_eq_true.mp hsub j hj) (tD_bor (tS_set q))
end
end PD
namespace PD
open PySem PySem.Spec L2
open PyProof.Rows hiding St
def rEqT0 (K : PySem.W.Frag) : R2 := fun x y H Q => ∃ a b xs, x = .ref a ∧ y = .ref b ∧ SqT K H a xs ∧ SqT K H b [] ∧ Q (.bl xs.isEmpty) H
theorem op_eqT0 {X : Cx} (hu : X.A.units + 64 < cLine) : OpR X (compareOp .Eq) (rEqT0 X.K) := by
  intro pins s σ H x y v u Q I rx ry h
  obtain ⟨a, b, xs, rfl, rfl, h1, h2, q⟩ := h
  cases rx
  cases ry
  obtain ⟨i1, r1, p1, _⟩ := I.tuple h1
  obtain ⟨i2, r2, p2, _⟩ := I.tuple h2
  cases r2
  have e : ((List.range (min i1.toArray.size ([] : List Value).toArray.size)).all (fun _ => true) && i1.toArray.size == ([] : List Value).toArray.size) = xs.isEmpty := by
    cases r1 with
    | nil => rfl
    | cons _ _ => simp
  refine SeqAt.eq_tupleAt (e := fun _ => true) p1 p2 (by omega) (fun j h1 h2 => absurd h2 (Nat.not_lt_zero j)) ?_
  rw [e]
  exact ⟨.bl xs.isEmpty, H, I, rfl, q⟩
def fEqT : D → D → P
  | .tup ds, .tup [] => .at (.bl ds.isEmpty)
  | _, _ => .bad
def pEqT : Prim := p2 fEqT
section
variable {g : G} {k : Nat} {X : Cx} {W : WX}
theorem ok_eqT : OpOk g k X W (compareOp .Eq) pEqT := fun A => by
  refine ⟨_, op_eqT0 A.room.units, ?_⟩
  rw [A.K]
  refine .two (f := fEqT) fun w H x y u v Q z h1 h2 => ?_
  unfold fEqT
  split
  · rename_i ds
    intro q
    obtain ⟨a, xs, rfl, s1, l1⟩ := h1.tup z
    obtain ⟨b, ys, rfl, s2, l2⟩ := h2.tup z
    rw [RepL] at l2
    subst l2
    have e : xs.isEmpty = ds.isEmpty := by
      have := l1.length
      cases xs <;> cases ds <;> simp_all
    exact ⟨a, b, xs, rfl, rfl, s1, s2, by rw [e]; exact q _ rep_bl⟩
  · trivial
end
end PD
namespace PD
open PySem PySem.Spec L2
open PyProof.Rows hiding St

theorem wk_seqL {g : G} {w : Wd} {H : Hp} {ρ : Rho} {σ : St} {a : Addr} {vs : List V} {ds : List D} {K : PySem.W.Frag} (hK : K = g.K) (r : RepL g w.Z w.tp ds vs) (h : SqL g.K w.Z a vs) : Wk g w H ρ σ (Itl K a) ds := by
  subst hK
  refine ⟨_, _, by rw [← r.length]; exact walk_list (K := g.K) (a := a) (xs := vs), fun w1 H1 ρ1 τ1 σ1 p => SqL.mono (p.st.z.trans p.env.zle) h, fun i d w1 H1 ρ1 τ1 σ1 x H2 hd p y => ?_⟩
  obtain ⟨rfl, y⟩ := y
  obtain ⟨v, e, rv⟩ := r.get hd
  rw [y] at e
  cases e
  exact ⟨w1, .refl p.env, by rw [p.st.tp]; exact Rep.mono p.st.z _ rv⟩
/-- for x in script -/
def srcScr (i : Nat) : Src := fun ρ τ => match ρ[i]? with
  | some (.fz (.script ns)) => .ok (ns.map D.int) ρ τ
  | _ => .bad
section
variable {g : G} {k : Nat} {X : Cx} {W : WX}
theorem py_srcScr {tg : Expr} {i : Nat} {x : Str} {p1 : Pos} (ho : PE X (.Name x p1) (tVar i)) : PyI g k X W tg (.Name x p1) (srcScr i) := fun A => (pi_seq ho).imp' fun σ H R q => by
  obtain ⟨w, ρ, τ, env, q⟩ := q
  unfold srcScr at q
  split at q
  · rename_i hq
    split at hq
    · rename_i ns hi
      cases hq
      obtain ⟨v, hv, hr⟩ := fz_slot env hi
      rw [Rep] at hr
      obtain ⟨a, rfl, h1⟩ := hr
      exact ⟨_, hv, a, _, rfl, .inl ⟨by rw [A.K]; exact SqL.mono env.zle h1, q w H _ (.refl env) (wk_seqL A.K (ns_rep _) h1)⟩⟩
    · cases hq
  · rename_i hq; split at hq <;> cases hq
  · exact q.elim
end
/-- what the making of the tape promises: from the script's numbers ns -/
structure Begun (g : G) (lg cl : List Int → List Int) (Z : Hp) (H : Hp) (ns : List Int) (w' : Wd) (H' : Hp) (v : V) : Prop where
  at_ : ∃ t l c, v = .ref t ∧ w'.tp = some (t, l, c)
  tape : TapeR g w' H' ⟨lg ns, 0, cl ns, 0⟩
  z : ZLe Z w'.Z
  zle : ZLe w'.Z H'
  tabs : TabsK g.T w'.Z H'
def spB (g : G) (lg cl : List Int → List Int) (n : Nat) : Sp := fun vs H Q _ => ∃ a ns Z, vs = [.ref a] ∧ ns.length ≤ n ∧ SqL g.K Z a (ns.map V.int) ∧ ZLe Z H ∧ TabsK g.T Z H ∧ ∀ w' H' v, Begun g lg cl Z H ns w' H' v → Q v H'
def FnB (g : G) (k : Nat) (f : Addr) (fd : FuncData) (ps : List Str) (lg cl : List Int → List Int) (n : Nat) : Prop :=
  ∀ (A : Around) (outer : List Env) (s : Shared) (H : Hp) (args : Args) (us : List Value) (vs : List V) (Q : VK) (E : XK), Room k A → A.guards = some [] →
    Env0 g.prog g.w g.K g.mg g.base A outer s H → BindsTo s fd args (ps.zip us) → Vals vs us → vs.length = ps.length → spB g lg cl n vs H Q E →
    codeAny (model g.prog g.w) A (.call (.ref f) args) (CR (L2.CX g.prog g.w) outer g.prog g.w H s Q E) s
/-- the world at the script -/
abbrev wS (Z : Hp) : Wd := ⟨Z, none⟩
abbrev τN : Tape := ⟨[], 0, [], 0⟩
theorem env_scr {g : G} {Z H : Hp} {a : Addr} {ns : List Int} {N : List Str} {n : Nat} (h : SqL g.K Z a (ns.map V.int)) (z : ZLe Z H) (tb : TabsK g.T Z H) (hn : N.length - 1 = n) : EnvR g (wS Z) H (.fz (.script ns) :: List.replicate n .un) τN (L2.start N [.ref a]) := by
  have en : Ent g (wS Z) H [.fz (.script ns)] τN [.ref a] := Ent.cons ⟨.ref a, rfl, by rw [Rep]; exact ⟨a, rfl, h⟩⟩ rfl ⟨rfl, fun i s h => by simp at h, fun s h => by simp at h, z, fun t l c q => (by cases q), tb⟩
  exact ent_env en hn
/-- the end: the list l, the frozen cells c, a new dict of them -/
theorem begun_end {g : G} {lg cl : List Int → List Int} {Z H : Hp} {ρ0 : Rho} {σ0 : St} {ns : List Int} {w1 : Wd} {H1 : Hp} {ρ1 : Rho} {τ1 : Tape} {σ1 : St} (a : Ps g (wS Z) H ρ0 σ0 w1 H1 ρ1 τ1 σ1) {t l c : Addr} (hl : H1 l = some (.lst ((lg ns).map V.int))) (zl : w1.Z l = none) (hc : w1.Z c = some (.lst ((cl ns).map V.int)))
    (rt : RsR g (wS Z) H ρ0 σ0 w1 H1 ρ1 σ1 (.own (.dic [])) (.ref t)) : Begun g lg cl Z H ns ⟨w1.Z, some (t, l, c)⟩ (upd H1 t (.dK (g.tkv l c 0 0))) (.ref t) := by
  obtain ⟨p, e, ⟨ks, h1, h2⟩, h3, h4, h5, h6⟩ := rt
  cases e
  have ne : ∀ {b : Addr} {u : HO}, w1.Z b = some u → b ≠ t := fun {b u} q z => by rw [z, h3] at q; cases q
  refine ⟨⟨t, l, c, rfl, rfl⟩, fun t2 l2 c2 e => ?_, a.st.z, fun b u q => by rw [upd_ne (ne q)]; exact a.env.zle b u q, ⟨a.env.tabs.1, fun P hP => ?_⟩⟩
  · cases e
    refine ⟨upd_same, ?_, hc, h3, zl⟩
    rw [upd_ne (fun z => by rw [z, h1] at hl; cases hl)]
    exact hl
  · obtain ⟨ps, k1, k2⟩ := a.env.tabs.2 P hP
    exact ⟨ps, by rw [upd_ne (fun z => by rw [z, h1] at k1; cases k1)]; exact k1, k2⟩

theorem ints_own {g : G} {w : Wd} {H : Hp} {p : Addr} {ns : List Int} (h : OwnR g w H (.lst (ns.map D.int)) p) : H p = some (.lst (ns.map V.int)) := by
  obtain ⟨vs, h1, h2⟩ := h
  have e : nsOf (ns.map D.int) = some ns := by
    clear h1 h2
    induction ns with
    | nil => rfl
    | cons n ns ih => simp [nsOf, ih]
  rw [rep_ns h2 e] at h1
  exact h1
/-- variant A: the large ones first, the cells made within the display -/
theorem begunA {g : G} {k n : Nat} {x qual : Str} {st : Stmt} {f : Addr} {fd : FuncData} {N : List Str} {s1 : Stmt} {evL evC : Ev} {lg cl : List Int → List Int} {kl kc kr kt vl : Str} {ve : Expr} {most : Nat} {pos1 rpos dpos : Pos} {q1 q2 q3 q4 q5 q6 q7 : Pos} {j1 j2 j3 j4 j5 j6 : Nat}
    (F : L2.Fun g.K x qual st f fd) (S : FnScope N ["script"] (defScope st)) (hn : N.length - 1 = n) (hb : defBody st = [s1, .Return (some (.Dict [some (.Constant (.str kl) j1 q1), some (.Constant (.str kr) j2 q2), some (.Constant (.str kc) j3 q3), some (.Constant (.str kt) j4 q4)] [.Name vl q5, .Constant (.int 0) j5 q6, ve, .Constant (.int 0) j6 q7] dpos)) rpos])
    (h1 : ∀ (cdv : Value) (A : Around) (outer : List Env) (s : Shared) (H : Hp) (E : XK), PyS g k (cxG g N qual (defScope st) f cdv A outer s H E) (WB E) s1 (sSet 1 evL))
    (hv : ∀ (cdv : Value) (A : Around) (outer : List Env) (s : Shared) (H : Hp) (E : XK), PE (cxG g N qual (defScope st) f cdv A outer s H E) (.Name vl q5) (tVar 1))
    (h2 : ∀ (cdv : Value) (A : Around) (outer : List Env) (s : Shared) (H : Hp) (E : XK), PyE g k (cxG g N qual (defScope st) f cdv A outer s H E) (WB E) ve evC)
    (e1 : ∀ ns : List Int, ns.length ≤ most → evL (.fz (.script ns) :: List.replicate n .un) τN = .ok (.own (.lst ((lg ns).map D.int))) (.fz (.script ns) :: List.replicate n .un) τN)
    (e2 : ∀ ns : List Int, ns.length ≤ most → evC ((.fz (.script ns) :: List.replicate n .un).set 1 (.own (.lst ((lg ns).map D.int)))) τN = .ok (.own (.lst ((cl ns).map D.int))) ((.fz (.script ns) :: List.replicate n .un).set 1 (.own (.lst ((lg ns).map D.int)))) τN)
    (hn1 : 1 ≤ n) (tk : ∀ l c, mergeK [] [(Sum.inr kl, V.ref l), (.inr kr, .int 0), (.inr kc, .ref c), (.inr kt, .int 0)] = g.tkv l c 0 0) : FnB g (k + 1) f fd ["script"] lg cl most := by
  obtain ⟨oc, od, kV, doc, pm, an, cdv, ct, osl, rfl, lk, hcd⟩ := F.ex
  intro A outer s H args us vs Q E hr hg e0 hbd r hl hsp
  refine LamX.run_ofS lk hcd S hr e0 hbd r hl fun hr' => ?_
  have At := at_fn (g := g) (E := E) (s := s) (outer := outer) (H := H) (f := f) (cd := cdv) (qual := qual) S hr' hg
  rw [hb]
  refine ⟨_, pss_cons ((h1 cdv A outer s H E) At) (pss_one (ps_ret (pe_disp (pps_cons pe_str (hv cdv A outer s H E) (pps_cons pe_str pe_int (pps_cons pe_str ((h2 cdv A outer s H E) At) (pps_cons pe_str pe_int pps_nil)))) rfl rfl (by simp) (show 4 ≤ 15 by omega)))), ?_⟩
  obtain ⟨a, ns, Z, rfl, hlen, hs, z, tb, want⟩ := hsp
  have env := env_scr (N := N) (n := n) hs z tb hn
  refine ⟨wS Z, _, τN, env, ?_⟩
  unfold sSet
  rw [e1 ns hlen]
  intro w1 H1 σ1 a1
  have hi : ((Sl.fz (.script ns) :: List.replicate n Sl.un).set 1 (slOf (.own (.lst ((lg ns).map D.int)))))[1]? = some (.own (.lst ((lg ns).map D.int))) := by
    rw [List.getElem?_set_self (by simp; omega)]
    rfl
  intro p hp
  obtain ⟨b, rb⟩ := (Ps.refl a1.env).newDic (es := []) (us := []) hp (by rw [RepKV])
  obtain ⟨l, hσ, _⟩ := own_slot b.env hi
  refine ⟨.ref l, hσ, w1, _, τN, b.env, ?_⟩
  have e2' := e2 ns hlen
  rw [show slOf (.own (.lst ((lg ns).map D.int))) = .own (.lst ((lg ns).map D.int)) from rfl]
  rw [e2']
  intro w2 H2 v b2 rc
  obtain ⟨c, rfl, k1, k2, k3, k4, k5⟩ := rc
  obtain ⟨l', hσ', rl, zl, tl⟩ := own_slot b2.env hi
  rw [hσ] at hσ'
  obtain rfl : l = l' := by injection hσ' with q; injection q with q; injection q
  have hl2 := ints_own rl
  have hc2 := ints_own k1
  have rp := rb.keep b2
  obtain ⟨w3, b3, r3, z3, t3⟩ := b2.freeze k1 k2 k3 k4 k5
  have zl3 : w3.Z l = none := by
    obtain ⟨l2, q2, _, q4, _⟩ := own_slot b3.env hi
    rw [hσ] at q2
    obtain rfl : l = l2 := by injection q2 with q; injection q with q; injection q
    exact q4
  have rp3 := rb.keep b3
  have hc3 : w3.Z c = some (.lst ((cl ns).map V.int)) := by
    rw [Rep] at r3
    obtain ⟨c2, vs, e, q1, q2⟩ := r3
    cases e
    have := b3.env.zle _ _ q1
    rw [hc2] at this
    cases this
    exact q1
  obtain ⟨p', e', ⟨ks, g1, g2⟩, _⟩ := rp3
  cases e'
  rw [RepKV] at g2
  subst g2
  refine ⟨g1, [(.inr kl, .ref l), (.inr kr, .int 0), (.inr kc, .ref c), (.inr kt, .int 0)], rfl, (show 4 ≤ 15 by omega), ?_⟩
  rw [tk l c]
  exact want _ _ _ (begun_end (a1.trans (b.trans b3)) hl2 zl3 hc3 ((rb.keep b3).from a1))
end PD
set_option maxHeartbeats 2000000
namespace PD
open PySem PySem.Spec PyProof.Rows L2
open LamX (TabB)
theorem law_callG {P : Program} {w : World} {K : PySem.W.Frag} {mg mb : Str → Option Value} {fa a : Addr} {tbs : List (Addr × Addr)} {sL : Shared} {vs : List Value} {ns : List Int}
    (KIn : K.In sL.heap) (hGl : sL.heap.Ns mainGlobals mg) (hBl : sL.heap.Ns builtinsNs mb) (hBlt : ∀ x : Str, x ≠ "__name__" → mb x = bootBuiltins x) (hLim : sL.heap.NoLimit) (hGen : sL.gens = #[])
    (hTab : ∀ p ∈ tbs, sL.heap.get? p.2 = some { cls := .none, data := .fields #[] }) (nTab : ∀ p ∈ tbs, K.lookup p.2 = none) (C : ∀ p ∈ tbs, PySem.W.CodeHd sL.heap p.1 p.2)
    (hBm : ∃ (bm : Addr) (ob : Obj), mg "__builtins__" = some (.ref bm) ∧ bm ≠ builtinsNs ∧ sL.heap.get? bm = some ob ∧ ob.cls = .type "module" ∧ ob.dict = some builtinsNs ∧ ob.data = .plain)
    (hObj : sL.heap.get? a = some { cls := .type "list", data := .seq vs.toArray }) (hInts : IntsAre vs ns) (hLen : ns.length ≤ sizeLine)
    (F : ∀ (base : Heap) (H : Hp), K.In base → base.Ns mainGlobals mg → (∀ p ∈ tbs, TabB base mg p.1 p.2) → Env0 P w K mg base callerA [] sL H → (∀ p ∈ tbs, H p.2 = some (.tbl #[])) → SqL K H a (ns.map V.int) →
      codeAny (model P w) callerA (.call (.ref fa) ⟨[.ref a], []⟩) (CR (L2.CX P w) [] P w H sL (fun v _ => v = .bl true) fun _ _ _ => False) sL) :
    codeAny (model P w) callerA (.call (.ref fa) ⟨[.ref a], []⟩) (fun r s' => r = .ok (.ret (.bool true)) ∧ OldK sL.heap s'.heap ∧ s'.os = sL.os ∧ AllBare s'.gens) sL := by
  have relVs := vals_ints hInts
  have lenVs := hInts.length
  have isTab : ∀ b : Addr, b ∈ tbs.map (·.2) → sL.heap.get? b = some { cls := .none, data := .fields #[] } := fun b hBl => by
    obtain ⟨p, hp, e⟩ := List.mem_map.mp hBl
    rw [← e]
    exact hTab p hp
  have notTab : a ∉ tbs.map (·.2) := fun z => by
    have q := isTab a z
    rw [hObj] at q
    have z' : Data.seq vs.toArray _ = Data.fields #[] := congrArg Obj.data (Option.some.inj q)
    cases z'
  have memTab : ∀ p ∈ tbs, p.2 ∈ tbs.map (·.2) := fun p hp => List.mem_map.mpr ⟨p, hp, rfl⟩
  -- from an abstract heap in which nothing but the script and the tables may be tracked
  have coreL : ∀ H : Hp, (∀ p ∈ tbs, H p.2 = some (.tbl #[])) → (∀ b, H b = none ∨ b ∈ tbs.map (·.2) ∨ ∃ o xs, H b = some (.frz o (.lst xs))) → SqL K H a (ns.map V.int) → HOk P w H sL.heap → (∀ b, H b ≠ none → b = a ∨ b ∈ tbs.map (·.2)) → (H a ≠ none → K.lookup a = none) →
      codeAny (model P w) callerA (.call (.ref fa) ⟨[.ref a], []⟩) (fun r s' => r = .ok (.ret (.bool true)) ∧ OldK sL.heap s'.heap ∧ s'.os = sL.os ∧ AllBare s'.gens) sL := by
    intro H hTbl hOnly hSeq hOkL hAt hKa
    have baseAt : ∀ {b : Addr} {o : Obj}, sL.heap.get? b = some o → H b = none → (hidT sL.heap H).get? b = some o := fun e n => hidT_get e n
    have noDt : ∀ {b : Addr} {o : Obj}, sL.heap.get? b = some o → (∀ vs n, o.data ≠ .seq vs n) → o.data ≠ .fields #[] → H b = none := fun {b o} e h1 h2 => by
      cases q : H b with
      | none => rfl
      | some u =>
        rcases hAt b (by rw [q]; simp) with e' | e'
        · rw [e', hObj] at e
          cases e
          exact (h1 _ _ rfl).elim
        · rw [isTab b e'] at e
          cases e
          exact (h2 rfl).elim
    have noDc : ∀ {b : Addr} {o : Obj} {es : Array DictEntry} {ep : Nat}, sL.heap.get? b = some o → o.data = .dict es ep → H b = none := fun {b o es ep} e d => by
      refine noDt e (fun vs n z => ?_) fun z => ?_
      · rw [d] at z
        cases z
      · rw [d] at z
        cases z
    have nsBase : ∀ {b : Addr} {m : Str → Option Value}, sL.heap.Ns b m → (hidT sL.heap H).Ns b m := fun {b m} ⟨o, es, ep, e, d, r⟩ => ⟨o, es, ep, baseAt e (noDc e d), d, r⟩
    have kBase : K.In (hidT sL.heap H) := fun b o e => baseAt (KIn b o e) (by
      cases q : H b with
      | none => rfl
      | some u =>
        rcases hAt b (by rw [q]; simp) with e' | e'
        · rw [e'] at e q
          rw [hKa (by rw [q]; simp)] at e
          cases e
        · obtain ⟨p, hp, ep⟩ := List.mem_map.mp e'
          rw [← ep, nTab p hp] at e
          cases e)
    have modB : L2.Mod K mg (hidT sL.heap H) := ⟨kBase, nsBase hGl, ⟨mb, nsBase hBl, hBlt⟩, let ⟨mc, h1, h2⟩ := hLim; ⟨mc, nsBase h1, h2⟩⟩
    have tabB : ∀ p ∈ tbs, TabB (hidT sL.heap H) mg p.1 p.2 := fun p hp => by
      have hTp := hTab p hp
      refine ⟨?_, ?_, fun z => ?_⟩
      · obtain ⟨o, us, file, tf, flags, tg, inF, text, tt, e1, r1, r2, r3, r4, r5, r6, r7, r8, hne⟩ := C p hp
        refine ⟨o, us, file, tf, flags, tg, inF, text, tt, baseAt e1 (noDt e1 (fun vs n z => ?_) fun z => ?_), r1, r2, r3, r4, r5, r6, r7, r8, hne⟩
        · rw [r2] at z
          cases z
        · rw [r2] at z
          cases z
          simp at r3
      · obtain ⟨bm, ob, b1, b2, b3, b4, b5, b6⟩ := hBm
        have nG : bm ≠ mainGlobals := fun q => by
          obtain ⟨o, es, ep, e, hd, _⟩ := hGl
          rw [q, e] at b3
          cases b3
          rw [hd] at b6
          cases b6
        have nP : bm ≠ p.2 := fun q => by
          rw [q, hTp] at b3
          cases b3
          cases b6
        refine ⟨bm, ob, b1, b2, nG, nP, baseAt b3 (noDt b3 (fun vs n z => ?_) fun z => ?_), b4, b5, b6⟩
        · rw [b6] at z
          cases z
        · rw [b6] at z
          cases z
      · obtain ⟨o, es, ep, e, hd, _⟩ := hGl
        rw [z, hTp] at e
        cases e
        cases hd
    have envL : Env0 P w K mg (hidT sL.heap H) callerA [] sL H := ⟨rfl, modB, fun b o e => of_hidT e, Nat.le_of_eq (hidT_size _ _), trivial, fun b hBl => absurd (show b ∈ ([] : List Addr) from hBl) (by simp), hOkL, .of_eq hGen⟩
    refine codeAny_mono (F _ H kBase (nsBase hGl) tabB envL hTbl hSeq) fun r s' h => ?_
    cases r with
    | error e =>
      obtain ⟨_, _, _, _, _, _, _, _, _, _, _, _, z⟩ := h
      exact z.elim
    | ok fl =>
      cases fl with
      | next => exact False.elim h
      | brk => exact False.elim h
      | cont => exact False.elim h
      | ret u =>
        obtain ⟨v, H', os, bare, un, hok', r', q⟩ := h
        have q' : v = .bl true := q
        subst q'
        obtain rfl : u = Value.bool true := r'
        have kept : ∀ b o, b ∉ tbs.map (·.2) → sL.heap.get? b = some o → s'.heap.get? b = some o := fun b o nb e => by
          cases q : H b with
          | none => exact un.keep b o e q (by intro z; exact absurd (show b ∈ ([] : List Addr) from z) (by simp)) (by simp)
          | some u =>
            rcases hOnly b with z | z | ⟨ob, xs, z⟩
            · rw [q] at z; cases z
            · exact absurd z nb
            · have z2 := un.frzs b ob _ z
              obtain ⟨e1, _⟩ := hOkL b _ z
              obtain ⟨e2, _⟩ := hok' b _ z2
              rw [e] at e1; cases e1
              exact e2
        have grew : ∀ p ∈ tbs, ∃ more : Array Value, s'.heap.get? p.2 = some { cls := .none, data := .fields more } := fun p hp => by
          obtain ⟨more, z⟩ := un.tbls p.2 #[] (hTbl p hp)
          exact ⟨_, hok' p.2 _ z⟩
        refine ⟨rfl, ⟨fun b o e => ?_, fun b o e => ?_⟩, os, bare⟩
        · by_cases hBl : b ∈ tbs.map (·.2)
          · obtain ⟨p, hp, ep⟩ := List.mem_map.mp hBl
            obtain ⟨more, hm⟩ := grew p hp
            rw [← ep] at e ⊢
            rw [hTab p hp] at e
            cases e
            exact .inr (.inl ⟨((C p hp).tab (hTab p hp)).isCodeTable, rfl, #[], more, rfl, by rw [Array.empty_append]; exact hm⟩)
          · exact .inl (kept b o hBl e)
        · by_cases hBl : b ∈ tbs.map (·.2)
          · obtain ⟨p, hp, ep⟩ := List.mem_map.mp hBl
            obtain ⟨more, hm⟩ := grew p hp
            rw [← ep]
            exact ⟨_, hm⟩
          · exact ⟨o, kept b o hBl e⟩
  cases hk : K.lookup a with
  | some o =>
    have e := KIn a o hk
    rw [hObj] at e
    cases e
    refine coreL (fun b => if b ∈ tbs.map (·.2) then some (.tbl #[]) else none) (fun p hp => if_pos (memTab p hp)) (fun b => ?_) (.inr ⟨_, vs.toArray, _, hk, rfl, rfl, rfl, by rw [List.size_toArray, lenVs]; exact hLen, by simpa using relVs⟩) (fun b u z => ?_) (fun b z => ?_) fun z => absurd (show (if a ∈ tbs.map (·.2) then some (HO.tbl #[]) else none) = none from if_neg notTab) z
    · by_cases hBl : b ∈ tbs.map (·.2)
      · exact .inr (.inl hBl)
      · exact .inl (if_neg hBl)
    · by_cases hBl : b ∈ tbs.map (·.2)
      · have z' := (if_pos hBl).symm.trans z
        cases z'
        exact isTab b hBl
      · have z' := (if_neg hBl).symm.trans z
        cases z'
    · by_cases hBl : b ∈ tbs.map (·.2)
      · exact .inr hBl
      · exact absurd (if_neg hBl) z
  | none =>
    refine coreL (fun b => if b = a then some (.frz { cls := .type "list", data := .seq vs.toArray } (.lst (ns.map V.int))) else if b ∈ tbs.map (·.2) then some (.tbl #[]) else none) (fun p hp => (if_neg (show ¬ p.2 = a from fun z => notTab (by rw [← z]; exact memTab p hp))).trans (if_pos (memTab p hp))) (fun b => ?_)
      (.inl (.inr ⟨{ cls := .type "list", data := .seq vs.toArray }, if_pos rfl⟩)) (fun b u z => ?_) (fun b z => ?_) fun _ => hk
    · by_cases hBl : b = a
      · exact .inr (.inr ⟨_, _, if_pos hBl⟩)
      · by_cases hb2 : b ∈ tbs.map (·.2)
        · exact .inr (.inl hb2)
        · exact .inl ((if_neg hBl).trans (if_neg hb2))
    · by_cases hBl : b = a
      · have z' := (if_pos hBl).symm.trans z
        cases z'
        rw [hBl]
        exact ⟨hObj, by rw [List.length_map]; exact hLen, vs, _, relVs, hObj⟩
      · have z1 := (if_neg hBl).symm.trans z
        by_cases hb2 : b ∈ tbs.map (·.2)
        · have z' := (if_pos hb2).symm.trans z1
          cases z'
          exact isTab b hb2
        · have z' := (if_neg hb2).symm.trans z1
          cases z'
    · by_cases hBl : b = a
      · exact .inl hBl
      · by_cases hb2 : b ∈ tbs.map (·.2)
        · exact .inr hb2
        · exact absurd ((if_neg hBl).trans (if_neg hb2)) z
/-- what is known of the law at the head's heap -/
def LawAtG (l : PySem.W.OpenLaw) (w : World) (K : PySem.W.Frag) (n : Nat) (mg : Str → Option Value) (fa : Addr) (h : Heap) : Prop :=
  ∃ tbs : List (Addr × Addr), (∀ p ∈ tbs, h.get? p.2 = some { cls := .none, data := .fields #[] }) ∧ (∀ p ∈ tbs, K.lookup p.2 = none) ∧ (∀ p ∈ tbs, PySem.W.CodeHd h p.1 p.2) ∧
    ∀ (base : Heap) (H : Hp) (s : Shared) (a : Addr) (ns : List Int), ns.length ≤ n → (∀ z ∈ ns, Builtin.Int.intBits z ≤ 1048576) → K.In base → base.Ns mainGlobals mg → (∀ p ∈ tbs, TabB base mg p.1 p.2) → Env0 l.prog w K mg base callerA [] s H → (∀ p ∈ tbs, H p.2 = some (.tbl #[])) → SqL K H a (ns.map V.int) →
      codeAny (model l.prog w) callerA (.call (.ref fa) ⟨[.ref a], []⟩) (CR (L2.CX l.prog w) [] l.prog w H s (fun v _ => v = .bl true) fun _ _ _ => False) s
theorem walk_ofG {l : PySem.W.OpenLaw} {n : Nat} {q : Program} {loose : List Str} {XP : (Str → Option Value) → Heap → Prop} {YP : World → Heap → Prop} {d : DefRec} (hn : l.most = some n) (hn2 : n ≤ sizeLine) (hdf : d.params.defaults = [])
    (F : ∀ (w : World) (mg : Str → Option Value) (fa : Addr) (h : Heap), YP w h → h.Ns mainGlobals mg → mg d.name = some (.ref fa) → ∃ K : PySem.W.Frag, K.In h ∧ LawAtG l w K n mg fa h) :
    PySem.W.WalkO q loose XP YP l.row.toRowW d [] (fun f vs => PySem.call f vs) := by
  refine Att.attach_callB hn hdf fun w s0 s1 mg mb fa o pm cd doc a vs ns G Y ho hd hcd hmg hobj hints hlen hbits hg => ?_
  obtain ⟨K, KIn, tbs, hT, nT, C, hF⟩ := F w mg fa _ Y G.T.g hmg
  exact law_callG KIn G.T.g G.T.b G.T.builtins G.T.nolimit hg hT nT C G.T.bmain hobj hints (Nat.le_trans hlen hn2) fun base H k1 k2 k3 k4 k5 k6 => hF base H s1 a ns hlen hbits k1 k2 k3 k4 k5 k6
end PD
namespace PD
open PySem PySem.Spec L2
open PyProof.Rows hiding St
open LamX (TabB CodeO)

def fAt (g : G) (x : Str) : Addr := match g.mg x with
  | some (.ref a) => a
  | _ => 0
def fdAt (g : G) (x : Str) : FuncData := match g.K.lookup (fAt g x) with
  | some ⟨_, _, .func fd, _⟩ => fd
  | _ => default
/-- a def of the text, under its name -/
def DefK (g : G) (x : Str) (st : Stmt) : Prop := ∃ f fd, g.mg x = some (.ref f) ∧ L2.Fun g.K x x st f fd
section
variable {g : G} {k : Nat} {x : Str} {st : Stmt}
theorem fAt_of {f : Addr} (h : g.mg x = some (.ref f)) : fAt g x = f := by unfold fAt; rw [h]
theorem fdAt_of {f : Addr} {oc : Value} {od : Option Addr} {fd : FuncData} {osl : Array (Option Value)} (h : g.mg x = some (.ref f)) (l : g.K.lookup f = some ⟨oc, od, .func fd, osl⟩) : fdAt g x = fd := by unfold fdAt; rw [fAt_of h, l]
theorem DefK.mg (D : DefK g x st) : g.mg x = some (.ref (fAt g x)) := by
  obtain ⟨f, fd, h, F⟩ := D
  rw [fAt_of h, h]
theorem DefK.fn (D : DefK g x st) : L2.Fun g.K x x st (fAt g x) (fdAt g x) := by
  obtain ⟨f, fd, h, F⟩ := D
  obtain ⟨oc, od, kV, doc, pm, an, cdv, ct, osl, e, lk, hcd⟩ := F.ex
  rw [fAt_of h, fdAt_of h lk]
  exact F
theorem DefK.fnM {ps : List Str} {m : Mf} (D : DefK g x st) (F : FnG g k (fAt g x) (fdAt g x) ps m) : FnM g k x (fdAt g x) ps m := ⟨⟨_, D.mg, D.fn.kp, F⟩⟩
theorem DefK.bnd {ps ks : List Str} {n : Nat} {p : List Nat} (D : DefK g x st) (h1 : p.length = ps.length) (h2 : ∀ i ∈ p, i < n + ks.length)
    (h : ∀ (kV doc pm : Value) (an : Option Addr) (cdv ct : Value) (us ws : List Value), us.length = n → ws.length = ks.length → bindArgs (PySem.W.fnOf x x (defArgs st) (defBody st) (defScope st) .none kV doc pm an cdv ct) ⟨us, ks.zip ws⟩ = pure (ps.zip (p.filterMap fun i => (us ++ ws)[i]?))) : Bnd g (fdAt g x) ps n ks p := by
  refine ⟨h1, h2, fun s us ws _ l1 l2 => ?_⟩
  obtain ⟨oc, od, kV, doc, pm, an, cdv, ct, osl, e, lk, hcd⟩ := D.fn.ex
  rw [e]
  exact .of_eq (h kV doc pm an cdv ct us ws l1 l2)
/-- a def that is called as a value -/
theorem DefK.any {ps : List Str} {m : Mf} {n : Nat} (D : DefK g x st) (F : FnM g k x (fdAt g x) ps m) (hn : ps.length = n) (h : ∀ (kV doc pm : Value) (an : Option Addr) (cdv ct : Value) (us : List Value), us.length = ps.length → bindArgs (PySem.W.fnOf x x (defArgs st) (defBody st) (defScope st) .none kV doc pm an cdv ct) ⟨us, []⟩ = pure (ps.zip us)) : AnyOk g k (.fn x) (mFn n m) := by
  obtain ⟨oc, od, kV, doc, pm, an, cdv, ct, osl, e, lk, hcd⟩ := D.fn.ex
  refine fn_any F hn (fun f hf => ?_) fun s us _ l => ?_
  · rw [D.mg] at hf
    cases hf
    exact ⟨oc, od, osl, lk⟩
  · rw [e]
    exact .of_eq (h kV doc pm an cdv ct us l)
/-- its code object is known: it makes lambdas -/
def CodeK (g : G) (x : Str) (st : Stmt) (c : Addr) : Prop := ∃ (oc : Value) (od : Option Addr) (kV doc pm : Value) (an : Option Addr) (ct : Value) (osl : Array (Option Value)), g.K.lookup (fAt g x) = some ⟨oc, od, .func (PySem.W.fnOf x x (defArgs st) (defBody st) (defScope st) .none kV doc pm an (.ref c) ct), osl⟩
/-- the table of its code objects -/
def TabK (g : G) (c : Addr) (q : Str) : Prop := ∃ P nm, TabB g.base g.mg c P ∧ (P, nm) ∈ g.T ∧ (∀ a b, nm a b = q) ∧ ∀ p ∈ g.T, p.1 = P → p.2 = nm
theorem DefK.fnG {n : Nat} {N ps : List Str} {sv : Sv} (D : DefK g x st) (S : FnScope N ps (defScope st)) (hn : N.length - ps.length = n)
    (hb : ∀ (cdv : Value) (A : Around) (outer : List Env) (s : Shared) (H : Hp) (E : XK), PySs g k (cxG g N x (defScope st) (fAt g x) cdv A outer s H E) (WB E) (defBody st) sv) : FnM g (k + 1) x (fdAt g x) ps (mBody n sv) := D.fnM (fnG_of D.fn S hn hb)
theorem DefK.fnGC {n : Nat} {N ps : List Str} {sv : Sv} {c : Addr} (D : DefK g x st) (C : CodeK g x st c) (S : FnScope N ps (defScope st)) (hn : N.length - ps.length = n)
    (hb : ∀ (A : Around) (outer : List Env) (s : Shared) (H : Hp) (E : XK), PySs g k (cxG g N x (defScope st) (fAt g x) (.ref c) A outer s H E) (WB E) (defBody st) sv) : FnM g (k + 1) x (fdAt g x) ps (mBody n sv) := by
  refine D.fnM ?_
  obtain ⟨oc, od, kV, doc, pm, an, cdv, ct, osl, e, lk, hcd⟩ := D.fn.ex
  obtain ⟨oc', od', kV', doc', pm', an', ct', osl', lk'⟩ := C
  have ec : cdv = .ref c := by
    have q := lk.symm.trans lk'
    rw [e] at q
    have q2 := congrArg Obj.data (Option.some.inj q)
    have q3 : PySem.W.fnOf x x (defArgs st) (defBody st) (defScope st) .none kV doc pm an cdv ct = PySem.W.fnOf x x (defArgs st) (defBody st) (defScope st) .none kV' doc' pm' an' (.ref c) ct' := by injection q2
    exact congrArg FuncData.code q3
  subst ec
  rw [e] at lk ⊢
  intro A outer s H args us vs Q E hr hg e0 hbd r hl hsp
  exact LamX.run_ofS lk hcd S hr e0 hbd r hl fun hr' => ⟨_, hb A outer s H E (at_fn S hr' hg), body_spM hl hn hsp⟩
/-- a lambda's making -/
def freeB (l sc : List (Str × NameKind)) : Bool := l.all fun y => !decide (y.2 = .free) || decide (sc.lookup y.1 = some .cell) || decide (sc.lookup y.1 = some .free)
theorem lamIn_of {X : Cx} {l : LE} {pos : Pos} {c : Addr} {q : Str} {sc : List (Str × NameKind)} (T : TabK g c q) (hf : freeB l.scope.names sc = true) (hc : X.env.code = .ref c := by rfl) (hq : q = X.env.qual ++ "<lambda>" := by rfl) (hlq : l.qual = X.env.qual ++ "<lambda>" := by rfl) (hd : defaultsOf l.params X.env = ([], []) := by rfl) (hs : X.env.scope.names = sc := by rfl) : LamIn g X l pos := by
  obtain ⟨P, nm, h1, h2, h3, h4⟩ := T
  refine ⟨⟨c, P, nm, h1, hc, h2, (h3 _ _).trans hq, h4⟩, hlq, hd, fun y hy e => ?_⟩
  rw [hs]
  have z := List.all_eq_true.mp hf y hy
  simp only [Bool.or_eq_true, Bool.not_eq_true', decide_eq_true_eq, decide_eq_false_iff_not] at z
  rcases z with (z | z) | z
  · exact absurd e z
  · exact .inl z
  · exact .inr z
def capsB (N : List Str) (l : LE) (js : List Nat) (sc : List (Str × NameKind)) : Bool :=
  decide (js.map (fun j => N[j]?) = l.fr.map some) && l.fr.all (fun y => (decide (sc.lookup y = some .cell) || decide (sc.lookup y = some .free)) && decide ((y, NameKind.free) ∈ l.scope.names)) && l.scope.names.all fun y => !decide (y.2 = .free) || decide (y.1 ∈ l.fr)
theorem caps_of {X : Cx} {l : LE} {js : List Nat} {N : List Str} {sc : List (Str × NameKind)} (h : capsB N l js sc = true) (hN : X.N = N := by rfl) (hs : X.env.scope.names = sc := by rfl) (hfn : ∀ y ∈ l.fr, X.fn y = true := by exact fun _ _ => rfl) : Caps X l js := by
  unfold capsB at h
  simp only [Bool.and_eq_true, Bool.or_eq_true, Bool.not_eq_true', decide_eq_true_eq, decide_eq_false_iff_not, List.all_eq_true] at h
  obtain ⟨⟨h1, h2⟩, h3⟩ := h
  refine ⟨by rw [hN]; exact h1, fun y hy => by rw [hs]; exact (h2 y hy).1, fun y hy => (h2 y hy).2, fun y hy e => (h3 y hy).elim (fun z => absurd e z) id, hfn⟩
end
end PD
namespace PD
open PySem PySem.Spec L2
open PyProof.Rows hiding St

/-- the lambda e within the def x -/
def leOf (x : Str) (e : Expr) (ps fr : List Str) : LE := ⟨x ++ ".<locals>." ++ "<lambda>", lamA e, ps, lamB e, lamS e, fr⟩
def apFn (x : Str) (n : Nat) (m : Mf) : Ap := ⟨fun d => match d with
  | .fn y => decide (y = x)
  | _ => false, fun _ => mFn n m⟩
def apClo (n np nl : Nat) (ev : Ev) : Ap := ⟨fun d => match d with
  | .clo j _ => decide (j = n)
  | _ => false, fun d => match d with
  | .clo _ caps => mLam np nl ev caps
  | _ => fun _ _ => .bad⟩
section
variable {g : G} {k : Nat}
theorem apFn_ok {x : Str} {n : Nat} {m : Mf} (h : AnyOk g k (.fn x) (mFn n m)) : ApOk g k (apFn x n m) := fun d hd => by
  cases d with
  | fn y =>
    have e : y = x := of_decide_eq_true hd
    subst e
    exact h
  | _ => cases hd
theorem apClo_ok {n np nl : Nat} {ev : Ev} (h : ∀ caps, AnyOk g k (.clo n caps) (mLam np nl ev caps)) : ApOk g k (apClo n np nl ev) := fun d hd => by
  cases d with
  | clo j caps =>
    have e : j = n := of_decide_eq_true hd
    subst e
    exact h caps
  | _ => cases hd
end
/-- tape['large'] != [] as a test -/
theorem py_tneT {g : G} {k : Nat} {X : Cx} {W : WX} {kl kc kr kt : Str} {x : Str} {i j : Nat} {p1 p2 pos : Pos} (T : TkOk g kl kc kr kt) (ho : PE X (.Name x p1) (tVar i)) {p3 p4 : Pos} (hs : NoSl (.Constant (.str kl) j p2) := by intro _ _; rfl) : PyT g k X W (.Compare (.Subscript (.Name x p1) (.Constant (.str kl) j p2) pos) [.NotEq] [.List [] p3] p4) (tOf (vTNe i)) := fun A => by
  have hu : X.A.units + 64 < cLine := by have := A.room.un; omega
  refine (pt_cmpR (op_neD hu) (pe_dget (room_u A) ho pe_str hs) (pe_lst pa_nil) rfl).imp' fun σ H Q q => ?_
  obtain ⟨w, ρ, τ, env, q⟩ := tT_of q
  unfold vTNe at q
  split at q
  · rename_i hq
    split at hq
    · rename_i hi
      cases hq
      obtain ⟨t, l, c, h1, h2, h3⟩ := tape_at env hi
      refine ⟨.ref t, h1, t, .ref l, rfl, ?_, Nat.zero_le _, fun p hp => ?_⟩
      · have := DGet.k (k := .inr kl) h3.ht
        rw [T.lg] at this
        exact this
      · have nl : l ≠ p := fun z => by have := h3.hl; rw [z, hp] at this; cases this
        obtain ⟨b, _⟩ := (Ps.refl env).newLst (es := []) (us := []) hp (by rw [RepL])
        refine ⟨.list (τ.large.map PyData.int), .list [], .lst (SqL.of (by rw [upd_ne nl]; exact h3.hl)) (dp_ints _), .lst (SqL.of upd_same) .nil, shaped_ints _, shaped_ints [], ?_⟩
        rw [eqv_nil]
        exact q w _ _ b (by rw [RsR, Rep])
    · cases hq
  · rename_i hq; split at hq <;> cases hq
  · exact q.elim
end PD
namespace PD
open PySem PySem.Spec L2
open PyProof.Rows hiding St
open LamX (TabB CodeO)

section
variable {g : G}
/-- _law_begun(script) -/
def tBegun (g : G) (W : WX) (lg cl : List Int → List Int) (most : Nat) : TE := fun σ H Q => ∃ v, σ[0]? = some (some v) ∧ spB g lg cl most [v] H Q (WE W σ)
theorem pe_begun {k j : Nat} {X : Cx} {W : WX} {x y : Str} {fd : FuncData} {lg cl : List Int → List Int} {most : Nat} {f : Addr} {p1 p2 pos : Pos} (A : At g k X W) (hm : g.mg x = some (.ref f)) (hk : PySem.W.keepIn g.K (.ref f) = true) (F : FnB g j f fd ["script"] lg cl most) (B : Bnd g fd ["script"] 1 [] (List.range 1)) (hj : j ≤ k)
    (ho : PE X (.Name y p2) (tVar 0)) (hg : Gl X x := by rfl) (hdb : (x == ("__debug__" : Str)) = false := by decide) (he : starEach [.Name y p2] X.env = (false, eval (.Name y p2) X.env) :: starEach [] X.env := by rfl) (hpl : (backTo pos (starEach [] X.env)).any (·.1) = false := by rfl) :
    PE X (.Call (.Name x p1) [.Name y p2] [] pos) (tBegun g W lg cl most) := by
  refine ⟨fun pins s σ H Q I h => ?_⟩
  obtain ⟨v, hv, q⟩ := h
  refine wpAny_Call_Name_kw (ld_glob I hg (by rw [A.mg]; exact hm) ?_ hdb)
  refine PySem.W.callWith_K (h₀ := X.base) I.ok.mod.kin (by rw [A.K]; exact hk) (thn ((pa_cons ho pa_nil he).run pos pins s σ H (fun vs H1 => vs = [v] ∧ H1 = H) I ⟨v, hv, rfl, rfl⟩) fun us s1 ⟨vs, H1, I1, r, e1, e2⟩ => ⟨I1.kIn, ?_⟩) he hpl
  subst e1
  subst e2
  obtain ⟨b1, b2, b3⟩ := B
  have e0 := I1.env0
  have lu : us.length = 1 := by rw [← r.length]; rfl
  have bb := b3 s1 us [] (by rw [← A.K]; exact I1.kIn) lu rfl
  rw [List.append_nil, ← lu, range_pick] at bb
  have run := F X.A X.stack s1 H1 _ us [v] Q (WE W σ) (A.room.mono hj) A.guards (by rw [← A.prog, ← A.w, ← A.K, ← A.mg, ← A.base]; exact e0) bb r rfl q
  rw [← A.prog, ← A.w] at run
  refine wpAny_call (codeAny_mono run fun rr s' hq => ?_)
  cases rr with
  | error e => exact passAt A.takes σ pins H1 s1 e s' I1 hq
  | ok fl =>
    cases fl with
    | ret u => exact I1.after hq
    | next => exact False.elim hq
    | brk => exact False.elim hq
    | cont => exact False.elim hq
theorem start_set {N : List Str} {a v : V} (h : 2 ≤ N.length) : (L2.start N [a]).set 1 (some v) = L2.start N [a, v] := by
  unfold L2.start
  obtain ⟨m, e⟩ : ∃ m, N.length = m + 2 := ⟨N.length - 2, by omega⟩
  rw [e]
  show ([some a] ++ List.replicate (m + 1) none).set 1 (some v) = [some a, some v] ++ List.replicate m none
  rw [List.replicate_succ]
  rfl
/-- the zone of the script -/
def zScr (H : Hp) (a : Addr) : Hp := fun b => if b = a then (match H b with
  | some (.tbl _) => none
  | o => o) else none
theorem zScr_le {H : Hp} {a : Addr} : ZLe (zScr H a) H := fun b o e => by
  unfold zScr at e
  split at e
  · split at e
    · cases e
    · exact e
  · cases e
theorem zScr_nt {H : Hp} {a : Addr} : NoTbl (zScr H a) := fun b ps e => by
  unfold zScr at e
  split at e
  · split at e
    · cases e
    · rename_i h
      exact h ps e
  · cases e
theorem zScr_sq {K : PySem.W.Frag} {H : Hp} {a : Addr} {xs : List V} (h : SqL K H a xs) : SqL K (zScr H a) a xs := by
  have at_ : ∀ {o : HO}, H a = some o → (∀ ps, o ≠ .tbl ps) → zScr H a a = some o := fun {o} e n => by
    unfold zScr
    rw [if_pos rfl, e]
    cases o <;> first | rfl | exact (n _ rfl).elim
  rcases h with (h | ⟨o, h⟩) | h
  · exact .inl (.inl (at_ h fun ps z => nomatch z))
  · exact .inl (.inr ⟨o, at_ h fun ps z => nomatch z⟩)
  · exact .inr h
theorem caller_room {k : Nat} (h : k ≤ 60) : Room k callerA := by
  have h1 : callerA.depth + 3 * 60 + 5 < recursionLimit := by decide
  have h2 : callerA.units + 16 * 60 + 200 < cLine := by decide
  exact ⟨rfl, by omega, by omega⟩
/-- THE RULE for a law -/
theorem law_body {k j n most : Nat} {st : Stmt} {c : Addr} {N : List Str} {mv : Sv} {lg cl : List Int → List Int} {rest : List Stmt} {pz pa p1 p2 p3 : Pos} (D : DefK g "law" st) (C : CodeK g "law" st c) (S : FnScope N ["script"] (defScope st)) (hn : N.length - 2 = n) (h2 : 2 ≤ N.length) (hN : N[1]? = some ("tape" : Str))
    (hb : defBody st = .Assign [.Name "tape" pz] (.Call (.Name "_law_begun" p1) [.Name "script" p2] [] p3) pa :: rest) {stB : Stmt} (DB : DefK g "_law_begun" stB) (FB : FnB g j (fAt g "_law_begun") (fdAt g "_law_begun") ["script"] lg cl most) (B : Bnd g (fdAt g "_law_begun") ["script"] 1 [] (List.range 1)) (BL : Bnd g (fdAt g "law") ["script"] 1 [] (List.range 1)) (hj : j ≤ k) (hk : k + 1 ≤ 60)
    (hs : ∀ (A : Around) (outer : List Env) (s : Shared) (H : Hp) (E : XK), At g k (cxG g N "law" (defScope st) (fAt g "law") (.ref c) A outer s H E) (WB E) → PS (cxG g N "law" (defScope st) (fAt g "law") (.ref c) A outer s H E) (.Assign [.Name "tape" pz] (.Call (.Name "_law_begun" p1) [.Name "script" p2] [] p3) pa) (tAsg (tBegun g (WB E) lg cl most) (gName 1)))
    (hrest : ∀ (A : Around) (outer : List Env) (s : Shared) (H : Hp) (E : XK), PySs g k (cxG g N "law" (defScope st) (fAt g "law") (.ref c) A outer s H E) (WB E) rest mv)
    {ns : List Int} (hlen : ns.length ≤ most) (plain : ∃ τ', mv (.fz (.script ns) :: .fz .tape :: List.replicate n .un) ⟨lg ns, 0, cl ns, 0⟩ = .rt (.fz (.bl true)) τ')
    {s : Shared} {H : Hp} {a : Addr} (e0 : Env0 g.prog g.w g.K g.mg g.base callerA [] s H) (hT : ∀ p ∈ g.T, H p.1 = some (.tbl #[])) (hq : SqL g.K H a (ns.map V.int)) :
    codeAny (model g.prog g.w) callerA (.call (.ref (fAt g "law")) ⟨[.ref a], []⟩) (CR (L2.CX g.prog g.w) [] g.prog g.w H s (fun v _ => v = .bl true) fun _ _ _ => False) s := by
  obtain ⟨oc, od, kV, doc, pm, an, cdv, ct, osl, e, lk, hcd⟩ := D.fn.ex
  obtain ⟨oc', od', kV', doc', pm', an', ct', osl', lk'⟩ := C
  have ec : cdv = .ref c := by
    have q := lk.symm.trans lk'
    rw [e] at q
    have q2 := congrArg Obj.data (Option.some.inj q)
    have q3 : PySem.W.fnOf "law" "law" (defArgs st) (defBody st) (defScope st) .none kV doc pm an cdv ct = PySem.W.fnOf "law" "law" (defArgs st) (defBody st) (defScope st) .none kV' doc' pm' an' (.ref c) ct' := by injection q2
    exact congrArg FuncData.code q3
  subst ec
  obtain ⟨b1, b2, b3⟩ := BL
  have kin : g.K.In s.heap := e0.mod.kin.keeps fun b o e => (e0.bs b o e).1
  have bb := b3 s [.ref a] [] kin rfl rfl
  rw [e] at lk bb
  have r : Vals [.ref a] [Value.ref a] := .cons rfl .nil
  refine LamX.run_ofS (k := k) lk hcd S (caller_room hk) e0 bb r rfl fun hr' => ?_
  rw [hb]
  refine ⟨_, pss_cons (hs callerA [] s H _ (at_fn S hr' rfl)) ((hrest callerA [] s H _) (at_fn S hr' rfl)), ?_⟩
  have tb : TabsK g.T (zScr H a) H := ⟨zScr_nt, fun p hp => ⟨#[], hT p hp, trivial, fun pos cv z => by cases z⟩⟩
  refine ⟨.ref a, by unfold L2.start; rfl, a, ns, zScr H a, rfl, hlen, zScr_sq hq, zScr_le, tb, fun w' H' v Bg => ?_⟩
  obtain ⟨t, l, cc, rfl, htp⟩ := Bg.at_
  obtain ⟨τ', hp⟩ := plain
  have en : Ent g w' H' [.fz (.script ns), .fz .tape] ⟨lg ns, 0, cl ns, 0⟩ [.ref a, .ref t] :=
    Ent.cons ⟨.ref a, rfl, by rw [Rep]; exact ⟨a, rfl, SqL.mono Bg.z (zScr_sq hq)⟩⟩ rfl (Ent.cons ⟨.ref t, rfl, by rw [Rep]; exact ⟨t, l, cc, htp, rfl⟩⟩ rfl ⟨rfl, fun i s h => by simp at h, fun s h => by simp at h, Bg.zle, Bg.tape, Bg.tabs⟩)
  refine ⟨w', _, _, by rw [start_set h2]; exact ent_env en hn, ?_⟩
  have hp' : mv ([.fz (.script ns), .fz .tape] ++ List.replicate n .un) ⟨lg ns, 0, cl ns, 0⟩ = .rt (.fz (.bl true)) τ' := hp
  rw [hp']
  intro w2 H2 σ2 ρ2 v ps hr
  rw [RsR, Rep] at hr
  exact hr
end
end PD
namespace PD
open PySem PySem.Spec L2
open PyProof.Rows hiding St

abbrev iabs (i : Int) : Int := if i < 0 then -i else i
abbrev big : Int := 10 ^ 18
def lgA (ns : List Int) : List Int := (ns.filter fun i => decide (big ≤ iabs i)).map fun i => iabs i - big
def clA (ns : List Int) : List Int := ns.map iabs
def tvLA : Tv := tOf (vPrim pGe [(.ex (vPrim pAbs [(.pk 2)])), (.ex (vPrim pPow [(.ex (vLit (.int 10))), (.ex (vLit (.int 18)))]))])
def elLA : Ev := vPrim pSub [(.ex (vPrim pAbs [(.pk 2)])), (.ex (vPrim pPow [(.ex (vLit (.int 10))), (.ex (vLit (.int 18)))]))]
def evLA : Ev := vLc (srcScr 0) (.nm 2) [2] tvLA elLA
def evCA : Ev := vLc (srcScr 0) (.nm 2) [2] tYesD (vPrim pAbs [(.pk 2)])
theorem tvLA_at (s x : Sl) (τ : Tape) (n : Int) : tvLA [s, x, .fz (.int n)] τ = .ok (decide (big ≤ iabs n)) [s, x, .fz (.int n)] τ := rfl
theorem elLA_at (s x : Sl) (τ : Tape) (n : Int) : vFz elLA [s, x, .fz (.int n)] τ = .ok (.fz (.int (iabs n - big))) [s, x, .fz (.int n)] τ := rfl
theorem abs_at (s x : Sl) (τ : Tape) (n : Int) : vFz (vPrim pAbs [(.pk 2)]) [s, x, .fz (.int n)] τ = .ok (.fz (.int (iabs n))) [s, x, .fz (.int n)] τ := rfl
theorem tYes_at (ρ : Rho) (τ : Tape) : tYesD ρ τ = .ok true ρ τ := rfl
theorem lcA (s x : Sl) (τ : Tape) : ∀ (ns : List Int) (acc : List D), acc.length + ns.length ≤ 63 → lcL (.nm 2) tvLA elLA [2] (ns.map D.int) acc [s, x, .un] τ = .ok (acc ++ (lgA ns).map D.int) [s, x, .un] τ
  | [], acc, h => by simp [lcL, lgA]
  | n :: ns, acc, h => by
    have h63 : (63 : Nat) < sizeLine := by decide
    simp only [List.length_cons] at h
    have hl : acc.length < sizeLine := by omega
    have hr : ([s, x, Sl.un] : Rho).set 2 (.fz (.int n)) = [s, x, .fz (.int n)] := rfl
    have hw : wipeR [s, x, .fz (.int n)] [2] = [s, x, Sl.un] := rfl
    rw [List.map_cons, lcL]
    simp only [asg, hr, tvLA_at]
    by_cases c : big ≤ iabs n
    · have ih := lcA s x τ ns (acc ++ [.int (iabs n - big)]) (by simp; omega)
      have e : lgA (n :: ns) = (iabs n - big) :: lgA ns := by unfold lgA; rw [List.filter_cons_of_pos (by exact decide_eq_true c)]; rfl
      rw [decide_eq_true c]
      simp only [elLA_at, hl, if_true, hw]
      rw [ih, e, List.append_assoc]
      rfl
    · have ih := lcA s x τ ns acc (by omega)
      have e : lgA (n :: ns) = lgA ns := by unfold lgA; rw [List.filter_cons_of_neg (by simpa using c)]
      rw [decide_eq_false c]
      simp only [hw]
      rw [ih, e]
theorem lcC (s x : Sl) (τ : Tape) : ∀ (ns : List Int) (acc : List D), acc.length + ns.length ≤ 63 → lcL (.nm 2) tYesD (vPrim pAbs [(.pk 2)]) [2] (ns.map D.int) acc [s, x, .un] τ = .ok (acc ++ (clA ns).map D.int) [s, x, .un] τ
  | [], acc, h => by simp [lcL, clA]
  | n :: ns, acc, h => by
    have h63 : (63 : Nat) < sizeLine := by decide
    simp only [List.length_cons] at h
    have hl : acc.length < sizeLine := by omega
    have hr : ([s, x, Sl.un] : Rho).set 2 (.fz (.int n)) = [s, x, .fz (.int n)] := rfl
    have hw : wipeR [s, x, .fz (.int n)] [2] = [s, x, Sl.un] := rfl
    have ih := lcC s x τ ns (acc ++ [.int (iabs n)]) (by simp; omega)
    rw [List.map_cons, lcL]
    simp only [asg, hr, tYes_at, abs_at, hl, if_true, hw]
    rw [ih, List.append_assoc]
    rfl
theorem evLA_eq (ns : List Int) (h : ns.length ≤ 63) : evLA (.fz (.script ns) :: List.replicate 2 .un) τN = .ok (.own (.lst ((lgA ns).map D.int))) (.fz (.script ns) :: List.replicate 2 .un) τN := by
  have q := lcA (.fz (.script ns)) .un τN ns [] (by simpa using h)
  show (match lcL (.nm 2) tvLA elLA [2] (ns.map D.int) [] [.fz (.script ns), .un, .un] τN with
      | .ok acc ρ2 τ2 => O.ok (Rs.own (.lst acc)) (restR [.fz (.script ns), .un, .un] ρ2 [2]) τ2
      | _ => .bad) = _
  rw [q]
  rfl
theorem evCA_eq (ns : List Int) (h : ns.length ≤ 63) (x : Sl) : evCA [.fz (.script ns), x, .un] τN = .ok (.own (.lst ((clA ns).map D.int))) [.fz (.script ns), x, .un] τN := by
  have q := lcC (.fz (.script ns)) x τN ns [] (by simpa using h)
  show (match lcL (.nm 2) tYesD (vPrim pAbs [(.pk 2)]) [2] (ns.map D.int) [] [.fz (.script ns), x, .un] τN with
      | .ok acc ρ2 τ2 => O.ok (Rs.own (.lst acc)) (restR [.fz (.script ns), x, .un] ρ2 [2]) τ2
      | _ => .bad) = _
  rw [q]
  rfl
end PD
namespace PD
open PySem PySem.Spec L2
open PyProof.Rows hiding St
open He (ga ba)

theorem excCB_ok {K : PySem.W.Frag} {D : Addr} (h : excCB K D = true) : ExcC K D := by
  obtain ⟨h1, h⟩ := ba h
  obtain ⟨h2, h⟩ := ba h
  obtain ⟨h3, h⟩ := ba h
  obtain ⟨h4, h⟩ := ba h
  obtain ⟨h5, h⟩ := ba h
  obtain ⟨h6, h⟩ := ba h
  obtain ⟨h7, h8⟩ := ba h
  exact ⟨of_decide_eq_true h1, of_decide_eq_true h2, of_decide_eq_true h3, h4, of_decide_eq_true h5, of_decide_eq_true h6, of_decide_eq_true h7, of_decide_eq_true h8⟩
theorem isiB_ok {g : G} {sub : Tag → Tag → Option Bool} {ts : List Tag} (h : isiB g.K sub ts = true) (hd : ∀ a b r, sub a b = some r → a ∈ ts ∧ b ∈ ts) (hg : ∀ c, Tag.o c ∈ ts → g.mg c = some (.ref (ga g.K c))) : IsiOk g sub := fun a b r e => by
  obtain ⟨h1, h2⟩ := hd a b r e
  have z := List.all_eq_true.mp (List.all_eq_true.mp h a h1) b h2
  rw [e] at z
  have v : ∀ t ∈ ts, t.val g = some (tagV g.K t) := fun t ht => by
    cases t with
    | b n => rfl
    | o c => exact val_o (hg c ht)
  exact ⟨_, _, v a h1, v b h2, of_decide_eq_true z⟩
theorem excOk_of {g : G} {sub : Tag → Tag → Option Bool} {cs : List Str} (hd : ∀ c b r, sub (.o c) b = some r → c ∈ cs) (h : (cs.all fun c => excCB g.K (ga g.K c)) = true) (hg : ∀ c ∈ cs, g.mg c = some (.ref (ga g.K c))) : ExcOk g sub := fun c b r e C hC => by
  have hc := hd c b r e
  rw [hg c hc] at hC
  cases hC
  exact excCB_ok (List.all_eq_true.mp h c hc)
theorem fldB_ok {g : G} {f : Str} {has : Str → Bool} {cs : List Str} (h : fldB g.K f cs = true) (hd : ∀ c, has c = true → c ∈ cs) (hg : ∀ c ∈ cs, g.mg c = some (.ref (ga g.K c))) : FldOk g f has := fun c hc C hC => by
  have hm := hd c hc
  rw [hg c hm] at hC
  cases hC
  obtain ⟨z1, z2⟩ := ba (List.all_eq_true.mp h c hm)
  exact ⟨xfB_ok z1, of_decide_eq_true z2⟩
theorem catchB_ok {g : G} {cn : Str} {can : Str → Option Bool} {cs : List Str} (h : catchB g.K cn can cs = true) (hd : ∀ c b, can c = some b → c ∈ cs) (hg : ∀ c ∈ cs, g.mg c = some (.ref (ga g.K c))) (hn : g.mg cn = some (.ref (ga g.K cn))) : CatchOk g cn can := ⟨_, hn, fun c b e C hC => by
  have hm := hd c b e
  rw [hg c hm] at hC
  cases hC
  have z := List.all_eq_true.mp h c hm
  rw [e] at z
  exact of_decide_eq_true z⟩
theorem mem_e {cs : List Str} {a : String} (h : a ∈ tyE) : Tag.b a ∈ tagsOf cs := List.mem_append_left _ (List.mem_map.mpr ⟨a, h, rfl⟩)
theorem mem_b {cs : List Str} {a : String} (h : a ∈ tyB) : Tag.b a ∈ tagsOf cs := mem_e (List.mem_append_left _ h)
theorem mem_o {cs : List Str} {a : Str} (h : a ∈ cs) : Tag.o a ∈ tagsOf cs := List.mem_append_right _ (List.mem_map.mpr ⟨a, h, rfl⟩)
theorem subOf_mem {cs : List Str} {l : List (Str × List Str)} : ∀ (a b : Tag) (r : Bool), subOf cs l a b = some r → a ∈ tagsOf cs ∧ b ∈ tagsOf cs := fun a b r e => by
  cases a with
  | b a =>
    cases b with
    | b b => rw [subOf] at e; split at e; (rename_i h; exact ⟨mem_b h.1, mem_b h.2⟩); cases e
    | o y => rw [subOf] at e; split at e; (rename_i h; exact ⟨mem_b h.1, mem_o h.2⟩); cases e
  | o x =>
    cases b with
    | b b => rw [subOf] at e; split at e; (rename_i h; exact ⟨mem_o h.1, mem_e h.2⟩); cases e
    | o y => rw [subOf] at e; split at e; (rename_i h; exact ⟨mem_o h.1, mem_o h.2⟩); cases e
theorem subOf_exc {cs : List Str} {l : List (Str × List Str)} : ∀ (c : Str) (b : Tag) (r : Bool), subOf cs l (.o c) b = some r → c ∈ cs := fun c b r e => by
  cases b with
  | b b => rw [subOf] at e; split at e; (rename_i h; exact h.1); cases e
  | o y => rw [subOf] at e; split at e; (rename_i h; exact h.1); cases e
theorem tags_glo {g : G} {cs : List Str} (hg : ∀ c ∈ cs, g.mg c = some (.ref (ga g.K c))) : ∀ c, Tag.o c ∈ tagsOf cs → g.mg c = some (.ref (ga g.K c)) := fun c h => by
  rcases List.mem_append.mp h with h | h
  · obtain ⟨a, _, e⟩ := List.mem_map.mp h; cases e
  · obtain ⟨a, ha, e⟩ := List.mem_map.mp h
    cases e
    exact hg c ha
theorem catchOf_mem {cs : List Str} {l : List (Str × List Str)} {y : Str} : ∀ (c : Str) (b : Bool), catchOf cs l y c = some b → c ∈ cs := fun c b e => by
  unfold catchOf at e
  split at e
  · assumption
  · cases e
/-- the tape's dict -/
def tkvA (l c : Addr) (r t : Int) : List (Key × V) := [(.inr "large", .ref l), (.inr "rest", .int r), (.inr "cells", .ref c), (.inr "turn", .int t)]
end PD
namespace PD
open PySem PySem.Spec L2
open PyProof.Rows hiding St
open He (ga ma ba)

theorem initC_ok {K : PySem.W.Frag} {C : Addr} (h : initC K C = true) : ∃ nm q N bs bm sn sub ab col dd k0 k1 k2 k3 k5, K.lookup C = some (excClassObj nm q C N bs bm true sn sub ab col dd k0 k1 k2 k3 k5 "ValueError.__new__") ∧ PySem.HandSPX.refsVE bm = true := by
  unfold initC at h
  split at h
  · rename_i t dd cd sl ho
    split at h
    · rename_i C' bm k0 k1 k2 k3 n k5 hm hs
      obtain ⟨h1, h⟩ := ba h
      obtain ⟨h2, h⟩ := ba h
      obtain ⟨h3, h⟩ := ba h
      obtain ⟨h4, h⟩ := ba h
      obtain ⟨h5, h6⟩ := ba h
      have e1 := of_decide_eq_true h1
      have e2 := of_decide_eq_true h2
      have e3 := of_decide_eq_true h3
      subst e1 e2 e3
      obtain ⟨nm, bs, mro, N, q, hd, sn, sub, ab, col, del⟩ := cd
      have es : sl = #[k0, k1, k2, k3, some (.builtin "ValueError.__new__"), k5] := by
        have := congrArg List.toArray hs
        simpa using this
      have e4 : del = false := by simpa using h4
      have e5 : hd = true := h5
      have e6 : mro = .ref C' :: bm := hm
      subst es e4 e5 e6
      exact ⟨nm, q, N, bs, bm, sn, sub, ab, col, dd, k0, k1, k2, k3, k5, ho, h6⟩
    · cases h
  · cases h
theorem initB_ok {P : Program} {K : PySem.W.Frag} {I : InitW} {x c : Str} (e : fnC K x = I.fnV) (h : initB K P.main.file I.qual I.fld x c = true) : InitK P K I (ga K c) := by
  obtain ⟨h1, h⟩ := ba h
  obtain ⟨h2, h⟩ := ba h
  obtain ⟨h3, h⟩ := ba h
  obtain ⟨h4, h⟩ := ba h
  obtain ⟨h5, h⟩ := ba h
  obtain ⟨h6, h⟩ := ba h
  obtain ⟨h7, h⟩ := ba h
  obtain ⟨h8, h⟩ := ba h
  obtain ⟨h9, h⟩ := ba h
  obtain ⟨h10, h⟩ := ba h
  obtain ⟨h11, h⟩ := ba h
  obtain ⟨h12, h⟩ := ba h
  obtain ⟨h13, h⟩ := ba h
  obtain ⟨h14, h15⟩ := ba h
  refine ⟨?_, initC_ok h2, of_decide_eq_true h8, of_decide_eq_true h9, of_decide_eq_true h10, of_decide_eq_true h11, h12, of_decide_eq_true h13, h14, of_decide_eq_true h15⟩
  have hk := of_decide_eq_true h5
  have hm := of_decide_eq_true h4
  have hf := of_decide_eq_true h6
  have ht := of_decide_eq_true h7
  obtain ⟨cdD, hcd⟩ := Option.isSome_iff_exists.mp h3
  unfold initF at h1
  unfold fnC at e
  split at h1
  · rename_i oc od fd osl lk
    rw [lk] at e
    split at h1
    · rename_i n cc cda hcl hco hdf
      obtain ⟨k1, h1⟩ := ba h1
      obtain ⟨k2, h1⟩ := ba h1
      obtain ⟨k3, k4⟩ := ba h1
      have en := of_decide_eq_true k1
      obtain ⟨n1, n2, n3, n4, n5, n6, n7, n8, n9, n10, n11, n12, n13, n14, n15⟩ := fd
      have e2 : (some (n1, n2, n3, n4, n5, n6, n15) : FnC) = (some (("__init__" : Str), I.qual, I.params, FuncBody.stmts I.body, I.scope, mainGlobals, builtinsNs) : FnC) := e
      simp only [Option.some.injEq, Prod.mk.injEq] at e2
      obtain ⟨g1, g2, g3, g4, g5, g6, g7⟩ := e2
      have hcl : n7 = [(n, cc)] := hcl
      have hco : n13 = .ref cda := hco
      have hdf : n8 = .none := hdf
      subst g1 g2 g3 g4 g5 g6 g7 hcl hco hdf en
      refine ⟨_, cc, cda, ga K x, oc, od, osl, n9, n10, n11, n14, n12, lk, k2, ?_, ?_, ⟨cdD, hcd⟩, hm, hk, hf, ht⟩
      · split at k3
        · rename_i ccl cdd vs ccs lk2
          split at k3
          · rename_i fl tf hv
            exact ⟨ccl, cdd, vs, ccs, fl, tf, lk2, hv, k3⟩
          · cases k3
        · cases k3
      · split at k4
        · rename_i cl cld D' csl lk3
          have := of_decide_eq_true k4
          subst this
          exact ⟨cl, cld, csl, lk3⟩
        · cases k4
    · cases h1
  · cases h1
end PD
namespace PD
open PySem PySem.Spec L2
open PyProof.Rows hiding St
open He (ga ma ba Fa DefD Defn AlX obsX valX SaysX saysX_of frT frT_in asD cT)
open LamX (TabB)

structure SaysP (fa : List Fa) (fn : List DefD) (tf : List Defn) (ex : PySem.W.Frag → Bool) (ini : List (Str × InitW)) (w : World) (h : Heap) (K : PySem.W.Frag) : Prop where
  x : SaysX fa fn [] tf ex w h K
  i : ini.map (fun p => fnC K p.1) = ini.map fun p => p.2.fnV
theorem saysP_of {n : Nat} {fa : List Fa} {fn : List DefD} {tf : List Defn} {ex : PySem.W.Frag → Bool} {ini : List (Str × InitW)} {w : World} {h : Heap} (e : obsP n fa fn tf ex ini h.get? = valP fn ini w) : SaysP fa fn tf ex ini w h (kP n h.get?) := by
  have q1 : He.obsT fa fn [] (kP n h.get?) = He.valT fn [] w := congrArg (fun z : AlP => z.1.1) e
  have q2 : (ex (kP n h.get?) && He.tabsB h.get? tf (kP n h.get?)) = true := congrArg (fun z : AlP => z.1.2) e
  have q3 := congrArg (fun z : AlP => z.2) e
  obtain ⟨r1, r2⟩ := ba q2
  have each : ∀ p ∈ tf, PySem.W.codeHdIn (kP n h.get?) (cT (kP n h.get?) p).1 (cT (kP n h.get?) p).2 = true ∧ ∃ o, h.get? (cT (kP n h.get?) p).2 = some o ∧ He.emptyTab o = true := fun p hp => by
    obtain ⟨t1, t2⟩ := ba (List.all_eq_true.mp r2 p hp)
    cases q : h.get? (cT (kP n h.get?) p).2 with
    | none => rw [q] at t2; cases t2
    | some o => rw [q] at t2; exact ⟨t1, o, rfl, t2⟩
  refine ⟨⟨q1, r1, fun p hp => (each p hp).1, fun p hp => ?_, fun p hp => ?_⟩, q3⟩
  · obtain ⟨_, o, q, z⟩ := each p hp
    exact He.frT_none q z
  · obtain ⟨_, o, q, z⟩ := each p hp
    rw [q, He.emptyTab_eq z]
def hookP (n : Nat) (fa : List Fa) (fn : List DefD) (tf : List Defn) (ex : PySem.W.Frag → Bool) (ini : List (Str × InitW)) : PySem.W.Hook where
  α := AlP
  obs := fun s => obsP n fa fn tf ex ini s.heap.get?
  val := fun w => valP fn ini w
  says := fun w h => ∃ K : PySem.W.Frag, K.In h ∧ SaysP fa fn tf ex ini w h K
  of := fun _ _ e => ⟨_, frT_in, saysP_of e⟩
  keeps := fun _ _ _ ⟨K, hK, c⟩ k => ⟨K, PySem.W.Frag.In.keeps hK k, ⟨c.x.t, c.x.more, c.x.hd, c.x.out, fun p hp => k _ _ (c.x.empty p hp)⟩, c.i⟩
theorem obsP_eq {n : Nat} {fa : List Fa} {fn : List DefD} {tf : List Defn} {ex : PySem.W.Frag → Bool} {ini : List (Str × InitW)} {g : Addr → Option Obj} {s : Shared} (h : ∀ a, g a = s.heap.get? a) : obsP n fa fn tf ex ini g = (hookP n fa fn tf ex ini).obs s := by
  have e : g = s.heap.get? := funext h
  rw [e] <;> rfl
/-- the tables of the defs with lambdas -/
def tabsOf (K : PySem.W.Frag) (tf : List Defn) : List NdefX.NTab := tf.map fun p => ((cT K p).2, fun _ _ => p.1 ++ ".<locals>.<lambda>")
section
variable {g : G} {fa : List Fa} {fn : List DefD} {tf : List Defn} {h : Heap} {x : Str} {st : Stmt}
theorem says_fun (c : He.SaysD fa fn g.K) (i : Nat) (h1 : fn[i]? = some (dOf x st) := by rfl) : ∃ fd, L2.Fun g.K x x st (ga g.K x) fd := by
  obtain ⟨fd, F⟩ := c.def_ i h1
  obtain ⟨oc, od, dV, kV, doc, pm, an, cdv, ct, osl, e, lk, hcd, hD, hK⟩ := F.ex
  rcases hD with ⟨_, rfl⟩ | ⟨n, _⟩
  · exact ⟨fd, ⟨oc, od, kV, doc, pm, an, cdv, ct, osl, e, lk, hcd⟩, F.kp⟩
  · exact absurd rfl n
theorem says_def (X : g.K.In h) (G : h.Ns mainGlobals g.mg) (c : He.SaysD fa fn g.K) (i j : Nat) (h1 : fn[i]? = some (dOf x st) := by rfl) (h2 : fa[j]? = some (.glo x) := by rfl) : DefK g x st := by
  obtain ⟨fd, F⟩ := says_fun c i h1
  exact ⟨_, fd, He.glo_ok X G (c.fact j h2), F⟩
theorem says_code (X : g.K.In h) (G : h.Ns mainGlobals g.mg) (c : He.SaysD fa fn g.K) (i j : Nat) (h1 : fn[i]? = some (dOf x st) := by rfl) (h2 : fa[j]? = some (.glo x) := by rfl) : CodeK g x st (cT g.K (x, none)).1 := by
  obtain ⟨fd, F⟩ := says_fun c i h1
  have m : fAt g x = ga g.K x := fAt_of (He.glo_ok X G (c.fact j h2))
  obtain ⟨oc, od, kV, doc, pm, an, cdv, ct, osl, e, lk, hcd⟩ := F.ex
  obtain ⟨cc, rfl⟩ := He.codeIn_ref hcd
  have e2 : He.codeOf g.K (x, none) = cc := He.codeOf_eq (p := (x, none)) lk (by rw [e])
  refine ⟨oc, od, kV, doc, pm, an, ct, osl, ?_⟩
  show g.K.lookup (fAt g x) = some ⟨oc, od, .func (PySem.W.fnOf x x (defArgs st) (defBody st) (defScope st) .none kV doc pm an (.ref (He.codeOf g.K (x, none))) ct), osl⟩
  rw [m, e2, lk, e]
theorem says_tab (tb : ∀ p ∈ tf, TabB g.base g.mg (cT g.K p).1 (cT g.K p).2) (hT : g.T = tabsOf g.K tf) (nd : tabsNd g.K tf = true) (hx : (x, none) ∈ tf) : TabK g (cT g.K (x, none)).1 (x ++ ".<locals>.<lambda>") := by
  refine ⟨_, fun _ _ => x ++ ".<locals>.<lambda>", tb _ hx, by rw [hT]; exact List.mem_map.mpr ⟨_, hx, rfl⟩, fun _ _ => rfl, fun p hp e => ?_⟩
  rw [hT] at hp
  obtain ⟨q, hq, rfl⟩ := List.mem_map.mp hp
  have n : (tf.map fun p => (cT g.K p).2).Nodup := of_decide_eq_true nd
  have e : (cT g.K q).2 = (cT g.K (x, none)).2 := e
  have : q = (x, none) := by
    obtain ⟨i, hi, qi⟩ := List.mem_iff_getElem.mp hq
    obtain ⟨j, hj, qj⟩ := List.mem_iff_getElem.mp hx
    have li : i < (tf.map fun p => (cT g.K p).2).length := by rw [List.length_map]; exact hi
    have lj : j < (tf.map fun p => (cT g.K p).2).length := by rw [List.length_map]; exact hj
    have : i = j := (List.getElem_inj (h₀ := li) (h₁ := lj) n).mp (by rw [List.getElem_map, List.getElem_map, qi, qj]; exact e)
    subst this
    rw [← qi, qj]
  rw [this]
theorem says_exf {I : InitW} {ini : List (Str × InitW)} {y : Str} (X : g.K.In h) (G : h.Ns mainGlobals g.mg) (c : He.SaysD fa fn g.K) (ci : ini.map (fun p => fnC g.K p.1) = ini.map fun p => p.2.fnV) (i j js : Nat) (hb : initB g.K g.prog.main.file I.qual I.fld y x = true) (ok : InitOk I) (top : (g.prog.main.scope.names.lookup ("super" : Str)).isSome = false)
    (h1 : ini[i]? = some (y, I) := by rfl) (h2 : fa[j]? = some (.glo x) := by rfl) (h3 : fa[js]? = some (.free "super") := by rfl) : ExFld g x I := by
  refine ⟨ok, ⟨_, He.glo_ok X G (c.fact j h2), initB_ok ?_ hb⟩, He.free_ok X G (c.fact js h3), top⟩
  have e : (ini.map fun p => fnC g.K p.1)[i]? = (ini.map fun p => p.2.fnV)[i]? := by rw [ci]
  rw [List.getElem?_map, List.getElem?_map, h1] at e
  exact Option.some.inj e
theorem says_ext (X : g.K.In h) (G : h.Ns mainGlobals g.mg) (c : He.SaysD fa fn g.K) (j j2 : Nat) (h2 : fa[j]? = some (.glo x) := by rfl) (h3 : fa[j2]? = some (.exc x) := by rfl) : ExTxt g x := by
  obtain ⟨c1, c2, c3, c4⟩ := He.exc_ok (c.fact j2 h3)
  exact ⟨_, He.glo_ok X G (c.fact j h2), c1, c2, c3, c4⟩
end
end PD
namespace PD
open PySem PySem.Spec L2
open PyProof.Rows hiding St

abbrev NoX : D → Rho → Tape → Prop := fun _ _ _ => False
abbrev NoF : D → Tape → Prop := fun _ _ => False
abbrev NoB : Rho → Tape → Prop := fun _ _ => False
/-- an expression's outcome -/
structure WO {α : Type} (o : O α) (Q : α → Rho → Tape → Prop) (E : D → Rho → Tape → Prop) : Prop where
  get : match o with
    | .ok a ρ τ => Q a ρ τ
    | .exc x ρ τ => E x ρ τ
    | .bad => False
/-- a statement's -/
structure WS (o : SO) (nx : Rho → Tape → Prop) (rt : Rs → Tape → Prop) (bk ct : Rho → Tape → Prop) (E : D → Rho → Tape → Prop) : Prop where
  get : match o with
    | .nx ρ τ => nx ρ τ
    | .rt r τ => rt r τ
    | .bk ρ τ => bk ρ τ
    | .ct ρ τ => ct ρ τ
    | .exc x ρ τ => E x ρ τ
    | .bad => False
/-- a function's -/
structure WF (o : FO) (Q : Rs → Tape → Prop) (E : D → Tape → Prop) : Prop where
  get : match o with
    | .rt r τ => Q r τ
    | .exc x τ => E x τ
    | .bad => False
/-- a primitive's -/
structure WP (o : P) (Q : Rs → Prop) : Prop where
  get : match o with
    | .at d => Q (.fz d)
    | .tp ds => Q (.fz (.tup ds))
    | .nl ds => Q (.own (.lst ds))
    | .nd k => Q (.own (.dic k))
    | .bad => False
/-- a result that is a Bool -/
structure WBo (r : Rs) (Q : Bool → Prop) : Prop where
  get : ∃ b, r = .fz (.bl b) ∧ Q b
structure WIf (b : Bool) (A B : Prop) : Prop where
  get : (b = true → A) ∧ (b = false → B)
structure WR (ρ : Rho) (xs : List (Sum D Nat)) (Q : List D → Prop) : Prop where
  get : ∃ ds, aRes ρ xs = some ds ∧ Q ds
structure WL (xs : List (Sum D Nat)) (Q : List D → Prop) : Prop where
  get : ∃ ds, lefts xs = some ds ∧ ds.length ≤ sizeLine ∧ Q ds
structure WLs (xs : List (Sum D Nat)) (Q : List D → Prop) : Prop where
  get : ∃ ds, lefts xs = some ds ∧ Q ds
structure WSl (ρ : Rho) (xs : List (Sum D Nat)) (Q : List Sl → Prop) : Prop where
  get : ∃ sl, aSl ρ xs = some sl ∧ Q sl
structure WSo {α : Type} (o : Option α) (Q : α → Prop) : Prop where
  get : ∃ a, o = some a ∧ Q a
structure WI (r : Rs) (Q : Int → Prop) : Prop where
  get : ∃ n, r = .fz (.int n) ∧ Q n
structure WTp (ρ : Rho) (i : Nat) (A : Prop) : Prop where
  get : ρ[i]? = some (.fz .tape) ∧ A
structure WOw (ρ : Rho) (i : Nat) (Q : List D → Prop) : Prop where
  get : ∃ ds, ρ[i]? = some (.own (.lst ds)) ∧ Q ds
structure WFx (f : Str) (has : Str → Bool) (d : D) (Q : D → Prop) : Prop where
  get : ∃ c fs v, d = .exc c fs ∧ has c = true ∧ fs.lookup f = some v ∧ Q v
structure WZ (ds : List D) (Q : List D → Prop) : Prop where
  get : ∃ x y l, ds = [x, y] ∧ zipOk x y = some l ∧ Q l
abbrev rsD : Rs → D
  | .fz d => d
  | .own d => d
section
variable {α : Type} {ρ : Rho} {τ : Tape} {Q : Rs → Rho → Tape → Prop} {E : D → Rho → Tape → Prop} {i j : Nat} {d : D} {ev ea eb ec : Ev} {tv ta tb : Tv} {args : List Arg} {s t : Sv}
variable {nx bk ct : Rho → Tape → Prop} {rt : Rs → Tape → Prop} {QL : List D → Rho → Tape → Prop} {QX : List (Sum D Nat) → Rho → Tape → Prop} {QB : Bool → Rho → Tape → Prop} {xs : List (Sum D Nat)} {A B : Prop} {b : Bool} {QP : Rs → Prop} {F : Rs → Tape → Prop} {G : D → Tape → Prop}
theorem WO.ok {a : α} {Q : α → Rho → Tape → Prop} (q : Q a ρ τ) : WO (.ok a ρ τ) Q E := ⟨q⟩
theorem WO.of {o : O α} {a : α} {Q : α → Rho → Tape → Prop} (h : o = .ok a ρ τ) (q : Q a ρ τ) : WO o Q E := by rw [h]; exact ⟨q⟩
theorem WF.of {o : FO} {r : Rs} (h : o = .rt r τ) (q : F r τ) : WF o F G := by rw [h]; exact ⟨q⟩
theorem WF.exc {o : FO} {x : D} (h : o = .exc x τ) (q : G x τ) : WF o F G := by rw [h]; exact ⟨q⟩
theorem WF.imp {o : FO} {F' : Rs → Tape → Prop} {G' : D → Tape → Prop} (h : WF o F' G') (f : ∀ r τ, F' r τ → F r τ) (g : ∀ x τ, G' x τ → G x τ) : WF o F G := by
  obtain ⟨h⟩ := h
  cases o with
  | rt r τ => exact ⟨f _ _ h⟩
  | exc x τ => exact ⟨g _ _ h⟩
  | bad => exact h.elim
theorem WO.imp {o : O α} {Q' Q : α → Rho → Tape → Prop} {E' : D → Rho → Tape → Prop} (h : WO o Q' E') (f : ∀ r ρ τ, Q' r ρ τ → Q r ρ τ) (g : ∀ x ρ τ, E' x ρ τ → E x ρ τ) : WO o Q E := by
  obtain ⟨h⟩ := h
  cases o with
  | ok r ρ τ => exact ⟨f _ _ _ h⟩
  | exc x ρ τ => exact ⟨g _ _ _ h⟩
  | bad => exact h.elim
theorem WS.imp {o : SO} {nx' bk' ct' : Rho → Tape → Prop} {rt' : Rs → Tape → Prop} {E' : D → Rho → Tape → Prop} (h : WS o nx' rt' bk' ct' E') (f1 : ∀ ρ τ, nx' ρ τ → nx ρ τ) (f2 : ∀ r τ, rt' r τ → rt r τ) (f3 : ∀ ρ τ, bk' ρ τ → bk ρ τ) (f4 : ∀ ρ τ, ct' ρ τ → ct ρ τ) (f5 : ∀ x ρ τ, E' x ρ τ → E x ρ τ) : WS o nx rt bk ct E := by
  obtain ⟨h⟩ := h
  cases o with
  | nx ρ τ => exact ⟨f1 _ _ h⟩
  | rt ρ τ => exact ⟨f2 _ _ h⟩
  | bk ρ τ => exact ⟨f3 _ _ h⟩
  | ct ρ τ => exact ⟨f4 _ _ h⟩
  | exc x ρ τ => exact ⟨f5 _ _ _ h⟩
  | bad => exact h.elim
theorem wo_ret {o : FO} (h : WF o F NoF) : ∃ r τ, o = .rt r τ ∧ F r τ := by
  obtain ⟨h⟩ := h
  cases o with
  | rt r τ => exact ⟨_, _, rfl, h⟩
  | exc x τ => exact h.elim
  | bad => exact h.elim
-- expressions
theorem w_lit (q : Q (.fz d) ρ τ) : WO (vLit d ρ τ) Q E := ⟨q⟩
theorem w_var (h : ρ[i]? = some (.fz d)) (q : Q (.fz d) ρ τ) : WO (vVar i ρ τ) Q E := ⟨by unfold vVar; rw [h]; exact q⟩
theorem w_varO (h : ρ[i]? = some (.own d)) (q : Q (.fz d) (ρ.set i (.fz d)) τ) : WO (vVar i ρ τ) Q E := ⟨by unfold vVar; rw [h]; exact q⟩
theorem w_move (h : ρ[i]? = some (.fz d)) (q : Q (.fz d) ρ τ) : WO (vMove i ρ τ) Q E := ⟨by unfold vMove; rw [h]; exact q⟩
theorem w_moveO (h : ρ[i]? = some (.own d)) (q : Q (.own d) (ρ.set i .un) τ) : WO (vMove i ρ τ) Q E := ⟨by unfold vMove; rw [h]; exact q⟩
theorem w_fz (h : WO (ev ρ τ) (fun r ρ τ => Q (.fz (rsD r)) ρ τ) E) : WO (vFz ev ρ τ) Q E := by
  obtain ⟨h⟩ := h
  unfold vFz
  cases e : ev ρ τ with
  | ok r ρ τ => rw [e] at h; cases r <;> exact ⟨h⟩
  | exc x ρ τ => rw [e] at h; exact ⟨h⟩
  | bad => rw [e] at h; exact h.elim
theorem w_nil (q : QX [] ρ τ) : WO (aEx [] ρ τ) QX E := ⟨by rw [aEx]; exact q⟩
theorem w_ex (h : WO (ev ρ τ) (fun r ρ1 τ1 => WO (aEx args ρ1 τ1) (fun xs ρ2 τ2 => QX (.inl (rsD r) :: xs) ρ2 τ2) E) E) : WO (aEx (.ex ev :: args) ρ τ) QX E := by
  obtain ⟨h⟩ := h
  refine ⟨?_⟩
  rw [aEx]
  unfold vFz
  cases e : ev ρ τ with
  | ok r ρ1 τ1 =>
    rw [e] at h
    obtain ⟨h⟩ := h
    cases r <;> (simp only []; cases e2 : aEx args ρ1 τ1 <;> (rw [e2] at h; exact h))
  | exc x ρ τ => rw [e] at h; exact h
  | bad => rw [e] at h; exact h
theorem w_pk (h : (ρ[i]?).bind slD = some d) (q : WO (aEx args ρ τ) (fun xs ρ2 τ2 => QX (.inr i :: xs) ρ2 τ2) E) : WO (aEx (.pk i :: args) ρ τ) QX E := by
  obtain ⟨q⟩ := q
  refine ⟨?_⟩
  rw [aEx, h]
  cases e2 : aEx args ρ τ <;> (rw [e2] at q; exact q)
theorem w_res {ds : List D} {Q : List D → Prop} (h : aRes ρ xs = some ds) (q : Q ds) : WR ρ xs Q := ⟨ds, h, q⟩
theorem w_l {ds : List D} {Q : List D → Prop} (h : lefts xs = some ds) (hl : Nat.ble ds.length 1000 = true) (q : Q ds) : WL xs Q := ⟨ds, h, Nat.le_trans (Nat.le_of_ble_eq_true hl) (by decide), q⟩
theorem w_ls {ds : List D} {Q : List D → Prop} (h : lefts xs = some ds) (q : Q ds) : WLs xs Q := ⟨ds, h, q⟩
theorem w_sl {sl : List Sl} {Q : List Sl → Prop} (h : aSl ρ xs = some sl) (q : Q sl) : WSl ρ xs Q := ⟨sl, h, q⟩
theorem w_i {n : Int} {Q : Int → Prop} (q : Q n) : WI (.fz (.int n)) Q := ⟨n, rfl, q⟩
theorem w_tp (h : ρ[i]? = some (.fz .tape)) (q : A) : WTp ρ i A := ⟨h, q⟩
theorem w_ow {ds : List D} {Q : List D → Prop} (h : ρ[i]? = some (.own (.lst ds))) (q : Q ds) : WOw ρ i Q := ⟨ds, h, q⟩
theorem w_fx {f : Str} {has : Str → Bool} {c : Str} {fs : List (Str × D)} {v : D} {Q : D → Prop} (h : has c = true) (h2 : fs.lookup f = some v) (q : Q v) : WFx f has (.exc c fs) Q := ⟨c, fs, v, rfl, h, h2, q⟩
theorem w_so {o : Option α} {a : α} {Q : α → Prop} (h : o = some a) (q : Q a) : WSo o Q := ⟨a, h, q⟩
theorem w_prim {f : Prim} (h : WO (aEx args ρ τ) (fun xs ρ' τ' => WR ρ' xs fun ds => WP (f ds) fun r => Q r ρ' τ') E) : WO (vPrim f args ρ τ) Q E := by
  obtain ⟨h⟩ := h
  refine ⟨?_⟩
  unfold vPrim aAll
  cases e : aEx args ρ τ with
  | ok xs ρ' τ' =>
    rw [e] at h
    obtain ⟨⟨ds, h1, ⟨h2⟩⟩⟩ := h
    simp only [h1]
    cases e2 : f ds <;> (rw [e2] at h2; exact h2)
  | exc x ρ τ => rw [e] at h; exact h
  | bad => rw [e] at h; exact h
theorem w_aFz (h : WO (aEx args ρ τ) (fun xs ρ' τ' => WLs xs fun ds => QL ds ρ' τ') E) : WO (aFz args ρ τ) QL E := by
  obtain ⟨h⟩ := h
  refine ⟨?_⟩
  unfold aFz
  cases e : aEx args ρ τ with
  | ok xs ρ' τ' =>
    rw [e] at h
    obtain ⟨⟨ds, h1, h2⟩⟩ := h
    simp only [h1]
    exact h2
  | exc x ρ τ => rw [e] at h; exact h
  | bad => rw [e] at h; exact h
theorem w_tup (h : WO (aEx args ρ τ) (fun xs ρ' τ' => WL xs fun ds => Q (.fz (.tup ds)) ρ' τ') E) : WO (vTup args ρ τ) Q E := by
  obtain ⟨h⟩ := h
  refine ⟨?_⟩
  unfold vTup aFz
  cases e : aEx args ρ τ with
  | ok xs ρ' τ' =>
    rw [e] at h
    obtain ⟨⟨ds, h1, h2, h3⟩⟩ := h
    simp only [h1, h2, if_true]
    exact h3
  | exc x ρ τ => rw [e] at h; exact h
  | bad => rw [e] at h; exact h
theorem w_lst (h : WO (aEx args ρ τ) (fun xs ρ' τ' => WL xs fun ds => Q (.own (.lst ds)) ρ' τ') E) : WO (vLst args ρ τ) Q E := by
  obtain ⟨h⟩ := h
  refine ⟨?_⟩
  unfold vLst aFz
  cases e : aEx args ρ τ with
  | ok xs ρ' τ' =>
    rw [e] at h
    obtain ⟨⟨ds, h1, h2, h3⟩⟩ := h
    simp only [h1, h2, if_true]
    exact h3
  | exc x ρ τ => rw [e] at h; exact h
  | bad => rw [e] at h; exact h
theorem w_b {Q : Bool → Prop} (q : Q b) : WBo (.fz (.bl b)) Q := ⟨b, rfl, q⟩
theorem w_tof (h : WO (ev ρ τ) (fun r ρ τ => WBo r fun b => QB b ρ τ) E) : WO (tOf ev ρ τ) QB E := by
  obtain ⟨h⟩ := h
  refine ⟨?_⟩
  unfold tOf
  cases e : ev ρ τ with
  | ok r ρ' τ' =>
    rw [e] at h
    obtain ⟨⟨b, rfl, h2⟩⟩ := h
    exact h2
  | exc x ρ τ => rw [e] at h; exact h
  | bad => rw [e] at h; exact h
theorem w_tnot (h : WO (ta ρ τ) (fun b ρ τ => QB (!b) ρ τ) E) : WO (tNotD ta ρ τ) QB E := by
  obtain ⟨h⟩ := h
  refine ⟨?_⟩
  unfold tNotD
  cases e : ta ρ τ <;> (rw [e] at h; exact h)
theorem w_tyes (q : QB true ρ τ) : WO (tYesD ρ τ) QB E := ⟨q⟩
theorem w_tor (h : WO (ta ρ τ) (fun b ρ τ => WIf b (QB true ρ τ) (WO (tb ρ τ) QB E)) E) : WO (tOrD ta tb ρ τ) QB E := by
  obtain ⟨h⟩ := h
  refine ⟨?_⟩
  unfold tOrD
  cases e : ta ρ τ with
  | ok b ρ' τ' =>
    rw [e] at h
    obtain ⟨h1, h2⟩ := h
    cases b with
    | true => exact h1 rfl
    | false => exact (h2 rfl).get
  | exc x ρ τ => rw [e] at h; exact h
  | bad => rw [e] at h; exact h
theorem w_tand (h : WO (ta ρ τ) (fun b ρ τ => WIf b (WO (tb ρ τ) QB E) (QB false ρ τ)) E) : WO (tAndD ta tb ρ τ) QB E := by
  obtain ⟨h⟩ := h
  refine ⟨?_⟩
  unfold tAndD
  cases e : ta ρ τ with
  | ok b ρ' τ' =>
    rw [e] at h
    obtain ⟨h1, h2⟩ := h
    cases b with
    | true => exact (h1 rfl).get
    | false => exact h2 rfl
  | exc x ρ τ => rw [e] at h; exact h
  | bad => rw [e] at h; exact h
theorem w_and (h : WO (ea ρ τ) (fun r ρ τ => WBo r fun b => WIf b (WO (eb ρ τ) Q E) (Q (.fz (.bl false)) ρ τ)) E) : WO (vAnd ea eb ρ τ) Q E := by
  obtain ⟨h⟩ := h
  refine ⟨?_⟩
  unfold vAnd
  cases e : ea ρ τ with
  | ok r ρ' τ' =>
    rw [e] at h
    obtain ⟨b, rfl, h1, h2⟩ := h
    cases b with
    | true => exact (h1 rfl).get
    | false => exact h2 rfl
  | exc x ρ τ => rw [e] at h; exact h
  | bad => rw [e] at h; exact h
theorem w_or (h : WO (ea ρ τ) (fun r ρ τ => WBo r fun b => WIf b (Q (.fz (.bl true)) ρ τ) (WO (eb ρ τ) Q E)) E) : WO (vOr ea eb ρ τ) Q E := by
  obtain ⟨h⟩ := h
  refine ⟨?_⟩
  unfold vOr
  cases e : ea ρ τ with
  | ok r ρ' τ' =>
    rw [e] at h
    obtain ⟨b, rfl, h1, h2⟩ := h
    cases b with
    | true => exact h1 rfl
    | false => exact (h2 rfl).get
  | exc x ρ τ => rw [e] at h; exact h
  | bad => rw [e] at h; exact h
theorem w_not (h : WO (ea ρ τ) (fun r ρ τ => WBo r fun b => Q (.fz (.bl (!b))) ρ τ) E) : WO (vNot ea ρ τ) Q E := by
  obtain ⟨h⟩ := h
  refine ⟨?_⟩
  unfold vNot
  cases e : ea ρ τ with
  | ok r ρ' τ' =>
    rw [e] at h
    obtain ⟨b, rfl, h1⟩ := h
    exact h1
  | exc x ρ τ => rw [e] at h; exact h
  | bad => rw [e] at h; exact h
theorem w_vif (h : WO (tv ρ τ) (fun b ρ τ => WIf b (WO (ea ρ τ) Q E) (WO (eb ρ τ) Q E)) E) : WO (vIf tv ea eb ρ τ) Q E := by
  obtain ⟨h⟩ := h
  refine ⟨?_⟩
  unfold vIf
  cases e : tv ρ τ with
  | ok b ρ' τ' =>
    rw [e] at h
    obtain ⟨h1, h2⟩ := h
    cases b with
    | true => exact (h1 rfl).get
    | false => exact (h2 rfl).get
  | exc x ρ τ => rw [e] at h; exact h
  | bad => rw [e] at h; exact h
-- splits
theorem wi_tt (a : A) : WIf true A B := ⟨⟨fun _ => a, fun h => nomatch h⟩⟩
theorem wi_ff (b : B) : WIf false A B := ⟨⟨fun h => (nomatch h), fun _ => b⟩⟩
theorem wi_not (h : WIf b B A) : WIf (!b) A B := by
  obtain ⟨h1, h2⟩ := h
  cases b with
  | true => exact wi_ff (h1 rfl)
  | false => exact wi_tt (h2 rfl)
theorem wi_dec {p : Prop} [Decidable p] (h1 : p → A) (h2 : ¬ p → B) : WIf (decide p) A B := ⟨⟨fun h => h1 (of_decide_eq_true h), fun h => h2 (of_decide_eq_false h)⟩⟩
theorem wi_beq {x y : Int} (h1 : x = y → A) (h2 : x ≠ y → B) : WIf (x == y) A B := ⟨⟨fun h => h1 (eq_of_beq h), fun h => h2 (ne_of_beq_false h)⟩⟩
theorem wi_var (h1 : b = true → A) (h2 : b = false → B) : WIf b A B := ⟨⟨h1, h2⟩⟩
-- primitives
theorem wp_at (q : QP (.fz d)) : WP (.at d) QP := ⟨q⟩
theorem wp_add {x y : Int} (q : QP (.fz (.int (x + y)))) : WP (pAdd [.int x, .int y]) QP := ⟨q⟩
theorem wp_addL {x y : List D} (h : x.length + y.length ≤ sizeLine) (q : QP (.own (.lst (x ++ y)))) : WP (pAdd [.lst x, .lst y]) QP := ⟨by
  show match (if x.length + y.length ≤ sizeLine then P.nl (x ++ y) else .bad) with | .at d => QP (.fz d) | .tp ds => QP (.fz (.tup ds)) | .nl ds => QP (.own (.lst ds)) | .nd k => QP (.own (.dic k)) | .bad => False
  rw [if_pos h]; exact q⟩
theorem wp_sub {x y : Int} (q : QP (.fz (.int (x - y)))) : WP (pSub [.int x, .int y]) QP := ⟨q⟩
theorem wp_if {c : Prop} [Decidable c] {p : P} (h : c) (q : WP p QP) : WP (if c then p else .bad) QP := by rw [if_pos h]; exact q
theorem wp_mul {x y : Int} (h : x.natAbs.log2 + y.natAbs.log2 < 1000000) (q : QP (.fz (.int (x * y)))) : WP (pMul [.int x, .int y]) QP := wp_if (p := .at (.int (x * y))) h ⟨q⟩
theorem log2_lt {n k : Nat} (h : n < 2 ^ k) (hk : 0 < k) : n.log2 < k := by
  by_cases z : n = 0
  · subst z; rw [show Nat.log2 0 = 0 from by decide]; exact hk
  · exact (Nat.log2_lt z).mpr h
theorem wp_mulS {x y : Int} (h1 : -(2 ^ 1000) < x ∧ x < 2 ^ 1000) (h2 : -(2 ^ 1000) < y ∧ y < 2 ^ 1000) (q : QP (.fz (.int (x * y)))) : WP (pMul [.int x, .int y]) QP := by
  refine wp_mul ?_ q
  have a1 : x.natAbs < 2 ^ 1000 := by omega
  have a2 : y.natAbs < 2 ^ 1000 := by omega
  have := log2_lt a1 (by decide)
  have := log2_lt a2 (by decide)
  omega
theorem wp_mod {x y : Int} (h : 0 < y) (q : QP (.fz (.int (x % y)))) : WP (pMod [.int x, .int y]) QP := by
  refine wp_if (c := (decide (0 < y)) = true) (p := .at (.int (x % y))) (decide_eq_true h) ⟨q⟩
theorem wp_fdiv {x y : Int} (h : 0 < y) (h2 : y < 2 ^ 1000) (q : QP (.fz (.int (x / y)))) : WP (pFdiv [.int x, .int y]) QP := by
  refine wp_if (c := (decide (0 < y ∧ y.natAbs.log2 < 9000)) = true) (p := .at (.int (x / y))) (decide_eq_true ⟨h, ?_⟩) ⟨q⟩
  have a1 : y.natAbs < 2 ^ 1000 := by omega
  have := log2_lt a1 (by decide)
  omega
theorem wp_pow {x y : Int} (h : 0 ≤ y ∧ y ≤ 1000000 ∧ x.natAbs < 2 ^ 64) (q : QP (.fz (.int (x ^ y.toNat)))) : WP (pPow [.int x, .int y]) QP := by
  refine wp_if (c := (decide (0 ≤ y ∧ y ≤ 1000000 ∧ x.natAbs < 2 ^ 64)) = true) (p := .at (.int (x ^ y.toNat))) (decide_eq_true h) ⟨q⟩
theorem wp_neg {x : Int} (q : QP (.fz (.int (-x)))) : WP (pNeg [.int x]) QP := ⟨q⟩
theorem wp_lt {x y : Int} (q : QP (.fz (.bl (decide (x < y))))) : WP (pLt [.int x, .int y]) QP := ⟨q⟩
theorem wp_le {x y : Int} (q : QP (.fz (.bl (decide (x ≤ y))))) : WP (pLe [.int x, .int y]) QP := ⟨q⟩
theorem wp_gt {x y : Int} (q : QP (.fz (.bl (decide (y < x))))) : WP (pGt [.int x, .int y]) QP := ⟨q⟩
theorem wp_ge {x y : Int} (q : QP (.fz (.bl (decide (y ≤ x))))) : WP (pGe [.int x, .int y]) QP := ⟨q⟩
theorem wp_eqI {x y : Int} (q : QP (.fz (.bl (decide (x = y))))) : WP (pEq [.int x, .int y]) QP := by
  refine wp_if (c := SeqAt.shaped (.int x) = true ∧ SeqAt.shaped (.int y) = true) (p := .at (.bl (PyData.eqv (.int x) (.int y) != false))) ⟨rfl, rfl⟩ ⟨?_⟩
  show QP (.fz (.bl (PyData.eqv (.int x) (.int y) != false)))
  rw [show (PyData.eqv (.int x) (.int y) != false) = decide (x = y) from by simp [PyData.eqv]; rfl]
  exact q
theorem wp_neI {x y : Int} (q : QP (.fz (.bl (decide (x ≠ y))))) : WP (pNe [.int x, .int y]) QP := by
  refine wp_if (c := SeqAt.shaped (.int x) = true ∧ SeqAt.shaped (.int y) = true) (p := .at (.bl (PyData.eqv (.int x) (.int y) != true))) ⟨rfl, rfl⟩ ⟨?_⟩
  show QP (.fz (.bl (PyData.eqv (.int x) (.int y) != true)))
  rw [show (PyData.eqv (.int x) (.int y) != true) = decide (x ≠ y) from by by_cases h : x = y <;> simp [PyData.eqv, h]]
  exact q
theorem shS {x : Str} (h : PyData.strOk x = true) : SeqAt.shaped (.str x) = true := by
  unfold SeqAt.shaped
  rw [show PyData.canLay0 (.str x) = true from by simp only [PyData.canLay0, h], show PyData.depth (.str x) = 0 from by simp only [PyData.depth]]
  rfl
theorem wp_eqS {x y : Str} (hx : PyData.strOk x = true) (hy : PyData.strOk y = true) (q : QP (.fz (.bl (x == y)))) : WP (pEq [.str x, .str y]) QP := by
  refine wp_if (c := SeqAt.shaped (.str x) = true ∧ SeqAt.shaped (.str y) = true) (p := .at (.bl (PyData.eqv (.str x) (.str y) != false))) ⟨shS hx, shS hy⟩ ⟨?_⟩
  show QP (.fz (.bl (PyData.eqv (.str x) (.str y) != false)))
  rw [show (PyData.eqv (.str x) (.str y) != false) = (x == y) from by simp [PyData.eqv]]
  exact q
theorem wp_neS {x y : Str} (hx : PyData.strOk x = true) (hy : PyData.strOk y = true) (q : QP (.fz (.bl (!(x == y))))) : WP (pNe [.str x, .str y]) QP := by
  refine wp_if (c := SeqAt.shaped (.str x) = true ∧ SeqAt.shaped (.str y) = true) (p := .at (.bl (PyData.eqv (.str x) (.str y) != true))) ⟨shS hx, shS hy⟩ ⟨?_⟩
  show QP (.fz (.bl (PyData.eqv (.str x) (.str y) != true)))
  rw [show (PyData.eqv (.str x) (.str y) != true) = (!(x == y)) from by simp [PyData.eqv]]
  exact q
/-- equal by data -/
theorem wp_eqD {x y : D} {a b : PyData} {r : Bool} (h1 : x.py = some a) (h2 : y.py = some b) (s1 : SeqAt.shaped a = true) (s2 : SeqAt.shaped b = true) (e : PyData.eqv a b = r) (q : QP (.fz (.bl r))) : WP (pEq [x, y]) QP := by
  show WP (fEq false x y) QP
  unfold fEq
  rw [h1, h2]
  refine wp_if ⟨s1, s2⟩ ⟨?_⟩
  rw [e, show (r != false) = r from by cases r <;> rfl]
  exact q
theorem wp_neD {x y : D} {a b : PyData} {r : Bool} (h1 : x.py = some a) (h2 : y.py = some b) (s1 : SeqAt.shaped a = true) (s2 : SeqAt.shaped b = true) (e : PyData.eqv a b = r) (q : QP (.fz (.bl (!r)))) : WP (pNe [x, y]) QP := by
  show WP (fEq true x y) QP
  unfold fEq
  rw [h1, h2]
  refine wp_if ⟨s1, s2⟩ ⟨?_⟩
  rw [e, show (r != true) = (!r) from by cases r <;> rfl]
  exact q
theorem wp_ix {x : List D} {i : Int} (h : atI x i = some d) (q : QP (.fz d)) : WP (pIx [.lst x, .int i]) QP := by
  show WP (match atI x i with | some d => P.at d | none => .bad) QP
  rw [h]; exact ⟨q⟩
theorem wp_ixT {x : List D} {i : Int} (h : atI x i = some d) (q : QP (.fz d)) : WP (pIx [.tup x, .int i]) QP := by
  show WP (match atI x i with | some d => P.at d | none => .bad) QP
  rw [h]; exact ⟨q⟩
theorem wp_len {x : List D} (q : QP (.fz (.int x.length))) : WP (pLen [.lst x]) QP := ⟨q⟩
theorem wp_lenT {x : List D} (q : QP (.fz (.int x.length))) : WP (pLen [.tup x]) QP := ⟨q⟩
theorem wp_lenS {x : List Int} (q : QP (.fz (.int x.length))) : WP (pLen [.script x]) QP := ⟨q⟩
theorem wp_int {x : Int} (q : QP (.fz (.int x))) : WP (pInt [.int x]) QP := ⟨q⟩
theorem wp_abs {x : Int} (q : QP (.fz (.int (if x < 0 then -x else x)))) : WP (pAbs [.int x]) QP := ⟨q⟩
theorem wp_min2 {x y : Int} (q : QP (.fz (.int (if y < x then y else x)))) : WP (pMin [.int x, .int y]) QP := ⟨q⟩
theorem wp_max2 {x y : Int} (q : QP (.fz (.int (if y > x then y else x)))) : WP (pMax [.int x, .int y]) QP := ⟨q⟩
theorem nsOf_map : ∀ (ns : List Int), nsOf (ns.map D.int) = some ns
  | [] => rfl
  | n :: ns => by rw [List.map_cons, nsOf, nsOf_map ns]; rfl
theorem bsOf_map : ∀ (ns : List Bool), bsOf (ns.map D.bl) = some ns
  | [] => rfl
  | n :: ns => by rw [List.map_cons, bsOf, bsOf_map ns]; rfl
theorem wp_minL {ns : List Int} (h : ns ≠ []) (q : QP (.fz (.int (minL ns)))) : WP (pMin [.lst (ns.map D.int)]) QP := by
  show WP (match nsOf (ns.map D.int) with | some (n :: ns) => P.at (.int (minL (n :: ns))) | _ => .bad) QP
  rw [nsOf_map]
  cases ns with
  | nil => exact (h rfl).elim
  | cons n ns => exact ⟨q⟩
theorem wp_maxL {ns : List Int} (h : ns ≠ []) (q : QP (.fz (.int (maxL ns)))) : WP (pMax [.lst (ns.map D.int)]) QP := by
  show WP (match nsOf (ns.map D.int) with | some (n :: ns) => P.at (.int (maxL (n :: ns))) | _ => .bad) QP
  rw [nsOf_map]
  cases ns with
  | nil => exact (h rfl).elim
  | cons n ns => exact ⟨q⟩
theorem wp_sorted {ns : List Int} (q : QP (.own (.lst ((sortN ns).map D.int)))) : WP (pSorted [.lst (ns.map D.int)]) QP := by
  show WP (fSorted (.lst (ns.map D.int))) QP
  unfold fSorted
  simp only []
  rw [nsOf_map]; exact ⟨q⟩
theorem psOf_map : ∀ (ps : List (Int × Int)), psOf (ps.map pairD) = some ps
  | [] => rfl
  | p :: ps => by rw [List.map_cons, pairD, psOf, psOf_map ps]; rfl
theorem nsOf_pairs {p : Int × Int} {ps : List (Int × Int)} : nsOf ((p :: ps).map pairD) = none := rfl
theorem wp_sortedP {ps : List (Int × Int)} (q : QP (.own (.lst ((sortP ps).map pairD)))) : WP (pSorted [.lst (ps.map pairD)]) QP := by
  cases ps with
  | nil =>
    have e1 : sortN [] = [] := by unfold sortN; simp
    have e2 : sortP [] = [] := by unfold sortP; simp
    rw [e2] at q
    exact wp_sorted (ns := []) (by rw [e1]; exact q)
  | cons p ps =>
    show WP (fSorted (.lst ((p :: ps).map pairD))) QP
    unfold fSorted
    simp only []
    rw [nsOf_pairs, psOf_map]; exact ⟨q⟩
theorem wp_tupC {x : List D} (q : QP (.fz (.tup x))) : WP (pTupC [.lst x]) QP := ⟨q⟩
theorem wp_tupCT {x : List D} (q : QP (.fz (.tup x))) : WP (pTupC [.tup x]) QP := ⟨q⟩
theorem wp_lstC {x : List D} (q : QP (.own (.lst x))) : WP (pLstC [.lst x]) QP := ⟨q⟩
theorem wp_lstCT {x : List D} (q : QP (.own (.lst x))) : WP (pLstC [.tup x]) QP := ⟨q⟩
theorem wp_mulL {x : List D} {n : Int} (h : 0 ≤ n ∧ n ≤ 100000 ∧ x.length ≤ 10) (q : QP (.own (.lst (List.replicate n.toNat x).flatten))) : WP (pMul [.lst x, .int n]) QP := by
  obtain ⟨h1, h2, h3⟩ := h
  refine wp_if (c := n < 2 ^ 63 ∧ -(2 ^ 63) ≤ n ∧ x.length * n.toNat ≤ sizeLine) (p := .nl (List.replicate n.toNat x).flatten) ⟨by omega, by omega, ?_⟩ ⟨q⟩
  have : x.length * n.toNat ≤ 10 * 100000 := Nat.mul_le_mul h3 (by omega)
  exact Nat.le_trans this (by decide)
theorem fRepr_of {x : PyData} (h : d.py = some x) : fRepr d = fReprN d := by
  cases d with
  | dic k => simp [D.py] at h
  | _ => rfl
theorem wp_repr {x : PyData} (h : d.py = some x) (h1 : x.showable = true) (h2 : x.hasDict = false) (h3 : x.shown.length ≤ sizeLine) (h4 : x.depth ≤ 30) (q : QP (.fz (.str x.shown))) : WP (pRepr [d]) QP := by
  show WP (fRepr d) QP
  rw [fRepr_of h]
  unfold fReprN
  rw [h]
  exact wp_if (p := .at (.str x.shown)) ⟨h1, h2, h3, h4⟩ ⟨q⟩
theorem wp_reprE (q : QP (.fz (.str "{}"))) : WP (pRepr [.dic []]) QP := ⟨q⟩
theorem aEx_ok {r : Rs} {ρ1 ρ2 : Rho} {τ1 τ2 : Tape} (h : ev ρ τ = .ok r ρ1 τ1) (h2 : aEx args ρ1 τ1 = .ok xs ρ2 τ2) : aEx (.ex ev :: args) ρ τ = .ok (.inl (rsD r) :: xs) ρ2 τ2 := by
  rw [aEx]
  unfold vFz
  rw [h]
  cases r <;> (simp only []; rw [h2])
theorem aEx_exc {x : D} {ρ1 : Rho} {τ1 : Tape} (h : ev ρ τ = .exc x ρ1 τ1) : aEx (.ex ev :: args) ρ τ = .exc x ρ1 τ1 := by
  rw [aEx]
  unfold vFz
  rw [h]
theorem aEx_exc2 {r : Rs} {x : D} {ρ1 ρ2 : Rho} {τ1 τ2 : Tape} (h : ev ρ τ = .ok r ρ1 τ1) (h2 : aEx args ρ1 τ1 = .exc x ρ2 τ2) : aEx (.ex ev :: args) ρ τ = .exc x ρ2 τ2 := by
  rw [aEx]
  unfold vFz
  rw [h]
  cases r <;> (simp only []; rw [h2])
theorem vFz_ok {r : Rs} {ρ1 : Rho} {τ1 : Tape} (h : ev ρ τ = .ok r ρ1 τ1) : vFz ev ρ τ = .ok (.fz (rsD r)) ρ1 τ1 := by
  unfold vFz
  rw [h]
  cases r <;> rfl
theorem vFz_exc {x : D} {ρ1 : Rho} {τ1 : Tape} (h : ev ρ τ = .exc x ρ1 τ1) : vFz ev ρ τ = .exc x ρ1 τ1 := by
  unfold vFz
  rw [h]
theorem w_chain {p p' : Prim} (h : WO (ea ρ τ) (fun r1 ρ1 τ1 => WO (eb ρ1 τ1) (fun r2 ρ2 τ2 => WP (p [rsD r1, rsD r2]) fun r => WBo r fun x => WIf x (WO (ec ρ2 τ2) (fun r3 ρ3 τ3 => WP (p' [rsD r2, rsD r3]) fun r => Q r ρ3 τ3) E) (Q (.fz (.bl false)) ρ2 τ2)) E) E) : WO (vChain p p' ea eb ec ρ τ) Q E := by
  obtain ⟨h⟩ := h
  refine ⟨?_⟩
  unfold vChain aFz
  cases e : ea ρ τ with
  | ok r1 ρ1 τ1 =>
    rw [e] at h
    obtain ⟨h⟩ := h
    cases e2 : eb ρ1 τ1 with
    | ok r2 ρ2 τ2 =>
      rw [e2] at h
      rw [aEx_ok e (aEx_ok e2 (by rw [aEx]))]
      simp only [lefts, Option.map_some]
      obtain ⟨h⟩ := h
      cases e4 : p [rsD r1, rsD r2] with
      | «at» d =>
        rw [e4] at h
        obtain ⟨b, hb, h1, h2⟩ := h
        cases hb
        cases b with
        | false => exact h2 rfl
        | true =>
          obtain ⟨h3⟩ := h1 rfl
          simp only []
          cases e3 : ec ρ2 τ2 with
          | ok r ρ3 τ3 =>
            rw [e3] at h3
            rw [vFz_ok e3]
            obtain ⟨h4⟩ := h3
            simp only []
            cases e5 : p' [rsD r2, rsD r] <;> (rw [e5] at h4; exact h4)
          | exc x ρ τ => rw [e3] at h3; rw [vFz_exc e3]; exact h3
          | bad => rw [e3] at h3; exact h3.elim
      | tp _ => rw [e4] at h; obtain ⟨b, hb, _⟩ := h; cases hb
      | nl _ => rw [e4] at h; obtain ⟨b, hb, _⟩ := h; cases hb
      | nd _ => rw [e4] at h; obtain ⟨b, hb, _⟩ := h; cases hb
      | bad => rw [e4] at h; exact h.elim
    | exc x ρ τ =>
      rw [e2] at h
      rw [aEx_exc2 e (aEx_exc e2)]
      exact h
    | bad => rw [e2] at h; exact h.elim
  | exc x ρ τ =>
    rw [e] at h
    rw [aEx_exc e]
    exact h
  | bad => rw [e] at h; exact h.elim
end
end PD
namespace PD
open PySem PySem.Spec L2
open PyProof.Rows hiding St
section
variable {α : Type} {ρ : Rho} {τ : Tape} {Q : Rs → Rho → Tape → Prop} {E : D → Rho → Tape → Prop} {i j : Nat} {d : D} {ev ea eb ec : Ev} {tv ta tb : Tv} {args : List Arg} {s t : Sv}
variable {nx bk ct : Rho → Tape → Prop} {rt : Rs → Tape → Prop} {QL : List D → Rho → Tape → Prop} {QX : List (Sum D Nat) → Rho → Tape → Prop} {QB : Bool → Rho → Tape → Prop} {xs : List (Sum D Nat)} {A B : Prop} {b : Bool} {QP : Rs → Prop} {F : Rs → Tape → Prop} {G : D → Tape → Prop}
theorem w_set (h : WO (ev ρ τ) (fun r ρ τ => nx (ρ.set i (slOf r)) τ) E) : WS (sSet i ev ρ τ) nx rt bk ct E := by
  obtain ⟨h⟩ := h
  refine ⟨?_⟩
  unfold sSet
  cases e : ev ρ τ <;> (rw [e] at h; exact h)
theorem w_ret (h : WO (ev ρ τ) (fun r _ τ => rt r τ) E) : WS (sRet ev ρ τ) nx rt bk ct E := by
  obtain ⟨h⟩ := h
  refine ⟨?_⟩
  unfold sRet
  cases e : ev ρ τ <;> (rw [e] at h; exact h)
theorem w_drop (h : WO (ev ρ τ) (fun _ ρ τ => nx ρ τ) E) : WS (sDrop ev ρ τ) nx rt bk ct E := by
  obtain ⟨h⟩ := h
  refine ⟨?_⟩
  unfold sDrop
  cases e : ev ρ τ <;> (rw [e] at h; exact h)
theorem w_pass (h : nx ρ τ) : WS (sPass ρ τ) nx rt bk ct E := ⟨h⟩
theorem w_brk (h : bk ρ τ) : WS (sBrk ρ τ) nx rt bk ct E := ⟨h⟩
theorem w_ct (h : ct ρ τ) : WS (sCt ρ τ) nx rt bk ct E := ⟨h⟩
theorem w_seq (h : WS (s ρ τ) (fun ρ τ => WS (t ρ τ) nx rt bk ct E) rt bk ct E) : WS (sSeq s t ρ τ) nx rt bk ct E := by
  obtain ⟨h⟩ := h
  refine ⟨?_⟩
  unfold sSeq
  cases e : s ρ τ <;> (rw [e] at h; first | exact h | exact h.get)
theorem w_mid (P : Rho → Tape → Prop) (h : WS (s ρ τ) P rt bk ct E) (h2 : ∀ ρ τ, P ρ τ → WS (t ρ τ) nx rt bk ct E) : WS (sSeq s t ρ τ) nx rt bk ct E := w_seq (h.imp h2 (fun _ _ h => h) (fun _ _ h => h) (fun _ _ h => h) fun _ _ _ h => h)
theorem w_sif (h : WO (tv ρ τ) (fun b ρ τ => WIf b (WS (s ρ τ) nx rt bk ct E) (WS (t ρ τ) nx rt bk ct E)) E) : WS (sIf tv s t ρ τ) nx rt bk ct E := by
  obtain ⟨h⟩ := h
  refine ⟨?_⟩
  unfold sIf
  cases e : tv ρ τ with
  | ok b ρ' τ' =>
    rw [e] at h
    obtain ⟨h1, h2⟩ := h
    cases b with
    | true => exact (h1 rfl).get
    | false => exact (h2 rfl).get
  | exc x ρ τ => rw [e] at h; exact h
  | bad => rw [e] at h; exact h
theorem w_asg {tg : Tg} (h : WO (ev ρ τ) (fun r ρ τ => WSo (asg tg (rsD r) ρ) fun ρ => nx ρ τ) E) : WS (sAsg ev tg ρ τ) nx rt bk ct E := by
  obtain ⟨h⟩ := h
  refine ⟨?_⟩
  unfold sAsg vFz
  cases e : ev ρ τ with
  | ok r ρ' τ' =>
    rw [e] at h
    obtain ⟨ρ2, h1, h2⟩ := h
    cases r <;> (simp only [rsD] at h1; simp only [h1]; exact h2)
  | exc x ρ τ => rw [e] at h; exact h
  | bad => rw [e] at h; exact h
theorem w_par (h : WO (ea ρ τ) (fun r ρ τ => WO (eb ρ τ) (fun r' ρ τ => nx ((ρ.set i (slOf r)).set j (slOf r')) τ) E) E) : WS (sPar i j ea eb ρ τ) nx rt bk ct E := by
  obtain ⟨h⟩ := h
  refine ⟨?_⟩
  unfold sPar
  cases e : ea ρ τ with
  | ok r ρ' τ' =>
    rw [e] at h
    obtain ⟨h⟩ := h
    simp only []
    cases e2 : eb ρ' τ' <;> (rw [e2] at h; exact h)
  | exc x ρ τ => rw [e] at h; exact h
  | bad => rw [e] at h; exact h
theorem w_aug {f : Int → Int → Int} {a : Int} (ha : ρ[i]? = some (.fz (.int a))) (h : WO (ev ρ τ) (fun r ρ τ => WI r fun b => nx (ρ.set i (.fz (.int (f a b)))) τ) E) : WS (sAug f i ev ρ τ) nx rt bk ct E := by
  obtain ⟨h⟩ := h
  refine ⟨?_⟩
  unfold sAug
  rw [ha]
  simp only []
  cases e : ev ρ τ with
  | ok r ρ' τ' =>
    rw [e] at h
    obtain ⟨b, rfl, h2⟩ := h
    exact h2
  | exc x ρ τ => rw [e] at h; exact h
  | bad => rw [e] at h; exact h
theorem w_setIx (h : WO (ev ρ τ) (fun r ρ1 τ1 => WOw ρ1 i fun _ => WO (ea ρ1 τ1) (fun r2 ρ2 τ2 => WI r2 fun n => WOw ρ2 i fun ds => ∃ k, ixN ds.length n = some k ∧ nx (ρ2.set i (.own (.lst (ds.set k (rsD r))))) τ2) E) E) : WS (sSetIx i ea ev ρ τ) nx rt bk ct E := by
  obtain ⟨h⟩ := h
  refine ⟨?_⟩
  unfold sSetIx vFz
  cases e : ev ρ τ with
  | ok r ρ1 τ1 =>
    rw [e] at h
    obtain ⟨l, hl2, ⟨h⟩⟩ := h
    have key : ∀ (d : D), rsD r = d → (match (match ρ1[i]? with
      | some (.own (.lst _)) => (match (match ea ρ1 τ1 with
        | .ok (.own d) ρ' τ' => O.ok (Rs.fz d) ρ' τ'
        | r => r) with
        | .ok (.fz (.int n)) ρ2 τ2 => (match ρ2[i]? with
          | some (.own (.lst ds)) => (match ixN ds.length n with
            | some j => SO.nx (ρ2.set i (.own (.lst (ds.set j d)))) τ2
            | none => .bad)
          | _ => .bad)
        | .exc x ρ2 τ2 => .exc x ρ2 τ2
        | _ => .bad)
      | _ => .bad) with
      | .nx ρ τ => nx ρ τ
      | .rt r τ => rt r τ
      | .bk ρ τ => bk ρ τ
      | .ct ρ τ => ct ρ τ
      | .exc x ρ τ => E x ρ τ
      | .bad => False) := fun d hd => by
      subst hd
      rw [hl2]
      simp only []
      cases e2 : ea ρ1 τ1 with
      | ok r2 ρ2 τ2 =>
        rw [e2] at h
        obtain ⟨n, rfl, ⟨ds, h2, k, h3, h4⟩⟩ := h
        simp only [h2, h3]
        exact h4
      | exc x ρ τ => rw [e2] at h; exact h
      | bad => rw [e2] at h; exact h
    cases r <;> exact key _ rfl
  | exc x ρ τ => rw [e] at h; exact h
  | bad => rw [e] at h; exact h
theorem w_mut {f : List D → List D → Option (D × List D)} {l0 : List D} (h0 : ρ[i]? = some (.own (.lst l0))) (h : WO (aEx args ρ τ) (fun xs ρ1 τ1 => WLs xs fun as => ∃ ds d ds', ρ1[i]? = some (.own (.lst ds)) ∧ f ds as = some (d, ds') ∧ Q (.fz d) (ρ1.set i (.own (.lst ds'))) τ1) E) : WO (vMut i f args ρ τ) Q E := by
  obtain ⟨h⟩ := h
  refine ⟨?_⟩
  unfold vMut aFz
  rw [h0]
  simp only []
  cases e : aEx args ρ τ with
  | ok xs ρ' τ' =>
    rw [e] at h
    obtain ⟨ds, h1, l, d, l', h2, h3, h4⟩ := h
    simp only [h1, h2, h3]
    exact h4
  | exc x ρ τ => rw [e] at h; exact h
  | bad => rw [e] at h; exact h
theorem w_app {l0 : List D} (h0 : ρ[i]? = some (.own (.lst l0))) (h : WO (ev ρ τ) (fun r ρ1 τ1 => WOw ρ1 i fun ds => ds.length < sizeLine ∧ Q (.fz .non) (ρ1.set i (.own (.lst (ds ++ [rsD r])))) τ1) E) : WO (vMut i mAppend [.ex ev] ρ τ) Q E := by
  refine w_mut h0 (w_ex (h.imp (fun r ρ1 τ1 h => w_nil ?_) fun _ _ _ h => h))
  obtain ⟨ds, h1, h2, h3⟩ := h
  exact w_ls rfl ⟨ds, .non, _, h1, by show (if ds.length < sizeLine then some (D.non, ds ++ [rsD r]) else none) = _; rw [if_pos h2], h3⟩
-- sources and loops
theorem w_src (h : WO (ev ρ τ) (fun r ρ τ => WSo (seqD (rsD r)) fun ds => QL ds ρ τ) E) : WO (srcOf ev ρ τ) QL E := by
  obtain ⟨h⟩ := h
  refine ⟨?_⟩
  unfold srcOf vFz
  cases e : ev ρ τ with
  | ok r ρ' τ' =>
    rw [e] at h
    obtain ⟨ds, h1, h2⟩ := h
    cases r <;> (rename_i dd; cases dd <;> first | (cases h1; exact h2) | cases h1)
  | exc x ρ τ => rw [e] at h; exact h
  | bad => rw [e] at h; exact h
theorem w_srcR (h : WO (aEx args ρ τ) (fun xs ρ τ => WLs xs fun ds => WSo (rngD ds) fun l => QL l ρ τ) E) : WO (srcR args ρ τ) QL E := by
  obtain ⟨h⟩ := h
  refine ⟨?_⟩
  unfold srcR aFz
  cases e : aEx args ρ τ with
  | ok xs ρ' τ' =>
    rw [e] at h
    obtain ⟨ds, h1, l, h2, h3⟩ := h
    simp only [h1, h2]
    exact h3
  | exc x ρ τ => rw [e] at h; exact h
  | bad => rw [e] at h; exact h
theorem rng1 {n : Int} (h : -(2 ^ 62) ≤ n ∧ n < 2 ^ 62) : rngD [.int n] = some (rngL 0 n.toNat) := by show (if -(2 ^ 62) ≤ n ∧ n < 2 ^ 62 then some (rngL 0 n.toNat) else none) = _; rw [if_pos h]
theorem rng2 {m n : Int} (h : -(2 ^ 62) ≤ m ∧ m < 2 ^ 62) (h2 : -(2 ^ 62) ≤ n ∧ n < 2 ^ 62) : rngD [.int m, .int n] = some (rngL m (n - m).toNat) := by show (if (-(2 ^ 62) ≤ m ∧ m < 2 ^ 62) ∧ -(2 ^ 62) ≤ n ∧ n < 2 ^ 62 then some (rngL m (n - m).toNat) else none) = _; rw [if_pos ⟨h, h2⟩]
theorem w_rng1 {n : Int} {Q : List D → Prop} (h : -(2 ^ 62) ≤ n ∧ n < 2 ^ 62) (q : Q (rngL 0 n.toNat)) : WSo (rngD [.int n]) Q := ⟨_, rng1 h, q⟩
theorem w_rng2 {m n : Int} {Q : List D → Prop} (h : -(2 ^ 62) ≤ m ∧ m < 2 ^ 62) (h2 : -(2 ^ 62) ≤ n ∧ n < 2 ^ 62) (q : Q (rngL m (n - m).toNat)) : WSo (rngD [.int m, .int n]) Q := ⟨_, rng2 h h2, q⟩
theorem rngL_len {m : Int} {n : Nat} : (rngL m n).length = n := by unfold rngL; rw [List.length_map, List.length_range]
theorem rngL_at {m : Int} {n j : Nat} {d : D} (h : (rngL m n)[j]? = some d) : d = .int (m + (j : Int)) ∧ j < n := by
  unfold rngL at h
  rw [List.getElem?_map] at h
  cases e : (List.range n)[j]? with
  | none => rw [e] at h; cases h
  | some k =>
    rw [e] at h
    obtain ⟨h1, h2⟩ := List.getElem?_eq_some_iff.mp e
    rw [List.length_range] at h1
    rw [List.getElem_range] at h2
    cases h
    exact ⟨by rw [h2], h1⟩
theorem w_enum (h : WO (srcOf ev ρ τ) (fun ds ρ τ => QL (enumD 0 ds) ρ τ) E) : WO (srcEnum ev ρ τ) QL E := by
  obtain ⟨h⟩ := h
  refine ⟨?_⟩
  unfold srcEnum
  cases e : srcOf ev ρ τ <;> (rw [e] at h; exact h)
theorem enumD_at : ∀ {ds : List D} {i j : Nat} {d : D}, (enumD i ds)[j]? = some d → ∃ x, ds[j]? = some x ∧ d = .tup [.int ((i + j : Nat) : Int), x]
  | [], i, j, d, h => by rw [enumD] at h; simp at h
  | x :: ds, i, j, d, h => by
    rw [enumD] at h
    cases j with
    | zero => simp at h; exact ⟨x, by simp, h.symm⟩
    | succ j =>
      simp only [List.getElem?_cons_succ] at h ⊢
      obtain ⟨y, h1, h2⟩ := enumD_at h
      exact ⟨y, h1, by rw [h2, show i + 1 + j = i + (j + 1) from by omega]⟩
theorem w_z {x y : D} {l : List D} {Q : List D → Prop} (h : zipOk x y = some l) (q : Q l) : WZ [x, y] Q := ⟨x, y, l, rfl, h, q⟩
theorem w_zip (h : WO (aEx [.ex ea, .ex eb] ρ τ) (fun xs ρ τ => WLs xs fun ds => WZ ds fun l => QL l ρ τ) E) : WO (srcZip ea eb ρ τ) QL E := by
  obtain ⟨h⟩ := h
  refine ⟨?_⟩
  unfold srcZip aFz
  cases e : aEx [.ex ea, .ex eb] ρ τ with
  | ok xs ρ' τ' =>
    rw [e] at h
    obtain ⟨ds, h1, x, y, l, rfl, h2, h3⟩ := h
    simp only [h1, h2]
    exact h3
  | exc x ρ τ => rw [e] at h; exact h
  | bad => rw [e] at h; exact h
theorem w_forL {tg : Tg} {body : Sv} {ds : List D} (I : Nat → Rho → Tape → Prop) (h0 : I 0 ρ τ)
    (hs : ∀ (j : Nat) (d : D) (ρ : Rho) (τ : Tape), ds[j]? = some d → I j ρ τ → WSo (asg tg d ρ) fun ρ1 => WS (body ρ1 τ) (I (j + 1)) rt nx (I (j + 1)) E)
    (he : ∀ ρ τ, I ds.length ρ τ → nx ρ τ) : WS (forL tg body ds ρ τ) nx rt bk ct E := by
  induction ds generalizing I ρ τ with
  | nil => exact ⟨he _ _ h0⟩
  | cons d ds ih =>
    obtain ⟨ρ1, h1, ⟨h2⟩⟩ := hs 0 d ρ τ (by simp) h0
    refine ⟨?_⟩
    rw [forL, h1]
    simp only []
    have go : ∀ ρ2 τ2, I 1 ρ2 τ2 → WS (forL tg body ds ρ2 τ2) nx rt bk ct E := fun ρ2 τ2 h => ih (fun j => I (j + 1)) h (fun j d ρ τ e => hs (j + 1) d ρ τ (by simpa using e)) fun ρ τ h => he ρ τ h
    cases e : body ρ1 τ with
    | nx ρ2 τ2 => rw [e] at h2; exact (go _ _ h2).get
    | ct ρ2 τ2 => rw [e] at h2; exact (go _ _ h2).get
    | bk ρ2 τ2 => rw [e] at h2; exact h2
    | rt r τ2 => rw [e] at h2; exact h2
    | exc x ρ τ => rw [e] at h2; exact h2
    | bad => rw [e] at h2; exact h2
theorem w_for {src : Src} {tg : Tg} {body : Sv} (h : WO (src ρ τ) (fun ds ρ τ => WS (forL tg body ds ρ τ) nx rt bk ct E) E) : WS (sFor src tg body ρ τ) nx rt bk ct E := by
  obtain ⟨h⟩ := h
  refine ⟨?_⟩
  unfold sFor
  cases e : src ρ τ with
  | ok ds ρ' τ' => rw [e] at h; exact h.get
  | exc x ρ τ => rw [e] at h; exact h
  | bad => rw [e] at h; exact h
theorem w_while {c : Tv} {body : Sv} (I : Nat → Rho → Tape → Prop) {m : Nat} (h0 : I m ρ τ) (hm : m < FUEL)
    (hs : ∀ (m : Nat) (ρ : Rho) (τ : Tape), I m ρ τ → WO (c ρ τ) (fun b ρ1 τ1 => WIf b (WS (body ρ1 τ1) (fun ρ τ => ∃ m', m' < m ∧ I m' ρ τ) rt nx (fun ρ τ => ∃ m', m' < m ∧ I m' ρ τ) E) (nx ρ1 τ1)) E) :
    WS (sWhile c body ρ τ) nx rt bk ct E := by
  unfold sWhile
  generalize FUEL = f at hm
  induction f generalizing m ρ τ with
  | zero => omega
  | succ f ih =>
    obtain ⟨h⟩ := hs m ρ τ h0
    refine ⟨?_⟩
    rw [whileF]
    cases e : c ρ τ with
    | ok b ρ1 τ1 =>
      rw [e] at h
      obtain ⟨h1, h2⟩ := h
      cases b with
      | false => exact h2 rfl
      | true =>
        obtain ⟨h3⟩ := h1 rfl
        simp only []
        cases e2 : body ρ1 τ1 with
        | nx ρ2 τ2 => rw [e2] at h3; obtain ⟨m', l, hi⟩ := h3; exact (ih hi (by omega)).get
        | ct ρ2 τ2 => rw [e2] at h3; obtain ⟨m', l, hi⟩ := h3; exact (ih hi (by omega)).get
        | bk ρ2 τ2 => rw [e2] at h3; exact h3
        | rt r τ2 => rw [e2] at h3; exact h3
        | exc x ρ τ => rw [e2] at h3; exact h3
        | bad => rw [e2] at h3; exact h3
    | exc x ρ τ => rw [e] at h; exact h
    | bad => rw [e] at h; exact h
/-- a comp -/
theorem w_lcL {tg : Tg} {test : Tv} {elt : Ev} {own : List Nat} {ds acc : List D} (I : Nat → List D → Rho → Tape → Prop) (h0 : I 0 acc ρ τ)
    (hs : ∀ (j : Nat) (d : D) (acc : List D) (ρ : Rho) (τ : Tape), ds[j]? = some d → I j acc ρ τ → WSo (asg tg d ρ) fun ρ1 => WO (test ρ1 τ) (fun b ρ2 τ2 => WIf b (WO (elt ρ2 τ2) (fun r ρ3 τ3 => acc.length < sizeLine ∧ I (j + 1) (acc ++ [rsD r]) (wipeR ρ3 own) τ3) NoX) (I (j + 1) acc (wipeR ρ2 own) τ2)) NoX)
    (he : ∀ acc ρ τ, I ds.length acc ρ τ → QL acc ρ τ) : WO (lcL tg test elt own ds acc ρ τ) QL NoX := by
  induction ds generalizing I acc ρ τ with
  | nil => exact ⟨by rw [lcL]; exact he _ _ _ h0⟩
  | cons d ds ih =>
    obtain ⟨ρ1, h1, ⟨h2⟩⟩ := hs 0 d acc ρ τ (by simp) h0
    refine ⟨?_⟩
    rw [lcL, h1]
    simp only []
    have go : ∀ acc ρ2 τ2, I 1 acc ρ2 τ2 → WO (lcL tg test elt own ds acc ρ2 τ2) QL NoX := fun acc ρ2 τ2 h => ih (fun j => I (j + 1)) h (fun j d acc ρ τ e => hs (j + 1) d acc ρ τ (by simpa using e)) fun acc ρ τ h => he acc ρ τ h
    cases e : test ρ1 τ with
    | ok b ρ2 τ2 =>
      rw [e] at h2
      obtain ⟨h3, h4⟩ := h2
      cases b with
      | false => exact (go _ _ _ (h4 rfl)).get
      | true =>
        obtain ⟨h5⟩ := h3 rfl
        simp only []
        unfold vFz
        cases e2 : elt ρ2 τ2 with
        | ok r ρ3 τ3 =>
          rw [e2] at h5
          obtain ⟨h6, h7⟩ := h5
          cases r <;> (simp only [h6, if_true]; exact (go _ _ _ h7).get)
        | exc x ρ τ => rw [e2] at h5; exact h5.elim
        | bad => rw [e2] at h5; exact h5.elim
    | exc x ρ τ => rw [e] at h2; exact h2.elim
    | bad => rw [e] at h2; exact h2.elim
theorem w_lc {src : Src} {tg : Tg} {test : Tv} {elt : Ev} {own : List Nat} (h : WO (src ρ τ) (fun ds ρ1 τ1 => WSo (if freeIn ρ1 own then some () else none) fun _ => WO (lcL tg test elt own ds [] (wipeR ρ1 own) τ1) (fun acc ρ2 τ2 => Q (.own (.lst acc)) (restR ρ1 ρ2 own) τ2) NoX) E) : WO (vLc src tg own test elt ρ τ) Q E := by
  obtain ⟨h⟩ := h
  refine ⟨?_⟩
  unfold vLc
  cases e : src ρ τ with
  | ok ds ρ1 τ1 =>
    rw [e] at h
    obtain ⟨u, h1, ⟨h2⟩⟩ := h
    have h3 : freeIn ρ1 own = true := by
      by_cases c : freeIn ρ1 own = true
      · exact c
      · rw [if_neg c] at h1; cases h1
    simp only [h3, if_true]
    cases e2 : lcL tg test elt own ds [] (wipeR ρ1 own) τ1 with
    | ok acc ρ2 τ2 => rw [e2] at h2; exact h2
    | exc x ρ τ => rw [e2] at h2; exact h2.elim
    | bad => rw [e2] at h2; exact h2.elim
  | exc x ρ τ => rw [e] at h; exact h
  | bad => rw [e] at h; exact h
-- calls
theorem w_call {m : Mf} {p : List Nat} (h : WO (aEx args ρ τ) (fun xs ρ1 τ1 => WSl ρ1 xs fun sl => WF (m (p.filterMap fun i => sl[i]?) τ1) (fun r τ2 => Q r ρ1 τ2) fun x τ2 => E x ρ1 τ2) E) : WO (vCall m p args ρ τ) Q E := by
  obtain ⟨h⟩ := h
  refine ⟨?_⟩
  unfold vCall
  cases e : aEx args ρ τ with
  | ok xs ρ1 τ1 =>
    rw [e] at h
    obtain ⟨sl, h1, ⟨h2⟩⟩ := h
    simp only [h1]
    cases e2 : m (p.filterMap fun i => sl[i]?) τ1 <;> (rw [e2] at h2; exact h2)
  | exc x ρ τ => rw [e] at h; exact h
  | bad => rw [e] at h; exact h
theorem w_body {n : Nat} {sv : Sv} {sl : List Sl} (h : WS (sv (sl ++ List.replicate n .un) τ) (fun _ τ => F (.fz .non) τ) F NoB NoB fun x _ τ => G x τ) : WF (mBody n sv sl τ) F G := by
  obtain ⟨h⟩ := h
  refine ⟨?_⟩
  unfold mBody
  cases e : sv (sl ++ List.replicate n .un) τ <;> (rw [e] at h; exact h)
theorem w_callV {ap : Ap} (hd : ρ[i]? = some (.fz d)) (hc : ap.can d = true) (h : WO (aEx args ρ τ) (fun xs ρ1 τ1 => WSl ρ1 xs fun sl => WF (ap.run d sl τ1) (fun r τ2 => Q r ρ1 τ2) fun x τ2 => E x ρ1 τ2) E) : WO (vCallV ap i args ρ τ) Q E := by
  obtain ⟨h⟩ := h
  refine ⟨?_⟩
  unfold vCallV
  rw [hd]
  simp only [hc, if_true]
  cases e : aEx args ρ τ with
  | ok xs ρ1 τ1 =>
    rw [e] at h
    obtain ⟨sl, h1, ⟨h2⟩⟩ := h
    simp only [h1]
    cases e2 : ap.run d sl τ1 <;> (rw [e2] at h2; exact h2)
  | exc x ρ τ => rw [e] at h; exact h
  | bad => rw [e] at h; exact h
theorem w_callL {m : Mf} {nn n : Nat} {as1 as2 : List Arg} {js : List Nat} (h : WO (aEx as1 ρ τ) (fun xs ρ1 τ1 => WO (aEx as2 ρ1 τ1) (fun ys ρ2 τ2 => WSo (frzL js ρ2) fun p => WSl p.2 xs fun s1 => WSl p.2 ys fun s2 => s1.length + 1 + s2.length = nn ∧ WF (m (s1 ++ .fz (.clo n p.1) :: s2) τ2) (fun r τ3 => r.nc = true ∧ Q r p.2 τ3) fun x τ3 => x.nc = true ∧ E x p.2 τ3) E) E) : WO (vCallL m nn as1 n js as2 ρ τ) Q E := by
  obtain ⟨h⟩ := h
  refine ⟨?_⟩
  unfold vCallL
  cases e : aEx as1 ρ τ with
  | ok xs ρ1 τ1 =>
    rw [e] at h
    obtain ⟨h⟩ := h
    simp only []
    cases e2 : aEx as2 ρ1 τ1 with
    | ok ys ρ2 τ2 =>
      rw [e2] at h
      obtain ⟨p, h1, s1, h2, s2, h3, h4, ⟨h5⟩⟩ := h
      obtain ⟨ds, ρ3⟩ := p
      simp only [h1, h2, h3, h4, if_true]
      cases e3 : m (s1 ++ .fz (.clo n ds) :: s2) τ2 with
      | rt r τ => rw [e3] at h5; simp only [h5.1, if_true]; exact h5.2
      | exc x τ => rw [e3] at h5; simp only [h5.1, if_true]; exact h5.2
      | bad => rw [e3] at h5; exact h5
    | exc x ρ τ => rw [e2] at h; exact h
    | bad => rw [e2] at h; exact h
  | exc x ρ τ => rw [e] at h; exact h
  | bad => rw [e] at h; exact h
theorem w_lam {np n : Nat} {caps : List D} {sl : List Sl} (h1 : sl.length = np) (h2 : sl.all Sl.nc = true) (h : WO (ev (sl ++ (caps.map Sl.fz ++ List.replicate n .un)) τ) (fun r _ τ => F r τ) fun x _ τ => G x τ) : WF (mLam np n ev caps sl τ) F G := by
  obtain ⟨h⟩ := h
  refine ⟨?_⟩
  unfold mLam
  rw [if_pos ⟨h1, h2⟩]
  cases e : ev (sl ++ (caps.map Sl.fz ++ List.replicate n .un)) τ <;> (rw [e] at h; exact h)
theorem w_fn {n : Nat} {m : Mf} {sl : List Sl} (h1 : sl.length = n) (h : WF (m sl τ) F G) : WF (mFn n m sl τ) F G := by
  unfold mFn
  rw [if_pos h1]
  exact h
-- exceptions
theorem w_raiseF {c f : Str} (h : WO (ev ρ τ) (fun r ρ τ => E (.exc c [(f, rsD r)]) ρ τ) E) : WS (sRaiseF c f ev ρ τ) nx rt bk ct E := by
  obtain ⟨h⟩ := h
  refine ⟨?_⟩
  unfold sRaiseF vFz
  cases e : ev ρ τ with
  | ok r ρ τ => rw [e] at h; cases r <;> exact h
  | exc x ρ τ => rw [e] at h; exact h
  | bad => rw [e] at h; exact h
theorem w_raiseT {c : Str} (h : E (.exc c []) ρ τ) : WS (sRaiseT c ρ τ) nx rt bk ct E := ⟨h⟩
theorem w_try {body : Sv} {can : Str → Option Bool} (h : WS (body ρ τ) nx rt bk ct fun x ρ' τ' => ∃ c fs, x = .exc c fs ∧ ((can c = some true ∧ nx (((ρ'.set i (.fz (.exc c fs))).set j (.fz (.exc c fs))).set i .un) τ') ∨ (can c = some false ∧ E (.exc c fs) ρ' τ'))) : WS (sTry body can i j ρ τ) nx rt bk ct E := by
  obtain ⟨h⟩ := h
  refine ⟨?_⟩
  unfold sTry
  cases e : body ρ τ with
  | exc x ρ' τ' =>
    rw [e] at h
    obtain ⟨c, fs, rfl, h⟩ := h
    rcases h with ⟨h1, h2⟩ | ⟨h1, h2⟩
    · simp only [h1]; exact h2
    · simp only [h1]; exact h2
  | _ => rw [e] at h; exact h
theorem w_fld {f : Str} {has : Str → Bool} (h : WO (ev ρ τ) (fun r ρ τ => WFx f has (rsD r) fun d => Q (.fz d) ρ τ) E) : WO (vFld f has ev ρ τ) Q E := by
  obtain ⟨h⟩ := h
  refine ⟨?_⟩
  unfold vFld vFz
  cases e : ev ρ τ with
  | ok r ρ' τ' =>
    rw [e] at h
    obtain ⟨c, fs, d, h1, h2, h3, h4⟩ := h
    cases r <;> (simp only [rsD] at h1; subst h1; simp only [h2, if_true, h3]; exact h4)
  | exc x ρ τ => rw [e] at h; exact h
  | bad => rw [e] at h; exact h
-- the tape
theorem w_ti {f : Tape → Int} (h : ρ[i]? = some (.fz .tape)) (q : Q (.fz (.int (f τ))) ρ τ) : WO (vTI f i ρ τ) Q E := ⟨by unfold vTI; rw [h]; exact q⟩
theorem w_tc (h : ρ[i]? = some (.fz .tape)) (q : Q (.fz (.lst (τ.cells.map D.int))) ρ τ) : WO (vTC i ρ τ) Q E := ⟨by unfold vTC; rw [h]; exact q⟩
theorem w_tne (h : ρ[i]? = some (.fz .tape)) (q : Q (.fz (.bl (!τ.large.isEmpty))) ρ τ) : WO (vTNe i ρ τ) Q E := ⟨by unfold vTNe; rw [h]; exact q⟩
theorem w_tpop (h : ρ[i]? = some (.fz .tape)) (q : ∃ n ns, τ.large = n :: ns ∧ Q (.fz (.int n)) ρ { τ with large := ns }) : WO (vTPop i ρ τ) Q E := by
  obtain ⟨n, ns, h1, h2⟩ := q
  exact ⟨by unfold vTPop; rw [h, h1]; exact h2⟩
theorem w_tput {f : Tape → Int → Tape} (h : WO (ev ρ τ) (fun r ρ τ => WI r fun n => WTp ρ i (nx ρ (f τ n))) E) : WS (sTPut f i ev ρ τ) nx rt bk ct E := by
  obtain ⟨h⟩ := h
  refine ⟨?_⟩
  unfold sTPut vFz
  cases e : ev ρ τ with
  | ok r ρ' τ' =>
    rw [e] at h
    obtain ⟨n, rfl, h1, h2⟩ := h
    simp only [h1]
    exact h2
  | exc x ρ τ => rw [e] at h; exact h
  | bad => rw [e] at h; exact h
theorem w_dic0 (q : Q (.own (.dic [])) ρ τ) : WO (vDic0 ρ τ) Q E := ⟨q⟩
end
end PD
namespace PD
open PySem PySem.Spec L2
theorem wi_pos {p A B : Prop} [Decidable p] (h : p) (a : A) : WIf (decide p) A B := wi_dec (fun _ => a) fun n => absurd h n
theorem wi_neg {p A B : Prop} [Decidable p] (h : ¬ p) (b : B) : WIf (decide p) A B := wi_dec (fun n => absurd n h) fun _ => b
theorem w_forN {tg : Tg} {body : Sv} {ρ : Rho} {τ : Tape} {nx bk ct : Rho → Tape → Prop} {rt : Rs → Tape → Prop} {E : D → Rho → Tape → Prop} (h : nx ρ τ) : WS (forL tg body [] ρ τ) nx rt bk ct E := ⟨h⟩
theorem w_forC {tg : Tg} {body : Sv} {d : D} {ds : List D} {ρ : Rho} {τ : Tape} {nx bk ct : Rho → Tape → Prop} {rt : Rs → Tape → Prop} {E : D → Rho → Tape → Prop}
    (h : WSo (asg tg d ρ) fun ρ1 => WS (body ρ1 τ) (fun ρ2 τ2 => WS (forL tg body ds ρ2 τ2) nx rt bk ct E) rt nx (fun ρ2 τ2 => WS (forL tg body ds ρ2 τ2) nx rt bk ct E) E) : WS (forL tg body (d :: ds) ρ τ) nx rt bk ct E := by
  obtain ⟨ρ1, h1, ⟨h2⟩⟩ := h
  refine ⟨?_⟩
  rw [forL, h1]
  simp only []
  cases e : body ρ1 τ with
  | nx ρ2 τ2 => rw [e] at h2; exact h2.get
  | ct ρ2 τ2 => rw [e] at h2; exact h2.get
  | bk ρ2 τ2 => rw [e] at h2; exact h2
  | rt r τ2 => rw [e] at h2; exact h2
  | exc x ρ τ => rw [e] at h2; exact h2
  | bad => rw [e] at h2; exact h2
theorem wp_is {x y : D} {r : Bool} {QP : Rs → Prop} (h : fIs false x y = .at (.bl r)) (q : QP (.fz (.bl r))) : WP (pIs [x, y]) QP := by
  show WP (fIs false x y) QP
  rw [h]
  exact ⟨q⟩
theorem wp_isnot {x y : D} {r : Bool} {QP : Rs → Prop} (h : fIs true x y = .at (.bl r)) (q : QP (.fz (.bl r))) : WP (pIsNot [x, y]) QP := by
  show WP (fIs true x y) QP
  rw [h]
  exact ⟨q⟩
theorem cut_1 (ns : List D) : PD.cutD ns (some 1) none = ns.drop 1 := by
  unfold PD.cutD
  show (ns.drop (min 1 ns.length)).take (ns.length - min 1 ns.length) = _
  cases ns with
  | nil => rfl
  | cons n ns =>
    rw [List.length_cons, show min 1 (ns.length + 1) = 1 from by omega, List.drop_succ_cons, List.drop_zero, show ns.length + 1 - 1 = ns.length from by omega, List.take_length]
theorem wp_sl1 {x : List D} {QP : Rs → Prop} (q : QP (.own (.lst (x.drop 1)))) : WP (pSl10 [.lst x, .int 1]) QP := by
  show WP (.nl (PD.cutD x (some 1) none)) QP
  rw [cut_1]
  exact ⟨q⟩
theorem zipD_at : ∀ {xs ys : List D} {j : Nat} {d : D}, (zipD xs ys)[j]? = some d → ∃ x y, xs[j]? = some x ∧ ys[j]? = some y ∧ d = .tup [x, y]
  | [], ys, j, d, h => by simp [zipD] at h
  | x :: xs, [], j, d, h => by simp [zipD] at h
  | x :: xs, y :: ys, j, d, h => by
    rw [zipD] at h
    cases j with
    | zero => simp at h; exact ⟨x, y, rfl, rfl, h.symm⟩
    | succ j => simp only [List.getElem?_cons_succ] at h ⊢; exact zipD_at h
theorem map_int_at {ns : List Int} {j : Nat} {d : D} (h : (ns.map D.int)[j]? = some d) : ∃ n, d = .int n ∧ ns[j]? = some n ∧ n ∈ ns := by
  rw [List.getElem?_map] at h
  cases e : ns[j]? with
  | none => rw [e] at h; cases h
  | some n => rw [e] at h; cases h; exact ⟨n, rfl, rfl, List.mem_of_getElem? e⟩
end PD
namespace PD
open PySem PySem.Spec L2
open PyProof.Rows hiding St
section
variable {ρ : Rho} {τ : Tape} {i : Nat} {ev ek ea eb ec : Ev} {d : D} {E : D → Rho → Tape → Prop} {Q : Rs → Rho → Tape → Prop} {QL : List D → Rho → Tape → Prop} {nx bk ct : Rho → Tape → Prop} {rt : Rs → Tape → Prop} {QP : Rs → Prop}
theorem w_dgetK {kv0 : List (D × D)} (h0 : dicAt ρ i = some kv0) (h : WO (ev ρ τ) (fun r ρ1 τ1 => ∃ kvs key d, dicAt ρ1 i = some kvs ∧ keyD (rsD r) = some key ∧ lookK kvs key = some d ∧ Q (.fz d) ρ1 τ1) E) : WO (vDGet i ev ρ τ) Q E := by
  obtain ⟨h⟩ := h
  refine ⟨?_⟩
  unfold vDGet vFz
  rw [h0]
  simp only []
  cases e : ev ρ τ with
  | ok r ρ1 τ1 =>
    rw [e] at h
    obtain ⟨kvs, key, d, h1, h2, h3, q⟩ := h
    cases r <;> (simp only [] at h2 ⊢; rw [h1]; simp only [h2, h3]; exact q)
  | exc x ρ τ => rw [e] at h; exact h
  | bad => rw [e] at h; exact h
theorem w_dinK {neg : Bool} (h : WO (ev ρ τ) (fun r ρ1 τ1 => ∃ kvs key, dicAt ρ1 i = some kvs ∧ keyD (rsD r) = some key ∧ Q (.fz (.bl ((lookK kvs key).isSome != neg))) ρ1 τ1) E) : WO (vDIn neg i ev ρ τ) Q E := by
  obtain ⟨h⟩ := h
  refine ⟨?_⟩
  unfold vDIn vFz
  cases e : ev ρ τ with
  | ok r ρ1 τ1 =>
    rw [e] at h
    obtain ⟨kvs, key, h1, h2, q⟩ := h
    cases r <;> (simp only [] at h2 ⊢; rw [h1]; simp only [h2]; exact q)
  | exc x ρ τ => rw [e] at h; exact h
  | bad => rw [e] at h; exact h
theorem w_dputK (h : WO (ev ρ τ) (fun r ρ1 τ1 => ∃ kv0, dicAt ρ1 i = some kv0 ∧ WO (ek ρ1 τ1) (fun r2 ρ2 τ2 => ∃ kvs key, ρ2[i]? = some (.own (.dic kvs)) ∧ keyD (rsD r2) = some key ∧ kvs.length < sizeLine ∧ nx (ρ2.set i (.own (.dic (putKD kvs key (rsD r))))) τ2) E) E) : WS (sDPutK i ek ev ρ τ) nx rt bk ct E := by
  obtain ⟨h⟩ := h
  refine ⟨?_⟩
  unfold sDPutK vFz
  cases e : ev ρ τ with
  | ok r ρ1 τ1 =>
    rw [e] at h
    obtain ⟨kv0, h0, ⟨h⟩⟩ := h
    cases r <;>
    · simp only []
      rw [h0]
      simp only []
      cases e2 : ek ρ1 τ1 with
      | ok r2 ρ2 τ2 =>
        rw [e2] at h
        obtain ⟨kvs, key, h1, h2, h3, q⟩ := h
        cases r2 <;> (simp only [] at h2 ⊢; rw [h1]; simp only [h2, h3, if_true]; exact q)
      | exc x ρ τ => rw [e2] at h; exact h
      | bad => rw [e2] at h; exact h
  | exc x ρ τ => rw [e] at h; exact h
  | bad => rw [e] at h; exact h
theorem w_forK {tg : Tg} {body : Sv} {kvs : List (D × D)} (h0 : ρ[i]? = some (.bor (.dic kvs))) (nd : noDic i ρ = true)
    (h : WS (forL tg body (kvs.map (·.1)) (ρ.set i (.bor (.clo 0 [.dic kvs]))) τ) (fun ρ2 τ2 => nx (unlk i ρ2) τ2) rt NoB NoB NoX) : WS (sForK i tg body ρ τ) nx rt bk ct E := by
  obtain ⟨h⟩ := h
  refine ⟨?_⟩
  unfold sForK
  rw [h0]
  simp only [nd, if_true]
  cases e : forL tg body (kvs.map (·.1)) (ρ.set i (.bor (.clo 0 [.dic kvs]))) τ with
  | nx ρ2 τ2 => rw [e] at h; exact h
  | rt r τ2 => rw [e] at h; exact h
  | bk ρ2 τ2 => rw [e] at h; exact h.elim
  | ct ρ2 τ2 => rw [e] at h; exact h.elim
  | exc x ρ2 τ2 => rw [e] at h; exact h.elim
  | bad => rw [e] at h; exact h
theorem w_bor (h0 : ρ[i]? = some (.own d)) (h : WO (ev (ρ.set i (.bor d)) τ) (fun r ρ1 τ1 => Q r (unbor i true ρ1) τ1) fun x ρ1 τ1 => E x (unbor i true ρ1) τ1) : WO (vBor i ev ρ τ) Q E := by
  obtain ⟨h⟩ := h
  refine ⟨?_⟩
  unfold vBor
  rw [h0]
  simp only []
  cases e : ev (ρ.set i (.bor d)) τ with
  | ok r ρ1 τ1 => rw [e] at h; exact h
  | exc x ρ τ => rw [e] at h; exact h
  | bad => rw [e] at h; exact h
theorem w_borF (h0 : ρ[i]? = some (.fz d)) (h : WO (ev ρ τ) Q E) : WO (vBor i ev ρ τ) Q E := by
  obtain ⟨h⟩ := h
  refine ⟨?_⟩
  unfold vBor
  rw [h0]
  exact h
theorem w_srcB {ds : List D} (h : ρ[i]? = some (.bor (.lst ds))) (q : QL ds ρ τ) : WO (srcB i ρ τ) QL E := ⟨by unfold srcB; rw [h]; exact q⟩
theorem w_srcBF {ds : List D} (h : ρ[i]? = some (.fz (.lst ds))) (q : QL ds ρ τ) : WO (srcB i ρ τ) QL E := ⟨by unfold srcB; rw [h]; exact q⟩
theorem w_srcBT {ds : List D} (h : ρ[i]? = some (.fz (.tup ds))) (q : QL ds ρ τ) : WO (srcB i ρ τ) QL E := ⟨by unfold srcB; rw [h]; exact q⟩
theorem w_enumB (h : WO (srcB i ρ τ) (fun ds ρ τ => QL (enumD 0 ds) ρ τ) E) : WO (srcEnumB i ρ τ) QL E := by
  obtain ⟨h⟩ := h
  refine ⟨?_⟩
  unfold srcEnumB
  cases e : srcB i ρ τ with
  | ok r ρ1 τ1 => rw [e] at h; exact h
  | exc x ρ τ => rw [e] at h; exact h
  | bad => rw [e] at h; exact h
theorem wp_in {n : Int} {ns : List Int} (q : QP (.fz (.bl (decide (n ∈ ns))))) : WP (pIn false [.int n, .lst (ns.map D.int)]) QP := by
  show WP (match nsOf (ns.map D.int) with
    | some ns => P.at (.bl (decide (n ∈ ns) != false))
    | none => .bad) QP
  rw [nsOf_map]
  have e : (decide (n ∈ ns) != false) = decide (n ∈ ns) := by cases decide (n ∈ ns) <;> rfl
  rw [← e] at q
  exact ⟨q⟩
theorem wp_inT {n : Int} {ns : List Int} (q : QP (.fz (.bl (decide (n ∈ ns))))) : WP (pIn false [.int n, .tup (ns.map D.int)]) QP := by
  show WP (match nsOf (ns.map D.int) with
    | some ns => P.at (.bl (decide (n ∈ ns) != false))
    | none => .bad) QP
  rw [nsOf_map]
  have e : (decide (n ∈ ns) != false) = decide (n ∈ ns) := by cases decide (n ∈ ns) <;> rfl
  rw [← e] at q
  exact ⟨q⟩
theorem w_lenSet (h : WO (ev ρ τ) (fun r ρ1 τ1 => ∃ ns : List Int, rsD r = .lst (ns.map D.int) ∧ ns.length + 1 < scanBound ∧ Q (.fz (.int (dist ns))) ρ1 τ1) E) : WO (vLenSet ev ρ τ) Q E := by
  obtain ⟨h⟩ := h
  refine ⟨?_⟩
  unfold vLenSet vFz
  cases e : ev ρ τ with
  | ok r ρ1 τ1 =>
    rw [e] at h
    obtain ⟨ns, h1, h2, q⟩ := h
    cases r <;> (have h1 := h1; dsimp only [rsD] at h1; subst h1; simp only [nsOf_map, h2, if_true]; exact q)
  | exc x ρ τ => rw [e] at h; exact h
  | bad => rw [e] at h; exact h
theorem dedup_nodup : ∀ (ns acc : List Int), (acc ++ ns).Nodup → ns.foldl step_dedup acc = acc ++ ns
  | [], acc, _ => by rw [List.append_nil]; rfl
  | n :: ns, acc, h => by
    have h2 : n ∉ acc := fun m => (List.nodup_append.mp h).2.2 n m n (by simp) rfl
    rw [List.foldl_cons, show step_dedup acc n = acc ++ [n] from by
      unfold step_dedup
      simp [h2]]
    rw [dedup_nodup ns (acc ++ [n]) (by rw [List.append_assoc]; exact h), List.append_assoc]
    rfl
theorem map_getD (ns : List Int) : (List.range ns.length).map (fun i => ns.getD i 0) = ns := by
  refine List.ext_getElem (by rw [List.length_map, List.length_range]) fun i h1 h2 => ?_
  rw [List.getElem_map, List.getElem_range, List.getD_eq_getElem?_getD, List.getElem?_eq_getElem h2]
  rfl
theorem dist_nodup {ns : List Int} (h : ns.Nodup) : dist ns = ns.length := by
  unfold dist firstMet
  rw [map_getD, dedup_nodup ns [] (by simpa using h)]
  rfl
theorem w_sl11 (h : WO (aEx [.ex ea, .ex eb] ρ τ) (fun xs ρ1 τ1 => WLs xs fun ds => ∃ x i, ds = [x, .int i] ∧ WO (ec ρ1 τ1) (fun r ρ2 τ2 => WI r fun j => WP (sl2 x (some i) (some j)) fun r => Q r ρ2 τ2) E) E) : WO (vSl11 ea eb ec ρ τ) Q E := by
  obtain ⟨h⟩ := w_aFz h
  refine ⟨?_⟩
  unfold vSl11
  cases e : aFz [.ex ea, .ex eb] ρ τ with
  | ok ds ρ1 τ1 =>
    rw [e] at h
    obtain ⟨x, i, rfl, ⟨h⟩⟩ := h
    simp only []
    unfold vFz
    cases e2 : ec ρ1 τ1 with
    | ok r ρ2 τ2 =>
      rw [e2] at h
      obtain ⟨j, rfl, ⟨h⟩⟩ := h
      simp only []
      cases e3 : sl2 x (some i) (some j) <;> (rw [e3] at h; simp only [outP]; exact h)
    | exc x ρ τ => rw [e2] at h; exact h
    | bad => rw [e2] at h; exact h
  | exc x ρ τ => rw [e] at h; exact h
  | bad => rw [e] at h; exact h
theorem sIx_nat {n k d : Nat} : HT.sIx n d (some (k : Int)) = min k n := by
  unfold HT.sIx
  simp
  omega
theorem cut_nat (ds : List D) (a b : Nat) : cutD ds (some (a : Int)) (some (b : Int)) = (ds.drop (min a ds.length)).take (min b ds.length - min a ds.length) := by
  unfold cutD
  rw [sIx_nat, sIx_nat]
theorem wp_sl01 {x : List D} {n : Int} (q : QP (.own (.lst (cutD x none (some n))))) : WP (pSl01 [.lst x, .int n]) QP := ⟨q⟩
theorem wp_sl2L {x : List D} {a b : Option Int} (q : QP (.own (.lst (cutD x a b)))) : WP (sl2 (.lst x) a b) QP := ⟨q⟩
end
structure Fl (n : Nat) (d : D) : Prop where
  get : ∃ x, d.py = some x ∧ x.canLay0 = true ∧ x.depth ≤ n
theorem Fl.int {i : Int} : Fl 0 (.int i) := ⟨.int i, rfl, by simp only [PyData.canLay0], by simp only [PyData.depth]; omega⟩
theorem Fl.bl {b : Bool} : Fl 0 (.bl b) := ⟨.bool b, rfl, by simp only [PyData.canLay0], by simp only [PyData.depth]; omega⟩
theorem Fl.non : Fl 0 .non := ⟨.none, rfl, by simp only [PyData.canLay0], by simp only [PyData.depth]; omega⟩
theorem Fl.mono {n m : Nat} {d : D} (h : Fl n d) (l : n ≤ m) : Fl m d := by
  obtain ⟨x, h1, h2, h3⟩ := h
  exact ⟨x, h1, h2, Nat.le_trans h3 l⟩
theorem fl_all {n : Nat} : ∀ {ds : List D}, (∀ d ∈ ds, Fl n d) → ∃ xs, D.pyL ds = some xs ∧ PyData.canLayAll0 xs = true ∧ PyData.depthAll xs ≤ n ∧ xs.length = ds.length
  | [], _ => ⟨[], rfl, by simp only [PyData.canLayAll0], by simp [PyData.depthAll], rfl⟩
  | d :: ds, h => by
    obtain ⟨xs, a1, a2, a3, a4⟩ := fl_all (ds := ds) fun e he => h e (by simp [he])
    obtain ⟨x, b1, b2, b3⟩ := h d (by simp)
    exact ⟨x :: xs, by rw [D.pyL, b1, a1], by simp only [PyData.canLayAll0, b2, a2, Bool.and_self], by rw [PyData.depthAll]; omega, by rw [List.length_cons, List.length_cons, a4]⟩
theorem Fl.lst {n : Nat} {ds : List D} (h : ∀ d ∈ ds, Fl n d) : Fl (n + 1) (.lst ds) := by
  obtain ⟨xs, a1, a2, a3, a4⟩ := fl_all h
  exact ⟨.list xs, by rw [D.py, a1]; rfl, by simp only [PyData.canLay0, a2], by rw [PyData.depth]; omega⟩
theorem Fl.tup {n : Nat} {ds : List D} (h : ∀ d ∈ ds, Fl n d) : Fl (n + 1) (.tup ds) := by
  obtain ⟨xs, a1, a2, a3, a4⟩ := fl_all h
  exact ⟨.tuple xs, by rw [D.py, a1]; rfl, by simp only [PyData.canLay0, a2], by rw [PyData.depth]; omega⟩
theorem Fl.pair {p : Int × Int} : Fl 1 (pairD p) := Fl.tup fun d hd => by
  rcases List.mem_cons.mp hd with rfl | hd
  · exact Fl.int
  · rcases List.mem_cons.mp hd with rfl | hd
    · exact Fl.int
    · cases hd
theorem Fl.shaped {d : D} (h : Fl 64 d) : ∃ x, d.py = some x ∧ SeqAt.shaped x = true := by
  obtain ⟨x, h1, h2, h3⟩ := h
  refine ⟨x, h1, ?_⟩
  unfold SeqAt.shaped
  rw [h2, decide_eq_true h3]
  rfl
theorem eqvD_nil {ds : List D} (h : Fl 64 (.lst ds)) : ∃ x, (D.lst ds).py = some x ∧ SeqAt.shaped x = true ∧ PyData.eqv x (.list []) = decide (ds.length = 0) := by
  obtain ⟨x, h1, h2⟩ := h.shaped
  refine ⟨x, h1, h2, ?_⟩
  have h1 := h1
  rw [D.py] at h1
  cases e : D.pyL ds with
  | none => rw [e] at h1; cases h1
  | some xs =>
    rw [e] at h1
    cases h1
    cases ds with
    | nil => cases e; rfl
    | cons d ds =>
      rw [D.pyL] at e
      cases e1 : d.py with
      | none => rw [e1] at e; cases e
      | some y =>
        cases e2 : D.pyL ds with
        | none => rw [e1, e2] at e; cases e
        | some ys => rw [e1, e2] at e; cases e; rfl
theorem wp_eqNil {ds : List D} {QP : Rs → Prop} (h : Fl 64 (.lst ds)) (q : QP (.fz (.bl (decide (ds.length = 0))))) : WP (pEq [.lst ds, .lst []]) QP := by
  obtain ⟨x, h1, h2, h3⟩ := eqvD_nil h
  exact wp_eqD h1 rfl h2 rfl h3 q
theorem wp_neNil {ds : List D} {QP : Rs → Prop} (h : Fl 64 (.lst ds)) (q : QP (.fz (.bl (!decide (ds.length = 0))))) : WP (pNe [.lst ds, .lst []]) QP := by
  obtain ⟨x, h1, h2, h3⟩ := eqvD_nil h
  exact wp_neD h1 rfl h2 rfl h3 q
theorem fl_ones {n : Nat} : Fl 1 (.lst (List.replicate n (.int 1))) := Fl.lst fun d hd => by
  obtain ⟨_, rfl⟩ := List.mem_replicate.mp hd
  exact Fl.int
section
variable {ρ : Rho} {τ : Tape} {i : Nat} {ev ea eb ec : Ev} {args : List Arg} {d : D} {E : D → Rho → Tape → Prop} {Q : Rs → Rho → Tape → Prop} {QL : List D → Rho → Tape → Prop} {QX : List (Sum D Nat) → Rho → Tape → Prop} {nx bk ct : Rho → Tape → Prop} {rt : Rs → Tape → Prop} {QP : Rs → Prop}
theorem wp_eqT {ds : List D} (q : QP (.fz (.bl ds.isEmpty))) : WP (pEqT [.tup ds, .tup []]) QP := ⟨q⟩
theorem wp_all {bs : List Bool} (q : QP (.fz (.bl (bs.all id)))) : WP (pAll [.lst (bs.map D.bl)]) QP := by
  show WP (match bsOf (bs.map D.bl) with
    | some bs => P.at (.bl (bs.all id))
    | none => .bad) QP
  rw [bsOf_map]
  exact ⟨q⟩
theorem w_se (h : WO (ev ρ τ) (fun r ρ1 τ1 => WSo (seqD (rsD r)) fun ds => WO (aEx args ρ1 τ1) (fun xs ρ2 τ2 => QX (ds.map Sum.inl ++ xs) ρ2 τ2) E) E) : WO (aEx (.se ev :: args) ρ τ) QX E := by
  obtain ⟨h⟩ := h
  refine ⟨?_⟩
  rw [aEx]
  unfold vFz
  cases e : ev ρ τ with
  | ok r ρ1 τ1 =>
    rw [e] at h
    obtain ⟨ds, h1, ⟨h2⟩⟩ := h
    cases r <;>
    · simp only [] at h1 ⊢
      rw [h1]
      simp only []
      cases e2 : aEx args ρ1 τ1 <;> (rw [e2] at h2; exact h2)
  | exc x ρ τ => rw [e] at h; exact h
  | bad => rw [e] at h; exact h
theorem w_lam0 {n : Nat} (q : Q (.fz (.clo n [])) ρ τ) : WO (vLam0 n ρ τ) Q E := ⟨q⟩
theorem w_par3 {j l : Nat} (h : WO (ea ρ τ) (fun r ρ τ => WO (eb ρ τ) (fun r' ρ τ => WO (ec ρ τ) (fun r'' ρ τ => nx (((ρ.set i (slOf r)).set j (slOf r')).set l (slOf r'')) τ) E) E) E) : WS (sPar3 i j l ea eb ec ρ τ) nx rt bk ct E := by
  obtain ⟨h⟩ := h
  refine ⟨?_⟩
  unfold sPar3
  cases e : ea ρ τ with
  | ok r ρ1 τ1 =>
    rw [e] at h
    obtain ⟨h⟩ := h
    simp only []
    cases e2 : eb ρ1 τ1 with
    | ok r2 ρ2 τ2 =>
      rw [e2] at h
      obtain ⟨h⟩ := h
      simp only []
      cases e3 : ec ρ2 τ2 <;> (rw [e3] at h; exact h)
    | exc x ρ τ => rw [e2] at h; exact h
    | bad => rw [e2] at h; exact h
  | exc x ρ τ => rw [e] at h; exact h
  | bad => rw [e] at h; exact h
/-- a dict written out -/
theorem w_dicK {kes : List (Key × Ev)} (h : WO (evL kes ρ τ) (fun l ρ τ => Q (.own (.dic (l.map fun p => (kD p.1, p.2)))) ρ τ) E) : WO (vDicK kes ρ τ) Q E := by
  obtain ⟨h⟩ := h
  refine ⟨?_⟩
  unfold vDicK
  cases e : evL kes ρ τ <;> (rw [e] at h; exact h)
theorem w_evN {QK : List (Key × D) → Rho → Tape → Prop} (q : QK [] ρ τ) : WO (evL [] ρ τ) QK E := ⟨by rw [evL]; exact q⟩
theorem w_evC {QK : List (Key × D) → Rho → Tape → Prop} {k : Key} {kes : List (Key × Ev)} (h : WO (ev ρ τ) (fun r ρ τ => WO (evL kes ρ τ) (fun l ρ τ => QK ((k, rsD r) :: l) ρ τ) E) E) : WO (evL ((k, ev) :: kes) ρ τ) QK E := by
  obtain ⟨h⟩ := h
  refine ⟨?_⟩
  rw [evL]
  unfold vFz
  cases e : ev ρ τ with
  | ok r ρ1 τ1 =>
    rw [e] at h
    obtain ⟨h2⟩ := h
    cases r <;>
    · simp only []
      cases e2 : evL kes ρ1 τ1 <;> (rw [e2] at h2; exact h2)
  | exc x ρ τ => rw [e] at h; exact h
  | bad => rw [e] at h; exact h
/-- comps of two clauses -/
theorem w_lc2 {src src1 : Src} {t t1 : Tg} {own vs1 : List Nat} {test test1 : Tv} {elt : Ev} (h : WO (src ρ τ) (fun ds ρ1 τ1 => WSo (if freeIn ρ1 own then some () else none) fun _ => WO (lcL2 t test src1 t1 test1 elt own vs1 ds [] (wipeR ρ1 own) τ1) (fun acc ρ2 τ2 => Q (.own (.lst acc)) (restR ρ1 ρ2 own) τ2) NoX) E) : WO (vLc2 src t own test src1 t1 vs1 test1 elt ρ τ) Q E := by
  obtain ⟨h⟩ := h
  refine ⟨?_⟩
  unfold vLc2
  cases e : src ρ τ with
  | ok ds ρ1 τ1 =>
    rw [e] at h
    obtain ⟨u, h1, ⟨h2⟩⟩ := h
    have h3 : freeIn ρ1 own = true := by
      by_cases c : freeIn ρ1 own = true
      · exact c
      · rw [if_neg c] at h1; cases h1
    simp only [h3, if_true]
    cases e2 : lcL2 t test src1 t1 test1 elt own vs1 ds [] (wipeR ρ1 own) τ1 with
    | ok acc ρ2 τ2 => rw [e2] at h2; exact h2
    | exc x ρ τ => rw [e2] at h2; exact h2.elim
    | bad => rw [e2] at h2; exact h2.elim
  | exc x ρ τ => rw [e] at h; exact h
  | bad => rw [e] at h; exact h
theorem w_lcL2 {src1 : Src} {t t1 : Tg} {own vs1 : List Nat} {test test1 : Tv} {elt : Ev} {ds acc : List D} (I : Nat → List D → Rho → Tape → Prop) (h0 : I 0 acc ρ τ)
    (hs : ∀ (j : Nat) (d : D) (acc : List D) (ρ : Rho) (τ : Tape), ds[j]? = some d → I j acc ρ τ → WSo (asg t d ρ) fun ρ1 => WO (test ρ1 τ) (fun b ρ2 τ2 => WIf b (WO (src1 ρ2 τ2) (fun ds1 ρ3 τ3 => WO (lcL t1 test1 elt vs1 ds1 acc (wipeR ρ3 vs1) τ3) (fun acc' ρ4 τ4 => I (j + 1) acc' (wipeR ρ4 own) τ4) NoX) NoX) (I (j + 1) acc (wipeR ρ2 own) τ2)) NoX)
    (he : ∀ acc ρ τ, I ds.length acc ρ τ → QL acc ρ τ) : WO (lcL2 t test src1 t1 test1 elt own vs1 ds acc ρ τ) QL NoX := by
  induction ds generalizing I acc ρ τ with
  | nil => exact ⟨by rw [lcL2]; exact he _ _ _ h0⟩
  | cons d ds ih =>
    obtain ⟨ρ1, h1, ⟨h2⟩⟩ := hs 0 d acc ρ τ (by simp) h0
    refine ⟨?_⟩
    rw [lcL2, h1]
    simp only []
    have go : ∀ acc ρ2 τ2, I 1 acc ρ2 τ2 → WO (lcL2 t test src1 t1 test1 elt own vs1 ds acc ρ2 τ2) QL NoX := fun acc ρ2 τ2 h => ih (fun j => I (j + 1)) h (fun j d acc ρ τ e => hs (j + 1) d acc ρ τ (by simpa using e)) fun acc ρ τ h => he acc ρ τ h
    cases e : test ρ1 τ with
    | ok b ρ2 τ2 =>
      rw [e] at h2
      obtain ⟨h3, h4⟩ := h2
      cases b with
      | false => exact (go _ _ _ (h4 rfl)).get
      | true =>
        obtain ⟨h5⟩ := h3 rfl
        simp only []
        cases e2 : src1 ρ2 τ2 with
        | ok ds1 ρ3 τ3 =>
          rw [e2] at h5
          obtain ⟨h6⟩ := h5
          simp only []
          cases e3 : lcL t1 test1 elt vs1 ds1 acc (wipeR ρ3 vs1) τ3 with
          | ok acc' ρ4 τ4 => rw [e3] at h6; exact (go _ _ _ h6).get
          | exc x ρ τ => rw [e3] at h6; exact h6.elim
          | bad => rw [e3] at h6; exact h6.elim
        | exc x ρ τ => rw [e2] at h5; exact h5.elim
        | bad => rw [e2] at h5; exact h5.elim
    | exc x ρ τ => rw [e] at h2; exact h2.elim
    | bad => rw [e] at h2; exact h2.elim
end
end PD
namespace PD
open PySem PySem.Spec L2
open PyProof.Rows hiding St
local macro_rules | `(tactic| walk_at "w_1") => `(tactic| (first | with_reducible refine w_seq ?_ | with_reducible refine w_set ?_ | with_reducible refine w_ret ?_ | with_reducible refine w_drop ?_ | with_reducible refine w_pass ?_ | with_reducible refine w_sif ?_ | with_reducible refine w_asg ?_ | with_reducible refine w_par ?_ | with_reducible refine w_for ?_ | with_reducible refine w_src ?_ | with_reducible refine w_srcR ?_ | with_reducible refine w_enum ?_ | with_reducible refine w_zip ?_ | with_reducible refine w_raiseF ?_ | with_reducible refine w_raiseT ?_ | with_reducible refine w_brk ?_ | with_reducible refine w_ct ?_ | with_reducible refine w_lit ?_ | with_reducible refine w_fz ?_ | with_reducible refine w_prim ?_ | with_reducible refine w_call ?_ | with_reducible refine w_nil ?_ | with_reducible refine w_ex ?_ | with_reducible refine w_tup ?_ | with_reducible refine w_lst ?_ | with_reducible refine w_tof ?_ | with_reducible refine w_tnot ?_ | with_reducible refine w_tyes ?_ | with_reducible refine w_tor ?_ | with_reducible refine w_tand ?_ | with_reducible refine w_and ?_ | with_reducible refine w_or ?_ | with_reducible refine w_not ?_ | with_reducible refine w_vif ?_ | with_reducible refine w_chain ?_ | with_reducible refine w_fld ?_ | with_reducible refine w_tput ?_ | with_reducible refine w_setIx ?_ | with_reducible refine w_dic0 ?_ | with_reducible refine w_lc ?_ | with_reducible refine w_aFz ?_ | with_reducible refine w_try ?_ | with_reducible refine w_callL ?_ | with_reducible refine w_b ?_ | with_reducible refine w_i ?_ | with_reducible refine wp_add ?_ | with_reducible refine wp_sub ?_ | with_reducible refine wp_neg ?_ | with_reducible refine wp_lt ?_ | with_reducible refine wp_le ?_ | with_reducible refine wp_gt ?_ | with_reducible refine wp_ge ?_ | with_reducible refine wp_eqI ?_ | with_reducible refine wp_neI ?_ | with_reducible refine wp_len ?_ | with_reducible refine wp_lenT ?_ | with_reducible refine wp_lenS ?_ | with_reducible refine wp_int ?_ | with_reducible refine wp_abs ?_ | with_reducible refine wp_min2 ?_ | with_reducible refine wp_max2 ?_ | with_reducible refine wp_sorted ?_ | with_reducible refine wp_tupC ?_ | with_reducible refine wp_tupCT ?_ | with_reducible refine wp_lstC ?_ | with_reducible refine wp_lstCT ?_ | with_reducible refine wi_tt ?_ | with_reducible refine wi_ff ?_ | with_reducible refine wi_not ?_ | with_reducible refine wp_sl1 ?_ | with_reducible refine w_se ?_ | with_reducible refine w_lam0 ?_ | with_reducible refine w_par3 ?_ | with_reducible refine w_dicK ?_ | with_reducible refine w_evN ?_ | with_reducible refine w_evC ?_ | with_reducible refine w_lc2 ?_ | with_reducible refine wp_eqT ?_ | ((with_reducible apply w_var); case h => exact rfl) | ((with_reducible apply w_varO); case h => exact rfl) | ((with_reducible apply w_move); case h => exact rfl) | ((with_reducible apply w_moveO); case h => exact rfl) | ((with_reducible apply w_pk); case h => exact rfl) | ((with_reducible apply w_res); case h => exact rfl) | ((with_reducible apply w_ls); case h => exact rfl) | ((with_reducible apply w_sl); case h => exact rfl) | ((with_reducible apply w_ti); case h => exact rfl) | ((with_reducible apply w_tc); case h => exact rfl) | ((with_reducible apply w_tne); case h => exact rfl) | ((with_reducible apply w_tp); case h => exact rfl) | ((with_reducible apply w_ow); case h => exact rfl) | ((with_reducible apply w_aug); case ha => exact rfl) | ((with_reducible apply w_app); case h0 => exact rfl) | ((with_reducible apply w_so); case h => exact rfl) | ((with_reducible apply w_l); (case h => exact rfl); case hl => exact rfl) | ((with_reducible apply wp_is); case h => exact rfl) | ((with_reducible apply wp_isnot); case h => exact rfl) | ((with_reducible apply wp_ixT); case h => exact rfl) | ((with_reducible apply w_z); case h => exact rfl) | ((with_reducible apply w_fx); (case h => exact rfl); case h2 => exact rfl) | ((with_reducible refine wi_pos ?hp ?_); case hp => omega) | ((with_reducible refine wi_neg ?hp ?_); case hp => omega) | ((with_reducible refine wp_mod ?hp ?_); case hp => omega) | ((with_reducible refine wp_fdiv ?hp ?hq ?_); (case hp => omega); case hq => omega) | ((with_reducible refine wp_mulS ?hp ?hq ?_); (case hp => omega); case hq => omega)))

def bvBlend : Sv := (sSeq (sTPut putTurn 0 (vPrim pAdd [(.ex (vTI (·.turn) 0)), (.ex (vLit (.int 1)))]))
  (sSeq (sPar 1 2 (vPrim pInt [(.ex (vTI (·.turn) 0))]) (vLit (.int 0)))
  (sSeq (sFor (srcOf (vLst [(.ex (vLit (.int 2147483629))), (.ex (vLit (.int 2147483587))), (.ex (vLit (.int 2147483579)))])) (.nm 3) (sSeq (sSet 4 (vPrim pMod [(.ex (vPrim pAdd [(.ex (vPrim pMul [(.pk 1), (.ex (vLit (.int 69621)))])), (.ex (vPrim pFdiv [(.pk 3), (.ex (vLit (.int 7)))]))])), (.pk 3)]))
  (sSeq (sFor (srcOf (vTC 0)) (.nm 5) (sSet 4 (vPrim pMod [(.ex (vPrim pAdd [(.ex (vPrim pMul [(.pk 4), (.ex (vLit (.int 48271)))])), (.ex (vPrim pInt [(.pk 5)]))])), (.pk 3)])))
  (sSet 2 (vPrim pAdd [(.ex (vPrim pMul [(.pk 2), (.ex (vLit (.int 2147483647)))])), (.ex (vPrim pMod [(.ex (vPrim pPow [(.pk 4), (.ex (vLit (.int 5)))])), (.pk 3)]))])))))
  (sRet (vMove 2)))))
def mBlend : Mf := mBody 5 bvBlend
def bvDraw : Sv := (sSeq (sIf (tOf (vPrim pEq [(.ex (vTI (·.rest) 0)), (.ex (vLit (.int 0)))])) (sTPut putRest 0 (vIf (tOf (vTNe 0)) (vTPop 0) (vCall mBlend (List.range 1) [(.ex (vVar 0))]))) sPass)
  (sSeq (sSet 2 (vPrim pMod [(.ex (vPrim pInt [(.ex (vTI (·.rest) 0))])), (.pk 1)]))
  (sSeq (sTPut putRest 0 (vPrim pFdiv [(.ex (vPrim pInt [(.ex (vTI (·.rest) 0))])), (.pk 1)]))
  (sRet (vMove 2)))))
def mDraw : Mf := mBody 1 bvDraw
def bvPick : Sv := (sRet (vPrim pIx [(.pk 1), (.ex (vCall mDraw (List.range 2) [(.ex (vVar 0)), (.ex (vPrim pLen [(.pk 1)]))]))]))
def mPick : Mf := mBody 0 bvPick
/-- the tape has been blended at most k times -/
structure TOk (k : Nat) (τ : Tape) : Prop where
  lo : 0 ≤ τ.turn
  hi : τ.turn ≤ k
theorem TOk.mono {k k' : Nat} {τ : Tape} (h : TOk k τ) (l : k ≤ k') : TOk k' τ := ⟨h.lo, by have := h.hi; omega⟩
section
variable {k : Nat} {τ : Tape} {Q : Rs → Tape → Prop} {E : D → Tape → Prop}
theorem blend_in {g : Int} (hg : 0 < g ∧ g < 2 ^ 31) {cells : List Int} {τ : Tape} {a b c e : Sl} {m : Int} (hm : 0 ≤ m ∧ m < g) {nx bk ct : Rho → Tape → Prop} {rt : Rs → Tape → Prop} {E : D → Rho → Tape → Prop}
    (h : ∀ m' e', 0 ≤ m' → m' < g → nx [a, b, c, .fz (.int g), .fz (.int m'), e'] τ) :
    WS (forL (.nm 5) (sSet 4 (vPrim pMod [(.ex (vPrim pAdd [(.ex (vPrim pMul [(.pk 4), (.ex (vLit (.int 48271)))])), (.ex (vPrim pInt [(.pk 5)]))])), (.pk 3)])) (cells.map D.int) [a, b, c, .fz (.int g), .fz (.int m), e] τ) nx rt bk ct E := by
  refine w_forL (fun _ ρ τ' => τ' = τ ∧ ∃ m' e', 0 ≤ m' ∧ m' < g ∧ ρ = [a, b, c, .fz (.int g), .fz (.int m'), e']) ⟨rfl, m, e, hm.1, hm.2, rfl⟩ ?_ ?_
  · rintro j d ρ τ' hd ⟨rfl, m', e', h1, h2, rfl⟩
    obtain ⟨n, rfl, -⟩ := map_int_at hd
    (repeat' (first | walk_at "w_1"))
    exact ⟨rfl, _, _, Int.emod_nonneg _ (by omega), Int.emod_lt_of_pos _ (by omega), rfl⟩
  · rintro ρ τ' ⟨rfl, m', e', h1, h2, rfl⟩
    exact h m' e' h1 h2
theorem pow5 {m : Int} (h1 : 0 ≤ m) (h2 : m < 2 ^ 31) : 0 ≤ (5 : Int) ∧ (5 : Int) ≤ 1000000 ∧ m.natAbs < 2 ^ 64 := ⟨by decide, by decide, by omega⟩
theorem blend_use (ht : TOk k τ) (hk : k ≤ 1000000) (q : ∀ (n : Int) τ', TOk (k + 1) τ' → Q (.fz (.int n)) τ') : WF (mBlend [.fz .tape] τ) Q E := by
  have t1 := ht.lo
  have t2 := ht.hi
  refine w_body ?_
  unfold bvBlend
  refine w_seq ?_
  (repeat' (first | walk_at "w_1"))
  have e1 : (putTurn τ (τ.turn + 1)).turn = τ.turn + 1 := rfl
  have tk : TOk (k + 1) (putTurn τ (τ.turn + 1)) := ⟨by omega, by omega⟩
  generalize putTurn τ (τ.turn + 1) = τ1 at *
  (repeat' (first | (with_reducible refine w_forC ?_) | (with_reducible refine w_forN ?_) | walk_at "w_1"))
  refine blend_in ⟨by decide, by decide⟩ ⟨Int.emod_nonneg _ (by decide), Int.emod_lt_of_pos _ (by decide)⟩ fun m1 e1 l1 l2 => ?_
  (repeat' (first | (with_reducible refine w_forC ?_) | (with_reducible refine w_forN ?_) | ((with_reducible refine wp_pow ?_ ?_); exact pow5 (by omega) (by omega)) | walk_at "w_1"))
  refine blend_in ⟨by decide, by decide⟩ ⟨Int.emod_nonneg _ (by decide), Int.emod_lt_of_pos _ (by decide)⟩ fun m2 e2 l3 l4 => ?_
  have a1 := Int.emod_nonneg (m1 ^ 5) (show (2147483629 : Int) ≠ 0 by decide)
  have a2 := Int.emod_lt_of_pos (m1 ^ 5) (show (0 : Int) < 2147483629 by decide)
  (repeat' (first | (with_reducible refine w_forC ?_) | (with_reducible refine w_forN ?_) | ((with_reducible refine wp_pow ?_ ?_); exact pow5 (by omega) (by omega)) | walk_at "w_1"))
  refine blend_in ⟨by decide, by decide⟩ ⟨Int.emod_nonneg _ (by decide), Int.emod_lt_of_pos _ (by decide)⟩ fun m3 e3 l5 l6 => ?_
  have a3 := Int.emod_nonneg (m2 ^ 5) (show (2147483587 : Int) ≠ 0 by decide)
  have a4 := Int.emod_lt_of_pos (m2 ^ 5) (show (0 : Int) < 2147483587 by decide)
  (repeat' (first | (with_reducible refine w_forC ?_) | (with_reducible refine w_forN ?_) | ((with_reducible refine wp_pow ?_ ?_); exact pow5 (by omega) (by omega)) | walk_at "w_1"))
  exact q _ _ tk
theorem atI_nat {α : Type} (ds : List α) (j : Nat) (h : j < ds.length) : atI ds (j : Int) = some ds[j] := by
  unfold atI ixN
  rw [if_pos (by omega), if_pos (by omega)]
  show ds[(j : Int).toNat]? = _
  rw [Int.toNat_natCast, List.getElem?_eq_getElem h]
theorem atI_at {α : Type} (ds : List α) {n : Int} (h : 0 ≤ n) (h2 : n < ds.length) : ∃ d, atI ds n = some d ∧ d ∈ ds ∧ ds[n.toNat]? = some d := by
  obtain ⟨j, rfl⟩ := Int.eq_ofNat_of_zero_le h
  have hj : j < ds.length := by omega
  exact ⟨_, atI_nat ds j hj, List.getElem_mem _, by rw [Int.toNat_natCast, List.getElem?_eq_getElem hj]⟩
theorem draw_use {n : Int} (ht : TOk k τ) (hk : k ≤ 1000000) (hn : 0 < n ∧ n < 2 ^ 1000) (q : ∀ (d : Int) τ', 0 ≤ d → d < n → TOk (k + 1) τ' → Q (.fz (.int d)) τ') : WF (mDraw [.fz .tape, .fz (.int n)] τ) Q E := by
  obtain ⟨n1, n2⟩ := hn
  refine w_body ?_
  unfold bvDraw
  refine w_seq ?_
  have fin : ∀ τ1, TOk (k + 1) τ1 → WS ((sSeq (sSet 2 (vPrim pMod [(.ex (vPrim pInt [(.ex (vTI (·.rest) 0))])), (.pk 1)]))
  (sSeq (sTPut putRest 0 (vPrim pFdiv [(.ex (vPrim pInt [(.ex (vTI (·.rest) 0))])), (.pk 1)]))
  (sRet (vMove 2)))) ([Sl.fz D.tape, Sl.fz (D.int n)] ++ List.replicate 1 Sl.un) τ1) (fun x τ => Q (Rs.fz D.non) τ) Q NoB NoB fun x x_1 τ => E x τ := fun τ1 t1 => by
    (repeat' (first | walk_at "w_1"))
    exact q _ _ (Int.emod_nonneg _ (by omega)) (Int.emod_lt_of_pos _ n1) ⟨t1.lo, t1.hi⟩
  refine w_sif (w_tof (w_prim ?_))
  (repeat' (first | walk_at "w_1"))
  refine wi_dec (fun h => ?_) (fun h => ?_)
  · refine w_tput (w_vif ?_)
    (repeat' (first | walk_at "w_1"))
    refine wi_var (fun e => ?_) fun e => ?_
    · (repeat' (first | walk_at "w_1"))
      refine blend_use ht hk fun m τ1 t1 => ?_
      (repeat' (first | exact fin _ ⟨t1.lo, t1.hi⟩ | walk_at "w_1"))
    · cases hl : τ.large with
      | nil => rw [hl] at e; cases e
      | cons m ms =>
        refine w_tpop rfl ⟨m, ms, hl, ?_⟩
        (repeat' (first | exact fin _ ⟨ht.lo, by have := ht.hi; show τ.turn ≤ _; omega⟩ | walk_at "w_1"))
  · exact w_pass (fin _ (ht.mono (by omega)))
theorem pick_use {s : Sl} {ds : List D} (hs : slD s = some (.lst ds)) (hn : 0 < ds.length ∧ ds.length < 1000000) (ht : TOk k τ) (hk : k ≤ 1000000) (q : ∀ d ∈ ds, ∀ τ', TOk (k + 1) τ' → Q (.fz d) τ') : WF (mPick [.fz .tape, s] τ) Q E := by
  refine w_body ?_
  unfold bvPick
  have e1 : (([Sl.fz D.tape, s] ++ List.replicate 0 Sl.un)[1]?).bind slD = some (.lst ds) := hs
  refine w_ret (w_prim (w_pk e1 (w_ex (w_call (w_ex ?_)))))
  (repeat' (first | walk_at "w_1"))
  refine w_pk e1 (w_nil (w_res (ds := [.lst ds]) ?_ ?_))
  · show (match ((([Sl.fz D.tape, s] ++ List.replicate 0 Sl.un)[1]?).bind slD) with
      | some d => (aRes ([Sl.fz D.tape, s] ++ List.replicate 0 Sl.un) []).map (d :: ·)
      | none => none) = _
    rw [e1]
    rfl
  (repeat' (first | walk_at "w_1"))
  refine draw_use ht hk ⟨by omega, by omega⟩ fun d τ' h1 h2 t' => ?_
  obtain ⟨x, x1, x2, -⟩ := atI_at ds h1 h2
  (repeat' (first | walk_at "w_1"))
  refine w_res (ds := [.lst ds, .int d]) ?_ ?_
  · show (match ((([Sl.fz D.tape, s] ++ List.replicate 0 Sl.un)[1]?).bind slD) with
      | some d2 => (aRes ([Sl.fz D.tape, s] ++ List.replicate 0 Sl.un) [.inl (.int d)]).map (d2 :: ·)
      | none => none) = _
    rw [e1]
    rfl
  exact wp_ix x1 (q _ x2 _ t')
/-- of a list that is written out -/
theorem pick_lit {s : Sl} {ds : List D} (hs : slD s = some (.lst ds)) (hn : (Nat.blt 0 ds.length && Nat.blt ds.length 1000) = true) (ht : TOk k τ) (hk : k ≤ 1000000) (q : ∀ d ∈ ds, ∀ τ', TOk (k + 1) τ' → Q (.fz d) τ') : WF (mPick [.fz .tape, s] τ) Q E := by
  rw [Bool.and_eq_true] at hn
  have h1 : 0 < ds.length := Nat.le_of_ble_eq_true hn.1
  have h2 : ds.length + 1 ≤ 1000 := Nat.le_of_ble_eq_true hn.2
  exact pick_use hs ⟨h1, by omega⟩ ht hk q
end
end PD
namespace PD
open PySem PySem.Spec L2
open PyProof.Rows hiding St

/-- what can be shown: not deeper than n, in at most w signs -/
structure Sm (n w : Nat) (d : D) : Prop where
  get : ∃ x, d.py = some x ∧ x.showable = true ∧ x.hasDict = false ∧ x.shown.length ≤ w ∧ x.depth ≤ n ∧ PyData.strOk x.shown = true
def shD (d : D) : Str := match d.py with
  | some x => x.shown
  | none => ""
theorem Sm.mono {n n' w w' : Nat} {d : D} (h : Sm n w d) (a : n ≤ n') (b : w ≤ w') : Sm n' w' d := by
  obtain ⟨x, h1, h2, h3, h4, h5, h6⟩ := h
  exact ⟨x, h1, h2, h3, Nat.le_trans h4 b, Nat.le_trans h5 a, h6⟩
theorem strOk_of (s : String) : PyData.strOk (s : Str) = true := by
  unfold PyData.strOk
  show ((cpsOfBytes 0 0 s.toByteArray.data.toList).toArray).all (· < 0x110000) = true
  rw [cpsOfBytes_string]
  simp only [List.all_toArray, List.all_eq_true, List.mem_map, decide_eq_true_eq]
  rintro c ⟨ch, _, rfl⟩
  have h := ch.valid
  simp only [UInt32.isValidChar, Nat.isValidChar] at h
  show ch.val.toNat < 1114112
  omega
theorem strOk_append {a b : Str} (ha : PyData.strOk a = true) (hb : PyData.strOk b = true) : PyData.strOk (a ++ b) = true := by
  unfold PyData.strOk at *
  show ((a.cps ++ b.cps).all fun x => decide (x < 1114112)) = true
  rw [Array.all_append, ha, hb]
  rfl
theorem strOk_textFrom : ∀ (ts : List Str) (k : Nat) (acc : Str), PyData.strOk acc = true → (∀ t ∈ ts, PyData.strOk t = true) → PyData.strOk (textFrom k acc ts) = true
  | [], k, acc, ha, _ => ha
  | t :: ts, k, acc, ha, h => strOk_textFrom ts (k + 1) _ (strOk_append (strOk_append ha (strOk_of _)) (h t (by simp))) fun u hu => h u (by simp [hu])
theorem strOk_list {ts : List Str} (h : ∀ t ∈ ts, PyData.strOk t = true) : PyData.strOk (listText ts) = true := strOk_append (strOk_textFrom ts 0 _ (strOk_of _) h) (strOk_of _)
theorem strOk_join (sep : Str) (hs : PyData.strOk sep = true) : ∀ (ts : List Str), (∀ t ∈ ts, PyData.strOk t = true) → PyData.strOk (Str.join sep ts) = true
  | [], _ => by show PyData.strOk Str.empty = true; decide +kernel
  | [t], h => h t (by simp)
  | t :: u :: r, h => by
    show PyData.strOk (t ++ sep ++ Str.join sep (u :: r)) = true
    exact strOk_append (strOk_append (h t (by simp)) hs) (strOk_join sep hs (u :: r) fun x hx => h x (by simp at hx ⊢; exact .inr hx))
theorem strOk_tuple {ts : List Str} (h : ∀ t ∈ ts, PyData.strOk t = true) : PyData.strOk (tupleText ts) = true := strOk_append (strOk_append (strOk_of _) (strOk_join _ (strOk_of _) ts h)) (strOk_of _)
set_option exponentiation.threshold 3000
theorem pow10_lt : (10 : Nat) ^ 570 < 2 ^ 1920 := by decide +kernel
theorem Sm.int {i : Int} {k : Nat} (hk : 0 < k) (h : i.natAbs < 10 ^ k) (h2 : k ≤ 570) : Sm 0 (k + 1) (.int i) := by
  refine ⟨.int i, rfl, ?_, by simp only [PyData.hasDict], ?_, by simp only [PyData.depth]; omega, ?_⟩
  · simp only [PyData.showable, decide_eq_true_eq]
    have : (10 : Nat) ^ k ≤ 10 ^ 570 := Nat.pow_le_pow_right (by decide) h2
    exact log2_lt (Nat.lt_trans (Nat.lt_of_lt_of_le h this) pow10_lt) (by decide)
  · have e := int_text_length_le10 hk h
    simp only [PyData.shown]
    show ((cpsOfBytes 0 0 (toString i).toByteArray.data.toList).toArray).size ≤ _
    rw [cpsOfBytes_string, List.size_toArray, List.length_map]
    exact e
  · simp only [PyData.shown]
    exact strOk_of _
theorem Sm.non : Sm 0 4 .non := ⟨.none, rfl, by simp only [PyData.showable], by simp only [PyData.hasDict], Nat.le_refl _, by simp only [PyData.depth]; omega, by simp only [PyData.shown]; exact strOk_of _⟩
theorem Sm.bl {b : Bool} : Sm 0 5 (.bl b) := ⟨.bool b, rfl, by simp only [PyData.showable], by simp only [PyData.hasDict], by cases b <;> decide, by simp only [PyData.depth]; omega, by cases b <;> exact strOk_of _⟩
theorem sm_all {n w : Nat} : ∀ {ds : List D}, (∀ d ∈ ds, Sm n w d) → ∃ xs, D.pyL ds = some xs ∧ PyData.showableAll xs = true ∧ PyData.hasDictAll xs = false ∧ ((PyData.shownAll xs).map (·.length)).sum ≤ ds.length * w ∧ PyData.depthAll xs ≤ n ∧ (∀ t ∈ PyData.shownAll xs, PyData.strOk t = true) ∧ (PyData.shownAll xs).length = ds.length
  | [], _ => ⟨[], rfl, rfl, rfl, by simp [PyData.shownAll], by simp [PyData.depthAll], by simp [PyData.shownAll], rfl⟩
  | d :: ds, h => by
    obtain ⟨xs, a1, a2, a3, a4, a5, a6, a7⟩ := sm_all (ds := ds) fun e he => h e (by simp [he])
    obtain ⟨x, b1, b2, b3, b4, b5, b6⟩ := h d (by simp)
    refine ⟨x :: xs, by rw [D.pyL, b1, a1], by rw [PyData.showableAll, b2, a2]; rfl, by rw [PyData.hasDictAll, b3, a3]; rfl, ?_, ?_, ?_, ?_⟩
    · rw [PyData.shownAll, List.map_cons, List.sum_cons, List.length_cons, Nat.add_mul, Nat.one_mul]
      omega
    · rw [PyData.depthAll]; omega
    · intro t ht
      rw [PyData.shownAll] at ht
      rcases List.mem_cons.mp ht with rfl | ht
      · exact b6
      · exact a6 t ht
    · rw [PyData.shownAll, List.length_cons, a7, List.length_cons]
theorem Sm.lst {n w : Nat} {ds : List D} (h : ∀ d ∈ ds, Sm n w d) : Sm (n + 1) (ds.length * w + 2 * ds.length + 3) (.lst ds) := by
  obtain ⟨xs, a1, a2, a3, a4, a5, a6, a7⟩ := sm_all h
  refine ⟨.list xs, by rw [D.py, a1]; rfl, by rw [PyData.showable, a2], by rw [PyData.hasDict, a3], ?_, by rw [PyData.depth]; omega, by rw [PyData.shown]; exact strOk_list a6⟩
  have := listText_len_le (PyData.shownAll xs)
  rw [PyData.shown]
  omega
theorem Sm.tup {n w : Nat} {ds : List D} (h : ∀ d ∈ ds, Sm n w d) : Sm (n + 1) (ds.length * w + 2 * ds.length + 3) (.tup ds) := by
  obtain ⟨xs, a1, a2, a3, a4, a5, a6, a7⟩ := sm_all h
  refine ⟨.tuple xs, by rw [D.py, a1]; rfl, by rw [PyData.showable, a2], by rw [PyData.hasDict, a3], ?_, by rw [PyData.depth]; omega, by rw [PyData.shown]; exact strOk_tuple a6⟩
  have := tupleText_len_le (PyData.shownAll xs)
  rw [PyData.shown]
  omega
/-- a list of ints below 10^k -/
theorem Sm.ints {ns : List Int} {k : Nat} (hk : 0 < k) (h2 : k ≤ 570) (h : ∀ i ∈ ns, i.natAbs < 10 ^ k) : ∀ d ∈ ns.map D.int, Sm 0 (k + 1) d := fun d hd => by
  obtain ⟨i, hi, rfl⟩ := List.mem_map.mp hd
  exact Sm.int hk (h i hi) h2
section
variable {QP : Rs → Prop} {d : D}
theorem repr_use {n w : Nat} (h : Sm n w d) (hn : n ≤ 30) (hw : w ≤ 10000000) (q : PyData.strOk (shD d) = true → QP (.fz (.str (shD d)))) : WP (pRepr [d]) QP := by
  obtain ⟨x, h1, h2, h3, h4, h5, h6⟩ := h
  have e : shD d = x.shown := by unfold shD; rw [h1]
  rw [e] at q
  exact wp_repr h1 h2 h3 (Nat.le_trans h4 (Nat.le_trans hw (by decide))) (by omega) (q h6)
theorem same_eq {x : Str} (h : PyData.strOk x = true) (q : QP (.fz (.bl true))) : WP (pEq [.str x, .str x]) QP := wp_eqS h h (by rw [show (x == x) = true from by simp]; exact q)
theorem same_ne {x : Str} (h : PyData.strOk x = true) (q : QP (.fz (.bl false))) : WP (pNe [.str x, .str x]) QP := wp_neS h h (by rw [show (x == x) = true from by simp]; exact q)
end
end PD
namespace PD
open PySem PySem.Spec L2
open PyProof.Rows hiding St pairD cutD
section
variable {QP : Rs → Prop} {ρ : Rho} {τ : Tape} {QL : List D → Rho → Tape → Prop}
theorem diff_eq {x y : String} (h : ((x : Str) == (y : Str)) = false) (q : QP (.fz (.bl false))) : WP (pEq [.str x, .str y]) QP := wp_eqS (strOk_of _) (strOk_of _) (by rw [h]; exact q)
theorem diff_ne {x y : String} (h : ((x : Str) == (y : Str)) = false) (q : QP (.fz (.bl true))) : WP (pNe [.str x, .str y]) QP := wp_neS (strOk_of _) (strOk_of _) (by rw [h]; exact q)
theorem str_ne {x y : String} (h : ((x : Str) == (y : Str)) = false) : (x : Str) ≠ (y : Str) := fun e => by rw [e] at h; simp at h
theorem wp_slT3 {x y z : D} (q : QP (.fz (.tup [y, z]))) : WP (pSl10 [.tup [x, y, z], .int 1]) QP := ⟨q⟩
theorem wp_addT3 {x y z : D} (q : QP (.fz (.tup [x, y, z]))) : WP (pAdd [.tup [x], .tup [y, z]]) QP := ⟨q⟩
theorem wp_eqP2 {a b c d : Int} (q : QP (.fz (.bl (decide (a = c ∧ b = d))))) : WP (pEq [.tup [.int a, .int b], .tup [.int c, .int d]]) QP := by
  refine wp_eqD (a := .tuple [.int a, .int b]) (b := .tuple [.int c, .int d]) rfl rfl rfl rfl ?_ q
  simp [PyData.eqv, PyData.eqvAll]
  by_cases h1 : a = c <;> by_cases h2 : b = d <;> simp [h1, h2]
theorem wp_neP2 {a b c d : Int} (q : QP (.fz (.bl (!decide (a = c ∧ b = d))))) : WP (pNe [.tup [.int a, .int b], .tup [.int c, .int d]]) QP := by
  refine wp_neD (a := .tuple [.int a, .int b]) (b := .tuple [.int c, .int d]) rfl rfl rfl rfl ?_ q
  simp [PyData.eqv, PyData.eqvAll]
  by_cases h1 : a = c <;> by_cases h2 : b = d <;> simp [h1, h2]
theorem wp_eqTc {x : D} {xs : List D} (q : QP (.fz (.bl false))) : WP (pEqT [.tup (x :: xs), .tup []]) QP := ⟨q⟩
theorem wp_eqTn (q : QP (.fz (.bl true))) : WP (pEqT [.tup [], .tup []]) QP := ⟨q⟩
theorem wp_lenT1 {a : D} (q : QP (.fz (.int 1))) : WP (pLen [.tup [a]]) QP := ⟨q⟩
theorem wp_lenT2 {a b : D} (q : QP (.fz (.int 2))) : WP (pLen [.tup [a, b]]) QP := ⟨q⟩
theorem wp_lenT3 {a b c : D} (q : QP (.fz (.int 3))) : WP (pLen [.tup [a, b, c]]) QP := ⟨q⟩
theorem wp_lenT4 {a b c d : D} (q : QP (.fz (.int 4))) : WP (pLen [.tup [a, b, c, d]]) QP := ⟨q⟩
theorem w_lcN {tg : Tg} {test : Tv} {elt : Ev} {own : List Nat} {acc : List D} (q : QL acc ρ τ) : WO (lcL tg test elt own [] acc ρ τ) QL NoX := ⟨by rw [lcL]; exact q⟩
theorem w_lcC {tg : Tg} {test : Tv} {elt : Ev} {own : List Nat} {d : D} {ds acc : List D} (hl : Nat.blt acc.length 1000 = true)
    (h : WSo (asg tg d ρ) fun ρ1 => WO (test ρ1 τ) (fun b ρ2 τ2 => WIf b (WO (elt ρ2 τ2) (fun r ρ3 τ3 => WO (lcL tg test elt own ds (acc ++ [rsD r]) (wipeR ρ3 own) τ3) QL NoX) NoX) (WO (lcL tg test elt own ds acc (wipeR ρ2 own) τ2) QL NoX)) NoX) :
    WO (lcL tg test elt own (d :: ds) acc ρ τ) QL NoX := by
  have hl : acc.length < sizeLine := Nat.lt_of_lt_of_le (Nat.le_of_ble_eq_true hl) (by decide)
  obtain ⟨ρ1, h1, ⟨h2⟩⟩ := h
  refine ⟨?_⟩
  rw [lcL, h1]
  simp only []
  cases e : test ρ1 τ with
  | ok b ρ2 τ2 =>
    rw [e] at h2
    obtain ⟨h3, h4⟩ := h2
    cases b with
    | false => exact (h4 rfl).get
    | true =>
      obtain ⟨h5⟩ := h3 rfl
      simp only []
      unfold vFz
      cases e2 : elt ρ2 τ2 with
      | ok r ρ3 τ3 =>
        rw [e2] at h5
        obtain ⟨h6⟩ := h5
        cases r <;> (simp only [hl, if_true]; exact h6)
      | exc x ρ τ => rw [e2] at h5; exact h5.elim
      | bad => rw [e2] at h5; exact h5.elim
  | exc x ρ τ => rw [e] at h2; exact h2.elim
  | bad => rw [e] at h2; exact h2.elim
theorem wp_neB {x y : Bool} (q : QP (.fz (.bl (x != y)))) : WP (pNe [.bl x, .bl y]) QP := by cases x <;> cases y <;> exact wp_neD rfl rfl rfl rfl rfl q
theorem wp_neBv {x y r : Bool} (h : (x != y) = r) (q : QP (.fz (.bl r))) : WP (pNe [.bl x, .bl y]) QP := wp_neB (by rw [h]; exact q)
theorem wp_eqB {x y : Bool} (q : QP (.fz (.bl (x == y)))) : WP (pEq [.bl x, .bl y]) QP := by cases x <;> cases y <;> exact wp_eqD rfl rfl rfl rfl rfl q
theorem apOr_l {a b : Ap} {d : D} (h : a.can d = true) : (apOr a b).run d = a.run d := if_pos h
theorem apOr_r {a b : Ap} {d : D} (h : a.can d = false) : (apOr a b).run d = b.run d := if_neg (by rw [h]; decide)
/-- all([x, y]) of Bools that are known -/
theorem wp_all2 {a b : Bool} (q : QP (.fz (.bl (a && b)))) : WP (pAll [.lst [.bl a, .bl b]]) QP := wp_all (bs := [a, b]) (by simpa using q)
end
end PD
set_option maxHeartbeats 0
namespace LWk57
open PySem PySem.Spec L2 PD
open PyProof.Rows hiding St
abbrev LE_5 : LE := leOf "law" (eAt 1 (eEs (eAt 1 (eEs (eAt 0 (eEs (eAt 0 (sEs (sAt 0 (sSs (sAt 1 (sSs (sAt 2 (sSs (sAt 1 (sSs (top 46))))))))))))))))) [] ["ask", "spans", "hands"]
abbrev LE_3 : LE := leOf "law" (eAt 1 (eEs (eAt 1 (sEs (sAt 1 (sSs (sAt 2 (sSs (sAt 1 (sSs (top 46))))))))))) ["one", "two"] []
abbrev LE_2 : LE := leOf "law" (eAt 1 (eEs (eAt 1 (sEs (sAt 0 (sSs (sAt 3 (sSs (top 46))))))))) [] ["ask", "odd"]
abbrev LE_1 : LE := leOf "law" (eAt 1 (eEs (eAt 1 (sEs (sAt 3 (sSs (top 46))))))) ["one", "two"] []
abbrev LE_0 : LE := leOf "_law_refuses" (eAt 1 (eEs (eAt 1 (sEs (sAt 1 (sSs (top 41))))))) [] ["ask", "wrong"]
abbrev LE_4 : LE := leOf "law" (eAt 2 (eEs (eAt 0 (eEs (eAt 2 (eEs (eAt 0 (sEs (sAt 1 (sSs (sAt 3 (sSs (top 46))))))))))))) ["one"] ["ask", "odd"]
/-- what is known of the module -/
structure LG (g : G) : Prop where
  d_law : DefK g "law" (top 46)
  d_l_draw : DefK g "_law_draw" (top 28)
  d_l_blend : DefK g "_law_blend" (top 27)
  b_int : g.mg "int" = none
  d_l_pick : DefK g "_law_pick" (top 29)
  b_len : g.mg "len" = none
  d_l_full : DefK g "_law_full" (top 45)
  b_list : g.mg "list" = none
  b_max : g.mg "max" = none
  d_l_spans : DefK g "_law_spans" (top 33)
  b_range : g.mg "range" = none
  b_min : g.mg "min" = none
  d_l_is_chain : DefK g "_law_is_chain" (top 36)
  b_sorted : g.mg "sorted" = none
  b_zip : g.mg "zip" = none
  d_l_right : DefK g "_law_right" (top 44)
  d_l_sum : DefK g "_law_sum" (top 35)
  d_l_common : DefK g "_law_common" (top 34)
  d_class_paper : DefK g "class_paper" (top 23)
  d_need_spans_hands : DefK g "need_spans_hands" (top 16)
  d_need_spans : DefK g "need_spans" (top 15)
  d_is_list : DefK g "is_list" (top 10)
  b_tuple : g.mg "tuple" = none
  isi : IsiOk g sub
  xok : ExcOk g sub
  b_isinstance : g.mg "isinstance" = none
  g_MOST_JOBS : ∃ t, g.mg "MOST_JOBS" = some (.int 6 t)
  x_BadSpans : ExFld g "BadSpans" I_ItemError
  d_is_between : DefK g "is_between" (top 9)
  d_is_number : DefK g "is_number" (top 8)
  b_bool : g.mg "bool" = none
  g_MOST_SPAN : ∃ t, g.mg "MOST_SPAN" = some (.int 60 t)
  b_enumerate : g.mg "enumerate" = none
  g_MOST_HANDS : ∃ t, g.mg "MOST_HANDS" = some (.int 4 t)
  x_BadNumber : ExFld g "BadNumber" I_PartError
  d_chain_right : DefK g "chain_right" (top 19)
  b_all : g.mg "all" = none
  x_NotChain : ExTxt g "NotChain"
  d_classes_for : DefK g "classes_for" (top 21)
  d_is_free : DefK g "is_free" (top 20)
  d_common_part : DefK g "common_part" (top 17)
  d_sum_of_shares : DefK g "sum_of_shares" (top 18)
  d_l_is_paper : DefK g "_law_is_paper" (top 42)
  b_str : g.mg "str" = none
  d_l_are_classes : DefK g "_law_are_classes" (top 38)
  d_l_is_whole : DefK g "_law_is_whole" (top 32)
  d_l_meet : DefK g "_law_meet" (top 37)
  d_l_near : DefK g "_law_near" (top 43)
  d_l_near_classes : DefK g "_law_near_classes" (top 39)
  d_l_says : DefK g "_law_says" (top 31)
  d_is_class_paper : DefK g "is_class_paper" (top 24)
  d_classes_right : DefK g "classes_right" (top 22)
  r_NotChain : ∃ a, g.mg "NotChain" = some (.ref a)
  d_l_caught : DefK g "_law_caught" (top 30)
  l_5 : g.tab 5 = some LE_5
  l_3 : g.tab 3 = some LE_3
  catch_AgainError : CatchOk g "AgainError" catch_AgainError
  r_class_paper : ∃ a, g.mg "class_paper" = some (.ref a)
  l_2 : g.tab 2 = some LE_2
  l_1 : g.tab 1 = some LE_1
  r_BadNumber : ∃ a, g.mg "BadNumber" = some (.ref a)
  fld_part : FldOk g "part" has_part
  d_l_refuses : DefK g "_law_refuses" (top 41)
  d_l_bad_spans : DefK g "_law_bad_spans" (top 40)
  l_0 : g.tab 0 = some LE_0
  l_4 : g.tab 4 = some LE_4
  r_BadSpans : ∃ a, g.mg "BadSpans" = some (.ref a)
  fld_index : FldOk g "index" has_index
  c_l_refuses : ∃ c, CodeK g "_law_refuses" (top 41) c ∧ TabK g c "_law_refuses.<locals>.<lambda>"
  c_law : ∃ c, CodeK g "law" (top 46) c ∧ TabK g c "law.<locals>.<lambda>"
  d_l_begun : DefK g "_law_begun" (top 26)
  b_abs : g.mg "abs" = none
  tkm : ∀ l c, mergeK [] [(Sum.inr "large", V.ref l), (.inr "rest", .int 0), (.inr "cells", .ref c), (.inr "turn", .int 0)] = g.tkv l c 0 0
  tk : TkOk g "large" "cells" "rest" "turn"
def N_law : List Str := ["script", "tape", "lap", "hands", "spans", "ask", "odd", "caught"]
theorem sc_law : FnScope N_law ["script"] (defScope (top 46)) := ⟨rfl, rfl, rfl, by decide +kernel, rfl, by decide +kernel, by decide +kernel⟩
theorem B_law {g : G} (L : LG g) : Bnd g (fdAt g "law") ["script"] 1 [] (List.range 1) := L.d_law.bnd rfl (by decide) fun _ _ _ _ _ _ us ws h1 h2 => match us, ws, h1, h2 with | [_], [], _, _ => rfl
def N_l_draw : List Str := ["tape", "size", "found"]
theorem sc_l_draw : FnScope N_l_draw ["tape", "size"] (defScope (top 28)) := ⟨rfl, rfl, rfl, by decide +kernel, rfl, by decide +kernel, by decide +kernel⟩
theorem B_l_draw {g : G} (L : LG g) : Bnd g (fdAt g "_law_draw") ["tape", "size"] 2 [] (List.range 2) := L.d_l_draw.bnd rfl (by decide) fun _ _ _ _ _ _ us ws h1 h2 => match us, ws, h1, h2 with | [_, _], [], _, _ => rfl
def N_l_blend : List Str := ["tape", "turn", "found", "great", "mixed", "grain"]
theorem sc_l_blend : FnScope N_l_blend ["tape"] (defScope (top 27)) := ⟨rfl, rfl, rfl, by decide +kernel, rfl, by decide +kernel, by decide +kernel⟩
theorem B_l_blend {g : G} (L : LG g) : Bnd g (fdAt g "_law_blend") ["tape"] 1 [] (List.range 1) := L.d_l_blend.bnd rfl (by decide) fun _ _ _ _ _ _ us ws h1 h2 => match us, ws, h1, h2 with | [_], [], _, _ => rfl
def mv_l_blend : Sv := (sSeq (sTPut putTurn 0 (vPrim pAdd [(.ex (vTI (·.turn) 0)), (.ex (vLit (.int 1)))]))
  (sSeq (sPar 1 2 (vPrim pInt [(.ex (vTI (·.turn) 0))]) (vLit (.int 0)))
  (sSeq (sFor (srcOf (vLst [(.ex (vLit (.int 2147483629))), (.ex (vLit (.int 2147483587))), (.ex (vLit (.int 2147483579)))])) (.nm 3) (sSeq (sSet 4 (vPrim pMod [(.ex (vPrim pAdd [(.ex (vPrim pMul [(.pk 1), (.ex (vLit (.int 69621)))])), (.ex (vPrim pFdiv [(.pk 3), (.ex (vLit (.int 7)))]))])), (.pk 3)]))
  (sSeq (sFor (srcOf (vTC 0)) (.nm 5) (sSet 4 (vPrim pMod [(.ex (vPrim pAdd [(.ex (vPrim pMul [(.pk 4), (.ex (vLit (.int 48271)))])), (.ex (vPrim pInt [(.pk 5)]))])), (.pk 3)])))
  (sSet 2 (vPrim pAdd [(.ex (vPrim pMul [(.pk 2), (.ex (vLit (.int 2147483647)))])), (.ex (vPrim pMod [(.ex (vPrim pPow [(.pk 4), (.ex (vLit (.int 5)))])), (.pk 3)]))])))))
  (sRet (vMove 2)))))
def m_l_blend : Mf := mBody 5 mv_l_blend
theorem d_l_blend {g : G} (L : LG g) (f : Addr) (cdv : Value) (A : Around) (outer : List Env) (s : Shared) (H : Hp) (E : XK) : PySs g 0 (cxG g N_l_blend "_law_blend" (defScope (top 27)) f cdv A outer s H E) (WB E) (defBody (top 27)) mv_l_blend :=
  (pys_cons (py_tputT (L.tk) (pv 0) (py_bin ok_add (py_ex (py_tturn (L.tk) (pv 0))) (py_ex (py_lit pe_int))))
  (pys_cons (py_par (i := 1) (j := 2) (py_callTy ok_intc (pas_cons (py_ex (py_tturn (L.tk) (pv 0))) pas_nil) L.b_int) (py_lit pe_int))
  (pys_cons (py_for (py_src (py_lst (pas_cons (py_ex (py_lit pe_int)) (pas_cons (py_ex (py_lit pe_int)) (pas_cons (py_ex (py_lit pe_int)) pas_nil))))) (pg_nm (i := 3)) (pys_cons (py_set (i := 4) (py_bin ok_mod (py_ex (py_bin ok_add (py_ex (py_bin ok_mul (py_pk (pv 1)) (py_ex (py_lit pe_int)))) (py_ex (py_bin ok_fdiv (py_pk (pv 3)) (py_ex (py_lit pe_int)))))) (py_pk (pv 3))))
  (pys_cons (py_for (py_src (py_tcells (L.tk) (pv 0))) (pg_nm (i := 5)) (pys_one (py_set (i := 4) (py_bin ok_mod (py_ex (py_bin ok_add (py_ex (py_bin ok_mul (py_pk (pv 4)) (py_ex (py_lit pe_int)))) (py_ex (py_callTy ok_intc (pas_cons (py_pk (pv 5)) pas_nil) L.b_int)))) (py_pk (pv 3))))))
  (pys_one (py_set (i := 2) (py_bin ok_add (py_ex (py_bin ok_mul (py_pk (pv 2)) (py_ex (py_lit pe_int)))) (py_ex (py_bin ok_mod (py_ex (py_bin ok_pow (py_pk (pv 4)) (py_ex (py_lit pe_int)))) (py_pk (pv 3))))))))))
  (pys_one (py_ret (py_move (pv 2)))))))
theorem F_l_blend {g : G} (L : LG g) : FnM g 1 "_law_blend" (fdAt g "_law_blend") ["tape"] m_l_blend := L.d_l_blend.fnG sc_l_blend rfl fun cdv A outer s H E => d_l_blend L _ cdv A outer s H E
def mv_l_draw : Sv := (sSeq (sIf (tOf (vPrim pEq [(.ex (vTI (·.rest) 0)), (.ex (vLit (.int 0)))])) (sTPut putRest 0 (vIf (tOf (vTNe 0)) (vTPop 0) (vCall m_l_blend (List.range 1) [(.ex (vVar 0))]))) sPass)
  (sSeq (sSet 2 (vPrim pMod [(.ex (vPrim pInt [(.ex (vTI (·.rest) 0))])), (.pk 1)]))
  (sSeq (sTPut putRest 0 (vPrim pFdiv [(.ex (vPrim pInt [(.ex (vTI (·.rest) 0))])), (.pk 1)]))
  (sRet (vMove 2)))))
def m_l_draw : Mf := mBody 1 mv_l_draw
theorem d_l_draw {g : G} (L : LG g) (f : Addr) (cdv : Value) (A : Around) (outer : List Env) (s : Shared) (H : Hp) (E : XK) : PySs g 1 (cxG g N_l_draw "_law_draw" (defScope (top 28)) f cdv A outer s H E) (WB E) (defBody (top 28)) mv_l_draw :=
  (pys_cons (py_sif (py_tcmp ok_eq (py_ex (py_trest (L.tk) (pv 0))) (py_ex (py_lit pe_int))) (pys_one (py_tputR (L.tk) (pv 0) (py_if (py_tneT (L.tk) (pv 0)) (py_tpop (L.tk) (pv 0) PySem.F.plainAttrs_list PySem.F.slot_list_pop (by first | rfl | kernel_rfl)) (py_call (F_l_blend L) (B_l_blend L) (pas_cons (py_ex (py_var (pv 0))) pas_nil))))) pys_nil)
  (pys_cons (py_set (i := 2) (py_bin ok_mod (py_ex (py_callTy ok_intc (pas_cons (py_ex (py_trest (L.tk) (pv 0))) pas_nil) L.b_int)) (py_pk (pv 1))))
  (pys_cons (py_tputR (L.tk) (pv 0) (py_bin ok_fdiv (py_ex (py_callTy ok_intc (pas_cons (py_ex (py_trest (L.tk) (pv 0))) pas_nil) L.b_int)) (py_pk (pv 1))))
  (pys_one (py_ret (py_move (pv 2)))))))
theorem F_l_draw {g : G} (L : LG g) : FnM g 2 "_law_draw" (fdAt g "_law_draw") ["tape", "size"] m_l_draw := L.d_l_draw.fnG sc_l_draw rfl fun cdv A outer s H E => d_l_draw L _ cdv A outer s H E
def N_l_pick : List Str := ["tape", "several"]
theorem sc_l_pick : FnScope N_l_pick ["tape", "several"] (defScope (top 29)) := ⟨rfl, rfl, rfl, by decide +kernel, rfl, by decide +kernel, by decide +kernel⟩
theorem B_l_pick {g : G} (L : LG g) : Bnd g (fdAt g "_law_pick") ["tape", "several"] 2 [] (List.range 2) := L.d_l_pick.bnd rfl (by decide) fun _ _ _ _ _ _ us ws h1 h2 => match us, ws, h1, h2 with | [_, _], [], _, _ => rfl
def mv_l_pick : Sv := (sRet (vPrim pIx [(.pk 1), (.ex (vCall m_l_draw (List.range 2) [(.ex (vVar 0)), (.ex (vPrim pLen [(.pk 1)]))]))]))
def m_l_pick : Mf := mBody 0 mv_l_pick
theorem d_l_pick {g : G} (L : LG g) (f : Addr) (cdv : Value) (A : Around) (outer : List Env) (s : Shared) (H : Hp) (E : XK) : PySs g 2 (cxG g N_l_pick "_law_pick" (defScope (top 29)) f cdv A outer s H E) (WB E) (defBody (top 29)) mv_l_pick :=
  (pys_one (py_ret (py_ix ok_ix (py_pk (pv 1)) (py_ex (py_call (F_l_draw L) (B_l_draw L) (pas_cons (py_ex (py_var (pv 0))) (pas_cons (py_ex (py_callB ok_len (pas_cons (py_pk (pv 1)) pas_nil) L.b_len)) pas_nil)))))))
theorem F_l_pick {g : G} (L : LG g) : FnM g 3 "_law_pick" (fdAt g "_law_pick") ["tape", "several"] m_l_pick := L.d_l_pick.fnG sc_l_pick rfl fun cdv A outer s H E => d_l_pick L _ cdv A outer s H E
def N_l_full : List Str := ["tape", "hands", "some", "found", "at"]
theorem sc_l_full : FnScope N_l_full ["tape", "hands"] (defScope (top 45)) := ⟨rfl, rfl, rfl, by decide +kernel, rfl, by decide +kernel, by decide +kernel⟩
theorem B_l_full {g : G} (L : LG g) : Bnd g (fdAt g "_law_full") ["tape", "hands"] 2 [] (List.range 2) := L.d_l_full.bnd rfl (by decide) fun _ _ _ _ _ _ us ws h1 h2 => match us, ws, h1, h2 with | [_, _], [], _, _ => rfl
def mv_l_full : Sv := (sSeq (sSet 2 (vDicK [(.inl 1, (vLst [(.ex (vLit (.int 2))), (.ex (vLit (.int 4))), (.ex (vLit (.int 8))), (.ex (vLit (.int 16))), (.ex (vLit (.int 32))), (.ex (vLit (.int 32)))])), (.inl 2, (vLst [(.ex (vLit (.int 1))), (.ex (vLit (.int 2))), (.ex (vLit (.int 4))), (.ex (vLit (.int 8))), (.ex (vLit (.int 16))), (.ex (vLit (.int 16)))])), (.inl 3, (vLst [(.ex (vLit (.int 1))), (.ex (vLit (.int 1))), (.ex (vLit (.int 2))), (.ex (vLit (.int 4))), (.ex (vLit (.int 8))), (.ex (vLit (.int 8)))])), (.inl 4, (vLst [(.ex (vLit (.int 1))), (.ex (vLit (.int 1))), (.ex (vLit (.int 1))), (.ex (vLit (.int 2))), (.ex (vLit (.int 4))), (.ex (vLit (.int 4)))]))]))
  (sSeq (sSet 3 (vPrim pLstC [(.ex (vDGet 2 (vVar 1)))]))
  (sSeq (sSet 4 (vCall m_l_draw (List.range 2) [(.ex (vVar 0)), (.ex (vLit (.int 6)))]))
  (sSeq (sSetIx 3 (vVar 4) (vCall m_l_pick (List.range 2) [(.ex (vVar 0)), (.ex (vLst [(.ex (vPrim pIx [(.pk 3), (.pk 4)])), (.ex (vPrim pIx [(.pk 3), (.pk 4)])), (.ex (vIf (tOf (vPrim pLt [(.ex (vPrim pIx [(.pk 3), (.pk 4)])), (.ex (vLit (.int 30)))])) (vPrim pMul [(.ex (vLit (.int 2))), (.ex (vPrim pIx [(.pk 3), (.pk 4)]))]) (vLit (.int 16)))), (.ex (vPrim pMax [(.ex (vLit (.int 1))), (.ex (vPrim pFdiv [(.ex (vPrim pIx [(.pk 3), (.pk 4)])), (.ex (vLit (.int 2)))]))]))]))]))
  (sRet (vMove 3))))))
def m_l_full : Mf := mBody 3 mv_l_full
theorem d_l_full {g : G} (L : LG g) (f : Addr) (cdv : Value) (A : Around) (outer : List Env) (s : Shared) (H : Hp) (E : XK) : PySs g 3 (cxG g N_l_full "_law_full" (defScope (top 45)) f cdv A outer s H E) (WB E) (defBody (top 45)) mv_l_full :=
  (pys_cons (py_set (i := 2) (py_dicK (pkv_int pe_int (py_lst (pas_cons (py_ex (py_lit pe_int)) (pas_cons (py_ex (py_lit pe_int)) (pas_cons (py_ex (py_lit pe_int)) (pas_cons (py_ex (py_lit pe_int)) (pas_cons (py_ex (py_lit pe_int)) (pas_cons (py_ex (py_lit pe_int)) pas_nil))))))) (pkv_int pe_int (py_lst (pas_cons (py_ex (py_lit pe_int)) (pas_cons (py_ex (py_lit pe_int)) (pas_cons (py_ex (py_lit pe_int)) (pas_cons (py_ex (py_lit pe_int)) (pas_cons (py_ex (py_lit pe_int)) (pas_cons (py_ex (py_lit pe_int)) pas_nil))))))) (pkv_int pe_int (py_lst (pas_cons (py_ex (py_lit pe_int)) (pas_cons (py_ex (py_lit pe_int)) (pas_cons (py_ex (py_lit pe_int)) (pas_cons (py_ex (py_lit pe_int)) (pas_cons (py_ex (py_lit pe_int)) (pas_cons (py_ex (py_lit pe_int)) pas_nil))))))) (pkv_int pe_int (py_lst (pas_cons (py_ex (py_lit pe_int)) (pas_cons (py_ex (py_lit pe_int)) (pas_cons (py_ex (py_lit pe_int)) (pas_cons (py_ex (py_lit pe_int)) (pas_cons (py_ex (py_lit pe_int)) (pas_cons (py_ex (py_lit pe_int)) pas_nil))))))) pkv_nil))))))
  (pys_cons (py_set (i := 3) (py_callTy ok_lstc (pas_cons (py_ex (py_dgetK (pv 2) (py_var (pv 1)))) pas_nil) L.b_list))
  (pys_cons (py_set (i := 4) (py_call (F_l_draw L) (B_l_draw L) (pas_cons (py_ex (py_var (pv 0))) (pas_cons (py_ex (py_lit pe_int)) pas_nil))))
  (pys_cons (py_setIx (pv 3) (py_var (pv 4)) (py_call (F_l_pick L) (B_l_pick L) (pas_cons (py_ex (py_var (pv 0))) (pas_cons (py_ex (py_lst (pas_cons (py_ex (py_ix ok_ix (py_pk (pv 3)) (py_pk (pv 4)))) (pas_cons (py_ex (py_ix ok_ix (py_pk (pv 3)) (py_pk (pv 4)))) (pas_cons (py_ex (py_if (py_tcmp ok_lt (py_ex (py_ix ok_ix (py_pk (pv 3)) (py_pk (pv 4)))) (py_ex (py_lit pe_int))) (py_bin ok_mul (py_ex (py_lit pe_int)) (py_ex (py_ix ok_ix (py_pk (pv 3)) (py_pk (pv 4))))) (py_lit pe_int))) (pas_cons (py_ex (py_callB ok_max (pas_cons (py_ex (py_lit pe_int)) (pas_cons (py_ex (py_bin ok_fdiv (py_ex (py_ix ok_ix (py_pk (pv 3)) (py_pk (pv 4)))) (py_ex (py_lit pe_int)))) pas_nil)) L.b_max)) pas_nil)))))) pas_nil))))
  (pys_one (py_ret (py_move (pv 3))))))))
theorem F_l_full {g : G} (L : LG g) : FnM g 4 "_law_full" (fdAt g "_law_full") ["tape", "hands"] m_l_full := L.d_l_full.fnG sc_l_full rfl fun cdv A outer s H E => d_l_full L _ cdv A outer s H E
def N_l_spans : List Str := ["tape", "most", "many", "way", "lap", "steps", "step", "found"]
theorem sc_l_spans : FnScope N_l_spans ["tape", "most"] (defScope (top 33)) := ⟨rfl, rfl, rfl, by decide +kernel, rfl, by decide +kernel, by decide +kernel⟩
theorem B_l_spans {g : G} (L : LG g) : Bnd g (fdAt g "_law_spans") ["tape", "most"] 2 [] (List.range 2) := L.d_l_spans.bnd rfl (by decide) fun _ _ _ _ _ _ us ws h1 h2 => match us, ws, h1, h2 with | [_, _], [], _, _ => rfl
def mv_l_spans : Sv := (sSeq (sPar 2 3 (vPrim pAdd [(.ex (vLit (.int 1))), (.ex (vCall m_l_draw (List.range 2) [(.ex (vVar 0)), (.ex (vLit (.int 6)))]))]) (vCall m_l_draw (List.range 2) [(.ex (vVar 0)), (.ex (vLit (.int 4)))]))
  (sSeq (sIf (tOf (vPrim pEq [(.pk 3), (.ex (vLit (.int 0)))])) (sRet (vLc (srcR [(.ex (vVar 2))]) (.nm 4) [4] tYesD (vPrim pAdd [(.ex (vLit (.int 1))), (.ex (vCall m_l_draw (List.range 2) [(.ex (vVar 0)), (.ex (vVar 1))]))]))) sPass)
  (sSeq (sSet 5 (vLst [(.ex (vPrim pAdd [(.ex (vLit (.int 1))), (.ex (vCall m_l_draw (List.range 2) [(.ex (vVar 0)), (.ex (vPrim pMin [(.ex (vLit (.int 5))), (.pk 1)]))]))]))]))
  (sSeq (sFor (srcR [(.ex (vCall m_l_draw (List.range 2) [(.ex (vVar 0)), (.ex (vLit (.int 4)))]))]) (.nm 4) (sSeq (sSet 6 (vPrim pMul [(.ex (vPrim pIx [(.pk 5), (.ex (vPrim pNeg [(.ex (vLit (.int 1)))]))])), (.ex (vCall m_l_pick (List.range 2) [(.ex (vVar 0)), (.ex (vLst [(.ex (vLit (.int 2))), (.ex (vLit (.int 2))), (.ex (vLit (.int 3))), (.ex (vLit (.int 4))), (.ex (vLit (.int 5))), (.ex (vLit (.int 1)))]))]))]))
  (sDrop (vMut 5 mAppend [(.ex (vIf (tOf (vPrim pLe [(.pk 6), (.pk 1)])) (vVar 6) (vPrim pIx [(.pk 5), (.ex (vPrim pNeg [(.ex (vLit (.int 1)))]))])))]))))
  (sSeq (sSet 7 (vLc (srcR [(.ex (vVar 2))]) (.nm 4) [4] tYesD (vCall m_l_pick (List.range 2) [(.ex (vVar 0)), (.pk 5)])))
  (sSeq (sIf (tOf (vPrim pEq [(.pk 3), (.ex (vLit (.int 1)))])) (sSetIx 7 (vCall m_l_draw (List.range 2) [(.ex (vVar 0)), (.ex (vVar 2))]) (vCall m_l_pick (List.range 2) [(.ex (vVar 0)), (.ex (vLst [(.ex (vLit (.int 1))), (.ex (vLit (.int 2))), (.ex (vVar 1)), (.ex (vPrim pAdd [(.ex (vLit (.int 1))), (.ex (vCall m_l_draw (List.range 2) [(.ex (vVar 0)), (.ex (vVar 1))]))]))]))])) sPass)
  (sRet (vMove 7))))))))
def m_l_spans : Mf := mBody 6 mv_l_spans
theorem d_l_spans {g : G} (L : LG g) (f : Addr) (cdv : Value) (A : Around) (outer : List Env) (s : Shared) (H : Hp) (E : XK) : PySs g 3 (cxG g N_l_spans "_law_spans" (defScope (top 33)) f cdv A outer s H E) (WB E) (defBody (top 33)) mv_l_spans :=
  (pys_cons (py_par (i := 2) (j := 3) (py_bin ok_add (py_ex (py_lit pe_int)) (py_ex (py_call (F_l_draw L) (B_l_draw L) (pas_cons (py_ex (py_var (pv 0))) (pas_cons (py_ex (py_lit pe_int)) pas_nil))))) (py_call (F_l_draw L) (B_l_draw L) (pas_cons (py_ex (py_var (pv 0))) (pas_cons (py_ex (py_lit pe_int)) pas_nil))))
  (pys_cons (py_sif (py_tcmp ok_eq (py_pk (pv 3)) (py_ex (py_lit pe_int))) (pys_one (py_ret (py_lc (own := [("lap", 4)]) (py_range1 (py_ex (py_var (pv 2))) L.b_range) rfl (fun _ _ _ _ _ => (pg_nm (i := 4))) (fun _ _ _ _ _ => pts_no) (fun _ _ _ _ _ => (py_bin ok_add (py_ex (py_lit pe_int)) (py_ex (py_call (F_l_draw L) (B_l_draw L) (pas_cons (py_ex (py_var (pv 0))) (pas_cons (py_ex (py_var (pv 1))) pas_nil))))))))) pys_nil)
  (pys_cons (py_set (i := 5) (py_lst (pas_cons (py_ex (py_bin ok_add (py_ex (py_lit pe_int)) (py_ex (py_call (F_l_draw L) (B_l_draw L) (pas_cons (py_ex (py_var (pv 0))) (pas_cons (py_ex (py_callB ok_min (pas_cons (py_ex (py_lit pe_int)) (pas_cons (py_pk (pv 1)) pas_nil)) L.b_min)) pas_nil)))))) pas_nil)))
  (pys_cons (py_for (py_range1 (py_ex (py_call (F_l_draw L) (B_l_draw L) (pas_cons (py_ex (py_var (pv 0))) (pas_cons (py_ex (py_lit pe_int)) pas_nil)))) L.b_range) (pg_nm (i := 4)) (pys_cons (py_set (i := 6) (py_bin ok_mul (py_ex (py_ix ok_ix (py_pk (pv 5)) (py_ex (py_un ok_neg (py_ex (py_lit pe_int)))))) (py_ex (py_call (F_l_pick L) (B_l_pick L) (pas_cons (py_ex (py_var (pv 0))) (pas_cons (py_ex (py_lst (pas_cons (py_ex (py_lit pe_int)) (pas_cons (py_ex (py_lit pe_int)) (pas_cons (py_ex (py_lit pe_int)) (pas_cons (py_ex (py_lit pe_int)) (pas_cons (py_ex (py_lit pe_int)) (pas_cons (py_ex (py_lit pe_int)) pas_nil)))))))) pas_nil))))))
  (pys_one (py_drop (py_mut rfl PySem.F.plainAttrs_list PySem.F.slot_list_append (by first | rfl | kernel_rfl) mok_append (pv 5) (pas_cons (py_ex (py_if (py_tcmp ok_le (py_pk (pv 6)) (py_pk (pv 1))) (py_var (pv 6)) (py_ix ok_ix (py_pk (pv 5)) (py_ex (py_un ok_neg (py_ex (py_lit pe_int))))))) pas_nil))))))
  (pys_cons (py_setLc (i := 7) (own := [("lap", 4)]) (py_range1 (py_ex (py_var (pv 2))) L.b_range) rfl (fun _ _ _ _ _ => (pg_nm (i := 4))) (fun _ _ _ _ _ => pts_no) (fun _ _ _ _ _ => (py_call (F_l_pick L) (B_l_pick L) (pas_cons (py_ex (py_var (pv 0))) (pas_cons (py_pk (pv 5)) pas_nil)))))
  (pys_cons (py_sif (py_tcmp ok_eq (py_pk (pv 3)) (py_ex (py_lit pe_int))) (pys_one (py_setIx (pv 7) (py_call (F_l_draw L) (B_l_draw L) (pas_cons (py_ex (py_var (pv 0))) (pas_cons (py_ex (py_var (pv 2))) pas_nil))) (py_call (F_l_pick L) (B_l_pick L) (pas_cons (py_ex (py_var (pv 0))) (pas_cons (py_ex (py_lst (pas_cons (py_ex (py_lit pe_int)) (pas_cons (py_ex (py_lit pe_int)) (pas_cons (py_ex (py_var (pv 1))) (pas_cons (py_ex (py_bin ok_add (py_ex (py_lit pe_int)) (py_ex (py_call (F_l_draw L) (B_l_draw L) (pas_cons (py_ex (py_var (pv 0))) (pas_cons (py_ex (py_var (pv 1))) pas_nil)))))) pas_nil)))))) pas_nil))))) pys_nil)
  (pys_one (py_ret (py_move (pv 7))))))))))
theorem F_l_spans {g : G} (L : LG g) : FnM g 4 "_law_spans" (fdAt g "_law_spans") ["tape", "most"] m_l_spans := L.d_l_spans.fnG sc_l_spans rfl fun cdv A outer s H E => d_l_spans L _ cdv A outer s H E
def N_l_is_chain : List Str := ["spans", "line", "one", "other"]
theorem sc_l_is_chain : FnScope N_l_is_chain ["spans"] (defScope (top 36)) := ⟨rfl, rfl, rfl, by decide +kernel, rfl, by decide +kernel, by decide +kernel⟩
theorem B_l_is_chain {g : G} (L : LG g) : Bnd g (fdAt g "_law_is_chain") ["spans"] 1 [] (List.range 1) := L.d_l_is_chain.bnd rfl (by decide) fun _ _ _ _ _ _ us ws h1 h2 => match us, ws, h1, h2 with | [_], [], _, _ => rfl
def mv_l_is_chain : Sv := (sSeq (sSet 1 (vPrim pSorted [(.pk 0)]))
  (sRet (vPrim pEq [(.ex (vLc (srcZip (vVar 1) (vPrim pSl10 [(.pk 1), (.ex (vLit (.int 1)))])) (.tu [(.nm 2), (.nm 3)]) [2, 3] (tOf (vPrim pNe [(.ex (vPrim pMod [(.ex (vPrim pInt [(.pk 3)])), (.pk 2)])), (.ex (vLit (.int 0)))])) (vLit (.int 1)))), (.ex (vLst []))])))
def m_l_is_chain : Mf := mBody 3 mv_l_is_chain
theorem d_l_is_chain {g : G} (L : LG g) (f : Addr) (cdv : Value) (A : Around) (outer : List Env) (s : Shared) (H : Hp) (E : XK) : PySs g 0 (cxG g N_l_is_chain "_law_is_chain" (defScope (top 36)) f cdv A outer s H E) (WB E) (defBody (top 36)) mv_l_is_chain :=
  (pys_cons (py_set (i := 1) (py_callB ok_sorted (pas_cons (py_pk (pv 0)) pas_nil) L.b_sorted))
  (pys_one (py_ret (py_cmp ok_eq (py_ex (py_lc (own := [("one", 2), ("other", 3)]) (py_zip (py_var (pv 1)) (py_sl10 (py_pk (pv 1)) (py_ex (py_lit pe_int))) L.b_zip) rfl (fun _ _ _ _ _ => (pg_tu (pg_cons (pg_nm (i := 2)) (pg_cons (pg_nm (i := 3)) pg_nil)))) (fun _ _ _ _ _ => (pts_if (py_tcmp ok_ne (py_ex (py_bin ok_mod (py_ex (py_callTy ok_intc (pas_cons (py_pk (pv 3)) pas_nil) L.b_int)) (py_pk (pv 2)))) (py_ex (py_lit pe_int))))) (fun _ _ _ _ _ => (py_lit pe_int)))) (py_ex (py_lst pas_nil))))))
theorem F_l_is_chain {g : G} (L : LG g) : FnM g 1 "_law_is_chain" (fdAt g "_law_is_chain") ["spans"] m_l_is_chain := L.d_l_is_chain.fnG sc_l_is_chain rfl fun cdv A outer s H E => d_l_is_chain L _ cdv A outer s H E
def N_l_right : List Str := ["tape", "spans", "hands", "total", "told", "turn", "thing", "due"]
theorem sc_l_right : FnScope N_l_right ["tape", "spans", "hands"] (defScope (top 44)) := ⟨rfl, rfl, rfl, by decide +kernel, rfl, by decide +kernel, by decide +kernel⟩
theorem B_l_right {g : G} (L : LG g) : Bnd g (fdAt g "_law_right") ["tape", "spans", "hands"] 3 [] (List.range 3) := L.d_l_right.bnd rfl (by decide) fun _ _ _ _ _ _ us ws h1 h2 => match us, ws, h1, h2 with | [_, _, _], [], _, _ => rfl
def N_l_sum : List Str := ["spans", "top", "bottom", "item", "part"]
theorem sc_l_sum : FnScope N_l_sum ["spans"] (defScope (top 35)) := ⟨rfl, rfl, rfl, by decide +kernel, rfl, by decide +kernel, by decide +kernel⟩
theorem B_l_sum {g : G} (L : LG g) : Bnd g (fdAt g "_law_sum") ["spans"] 1 [] (List.range 1) := L.d_l_sum.bnd rfl (by decide) fun _ _ _ _ _ _ us ws h1 h2 => match us, ws, h1, h2 with | [_], [], _, _ => rfl
def N_l_common : List Str := ["one", "other"]
theorem sc_l_common : FnScope N_l_common ["one", "other"] (defScope (top 34)) := ⟨rfl, rfl, rfl, by decide +kernel, rfl, by decide +kernel, by decide +kernel⟩
theorem B_l_common {g : G} (L : LG g) : Bnd g (fdAt g "_law_common") ["one", "other"] 2 [] (List.range 2) := L.d_l_common.bnd rfl (by decide) fun _ _ _ _ _ _ us ws h1 h2 => match us, ws, h1, h2 with | [_, _], [], _, _ => rfl
def mv_l_common : Sv := (sSeq (sWhile (tOf (vPrim pGt [(.pk 1), (.ex (vLit (.int 0)))])) (sPar 0 1 (vVar 1) (vPrim pMod [(.ex (vPrim pInt [(.pk 0)])), (.pk 1)])))
  (sRet (vMove 0)))
def m_l_common : Mf := mBody 0 mv_l_common
theorem d_l_common {g : G} (L : LG g) (f : Addr) (cdv : Value) (A : Around) (outer : List Env) (s : Shared) (H : Hp) (E : XK) : PySs g 0 (cxG g N_l_common "_law_common" (defScope (top 34)) f cdv A outer s H E) (WB E) (defBody (top 34)) mv_l_common :=
  (pys_cons (py_while (py_tcmp ok_gt (py_pk (pv 1)) (py_ex (py_lit pe_int))) (pys_one (py_par (i := 0) (j := 1) (py_var (pv 1)) (py_bin ok_mod (py_ex (py_callTy ok_intc (pas_cons (py_pk (pv 0)) pas_nil) L.b_int)) (py_pk (pv 1))))))
  (pys_one (py_ret (py_move (pv 0)))))
theorem F_l_common {g : G} (L : LG g) : FnM g 1 "_law_common" (fdAt g "_law_common") ["one", "other"] m_l_common := L.d_l_common.fnG sc_l_common rfl fun cdv A outer s H E => d_l_common L _ cdv A outer s H E
def mv_l_sum : Sv := (sSeq (sAsg (vTup [(.ex (vLit (.int 0))), (.ex (vLit (.int 1)))]) (.tu [(.nm 1), (.nm 2)]))
  (sSeq (sFor (srcOf (vVar 0)) (.nm 3) (sSeq (sPar 1 2 (vPrim pAdd [(.ex (vPrim pMul [(.pk 1), (.pk 3)])), (.pk 2)]) (vPrim pMul [(.pk 2), (.pk 3)]))
  (sSeq (sSet 4 (vCall m_l_common (List.range 2) [(.ex (vVar 1)), (.ex (vVar 2))]))
  (sPar 1 2 (vPrim pFdiv [(.pk 1), (.pk 4)]) (vPrim pFdiv [(.pk 2), (.pk 4)])))))
  (sRet (vTup [(.ex (vVar 1)), (.ex (vVar 2))]))))
def m_l_sum : Mf := mBody 4 mv_l_sum
theorem d_l_sum {g : G} (L : LG g) (f : Addr) (cdv : Value) (A : Around) (outer : List Env) (s : Shared) (H : Hp) (E : XK) : PySs g 1 (cxG g N_l_sum "_law_sum" (defScope (top 35)) f cdv A outer s H E) (WB E) (defBody (top 35)) mv_l_sum :=
  (pys_cons (py_asg (py_tup (pas_cons (py_ex (py_lit pe_int)) (pas_cons (py_ex (py_lit pe_int)) pas_nil))) (pg_tu (pg_cons (pg_nm (i := 1)) (pg_cons (pg_nm (i := 2)) pg_nil))))
  (pys_cons (py_for (py_src (py_var (pv 0))) (pg_nm (i := 3)) (pys_cons (py_par (i := 1) (j := 2) (py_bin ok_add (py_ex (py_bin ok_mul (py_pk (pv 1)) (py_pk (pv 3)))) (py_pk (pv 2))) (py_bin ok_mul (py_pk (pv 2)) (py_pk (pv 3))))
  (pys_cons (py_set (i := 4) (py_call (F_l_common L) (B_l_common L) (pas_cons (py_ex (py_var (pv 1))) (pas_cons (py_ex (py_var (pv 2))) pas_nil))))
  (pys_one (py_par (i := 1) (j := 2) (py_bin ok_fdiv (py_pk (pv 1)) (py_pk (pv 4))) (py_bin ok_fdiv (py_pk (pv 2)) (py_pk (pv 4))))))))
  (pys_one (py_ret (py_tup (pas_cons (py_ex (py_var (pv 1))) (pas_cons (py_ex (py_var (pv 2))) pas_nil)))))))
theorem F_l_sum {g : G} (L : LG g) : FnM g 2 "_law_sum" (fdAt g "_law_sum") ["spans"] m_l_sum := L.d_l_sum.fnG sc_l_sum rfl fun cdv A outer s H E => d_l_sum L _ cdv A outer s H E
def N_class_paper : List Str := ["spans", "hands", "found"]
theorem sc_class_paper : FnScope N_class_paper ["spans", "hands"] (defScope (top 23)) := ⟨rfl, rfl, rfl, by decide +kernel, rfl, by decide +kernel, by decide +kernel⟩
theorem B_class_paper {g : G} (L : LG g) : Bnd g (fdAt g "class_paper") ["spans", "hands"] 2 [] (List.range 2) := L.d_class_paper.bnd rfl (by decide) fun _ _ _ _ _ _ us ws h1 h2 => match us, ws, h1, h2 with | [_, _], [], _, _ => rfl
def N_need_spans_hands : List Str := ["spans", "hands"]
theorem sc_need_spans_hands : FnScope N_need_spans_hands ["spans", "hands"] (defScope (top 16)) := ⟨rfl, rfl, rfl, by decide +kernel, rfl, by decide +kernel, by decide +kernel⟩
theorem B_need_spans_hands {g : G} (L : LG g) : Bnd g (fdAt g "need_spans_hands") ["spans", "hands"] 2 [] (List.range 2) := L.d_need_spans_hands.bnd rfl (by decide) fun _ _ _ _ _ _ us ws h1 h2 => match us, ws, h1, h2 with | [_, _], [], _, _ => rfl
def N_need_spans : List Str := ["spans", "index", "item"]
theorem sc_need_spans : FnScope N_need_spans ["spans"] (defScope (top 15)) := ⟨rfl, rfl, rfl, by decide +kernel, rfl, by decide +kernel, by decide +kernel⟩
theorem B_need_spans {g : G} (L : LG g) : Bnd g (fdAt g "need_spans") ["spans"] 1 [] (List.range 1) := L.d_need_spans.bnd rfl (by decide) fun _ _ _ _ _ _ us ws h1 h2 => match us, ws, h1, h2 with | [_], [], _, _ => rfl
def N_is_list : List Str := ["thing"]
theorem sc_is_list : FnScope N_is_list ["thing"] (defScope (top 10)) := ⟨rfl, rfl, rfl, by decide +kernel, rfl, by decide +kernel, by decide +kernel⟩
theorem B_is_list {g : G} (L : LG g) : Bnd g (fdAt g "is_list") ["thing"] 1 [] (List.range 1) := L.d_is_list.bnd rfl (by decide) fun _ _ _ _ _ _ us ws h1 h2 => match us, ws, h1, h2 with | [_], [], _, _ => rfl
def mv_is_list : Sv := (sRet (vPrim (pIsi sub) [(.pk 0), (.ex (vTup [(.ex (vLit (.ty "list"))), (.ex (vLit (.ty "tuple")))]))]))
def m_is_list : Mf := mBody 0 mv_is_list
theorem d_is_list {g : G} (L : LG g) (f : Addr) (cdv : Value) (A : Around) (outer : List Env) (s : Shared) (H : Hp) (E : XK) : PySs g 0 (cxG g N_is_list "is_list" (defScope (top 10)) f cdv A outer s H E) (WB E) (defBody (top 10)) mv_is_list :=
  (pys_one (py_ret (py_callB (ok_isi L.isi L.xok) (pas_cons (py_pk (pv 0)) (pas_cons (py_ex (py_tup (pas_cons (py_ex (py_gty L.b_list)) (pas_cons (py_ex (py_gty L.b_tuple)) pas_nil)))) pas_nil)) L.b_isinstance)))
theorem F_is_list {g : G} (L : LG g) : FnM g 1 "is_list" (fdAt g "is_list") ["thing"] m_is_list := L.d_is_list.fnG sc_is_list rfl fun cdv A outer s H E => d_is_list L _ cdv A outer s H E
def N_is_between : List Str := ["thing", "low", "high"]
theorem sc_is_between : FnScope N_is_between ["thing", "low", "high"] (defScope (top 9)) := ⟨rfl, rfl, rfl, by decide +kernel, rfl, by decide +kernel, by decide +kernel⟩
theorem B_is_between {g : G} (L : LG g) : Bnd g (fdAt g "is_between") ["thing", "low", "high"] 3 [] (List.range 3) := L.d_is_between.bnd rfl (by decide) fun _ _ _ _ _ _ us ws h1 h2 => match us, ws, h1, h2 with | [_, _, _], [], _, _ => rfl
def N_is_number : List Str := ["thing"]
theorem sc_is_number : FnScope N_is_number ["thing"] (defScope (top 8)) := ⟨rfl, rfl, rfl, by decide +kernel, rfl, by decide +kernel, by decide +kernel⟩
theorem B_is_number {g : G} (L : LG g) : Bnd g (fdAt g "is_number") ["thing"] 1 [] (List.range 1) := L.d_is_number.bnd rfl (by decide) fun _ _ _ _ _ _ us ws h1 h2 => match us, ws, h1, h2 with | [_], [], _, _ => rfl
def mv_is_number : Sv := (sRet (vAnd (vPrim (pIsi sub) [(.pk 0), (.ex (vLit (.ty "int")))]) (vNot (vPrim (pIsi sub) [(.pk 0), (.ex (vLit (.ty "bool")))]))))
def m_is_number : Mf := mBody 0 mv_is_number
theorem d_is_number {g : G} (L : LG g) (f : Addr) (cdv : Value) (A : Around) (outer : List Env) (s : Shared) (H : Hp) (E : XK) : PySs g 0 (cxG g N_is_number "is_number" (defScope (top 8)) f cdv A outer s H E) (WB E) (defBody (top 8)) mv_is_number :=
  (pys_one (py_ret (py_and (py_callB (ok_isi L.isi L.xok) (pas_cons (py_pk (pv 0)) (pas_cons (py_ex (py_gty L.b_int)) pas_nil)) L.b_isinstance) (py_one (py_not (py_callB (ok_isi L.isi L.xok) (pas_cons (py_pk (pv 0)) (pas_cons (py_ex (py_gty L.b_bool)) pas_nil)) L.b_isinstance))))))
theorem F_is_number {g : G} (L : LG g) : FnM g 1 "is_number" (fdAt g "is_number") ["thing"] m_is_number := L.d_is_number.fnG sc_is_number rfl fun cdv A outer s H E => d_is_number L _ cdv A outer s H E
def mv_is_between : Sv := (sRet (vAnd (vCall m_is_number (List.range 1) [(.ex (vVar 0))]) (vChain pLe pLe (vVar 1) (vVar 0) (vVar 2))))
def m_is_between : Mf := mBody 0 mv_is_between
theorem d_is_between {g : G} (L : LG g) (f : Addr) (cdv : Value) (A : Around) (outer : List Env) (s : Shared) (H : Hp) (E : XK) : PySs g 1 (cxG g N_is_between "is_between" (defScope (top 9)) f cdv A outer s H E) (WB E) (defBody (top 9)) mv_is_between :=
  (pys_one (py_ret (py_and (py_call (F_is_number L) (B_is_number L) (pas_cons (py_ex (py_var (pv 0))) pas_nil)) (py_one (py_chain ok_le ok_le (py_var (pv 1)) (py_var (pv 0)) (py_var (pv 2)))))))
theorem F_is_between {g : G} (L : LG g) : FnM g 2 "is_between" (fdAt g "is_between") ["thing", "low", "high"] m_is_between := L.d_is_between.fnG sc_is_between rfl fun cdv A outer s H E => d_is_between L _ cdv A outer s H E
def mv_need_spans : Sv := (sSeq (sIf (tOrD (tNotD (tOf (vCall m_is_list (List.range 1) [(.ex (vVar 0))]))) (tNotD (tOf (vChain pLe pLe (vLit (.int 1)) (vPrim pLen [(.pk 0)]) (vLit (.int 6)))))) (sRaiseF "BadSpans" "index" (vLit .non)) sPass)
  (sFor (srcEnum (vVar 0)) (.tu [(.nm 1), (.nm 2)]) (sIf (tNotD (tOf (vCall m_is_between (List.range 3) [(.ex (vVar 2)), (.ex (vLit (.int 1))), (.ex (vLit (.int 60)))]))) (sRaiseF "BadSpans" "index" (vVar 1)) sPass)))
def m_need_spans : Mf := mBody 2 mv_need_spans
theorem d_need_spans {g : G} (L : LG g) (f : Addr) (cdv : Value) (A : Around) (outer : List Env) (s : Shared) (H : Hp) (E : XK) : PySs g 2 (cxG g N_need_spans "need_spans" (defScope (top 15)) f cdv A outer s H E) (WB E) (defBody (top 15)) mv_need_spans :=
  (pys_cons (py_sif (py_w (py_wor (py_tnot (py_tval (py_call (F_is_list L) (B_is_list L) (pas_cons (py_ex (py_var (pv 0))) pas_nil)))) (py_wor1 (py_tnot (py_tchain ok_le ok_le (py_lit pe_int) (py_callB ok_len (pas_cons (py_pk (pv 0)) pas_nil) L.b_len) (py_gint L.g_MOST_JOBS)))))) (pys_one (py_raiseF L.x_BadSpans (py_lit pe_non))) pys_nil)
  (pys_one (py_for (py_enum (py_var (pv 0)) L.b_enumerate) (pg_tu (pg_cons (pg_nm (i := 1)) (pg_cons (pg_nm (i := 2)) pg_nil))) (pys_one (py_sif (py_tnot (py_tval (py_call (F_is_between L) (B_is_between L) (pas_cons (py_ex (py_var (pv 2))) (pas_cons (py_ex (py_lit pe_int)) (pas_cons (py_ex (py_gint L.g_MOST_SPAN)) pas_nil)))))) (pys_one (py_raiseF L.x_BadSpans (py_var (pv 1)))) pys_nil)))))
theorem F_need_spans {g : G} (L : LG g) : FnM g 3 "need_spans" (fdAt g "need_spans") ["spans"] m_need_spans := L.d_need_spans.fnG sc_need_spans rfl fun cdv A outer s H E => d_need_spans L _ cdv A outer s H E
def mv_need_spans_hands : Sv := (sSeq (sDrop (vCall m_need_spans (List.range 1) [(.ex (vVar 0))]))
  (sIf (tNotD (tOf (vCall m_is_between (List.range 3) [(.ex (vVar 1)), (.ex (vLit (.int 1))), (.ex (vLit (.int 4)))]))) (sRaiseF "BadNumber" "part" (vLit (.str "hands"))) sPass))
def m_need_spans_hands : Mf := mBody 0 mv_need_spans_hands
theorem d_need_spans_hands {g : G} (L : LG g) (f : Addr) (cdv : Value) (A : Around) (outer : List Env) (s : Shared) (H : Hp) (E : XK) : PySs g 3 (cxG g N_need_spans_hands "need_spans_hands" (defScope (top 16)) f cdv A outer s H E) (WB E) (defBody (top 16)) mv_need_spans_hands :=
  (pys_cons (py_drop (py_call (F_need_spans L) (B_need_spans L) (pas_cons (py_ex (py_var (pv 0))) pas_nil)))
  (pys_one (py_sif (py_tnot (py_tval (py_call (F_is_between L) (B_is_between L) (pas_cons (py_ex (py_var (pv 1))) (pas_cons (py_ex (py_lit pe_int)) (pas_cons (py_ex (py_gint L.g_MOST_HANDS)) pas_nil)))))) (pys_one (py_raiseF L.x_BadNumber (py_lit pe_str))) pys_nil)))
theorem F_need_spans_hands {g : G} (L : LG g) : FnM g 4 "need_spans_hands" (fdAt g "need_spans_hands") ["spans", "hands"] m_need_spans_hands := L.d_need_spans_hands.fnG sc_need_spans_hands rfl fun cdv A outer s H E => d_need_spans_hands L _ cdv A outer s H E
def N_chain_right : List Str := ["spans", "line", "one", "other"]
theorem sc_chain_right : FnScope N_chain_right ["spans"] (defScope (top 19)) := ⟨rfl, rfl, rfl, by decide +kernel, rfl, by decide +kernel, by decide +kernel⟩
theorem B_chain_right {g : G} (L : LG g) : Bnd g (fdAt g "chain_right") ["spans"] 1 [] (List.range 1) := L.d_chain_right.bnd rfl (by decide) fun _ _ _ _ _ _ us ws h1 h2 => match us, ws, h1, h2 with | [_], [], _, _ => rfl
def mv_chain_right : Sv := (sSeq (sSet 1 (vPrim pSorted [(.pk 0)]))
  (sRet (vPrim pAll [(.ex (vLc (srcZip (vVar 1) (vPrim pSl10 [(.pk 1), (.ex (vLit (.int 1)))])) (.tu [(.nm 2), (.nm 3)]) [2, 3] tYesD (vPrim pEq [(.ex (vPrim pMod [(.pk 3), (.pk 2)])), (.ex (vLit (.int 0)))])))])))
def m_chain_right : Mf := mBody 3 mv_chain_right
theorem d_chain_right {g : G} (L : LG g) (f : Addr) (cdv : Value) (A : Around) (outer : List Env) (s : Shared) (H : Hp) (E : XK) : PySs g 0 (cxG g N_chain_right "chain_right" (defScope (top 19)) f cdv A outer s H E) (WB E) (defBody (top 19)) mv_chain_right :=
  (pys_cons (py_set (i := 1) (py_callB ok_sorted (pas_cons (py_pk (pv 0)) pas_nil) L.b_sorted))
  (pys_one (py_ret (py_callB ok_all (pas_cons (py_ex (py_lc (own := [("one", 2), ("other", 3)]) (py_zip (py_var (pv 1)) (py_sl10 (py_pk (pv 1)) (py_ex (py_lit pe_int))) L.b_zip) rfl (fun _ _ _ _ _ => (pg_tu (pg_cons (pg_nm (i := 2)) (pg_cons (pg_nm (i := 3)) pg_nil)))) (fun _ _ _ _ _ => pts_no) (fun _ _ _ _ _ => (py_cmp ok_eq (py_ex (py_bin ok_mod (py_pk (pv 3)) (py_pk (pv 2)))) (py_ex (py_lit pe_int)))))) pas_nil) L.b_all))))
theorem F_chain_right {g : G} (L : LG g) : FnM g 1 "chain_right" (fdAt g "chain_right") ["spans"] m_chain_right := L.d_chain_right.fnG sc_chain_right rfl fun cdv A outer s H E => d_chain_right L _ cdv A outer s H E
def N_classes_for : List Str := ["spans", "hands", "taken", "own", "job", "item", "free", "hand", "rest"]
theorem sc_classes_for : FnScope N_classes_for ["spans", "hands"] (defScope (top 21)) := ⟨rfl, rfl, rfl, by decide +kernel, rfl, by decide +kernel, by decide +kernel⟩
theorem B_classes_for {g : G} (L : LG g) : Bnd g (fdAt g "classes_for") ["spans", "hands"] 2 [] (List.range 2) := L.d_classes_for.bnd rfl (by decide) fun _ _ _ _ _ _ us ws h1 h2 => match us, ws, h1, h2 with | [_, _], [], _, _ => rfl
def N_is_free : List Str := ["spans", "taken", "hand", "rest", "own", "job", "other", "apart"]
theorem sc_is_free : FnScope N_is_free ["spans", "taken", "hand", "rest", "own"] (defScope (top 20)) := ⟨rfl, rfl, rfl, by decide +kernel, rfl, by decide +kernel, by decide +kernel⟩
theorem B_is_free {g : G} (L : LG g) : Bnd g (fdAt g "is_free") ["spans", "taken", "hand", "rest", "own"] 5 [] (List.range 5) := L.d_is_free.bnd rfl (by decide) fun _ _ _ _ _ _ us ws h1 h2 => match us, ws, h1, h2 with | [_, _, _, _, _], [], _, _ => rfl
def N_common_part : List Str := ["one", "other"]
theorem sc_common_part : FnScope N_common_part ["one", "other"] (defScope (top 17)) := ⟨rfl, rfl, rfl, by decide +kernel, rfl, by decide +kernel, by decide +kernel⟩
theorem B_common_part {g : G} (L : LG g) : Bnd g (fdAt g "common_part") ["one", "other"] 2 [] (List.range 2) := L.d_common_part.bnd rfl (by decide) fun _ _ _ _ _ _ us ws h1 h2 => match us, ws, h1, h2 with | [_, _], [], _, _ => rfl
def mv_common_part : Sv := (sSeq (sWhile (tOf (vPrim pGt [(.pk 1), (.ex (vLit (.int 0)))])) (sPar 0 1 (vVar 1) (vPrim pMod [(.pk 0), (.pk 1)])))
  (sRet (vMove 0)))
def m_common_part : Mf := mBody 0 mv_common_part
theorem d_common_part {g : G} (L : LG g) (f : Addr) (cdv : Value) (A : Around) (outer : List Env) (s : Shared) (H : Hp) (E : XK) : PySs g 0 (cxG g N_common_part "common_part" (defScope (top 17)) f cdv A outer s H E) (WB E) (defBody (top 17)) mv_common_part :=
  (pys_cons (py_while (py_tcmp ok_gt (py_pk (pv 1)) (py_ex (py_lit pe_int))) (pys_one (py_par (i := 0) (j := 1) (py_var (pv 1)) (py_bin ok_mod (py_pk (pv 0)) (py_pk (pv 1))))))
  (pys_one (py_ret (py_move (pv 0)))))
theorem F_common_part {g : G} (L : LG g) : FnM g 1 "common_part" (fdAt g "common_part") ["one", "other"] m_common_part := L.d_common_part.fnG sc_common_part rfl fun cdv A outer s H E => d_common_part L _ cdv A outer s H E
def mv_is_free : Sv := (sSeq (sForK 1 (.nm 5) (sSeq (sPar 6 7 (vDGet 1 (vVar 5)) (vCall m_common_part (List.range 2) [(.ex (vVar 4)), (.ex (vPrim pIx [(.pk 0), (.pk 5)]))]))
  (sIf (tAndD (tOf (vPrim pEq [(.ex (vPrim pIx [(.pk 6), (.ex (vLit (.int 0)))])), (.pk 2)])) (tOf (vPrim pEq [(.ex (vPrim pMod [(.ex (vPrim pSub [(.ex (vPrim pIx [(.pk 6), (.ex (vLit (.int 1)))])), (.pk 3)])), (.pk 7)])), (.ex (vLit (.int 0)))]))) (sRet (vLit (.bl false))) sPass)))
  (sRet (vLit (.bl true))))
def m_is_free : Mf := mBody 3 mv_is_free
theorem d_is_free {g : G} (L : LG g) (f : Addr) (cdv : Value) (A : Around) (outer : List Env) (s : Shared) (H : Hp) (E : XK) : PySs g 1 (cxG g N_is_free "is_free" (defScope (top 20)) f cdv A outer s H E) (WB E) (defBody (top 20)) mv_is_free :=
  (pys_cons (py_forK (pv 1) (pg_nm (i := 5)) (pys_cons (py_par (i := 6) (j := 7) (py_dgetK (pv 1) (py_var (pv 5))) (py_call (F_common_part L) (B_common_part L) (pas_cons (py_ex (py_var (pv 4))) (pas_cons (py_ex (py_ix ok_ix (py_pk (pv 0)) (py_pk (pv 5)))) pas_nil))))
  (pys_one (py_sif (py_w (py_wand (py_tcmp ok_eq (py_ex (py_ix ok_ix (py_pk (pv 6)) (py_ex (py_lit pe_int)))) (py_pk (pv 2))) (py_wand1 (py_tcmp ok_eq (py_ex (py_bin ok_mod (py_ex (py_bin ok_sub (py_ex (py_ix ok_ix (py_pk (pv 6)) (py_ex (py_lit pe_int)))) (py_pk (pv 3)))) (py_pk (pv 7)))) (py_ex (py_lit pe_int)))))) (pys_one (py_ret (py_lit pe_bl))) pys_nil))))
  (pys_one (py_ret (py_lit pe_bl))))
theorem F_is_free {g : G} (L : LG g) : FnM g 2 "is_free" (fdAt g "is_free") ["spans", "taken", "hand", "rest", "own"] m_is_free := L.d_is_free.fnG sc_is_free rfl fun cdv A outer s H E => d_is_free L _ cdv A outer s H E
def mv_classes_for : Sv := (sSeq (sSet 2 vDic0)
  (sSeq (sFor (srcOf (vPrim pSorted [(.ex (vLc (srcEnum (vVar 0)) (.tu [(.nm 4), (.nm 5)]) [4, 5] tYesD (vTup [(.ex (vVar 5)), (.ex (vVar 4))])))])) (.tu [(.nm 3), (.nm 4)]) (sSeq (sSet 6 (vLc2 (srcR [(.ex (vVar 1))]) (.nm 7) [7, 8] tYesD (srcR [(.ex (vVar 3))]) (.nm 8) [8] (tOf (vCall m_is_free (List.range 5) [(.ex (vVar 0)), (.pk 2), (.ex (vVar 7)), (.ex (vVar 8)), (.ex (vVar 3))])) (vTup [(.ex (vVar 7)), (.ex (vVar 8))])))
  (sSeq (sIf (tOf (vPrim pEq [(.pk 6), (.ex (vLst []))])) (sRet (vLit .non)) sPass)
  (sDPutK 2 (vVar 4) (vPrim pIx [(.pk 6), (.ex (vLit (.int 0)))])))))
  (sRet (vLc (srcR [(.ex (vPrim pLen [(.pk 0)]))]) (.nm 4) [4] tYesD (vDGet 2 (vVar 4))))))
def m_classes_for : Mf := mBody 7 mv_classes_for
theorem d_classes_for {g : G} (L : LG g) (f : Addr) (cdv : Value) (A : Around) (outer : List Env) (s : Shared) (H : Hp) (E : XK) : PySs g 2 (cxG g N_classes_for "classes_for" (defScope (top 21)) f cdv A outer s H E) (WB E) (defBody (top 21)) mv_classes_for :=
  (pys_cons (py_set (i := 2) py_dic0)
  (pys_cons (py_for (py_src (py_callB ok_sorted (pas_cons (py_ex (py_lc (own := [("job", 4), ("item", 5)]) (py_enum (py_var (pv 0)) L.b_enumerate) rfl (fun _ _ _ _ _ => (pg_tu (pg_cons (pg_nm (i := 4)) (pg_cons (pg_nm (i := 5)) pg_nil)))) (fun _ _ _ _ _ => pts_no) (fun _ _ _ _ _ => (py_tup (pas_cons (py_ex (py_var (pv 5))) (pas_cons (py_ex (py_var (pv 4))) pas_nil)))))) pas_nil) L.b_sorted)) (pg_tu (pg_cons (pg_nm (i := 3)) (pg_cons (pg_nm (i := 4)) pg_nil))) (pys_cons (py_setLc2 (i := 6) (own := [("hand", 7), ("rest", 8)]) (vs1 := [8]) (py_range1 (py_ex (py_var (pv 1))) L.b_range) rfl (fun _ _ _ _ _ => (pg_nm (i := 7))) (fun _ _ _ _ _ => pts_no) (fun _ _ _ _ _ => (pyr_range1 (py_ex (py_var (pv 3))) L.b_range)) (fun _ _ _ _ _ => (pg_nm (i := 8))) (fun _ _ _ _ _ => (pts_if (py_tval (py_call (F_is_free L) (B_is_free L) (pas_cons (py_ex (py_var (pv 0))) (pas_cons (py_pk (pv 2)) (pas_cons (py_ex (py_var (pv 7))) (pas_cons (py_ex (py_var (pv 8))) (pas_cons (py_ex (py_var (pv 3))) pas_nil))))))))) (fun _ _ _ _ _ => (py_tup (pas_cons (py_ex (py_var (pv 7))) (pas_cons (py_ex (py_var (pv 8))) pas_nil)))))
  (pys_cons (py_sif (py_tcmp ok_eq (py_pk (pv 6)) (py_ex (py_lst pas_nil))) (pys_one (py_ret (py_lit pe_non))) pys_nil)
  (pys_one (py_dputK (pv 2) (py_ix ok_ix (py_pk (pv 6)) (py_ex (py_lit pe_int))) (py_var (pv 4)))))))
  (pys_one (py_ret (py_lc (own := [("job", 4)]) (py_range1 (py_ex (py_callB ok_len (pas_cons (py_pk (pv 0)) pas_nil) L.b_len)) L.b_range) rfl (fun _ _ _ _ _ => (pg_nm (i := 4))) (fun _ _ _ _ _ => pts_no) (fun _ _ _ _ _ => (py_dgetK (pv 2) (py_var (pv 4)))))))))
theorem F_classes_for {g : G} (L : LG g) : FnM g 3 "classes_for" (fdAt g "classes_for") ["spans", "hands"] m_classes_for := L.d_classes_for.fnG sc_classes_for rfl fun cdv A outer s H E => d_classes_for L _ cdv A outer s H E
def N_sum_of_shares : List Str := ["spans", "top", "low", "item", "part"]
theorem sc_sum_of_shares : FnScope N_sum_of_shares ["spans"] (defScope (top 18)) := ⟨rfl, rfl, rfl, by decide +kernel, rfl, by decide +kernel, by decide +kernel⟩
theorem B_sum_of_shares {g : G} (L : LG g) : Bnd g (fdAt g "sum_of_shares") ["spans"] 1 [] (List.range 1) := L.d_sum_of_shares.bnd rfl (by decide) fun _ _ _ _ _ _ us ws h1 h2 => match us, ws, h1, h2 with | [_], [], _, _ => rfl
def mv_sum_of_shares : Sv := (sSeq (sAsg (vTup [(.ex (vLit (.int 0))), (.ex (vLit (.int 1)))]) (.tu [(.nm 1), (.nm 2)]))
  (sSeq (sFor (srcOf (vVar 0)) (.nm 3) (sSeq (sPar 1 2 (vPrim pAdd [(.ex (vPrim pMul [(.pk 1), (.pk 3)])), (.pk 2)]) (vPrim pMul [(.pk 2), (.pk 3)]))
  (sSeq (sSet 4 (vCall m_common_part (List.range 2) [(.ex (vVar 1)), (.ex (vVar 2))]))
  (sPar 1 2 (vPrim pFdiv [(.pk 1), (.pk 4)]) (vPrim pFdiv [(.pk 2), (.pk 4)])))))
  (sRet (vTup [(.ex (vVar 1)), (.ex (vVar 2))]))))
def m_sum_of_shares : Mf := mBody 4 mv_sum_of_shares
theorem d_sum_of_shares {g : G} (L : LG g) (f : Addr) (cdv : Value) (A : Around) (outer : List Env) (s : Shared) (H : Hp) (E : XK) : PySs g 1 (cxG g N_sum_of_shares "sum_of_shares" (defScope (top 18)) f cdv A outer s H E) (WB E) (defBody (top 18)) mv_sum_of_shares :=
  (pys_cons (py_asg (py_tup (pas_cons (py_ex (py_lit pe_int)) (pas_cons (py_ex (py_lit pe_int)) pas_nil))) (pg_tu (pg_cons (pg_nm (i := 1)) (pg_cons (pg_nm (i := 2)) pg_nil))))
  (pys_cons (py_for (py_src (py_var (pv 0))) (pg_nm (i := 3)) (pys_cons (py_par (i := 1) (j := 2) (py_bin ok_add (py_ex (py_bin ok_mul (py_pk (pv 1)) (py_pk (pv 3)))) (py_pk (pv 2))) (py_bin ok_mul (py_pk (pv 2)) (py_pk (pv 3))))
  (pys_cons (py_set (i := 4) (py_call (F_common_part L) (B_common_part L) (pas_cons (py_ex (py_var (pv 1))) (pas_cons (py_ex (py_var (pv 2))) pas_nil))))
  (pys_one (py_par (i := 1) (j := 2) (py_bin ok_fdiv (py_pk (pv 1)) (py_pk (pv 4))) (py_bin ok_fdiv (py_pk (pv 2)) (py_pk (pv 4))))))))
  (pys_one (py_ret (py_tup (pas_cons (py_ex (py_var (pv 1))) (pas_cons (py_ex (py_var (pv 2))) pas_nil)))))))
theorem F_sum_of_shares {g : G} (L : LG g) : FnM g 2 "sum_of_shares" (fdAt g "sum_of_shares") ["spans"] m_sum_of_shares := L.d_sum_of_shares.fnG sc_sum_of_shares rfl fun cdv A outer s H E => d_sum_of_shares L _ cdv A outer s H E
def mv_class_paper : Sv := (sSeq (sDrop (vCall m_need_spans_hands (List.range 2) [(.ex (vVar 0)), (.ex (vVar 1))]))
  (sSeq (sIf (tNotD (tOf (vCall m_chain_right (List.range 1) [(.ex (vVar 0))]))) (sRaiseT "NotChain") sPass)
  (sSeq (sSet 2 (vCall m_classes_for (List.range 2) [(.ex (vVar 0)), (.ex (vVar 1))]))
  (sRet (vIf (tOf (vPrim pIsNot [(.pk 2), (.ex (vLit .non))])) (vTup [(.ex (vLit (.str "classes"))), (.ex (vVar 2))]) (vTup [(.ex (vLit (.str "sum"))), (.se (vCall m_sum_of_shares (List.range 1) [(.ex (vVar 0))]))]))))))
def m_class_paper : Mf := mBody 1 mv_class_paper
theorem d_class_paper {g : G} (L : LG g) (f : Addr) (cdv : Value) (A : Around) (outer : List Env) (s : Shared) (H : Hp) (E : XK) : PySs g 4 (cxG g N_class_paper "class_paper" (defScope (top 23)) f cdv A outer s H E) (WB E) (defBody (top 23)) mv_class_paper :=
  (pys_cons (py_drop (py_call (F_need_spans_hands L) (B_need_spans_hands L) (pas_cons (py_ex (py_var (pv 0))) (pas_cons (py_ex (py_var (pv 1))) pas_nil))))
  (pys_cons (py_sif (py_tnot (py_tval (py_call (F_chain_right L) (B_chain_right L) (pas_cons (py_ex (py_var (pv 0))) pas_nil)))) (pys_one (py_raiseT L.x_NotChain)) pys_nil)
  (pys_cons (py_set (i := 2) (py_call (F_classes_for L) (B_classes_for L) (pas_cons (py_ex (py_var (pv 0))) (pas_cons (py_ex (py_var (pv 1))) pas_nil))))
  (pys_one (py_ret (py_if (py_tcmp ok_isnot (py_pk (pv 2)) (py_ex (py_lit pe_non))) (py_tup (pas_cons (py_ex (py_lit pe_str)) (pas_cons (py_ex (py_var (pv 2))) pas_nil))) (py_tup (pas_cons (py_ex (py_lit pe_str)) (pas_se (py_call (F_sum_of_shares L) (B_sum_of_shares L) (pas_cons (py_ex (py_var (pv 0))) pas_nil)) pas_nil)))))))))
theorem F_class_paper {g : G} (L : LG g) : FnM g 5 "class_paper" (fdAt g "class_paper") ["spans", "hands"] m_class_paper := L.d_class_paper.fnG sc_class_paper rfl fun cdv A outer s H E => d_class_paper L _ cdv A outer s H E
def N_l_is_paper : List Str := ["spans", "hands", "thing"]
theorem sc_l_is_paper : FnScope N_l_is_paper ["spans", "hands", "thing"] (defScope (top 42)) := ⟨rfl, rfl, rfl, by decide +kernel, rfl, by decide +kernel, by decide +kernel⟩
theorem B_l_is_paper {g : G} (L : LG g) : Bnd g (fdAt g "_law_is_paper") ["spans", "hands", "thing"] 3 [] (List.range 3) := L.d_l_is_paper.bnd rfl (by decide) fun _ _ _ _ _ _ us ws h1 h2 => match us, ws, h1, h2 with | [_, _, _], [], _, _ => rfl
def N_l_are_classes : List Str := ["spans", "hands", "thing", "spot", "item", "other"]
theorem sc_l_are_classes : FnScope N_l_are_classes ["spans", "hands", "thing"] (defScope (top 38)) := ⟨rfl, rfl, rfl, by decide +kernel, rfl, by decide +kernel, by decide +kernel⟩
theorem B_l_are_classes {g : G} (L : LG g) : Bnd g (fdAt g "_law_are_classes") ["spans", "hands", "thing"] 3 [] (List.range 3) := L.d_l_are_classes.bnd rfl (by decide) fun _ _ _ _ _ _ us ws h1 h2 => match us, ws, h1, h2 with | [_, _, _], [], _, _ => rfl
def N_l_is_whole : List Str := ["thing", "low", "most"]
theorem sc_l_is_whole : FnScope N_l_is_whole ["thing", "low", "most"] (defScope (top 32)) := ⟨rfl, rfl, rfl, by decide +kernel, rfl, by decide +kernel, by decide +kernel⟩
theorem B_l_is_whole {g : G} (L : LG g) : Bnd g (fdAt g "_law_is_whole") ["thing", "low", "most"] 3 [] (List.range 3) := L.d_l_is_whole.bnd rfl (by decide) fun _ _ _ _ _ _ us ws h1 h2 => match us, ws, h1, h2 with | [_, _, _], [], _, _ => rfl
def mv_l_is_whole : Sv := (sRet (vAnd (vPrim (pIsi sub) [(.pk 0), (.ex (vLit (.ty "int")))]) (vAnd (vNot (vPrim (pIsi sub) [(.pk 0), (.ex (vLit (.ty "bool")))])) (vChain pLe pLe (vVar 1) (vVar 0) (vVar 2)))))
def m_l_is_whole : Mf := mBody 0 mv_l_is_whole
theorem d_l_is_whole {g : G} (L : LG g) (f : Addr) (cdv : Value) (A : Around) (outer : List Env) (s : Shared) (H : Hp) (E : XK) : PySs g 0 (cxG g N_l_is_whole "_law_is_whole" (defScope (top 32)) f cdv A outer s H E) (WB E) (defBody (top 32)) mv_l_is_whole :=
  (pys_one (py_ret (py_and (py_callB (ok_isi L.isi L.xok) (pas_cons (py_pk (pv 0)) (pas_cons (py_ex (py_gty L.b_int)) pas_nil)) L.b_isinstance) (py_and (py_not (py_callB (ok_isi L.isi L.xok) (pas_cons (py_pk (pv 0)) (pas_cons (py_ex (py_gty L.b_bool)) pas_nil)) L.b_isinstance)) (py_one (py_chain ok_le ok_le (py_var (pv 1)) (py_var (pv 0)) (py_var (pv 2))))))))
theorem F_l_is_whole {g : G} (L : LG g) : FnM g 1 "_law_is_whole" (fdAt g "_law_is_whole") ["thing", "low", "most"] m_l_is_whole := L.d_l_is_whole.fnG sc_l_is_whole rfl fun cdv A outer s H E => d_l_is_whole L _ cdv A outer s H E
def N_l_meet : List Str := ["spans", "one", "other", "here", "there"]
theorem sc_l_meet : FnScope N_l_meet ["spans", "one", "other", "here", "there"] (defScope (top 37)) := ⟨rfl, rfl, rfl, by decide +kernel, rfl, by decide +kernel, by decide +kernel⟩
theorem B_l_meet {g : G} (L : LG g) : Bnd g (fdAt g "_law_meet") ["spans", "one", "other", "here", "there"] 5 [] (List.range 5) := L.d_l_meet.bnd rfl (by decide) fun _ _ _ _ _ _ us ws h1 h2 => match us, ws, h1, h2 with | [_, _, _, _, _], [], _, _ => rfl
def mv_l_meet : Sv := (sSeq (sIf (tOf (vPrim pNe [(.ex (vPrim pIx [(.pk 3), (.ex (vLit (.int 0)))])), (.ex (vPrim pIx [(.pk 4), (.ex (vLit (.int 0)))]))])) (sRet (vLit (.bl false))) sPass)
  (sRet (vPrim pEq [(.ex (vPrim pMod [(.ex (vPrim pInt [(.ex (vPrim pSub [(.ex (vPrim pIx [(.pk 3), (.ex (vLit (.int 1)))])), (.ex (vPrim pIx [(.pk 4), (.ex (vLit (.int 1)))]))]))])), (.ex (vCall m_l_common (List.range 2) [(.ex (vPrim pIx [(.pk 0), (.pk 1)])), (.ex (vPrim pIx [(.pk 0), (.pk 2)]))]))])), (.ex (vLit (.int 0)))])))
def m_l_meet : Mf := mBody 0 mv_l_meet
theorem d_l_meet {g : G} (L : LG g) (f : Addr) (cdv : Value) (A : Around) (outer : List Env) (s : Shared) (H : Hp) (E : XK) : PySs g 1 (cxG g N_l_meet "_law_meet" (defScope (top 37)) f cdv A outer s H E) (WB E) (defBody (top 37)) mv_l_meet :=
  (pys_cons (py_sif (py_tcmp ok_ne (py_ex (py_ix ok_ix (py_pk (pv 3)) (py_ex (py_lit pe_int)))) (py_ex (py_ix ok_ix (py_pk (pv 4)) (py_ex (py_lit pe_int))))) (pys_one (py_ret (py_lit pe_bl))) pys_nil)
  (pys_one (py_ret (py_cmp ok_eq (py_ex (py_bin ok_mod (py_ex (py_callTy ok_intc (pas_cons (py_ex (py_bin ok_sub (py_ex (py_ix ok_ix (py_pk (pv 3)) (py_ex (py_lit pe_int)))) (py_ex (py_ix ok_ix (py_pk (pv 4)) (py_ex (py_lit pe_int)))))) pas_nil) L.b_int)) (py_ex (py_call (F_l_common L) (B_l_common L) (pas_cons (py_ex (py_ix ok_ix (py_pk (pv 0)) (py_pk (pv 1)))) (pas_cons (py_ex (py_ix ok_ix (py_pk (pv 0)) (py_pk (pv 2)))) pas_nil)))))) (py_ex (py_lit pe_int))))))
theorem F_l_meet {g : G} (L : LG g) : FnM g 2 "_law_meet" (fdAt g "_law_meet") ["spans", "one", "other", "here", "there"] m_l_meet := L.d_l_meet.fnG sc_l_meet rfl fun cdv A outer s H E => d_l_meet L _ cdv A outer s H E
def mv_l_are_classes : Sv := (sSeq (sIf (tOrD (tNotD (tOf (vPrim (pIsi sub) [(.pk 2), (.ex (vTup [(.ex (vLit (.ty "list"))), (.ex (vLit (.ty "tuple")))]))]))) (tOf (vPrim pNe [(.ex (vPrim pLen [(.pk 2)])), (.ex (vPrim pLen [(.pk 0)]))]))) (sRet (vLit (.bl false))) sPass)
  (sSeq (sFor (srcEnum (vVar 2)) (.tu [(.nm 3), (.nm 4)]) (sSeq (sIf (tOrD (tNotD (tOf (vPrim (pIsi sub) [(.pk 4), (.ex (vLit (.ty "tuple")))]))) (tOrD (tOf (vPrim pNe [(.ex (vPrim pLen [(.pk 4)])), (.ex (vLit (.int 2)))])) (tNotD (tOf (vCall m_l_is_whole (List.range 3) [(.ex (vPrim pIx [(.pk 4), (.ex (vLit (.int 0)))])), (.ex (vLit (.int 0))), (.ex (vPrim pSub [(.pk 1), (.ex (vLit (.int 1)))]))]))))) (sRet (vLit (.bl false))) sPass)
  (sIf (tNotD (tOf (vCall m_l_is_whole (List.range 3) [(.ex (vPrim pIx [(.pk 4), (.ex (vLit (.int 1)))])), (.ex (vLit (.int 0))), (.ex (vPrim pSub [(.ex (vPrim pIx [(.pk 0), (.pk 3)])), (.ex (vLit (.int 1)))]))]))) (sRet (vLit (.bl false))) sPass)))
  (sSeq (sFor (srcR [(.ex (vPrim pLen [(.pk 0)]))]) (.nm 3) (sIf (tOf (vPrim pNe [(.ex (vLc (srcR [(.ex (vVar 3))]) (.nm 5) [5] (tOf (vCall m_l_meet (List.range 5) [(.ex (vVar 0)), (.ex (vVar 3)), (.ex (vVar 5)), (.ex (vPrim pIx [(.pk 2), (.pk 3)])), (.ex (vPrim pIx [(.pk 2), (.pk 5)]))])) (vLit (.int 1)))), (.ex (vLst []))])) (sRet (vLit (.bl false))) sPass))
  (sRet (vLit (.bl true))))))
def m_l_are_classes : Mf := mBody 3 mv_l_are_classes
theorem d_l_are_classes {g : G} (L : LG g) (f : Addr) (cdv : Value) (A : Around) (outer : List Env) (s : Shared) (H : Hp) (E : XK) : PySs g 2 (cxG g N_l_are_classes "_law_are_classes" (defScope (top 38)) f cdv A outer s H E) (WB E) (defBody (top 38)) mv_l_are_classes :=
  (pys_cons (py_sif (py_w (py_wor (py_tnot (py_tval (py_callB (ok_isi L.isi L.xok) (pas_cons (py_pk (pv 2)) (pas_cons (py_ex (py_tup (pas_cons (py_ex (py_gty L.b_list)) (pas_cons (py_ex (py_gty L.b_tuple)) pas_nil)))) pas_nil)) L.b_isinstance))) (py_wor1 (py_tcmp ok_ne (py_ex (py_callB ok_len (pas_cons (py_pk (pv 2)) pas_nil) L.b_len)) (py_ex (py_callB ok_len (pas_cons (py_pk (pv 0)) pas_nil) L.b_len)))))) (pys_one (py_ret (py_lit pe_bl))) pys_nil)
  (pys_cons (py_for (py_enum (py_var (pv 2)) L.b_enumerate) (pg_tu (pg_cons (pg_nm (i := 3)) (pg_cons (pg_nm (i := 4)) pg_nil))) (pys_cons (py_sif (py_w (py_wor (py_tnot (py_tval (py_callB (ok_isi L.isi L.xok) (pas_cons (py_pk (pv 4)) (pas_cons (py_ex (py_gty L.b_tuple)) pas_nil)) L.b_isinstance))) (py_wor (py_tcmp ok_ne (py_ex (py_callB ok_len (pas_cons (py_pk (pv 4)) pas_nil) L.b_len)) (py_ex (py_lit pe_int))) (py_wor1 (py_tnot (py_tval (py_call (F_l_is_whole L) (B_l_is_whole L) (pas_cons (py_ex (py_ix ok_ix (py_pk (pv 4)) (py_ex (py_lit pe_int)))) (pas_cons (py_ex (py_lit pe_int)) (pas_cons (py_ex (py_bin ok_sub (py_pk (pv 1)) (py_ex (py_lit pe_int)))) pas_nil)))))))))) (pys_one (py_ret (py_lit pe_bl))) pys_nil)
  (pys_one (py_sif (py_tnot (py_tval (py_call (F_l_is_whole L) (B_l_is_whole L) (pas_cons (py_ex (py_ix ok_ix (py_pk (pv 4)) (py_ex (py_lit pe_int)))) (pas_cons (py_ex (py_lit pe_int)) (pas_cons (py_ex (py_bin ok_sub (py_ex (py_ix ok_ix (py_pk (pv 0)) (py_pk (pv 3)))) (py_ex (py_lit pe_int)))) pas_nil)))))) (pys_one (py_ret (py_lit pe_bl))) pys_nil))))
  (pys_cons (py_for (py_range1 (py_ex (py_callB ok_len (pas_cons (py_pk (pv 0)) pas_nil) L.b_len)) L.b_range) (pg_nm (i := 3)) (pys_one (py_sif (py_tcmp ok_ne (py_ex (py_lc (own := [("other", 5)]) (py_range1 (py_ex (py_var (pv 3))) L.b_range) rfl (fun _ _ _ _ _ => (pg_nm (i := 5))) (fun _ _ _ _ _ => (pts_if (py_tval (py_call (F_l_meet L) (B_l_meet L) (pas_cons (py_ex (py_var (pv 0))) (pas_cons (py_ex (py_var (pv 3))) (pas_cons (py_ex (py_var (pv 5))) (pas_cons (py_ex (py_ix ok_ix (py_pk (pv 2)) (py_pk (pv 3)))) (pas_cons (py_ex (py_ix ok_ix (py_pk (pv 2)) (py_pk (pv 5)))) pas_nil))))))))) (fun _ _ _ _ _ => (py_lit pe_int)))) (py_ex (py_lst pas_nil))) (pys_one (py_ret (py_lit pe_bl))) pys_nil)))
  (pys_one (py_ret (py_lit pe_bl))))))
theorem F_l_are_classes {g : G} (L : LG g) : FnM g 3 "_law_are_classes" (fdAt g "_law_are_classes") ["spans", "hands", "thing"] m_l_are_classes := L.d_l_are_classes.fnG sc_l_are_classes rfl fun cdv A outer s H E => d_l_are_classes L _ cdv A outer s H E
def mv_l_is_paper : Sv := (sSeq (sIf (tOrD (tNotD (tOf (vPrim (pIsi sub) [(.pk 2), (.ex (vLit (.ty "tuple")))]))) (tOrD (tOf (vPrim pEqT [(.pk 2), (.ex (vTup []))])) (tNotD (tOf (vPrim (pIsi sub) [(.ex (vPrim pIx [(.pk 2), (.ex (vLit (.int 0)))])), (.ex (vLit (.ty "str")))]))))) (sRet (vLit (.bl false))) sPass)
  (sSeq (sIf (tOf (vPrim pEq [(.ex (vPrim pIx [(.pk 2), (.ex (vLit (.int 0)))])), (.ex (vLit (.str "classes")))])) (sRet (vAnd (vPrim pEq [(.ex (vPrim pLen [(.pk 2)])), (.ex (vLit (.int 2)))]) (vCall m_l_are_classes (List.range 3) [(.ex (vVar 0)), (.ex (vVar 1)), (.ex (vPrim pIx [(.pk 2), (.ex (vLit (.int 1)))]))]))) sPass)
  (sSeq (sIf (tOrD (tOf (vPrim pNe [(.ex (vPrim pIx [(.pk 2), (.ex (vLit (.int 0)))])), (.ex (vLit (.str "sum")))])) (tOrD (tOf (vPrim pNe [(.ex (vPrim pLen [(.pk 2)])), (.ex (vLit (.int 3)))])) (tOrD (tNotD (tOf (vCall m_l_is_whole (List.range 3) [(.ex (vPrim pIx [(.pk 2), (.ex (vLit (.int 1)))])), (.ex (vLit (.int 0))), (.ex (vPrim pPow [(.ex (vLit (.int 10))), (.ex (vLit (.int 12)))]))]))) (tNotD (tOf (vCall m_l_is_whole (List.range 3) [(.ex (vPrim pIx [(.pk 2), (.ex (vLit (.int 2)))])), (.ex (vLit (.int 0))), (.ex (vPrim pPow [(.ex (vLit (.int 10))), (.ex (vLit (.int 12)))]))])))))) (sRet (vLit (.bl false))) sPass)
  (sRet (vAnd (vPrim pEq [(.ex (vPrim pSl10 [(.pk 2), (.ex (vLit (.int 1)))])), (.ex (vCall m_l_sum (List.range 1) [(.ex (vVar 0))]))]) (vPrim pGt [(.ex (vPrim pIx [(.pk 2), (.ex (vLit (.int 1)))])), (.ex (vPrim pMul [(.pk 1), (.ex (vPrim pIx [(.pk 2), (.ex (vLit (.int 2)))]))]))]))))))
def m_l_is_paper : Mf := mBody 0 mv_l_is_paper
theorem d_l_is_paper {g : G} (L : LG g) (f : Addr) (cdv : Value) (A : Around) (outer : List Env) (s : Shared) (H : Hp) (E : XK) : PySs g 3 (cxG g N_l_is_paper "_law_is_paper" (defScope (top 42)) f cdv A outer s H E) (WB E) (defBody (top 42)) mv_l_is_paper :=
  (pys_cons (py_sif (py_w (py_wor (py_tnot (py_tval (py_callB (ok_isi L.isi L.xok) (pas_cons (py_pk (pv 2)) (pas_cons (py_ex (py_gty L.b_tuple)) pas_nil)) L.b_isinstance))) (py_wor (py_tcmp ok_eqT (py_pk (pv 2)) (py_ex (py_tup pas_nil))) (py_wor1 (py_tnot (py_tval (py_callB (ok_isi L.isi L.xok) (pas_cons (py_ex (py_ix ok_ix (py_pk (pv 2)) (py_ex (py_lit pe_int)))) (pas_cons (py_ex (py_gty L.b_str)) pas_nil)) L.b_isinstance))))))) (pys_one (py_ret (py_lit pe_bl))) pys_nil)
  (pys_cons (py_sif (py_tcmp ok_eq (py_ex (py_ix ok_ix (py_pk (pv 2)) (py_ex (py_lit pe_int)))) (py_ex (py_lit pe_str))) (pys_one (py_ret (py_and (py_cmp ok_eq (py_ex (py_callB ok_len (pas_cons (py_pk (pv 2)) pas_nil) L.b_len)) (py_ex (py_lit pe_int))) (py_one (py_call (F_l_are_classes L) (B_l_are_classes L) (pas_cons (py_ex (py_var (pv 0))) (pas_cons (py_ex (py_var (pv 1))) (pas_cons (py_ex (py_ix ok_ix (py_pk (pv 2)) (py_ex (py_lit pe_int)))) pas_nil)))))))) pys_nil)
  (pys_cons (py_sif (py_w (py_wor (py_tcmp ok_ne (py_ex (py_ix ok_ix (py_pk (pv 2)) (py_ex (py_lit pe_int)))) (py_ex (py_lit pe_str))) (py_wor (py_tcmp ok_ne (py_ex (py_callB ok_len (pas_cons (py_pk (pv 2)) pas_nil) L.b_len)) (py_ex (py_lit pe_int))) (py_wor (py_tnot (py_tval (py_call (F_l_is_whole L) (B_l_is_whole L) (pas_cons (py_ex (py_ix ok_ix (py_pk (pv 2)) (py_ex (py_lit pe_int)))) (pas_cons (py_ex (py_lit pe_int)) (pas_cons (py_ex (py_bin ok_pow (py_ex (py_lit pe_int)) (py_ex (py_lit pe_int)))) pas_nil)))))) (py_wor1 (py_tnot (py_tval (py_call (F_l_is_whole L) (B_l_is_whole L) (pas_cons (py_ex (py_ix ok_ix (py_pk (pv 2)) (py_ex (py_lit pe_int)))) (pas_cons (py_ex (py_lit pe_int)) (pas_cons (py_ex (py_bin ok_pow (py_ex (py_lit pe_int)) (py_ex (py_lit pe_int)))) pas_nil))))))))))) (pys_one (py_ret (py_lit pe_bl))) pys_nil)
  (pys_one (py_ret (py_and (py_cmp ok_eq (py_ex (py_sl10 (py_pk (pv 2)) (py_ex (py_lit pe_int)))) (py_ex (py_call (F_l_sum L) (B_l_sum L) (pas_cons (py_ex (py_var (pv 0))) pas_nil)))) (py_one (py_cmp ok_gt (py_ex (py_ix ok_ix (py_pk (pv 2)) (py_ex (py_lit pe_int)))) (py_ex (py_bin ok_mul (py_pk (pv 1)) (py_ex (py_ix ok_ix (py_pk (pv 2)) (py_ex (py_lit pe_int))))))))))))))
theorem F_l_is_paper {g : G} (L : LG g) : FnM g 4 "_law_is_paper" (fdAt g "_law_is_paper") ["spans", "hands", "thing"] m_l_is_paper := L.d_l_is_paper.fnG sc_l_is_paper rfl fun cdv A outer s H E => d_l_is_paper L _ cdv A outer s H E
theorem Bk_0 {g : G} (L : LG g) : Bnd g (fdAt g "class_paper") ["spans", "hands"] 0 ["hands", "spans"] [1, 0] := L.d_class_paper.bnd rfl (by decide) fun _ _ _ _ _ _ us ws h1 h2 => match us, ws, h1, h2 with | [], [_, _], _, _ => rfl
def N_l_near : List Str := ["tape", "spans", "hands", "told", "thing", "word", "top", "bottom"]
theorem sc_l_near : FnScope N_l_near ["tape", "spans", "hands", "told"] (defScope (top 43)) := ⟨rfl, rfl, rfl, by decide +kernel, rfl, by decide +kernel, by decide +kernel⟩
theorem B_l_near {g : G} (L : LG g) : Bnd g (fdAt g "_law_near") ["tape", "spans", "hands", "told"] 4 [] (List.range 4) := L.d_l_near.bnd rfl (by decide) fun _ _ _ _ _ _ us ws h1 h2 => match us, ws, h1, h2 with | [_, _, _, _], [], _, _ => rfl
def N_l_near_classes : List Str := ["tape", "spans", "hands", "classes", "found", "at", "hand", "rest", "some"]
theorem sc_l_near_classes : FnScope N_l_near_classes ["tape", "spans", "hands", "classes"] (defScope (top 39)) := ⟨rfl, rfl, rfl, by decide +kernel, rfl, by decide +kernel, by decide +kernel⟩
theorem B_l_near_classes {g : G} (L : LG g) : Bnd g (fdAt g "_law_near_classes") ["tape", "spans", "hands", "classes"] 4 [] (List.range 4) := L.d_l_near_classes.bnd rfl (by decide) fun _ _ _ _ _ _ us ws h1 h2 => match us, ws, h1, h2 with | [_, _, _, _], [], _, _ => rfl
def mv_l_near_classes : Sv := (sSeq (sSet 4 (vPrim pLstC [(.pk 3)]))
  (sSeq (sSet 5 (vCall m_l_draw (List.range 2) [(.ex (vVar 0)), (.ex (vPrim pLen [(.pk 4)]))]))
  (sSeq (sAsg (vPrim pIx [(.pk 4), (.pk 5)]) (.tu [(.nm 6), (.nm 7)]))
  (sSeq (sSet 8 (vLst [(.ex (vTup [(.ex (vVar 6)), (.ex (vCall m_l_draw (List.range 2) [(.ex (vVar 0)), (.ex (vPrim pIx [(.pk 1), (.pk 5)]))]))])), (.ex (vTup [(.ex (vCall m_l_draw (List.range 2) [(.ex (vVar 0)), (.ex (vVar 2))])), (.ex (vVar 7))])), (.ex (vTup [(.ex (vVar 6)), (.ex (vPrim pIx [(.pk 1), (.pk 5)]))])), (.ex (vTup [(.ex (vVar 2)), (.ex (vVar 7))])), (.ex (vTup [(.ex (vVar 6)), (.ex (vPrim pNeg [(.ex (vLit (.int 1)))]))])), (.ex (vTup [(.ex (vVar 6)), (.ex (vLit (.bl true)))])), (.ex (vTup [(.ex (vVar 6))])), (.ex (vLst [(.ex (vVar 6)), (.ex (vVar 7))])), (.ex (vLit .non)), (.ex (vTup [(.ex (vVar 6)), (.ex (vVar 7)), (.ex (vLit (.int 0)))]))]))
  (sSeq (sSetIx 4 (vVar 5) (vCall m_l_pick (List.range 2) [(.ex (vVar 0)), (.ex (vVar 8))]))
  (sRet (vCall m_l_pick (List.range 2) [(.ex (vVar 0)), (.ex (vLst [(.ex (vVar 4)), (.ex (vVar 4)), (.ex (vVar 4)), (.ex (vPrim pTupC [(.pk 4)])), (.ex (vPrim pSl01 [(.pk 4), (.pk 5)])), (.ex (vPrim pAdd [(.pk 4), (.ex (vPrim pSl01 [(.pk 4), (.ex (vLit (.int 1)))]))])), (.ex (vLit .non)), (.ex (vLit (.int 5))), (.ex vDic0)]))])))))))
def m_l_near_classes : Mf := mBody 5 mv_l_near_classes
theorem d_l_near_classes {g : G} (L : LG g) (f : Addr) (cdv : Value) (A : Around) (outer : List Env) (s : Shared) (H : Hp) (E : XK) : PySs g 3 (cxG g N_l_near_classes "_law_near_classes" (defScope (top 39)) f cdv A outer s H E) (WB E) (defBody (top 39)) mv_l_near_classes :=
  (pys_cons (py_set (i := 4) (py_callTy ok_lstc (pas_cons (py_pk (pv 3)) pas_nil) L.b_list))
  (pys_cons (py_set (i := 5) (py_call (F_l_draw L) (B_l_draw L) (pas_cons (py_ex (py_var (pv 0))) (pas_cons (py_ex (py_callB ok_len (pas_cons (py_pk (pv 4)) pas_nil) L.b_len)) pas_nil))))
  (pys_cons (py_asg (py_ix ok_ix (py_pk (pv 4)) (py_pk (pv 5))) (pg_tu (pg_cons (pg_nm (i := 6)) (pg_cons (pg_nm (i := 7)) pg_nil))))
  (pys_cons (py_set (i := 8) (py_lst (pas_cons (py_ex (py_tup (pas_cons (py_ex (py_var (pv 6))) (pas_cons (py_ex (py_call (F_l_draw L) (B_l_draw L) (pas_cons (py_ex (py_var (pv 0))) (pas_cons (py_ex (py_ix ok_ix (py_pk (pv 1)) (py_pk (pv 5)))) pas_nil)))) pas_nil)))) (pas_cons (py_ex (py_tup (pas_cons (py_ex (py_call (F_l_draw L) (B_l_draw L) (pas_cons (py_ex (py_var (pv 0))) (pas_cons (py_ex (py_var (pv 2))) pas_nil)))) (pas_cons (py_ex (py_var (pv 7))) pas_nil)))) (pas_cons (py_ex (py_tup (pas_cons (py_ex (py_var (pv 6))) (pas_cons (py_ex (py_ix ok_ix (py_pk (pv 1)) (py_pk (pv 5)))) pas_nil)))) (pas_cons (py_ex (py_tup (pas_cons (py_ex (py_var (pv 2))) (pas_cons (py_ex (py_var (pv 7))) pas_nil)))) (pas_cons (py_ex (py_tup (pas_cons (py_ex (py_var (pv 6))) (pas_cons (py_ex (py_un ok_neg (py_ex (py_lit pe_int)))) pas_nil)))) (pas_cons (py_ex (py_tup (pas_cons (py_ex (py_var (pv 6))) (pas_cons (py_ex (py_lit pe_bl)) pas_nil)))) (pas_cons (py_ex (py_tup (pas_cons (py_ex (py_var (pv 6))) pas_nil))) (pas_cons (py_ex (py_lst (pas_cons (py_ex (py_var (pv 6))) (pas_cons (py_ex (py_var (pv 7))) pas_nil)))) (pas_cons (py_ex (py_lit pe_non)) (pas_cons (py_ex (py_tup (pas_cons (py_ex (py_var (pv 6))) (pas_cons (py_ex (py_var (pv 7))) (pas_cons (py_ex (py_lit pe_int)) pas_nil))))) pas_nil))))))))))))
  (pys_cons (py_setIx (pv 4) (py_var (pv 5)) (py_call (F_l_pick L) (B_l_pick L) (pas_cons (py_ex (py_var (pv 0))) (pas_cons (py_ex (py_var (pv 8))) pas_nil))))
  (pys_one (py_ret (py_call (F_l_pick L) (B_l_pick L) (pas_cons (py_ex (py_var (pv 0))) (pas_cons (py_ex (py_lst (pas_cons (py_ex (py_var (pv 4))) (pas_cons (py_ex (py_var (pv 4))) (pas_cons (py_ex (py_var (pv 4))) (pas_cons (py_ex (py_callTy ok_tupc (pas_cons (py_pk (pv 4)) pas_nil) L.b_tuple)) (pas_cons (py_ex (py_sl01 (py_pk (pv 4)) (py_pk (pv 5)))) (pas_cons (py_ex (py_bin ok_add (py_pk (pv 4)) (py_ex (py_sl01 (py_pk (pv 4)) (py_ex (py_lit pe_int)))))) (pas_cons (py_ex (py_lit pe_non)) (pas_cons (py_ex (py_lit pe_int)) (pas_cons (py_ex py_dic0) pas_nil))))))))))) pas_nil))))))))))
theorem F_l_near_classes {g : G} (L : LG g) : FnM g 4 "_law_near_classes" (fdAt g "_law_near_classes") ["tape", "spans", "hands", "classes"] m_l_near_classes := L.d_l_near_classes.fnG sc_l_near_classes rfl fun cdv A outer s H E => d_l_near_classes L _ cdv A outer s H E
def mv_l_near : Sv := (sSeq (sIf (tOf (vPrim pEq [(.ex (vPrim pIx [(.pk 3), (.ex (vLit (.int 0)))])), (.ex (vLit (.str "classes")))])) (sSeq (sSet 4 (vTup [(.ex (vLit (.str "classes"))), (.ex (vCall m_l_near_classes (List.range 4) [(.ex (vVar 0)), (.ex (vVar 1)), (.ex (vVar 2)), (.ex (vPrim pIx [(.pk 3), (.ex (vLit (.int 1)))]))]))]))
  (sRet (vCall m_l_pick (List.range 2) [(.ex (vVar 0)), (.ex (vLst [(.ex (vVar 4)), (.ex (vVar 4)), (.ex (vVar 4)), (.ex (vPrim pLstC [(.pk 3)])), (.ex (vPrim pAdd [(.ex (vTup [(.ex (vLit (.str "sum")))])), (.ex (vCall m_l_sum (List.range 1) [(.ex (vVar 1))]))])), (.ex (vTup [(.ex (vLit (.str "classes"))), (.ex (vPrim pIx [(.pk 3), (.ex (vLit (.int 1)))])), (.ex (vLit (.int 0)))])), (.ex (vPrim pIx [(.pk 3), (.ex (vLit (.int 1)))])), (.ex (vTup [(.ex (vLit (.str "Classes"))), (.ex (vPrim pIx [(.pk 3), (.ex (vLit (.int 1)))]))]))]))]))) sPass)
  (sSeq (sAsg (vVar 3) (.tu [(.nm 5), (.nm 6), (.nm 7)]))
  (sRet (vCall m_l_pick (List.range 2) [(.ex (vVar 0)), (.ex (vLst [(.ex (vTup [(.ex (vVar 5)), (.ex (vPrim pAdd [(.pk 6), (.ex (vLit (.int 1)))])), (.ex (vVar 7))])), (.ex (vTup [(.ex (vVar 5)), (.ex (vPrim pMul [(.ex (vLit (.int 2))), (.pk 6)])), (.ex (vPrim pMul [(.ex (vLit (.int 2))), (.pk 7)]))])), (.ex (vTup [(.ex (vVar 5)), (.ex (vVar 6)), (.ex (vPrim pAdd [(.pk 7), (.ex (vLit (.int 1)))]))])), (.ex (vTup [(.ex (vVar 5)), (.ex (vVar 6))])), (.ex (vPrim pLstC [(.pk 3)])), (.ex (vTup [(.ex (vVar 5)), (.ex (vLit (.bl true))), (.ex (vVar 7))])), (.ex (vTup [(.ex (vVar 5)), (.ex (vVar 6)), (.ex (vLit .non))])), (.ex (vTup [(.ex (vLit (.str "classes"))), (.ex (vPrim pMul [(.ex (vLst [(.ex (vTup [(.ex (vLit (.int 0))), (.ex (vLit (.int 0)))]))])), (.ex (vPrim pLen [(.pk 1)]))]))])), (.ex (vLit .non)), (.ex (vTup [])), (.ex (vTup [(.ex (vVar 5))])), (.ex (vTup [(.ex (vLit (.str "classes"))), (.ex (vLit .non))]))]))]))))
def m_l_near : Mf := mBody 4 mv_l_near
theorem d_l_near {g : G} (L : LG g) (f : Addr) (cdv : Value) (A : Around) (outer : List Env) (s : Shared) (H : Hp) (E : XK) : PySs g 4 (cxG g N_l_near "_law_near" (defScope (top 43)) f cdv A outer s H E) (WB E) (defBody (top 43)) mv_l_near :=
  (pys_cons (py_sif (py_tcmp ok_eq (py_ex (py_ix ok_ix (py_pk (pv 3)) (py_ex (py_lit pe_int)))) (py_ex (py_lit pe_str))) (pys_cons (py_set (i := 4) (py_tup (pas_cons (py_ex (py_lit pe_str)) (pas_cons (py_ex (py_call (F_l_near_classes L) (B_l_near_classes L) (pas_cons (py_ex (py_var (pv 0))) (pas_cons (py_ex (py_var (pv 1))) (pas_cons (py_ex (py_var (pv 2))) (pas_cons (py_ex (py_ix ok_ix (py_pk (pv 3)) (py_ex (py_lit pe_int)))) pas_nil)))))) pas_nil))))
  (pys_one (py_ret (py_call (F_l_pick L) (B_l_pick L) (pas_cons (py_ex (py_var (pv 0))) (pas_cons (py_ex (py_lst (pas_cons (py_ex (py_var (pv 4))) (pas_cons (py_ex (py_var (pv 4))) (pas_cons (py_ex (py_var (pv 4))) (pas_cons (py_ex (py_callTy ok_lstc (pas_cons (py_pk (pv 3)) pas_nil) L.b_list)) (pas_cons (py_ex (py_bin ok_add (py_ex (py_tup (pas_cons (py_ex (py_lit pe_str)) pas_nil))) (py_ex (py_call (F_l_sum L) (B_l_sum L) (pas_cons (py_ex (py_var (pv 1))) pas_nil))))) (pas_cons (py_ex (py_tup (pas_cons (py_ex (py_lit pe_str)) (pas_cons (py_ex (py_ix ok_ix (py_pk (pv 3)) (py_ex (py_lit pe_int)))) (pas_cons (py_ex (py_lit pe_int)) pas_nil))))) (pas_cons (py_ex (py_ix ok_ix (py_pk (pv 3)) (py_ex (py_lit pe_int)))) (pas_cons (py_ex (py_tup (pas_cons (py_ex (py_lit pe_str)) (pas_cons (py_ex (py_ix ok_ix (py_pk (pv 3)) (py_ex (py_lit pe_int)))) pas_nil)))) pas_nil)))))))))) pas_nil)))))) pys_nil)
  (pys_cons (py_asg (py_var (pv 3)) (pg_tu (pg_cons (pg_nm (i := 5)) (pg_cons (pg_nm (i := 6)) (pg_cons (pg_nm (i := 7)) pg_nil)))))
  (pys_one (py_ret (py_call (F_l_pick L) (B_l_pick L) (pas_cons (py_ex (py_var (pv 0))) (pas_cons (py_ex (py_lst (pas_cons (py_ex (py_tup (pas_cons (py_ex (py_var (pv 5))) (pas_cons (py_ex (py_bin ok_add (py_pk (pv 6)) (py_ex (py_lit pe_int)))) (pas_cons (py_ex (py_var (pv 7))) pas_nil))))) (pas_cons (py_ex (py_tup (pas_cons (py_ex (py_var (pv 5))) (pas_cons (py_ex (py_bin ok_mul (py_ex (py_lit pe_int)) (py_pk (pv 6)))) (pas_cons (py_ex (py_bin ok_mul (py_ex (py_lit pe_int)) (py_pk (pv 7)))) pas_nil))))) (pas_cons (py_ex (py_tup (pas_cons (py_ex (py_var (pv 5))) (pas_cons (py_ex (py_var (pv 6))) (pas_cons (py_ex (py_bin ok_add (py_pk (pv 7)) (py_ex (py_lit pe_int)))) pas_nil))))) (pas_cons (py_ex (py_tup (pas_cons (py_ex (py_var (pv 5))) (pas_cons (py_ex (py_var (pv 6))) pas_nil)))) (pas_cons (py_ex (py_callTy ok_lstc (pas_cons (py_pk (pv 3)) pas_nil) L.b_list)) (pas_cons (py_ex (py_tup (pas_cons (py_ex (py_var (pv 5))) (pas_cons (py_ex (py_lit pe_bl)) (pas_cons (py_ex (py_var (pv 7))) pas_nil))))) (pas_cons (py_ex (py_tup (pas_cons (py_ex (py_var (pv 5))) (pas_cons (py_ex (py_var (pv 6))) (pas_cons (py_ex (py_lit pe_non)) pas_nil))))) (pas_cons (py_ex (py_tup (pas_cons (py_ex (py_lit pe_str)) (pas_cons (py_ex (py_bin ok_mul (py_ex (py_lst (pas_cons (py_ex (py_tup (pas_cons (py_ex (py_lit pe_int)) (pas_cons (py_ex (py_lit pe_int)) pas_nil)))) pas_nil))) (py_ex (py_callB ok_len (pas_cons (py_pk (pv 1)) pas_nil) L.b_len)))) pas_nil)))) (pas_cons (py_ex (py_lit pe_non)) (pas_cons (py_ex (py_tup pas_nil)) (pas_cons (py_ex (py_tup (pas_cons (py_ex (py_var (pv 5))) pas_nil))) (pas_cons (py_ex (py_tup (pas_cons (py_ex (py_lit pe_str)) (pas_cons (py_ex (py_lit pe_non)) pas_nil)))) pas_nil)))))))))))))) pas_nil)))))))
theorem F_l_near {g : G} (L : LG g) : FnM g 5 "_law_near" (fdAt g "_law_near") ["tape", "spans", "hands", "told"] m_l_near := L.d_l_near.fnG sc_l_near rfl fun cdv A outer s H E => d_l_near L _ cdv A outer s H E
def N_l_says : List Str := ["found", "due"]
theorem sc_l_says : FnScope N_l_says ["found", "due"] (defScope (top 31)) := ⟨rfl, rfl, rfl, by decide +kernel, rfl, by decide +kernel, by decide +kernel⟩
theorem B_l_says {g : G} (L : LG g) : Bnd g (fdAt g "_law_says") ["found", "due"] 2 [] (List.range 2) := L.d_l_says.bnd rfl (by decide) fun _ _ _ _ _ _ us ws h1 h2 => match us, ws, h1, h2 with | [_, _], [], _, _ => rfl
def mv_l_says : Sv := (sRet (vIf (tOf (vVar 1)) (vPrim pIs [(.pk 0), (.ex (vLit (.bl true)))]) (vPrim pIs [(.pk 0), (.ex (vLit (.bl false)))])))
def m_l_says : Mf := mBody 0 mv_l_says
theorem d_l_says {g : G} (L : LG g) (f : Addr) (cdv : Value) (A : Around) (outer : List Env) (s : Shared) (H : Hp) (E : XK) : PySs g 0 (cxG g N_l_says "_law_says" (defScope (top 31)) f cdv A outer s H E) (WB E) (defBody (top 31)) mv_l_says :=
  (pys_one (py_ret (py_if (py_tval (py_var (pv 1))) (py_cmp ok_is (py_pk (pv 0)) (py_ex (py_lit pe_bl))) (py_cmp ok_is (py_pk (pv 0)) (py_ex (py_lit pe_bl))))))
theorem F_l_says {g : G} (L : LG g) : FnM g 1 "_law_says" (fdAt g "_law_says") ["found", "due"] m_l_says := L.d_l_says.fnG sc_l_says rfl fun cdv A outer s H E => d_l_says L _ cdv A outer s H E
def N_is_class_paper : List Str := ["spans", "hands", "thing", "item"]
theorem sc_is_class_paper : FnScope N_is_class_paper ["spans", "hands", "thing"] (defScope (top 24)) := ⟨rfl, rfl, rfl, by decide +kernel, rfl, by decide +kernel, by decide +kernel⟩
theorem B_is_class_paper {g : G} (L : LG g) : Bnd g (fdAt g "is_class_paper") ["spans", "hands", "thing"] 3 [] (List.range 3) := L.d_is_class_paper.bnd rfl (by decide) fun _ _ _ _ _ _ us ws h1 h2 => match us, ws, h1, h2 with | [_, _, _], [], _, _ => rfl
def N_classes_right : List Str := ["spans", "hands", "thing", "taken", "job", "item"]
theorem sc_classes_right : FnScope N_classes_right ["spans", "hands", "thing"] (defScope (top 22)) := ⟨rfl, rfl, rfl, by decide +kernel, rfl, by decide +kernel, by decide +kernel⟩
theorem B_classes_right {g : G} (L : LG g) : Bnd g (fdAt g "classes_right") ["spans", "hands", "thing"] 3 [] (List.range 3) := L.d_classes_right.bnd rfl (by decide) fun _ _ _ _ _ _ us ws h1 h2 => match us, ws, h1, h2 with | [_, _, _], [], _, _ => rfl
def mv_classes_right : Sv := (sSeq (sIf (tOrD (tNotD (tOf (vCall m_is_list (List.range 1) [(.ex (vVar 2))]))) (tOf (vPrim pNe [(.ex (vPrim pLen [(.pk 2)])), (.ex (vPrim pLen [(.pk 0)]))]))) (sRet (vLit (.bl false))) sPass)
  (sSeq (sSet 3 vDic0)
  (sSeq (sFor (srcEnum (vVar 2)) (.tu [(.nm 4), (.nm 5)]) (sSeq (sIf (tOrD (tNotD (tOf (vPrim (pIsi sub) [(.pk 5), (.ex (vLit (.ty "tuple")))]))) (tOrD (tOf (vPrim pNe [(.ex (vPrim pLen [(.pk 5)])), (.ex (vLit (.int 2)))])) (tNotD (tOf (vCall m_is_between (List.range 3) [(.ex (vPrim pIx [(.pk 5), (.ex (vLit (.int 0)))])), (.ex (vLit (.int 0))), (.ex (vPrim pSub [(.pk 1), (.ex (vLit (.int 1)))]))]))))) (sRet (vLit (.bl false))) sPass)
  (sSeq (sIf (tOrD (tNotD (tOf (vCall m_is_between (List.range 3) [(.ex (vPrim pIx [(.pk 5), (.ex (vLit (.int 1)))])), (.ex (vLit (.int 0))), (.ex (vPrim pSub [(.ex (vPrim pIx [(.pk 0), (.pk 4)])), (.ex (vLit (.int 1)))]))]))) (tNotD (tOf (vCall m_is_free (List.range 5) [(.ex (vVar 0)), (.pk 3), (.ex (vPrim pIx [(.pk 5), (.ex (vLit (.int 0)))])), (.ex (vPrim pIx [(.pk 5), (.ex (vLit (.int 1)))])), (.ex (vPrim pIx [(.pk 0), (.pk 4)]))])))) (sRet (vLit (.bl false))) sPass)
  (sDPutK 3 (vVar 4) (vVar 5)))))
  (sRet (vLit (.bl true))))))
def m_classes_right : Mf := mBody 3 mv_classes_right
theorem d_classes_right {g : G} (L : LG g) (f : Addr) (cdv : Value) (A : Around) (outer : List Env) (s : Shared) (H : Hp) (E : XK) : PySs g 2 (cxG g N_classes_right "classes_right" (defScope (top 22)) f cdv A outer s H E) (WB E) (defBody (top 22)) mv_classes_right :=
  (pys_cons (py_sif (py_w (py_wor (py_tnot (py_tval (py_call (F_is_list L) (B_is_list L) (pas_cons (py_ex (py_var (pv 2))) pas_nil)))) (py_wor1 (py_tcmp ok_ne (py_ex (py_callB ok_len (pas_cons (py_pk (pv 2)) pas_nil) L.b_len)) (py_ex (py_callB ok_len (pas_cons (py_pk (pv 0)) pas_nil) L.b_len)))))) (pys_one (py_ret (py_lit pe_bl))) pys_nil)
  (pys_cons (py_set (i := 3) py_dic0)
  (pys_cons (py_for (py_enum (py_var (pv 2)) L.b_enumerate) (pg_tu (pg_cons (pg_nm (i := 4)) (pg_cons (pg_nm (i := 5)) pg_nil))) (pys_cons (py_sif (py_w (py_wor (py_tnot (py_tval (py_callB (ok_isi L.isi L.xok) (pas_cons (py_pk (pv 5)) (pas_cons (py_ex (py_gty L.b_tuple)) pas_nil)) L.b_isinstance))) (py_wor (py_tcmp ok_ne (py_ex (py_callB ok_len (pas_cons (py_pk (pv 5)) pas_nil) L.b_len)) (py_ex (py_lit pe_int))) (py_wor1 (py_tnot (py_tval (py_call (F_is_between L) (B_is_between L) (pas_cons (py_ex (py_ix ok_ix (py_pk (pv 5)) (py_ex (py_lit pe_int)))) (pas_cons (py_ex (py_lit pe_int)) (pas_cons (py_ex (py_bin ok_sub (py_pk (pv 1)) (py_ex (py_lit pe_int)))) pas_nil)))))))))) (pys_one (py_ret (py_lit pe_bl))) pys_nil)
  (pys_cons (py_sif (py_w (py_wor (py_tnot (py_tval (py_call (F_is_between L) (B_is_between L) (pas_cons (py_ex (py_ix ok_ix (py_pk (pv 5)) (py_ex (py_lit pe_int)))) (pas_cons (py_ex (py_lit pe_int)) (pas_cons (py_ex (py_bin ok_sub (py_ex (py_ix ok_ix (py_pk (pv 0)) (py_pk (pv 4)))) (py_ex (py_lit pe_int)))) pas_nil)))))) (py_wor1 (py_tnot (py_tval (py_call (F_is_free L) (B_is_free L) (pas_cons (py_ex (py_var (pv 0))) (pas_cons (py_pk (pv 3)) (pas_cons (py_ex (py_ix ok_ix (py_pk (pv 5)) (py_ex (py_lit pe_int)))) (pas_cons (py_ex (py_ix ok_ix (py_pk (pv 5)) (py_ex (py_lit pe_int)))) (pas_cons (py_ex (py_ix ok_ix (py_pk (pv 0)) (py_pk (pv 4)))) pas_nil))))))))))) (pys_one (py_ret (py_lit pe_bl))) pys_nil)
  (pys_one (py_dputK (pv 3) (py_var (pv 5)) (py_var (pv 4)))))))
  (pys_one (py_ret (py_lit pe_bl))))))
theorem F_classes_right {g : G} (L : LG g) : FnM g 3 "classes_right" (fdAt g "classes_right") ["spans", "hands", "thing"] m_classes_right := L.d_classes_right.fnG sc_classes_right rfl fun cdv A outer s H E => d_classes_right L _ cdv A outer s H E
def mv_is_class_paper : Sv := (sSeq (sDrop (vCall m_need_spans_hands (List.range 2) [(.ex (vVar 0)), (.ex (vVar 1))]))
  (sSeq (sIf (tNotD (tOf (vCall m_chain_right (List.range 1) [(.ex (vVar 0))]))) (sRaiseT "NotChain") sPass)
  (sSeq (sIf (tOrD (tNotD (tOf (vPrim (pIsi sub) [(.pk 2), (.ex (vLit (.ty "tuple")))]))) (tOrD (tOf (vPrim pEqT [(.pk 2), (.ex (vTup []))])) (tNotD (tOf (vPrim (pIsi sub) [(.ex (vPrim pIx [(.pk 2), (.ex (vLit (.int 0)))])), (.ex (vLit (.ty "str")))]))))) (sRet (vLit (.bl false))) sPass)
  (sSeq (sIf (tOf (vPrim pEq [(.ex (vPrim pIx [(.pk 2), (.ex (vLit (.int 0)))])), (.ex (vLit (.str "classes")))])) (sRet (vAnd (vPrim pEq [(.ex (vPrim pLen [(.pk 2)])), (.ex (vLit (.int 2)))]) (vCall m_classes_right (List.range 3) [(.ex (vVar 0)), (.ex (vVar 1)), (.ex (vPrim pIx [(.pk 2), (.ex (vLit (.int 1)))]))]))) sPass)
  (sSeq (sIf (tOrD (tOf (vPrim pNe [(.ex (vPrim pIx [(.pk 2), (.ex (vLit (.int 0)))])), (.ex (vLit (.str "sum")))])) (tOrD (tOf (vPrim pNe [(.ex (vPrim pLen [(.pk 2)])), (.ex (vLit (.int 3)))])) (tNotD (tOf (vPrim pAll [(.ex (vLc (srcOf (vPrim pSl10 [(.pk 2), (.ex (vLit (.int 1)))])) (.nm 3) [3] tYesD (vCall m_is_between (List.range 3) [(.ex (vVar 3)), (.ex (vLit (.int 1))), (.ex (vVar 3))])))]))))) (sRet (vLit (.bl false))) sPass)
  (sRet (vAnd (vPrim pEq [(.ex (vPrim pSl10 [(.pk 2), (.ex (vLit (.int 1)))])), (.ex (vCall m_sum_of_shares (List.range 1) [(.ex (vVar 0))]))]) (vPrim pGt [(.ex (vPrim pIx [(.pk 2), (.ex (vLit (.int 1)))])), (.ex (vPrim pMul [(.pk 1), (.ex (vPrim pIx [(.pk 2), (.ex (vLit (.int 2)))]))]))]))))))))
def m_is_class_paper : Mf := mBody 1 mv_is_class_paper
theorem d_is_class_paper {g : G} (L : LG g) (f : Addr) (cdv : Value) (A : Around) (outer : List Env) (s : Shared) (H : Hp) (E : XK) : PySs g 4 (cxG g N_is_class_paper "is_class_paper" (defScope (top 24)) f cdv A outer s H E) (WB E) (defBody (top 24)) mv_is_class_paper :=
  (pys_cons (py_drop (py_call (F_need_spans_hands L) (B_need_spans_hands L) (pas_cons (py_ex (py_var (pv 0))) (pas_cons (py_ex (py_var (pv 1))) pas_nil))))
  (pys_cons (py_sif (py_tnot (py_tval (py_call (F_chain_right L) (B_chain_right L) (pas_cons (py_ex (py_var (pv 0))) pas_nil)))) (pys_one (py_raiseT L.x_NotChain)) pys_nil)
  (pys_cons (py_sif (py_w (py_wor (py_tnot (py_tval (py_callB (ok_isi L.isi L.xok) (pas_cons (py_pk (pv 2)) (pas_cons (py_ex (py_gty L.b_tuple)) pas_nil)) L.b_isinstance))) (py_wor (py_tcmp ok_eqT (py_pk (pv 2)) (py_ex (py_tup pas_nil))) (py_wor1 (py_tnot (py_tval (py_callB (ok_isi L.isi L.xok) (pas_cons (py_ex (py_ix ok_ix (py_pk (pv 2)) (py_ex (py_lit pe_int)))) (pas_cons (py_ex (py_gty L.b_str)) pas_nil)) L.b_isinstance))))))) (pys_one (py_ret (py_lit pe_bl))) pys_nil)
  (pys_cons (py_sif (py_tcmp ok_eq (py_ex (py_ix ok_ix (py_pk (pv 2)) (py_ex (py_lit pe_int)))) (py_ex (py_lit pe_str))) (pys_one (py_ret (py_and (py_cmp ok_eq (py_ex (py_callB ok_len (pas_cons (py_pk (pv 2)) pas_nil) L.b_len)) (py_ex (py_lit pe_int))) (py_one (py_call (F_classes_right L) (B_classes_right L) (pas_cons (py_ex (py_var (pv 0))) (pas_cons (py_ex (py_var (pv 1))) (pas_cons (py_ex (py_ix ok_ix (py_pk (pv 2)) (py_ex (py_lit pe_int)))) pas_nil)))))))) pys_nil)
  (pys_cons (py_sif (py_w (py_wor (py_tcmp ok_ne (py_ex (py_ix ok_ix (py_pk (pv 2)) (py_ex (py_lit pe_int)))) (py_ex (py_lit pe_str))) (py_wor (py_tcmp ok_ne (py_ex (py_callB ok_len (pas_cons (py_pk (pv 2)) pas_nil) L.b_len)) (py_ex (py_lit pe_int))) (py_wor1 (py_tnot (py_tval (py_callB ok_all (pas_cons (py_ex (py_lc (own := [("item", 3)]) (py_src (py_sl10 (py_pk (pv 2)) (py_ex (py_lit pe_int)))) rfl (fun _ _ _ _ _ => (pg_nm (i := 3))) (fun _ _ _ _ _ => pts_no) (fun _ _ _ _ _ => (py_call (F_is_between L) (B_is_between L) (pas_cons (py_ex (py_var (pv 3))) (pas_cons (py_ex (py_lit pe_int)) (pas_cons (py_ex (py_var (pv 3))) pas_nil))))))) pas_nil) L.b_all))))))) (pys_one (py_ret (py_lit pe_bl))) pys_nil)
  (pys_one (py_ret (py_and (py_cmp ok_eq (py_ex (py_sl10 (py_pk (pv 2)) (py_ex (py_lit pe_int)))) (py_ex (py_call (F_sum_of_shares L) (B_sum_of_shares L) (pas_cons (py_ex (py_var (pv 0))) pas_nil)))) (py_one (py_cmp ok_gt (py_ex (py_ix ok_ix (py_pk (pv 2)) (py_ex (py_lit pe_int)))) (py_ex (py_bin ok_mul (py_pk (pv 1)) (py_ex (py_ix ok_ix (py_pk (pv 2)) (py_ex (py_lit pe_int))))))))))))))))
theorem F_is_class_paper {g : G} (L : LG g) : FnM g 5 "is_class_paper" (fdAt g "is_class_paper") ["spans", "hands", "thing"] m_is_class_paper := L.d_is_class_paper.fnG sc_is_class_paper rfl fun cdv A outer s H E => d_is_class_paper L _ cdv A outer s H E
theorem Bk_1 {g : G} (L : LG g) : Bnd g (fdAt g "is_class_paper") ["spans", "hands", "thing"] 0 ["thing", "hands", "spans"] [2, 1, 0] := L.d_is_class_paper.bnd rfl (by decide) fun _ _ _ _ _ _ us ws h1 h2 => match us, ws, h1, h2 with | [], [_, _, _], _, _ => rfl
def mv_l_right : Sv := (sSeq (sPar 3 4 (vCall m_l_sum (List.range 1) [(.ex (vVar 1))]) (vCall m_class_paper (List.range 2) [(.ex (vVar 1)), (.ex (vVar 2))]))
  (sSeq (sIf (tOrD (tOf (vPrim pNe [(.ex (vPrim pEq [(.ex (vPrim pIx [(.pk 4), (.ex (vLit (.int 0)))])), (.ex (vLit (.str "classes")))])), (.ex (vPrim pLe [(.ex (vPrim pIx [(.pk 3), (.ex (vLit (.int 0)))])), (.ex (vPrim pMul [(.pk 2), (.ex (vPrim pIx [(.pk 3), (.ex (vLit (.int 1)))]))]))]))])) (tNotD (tOf (vCall m_l_is_paper (List.range 3) [(.ex (vVar 1)), (.ex (vVar 2)), (.ex (vVar 4))])))) (sRet (vLit (.bl false))) sPass)
  (sSeq (sIf (tOf (vPrim pNe [(.ex (vPrim pIx [(.ex (vCall m_class_paper [1, 0] [(.ex (vVar 2)), (.ex (vPrim pTupC [(.pk 1)]))])), (.ex (vLit (.int 0)))])), (.ex (vPrim pIx [(.pk 4), (.ex (vLit (.int 0)))]))])) (sRet (vLit (.bl false))) sPass)
  (sSeq (sFor (srcR [(.ex (vLit (.int 6)))]) (.nm 5) (sSeq (sSet 6 (vIf (tOf (vPrim pEq [(.pk 5), (.ex (vLit (.int 0)))])) (vVar 4) (vCall m_l_near (List.range 4) [(.ex (vVar 0)), (.ex (vVar 1)), (.ex (vVar 2)), (.ex (vVar 4))])))
  (sSeq (sSet 7 (vCall m_l_is_paper (List.range 3) [(.ex (vVar 1)), (.ex (vVar 2)), (.ex (vVar 6))]))
  (sIf (tOrD (tNotD (tOf (vCall m_l_says (List.range 2) [(.ex (vCall m_is_class_paper (List.range 3) [(.ex (vVar 1)), (.ex (vVar 2)), (.ex (vVar 6))])), (.ex (vVar 7))]))) (tNotD (tOf (vCall m_l_says (List.range 2) [(.ex (vCall m_is_class_paper [2, 1, 0] [(.ex (vVar 6)), (.ex (vVar 2)), (.ex (vPrim pTupC [(.pk 1)]))])), (.ex (vVar 7))])))) (sRet (vLit (.bl false))) sPass))))
  (sRet (vLit (.bl true)))))))
def m_l_right : Mf := mBody 5 mv_l_right
theorem d_l_right {g : G} (L : LG g) (f : Addr) (cdv : Value) (A : Around) (outer : List Env) (s : Shared) (H : Hp) (E : XK) : PySs g 5 (cxG g N_l_right "_law_right" (defScope (top 44)) f cdv A outer s H E) (WB E) (defBody (top 44)) mv_l_right :=
  (pys_cons (py_par (i := 3) (j := 4) (py_call (F_l_sum L) (B_l_sum L) (pas_cons (py_ex (py_var (pv 1))) pas_nil)) (py_call (F_class_paper L) (B_class_paper L) (pas_cons (py_ex (py_var (pv 1))) (pas_cons (py_ex (py_var (pv 2))) pas_nil))))
  (pys_cons (py_sif (py_w (py_wor (py_tcmp ok_ne (py_ex (py_cmp ok_eq (py_ex (py_ix ok_ix (py_pk (pv 4)) (py_ex (py_lit pe_int)))) (py_ex (py_lit pe_str)))) (py_ex (py_cmp ok_le (py_ex (py_ix ok_ix (py_pk (pv 3)) (py_ex (py_lit pe_int)))) (py_ex (py_bin ok_mul (py_pk (pv 2)) (py_ex (py_ix ok_ix (py_pk (pv 3)) (py_ex (py_lit pe_int))))))))) (py_wor1 (py_tnot (py_tval (py_call (F_l_is_paper L) (B_l_is_paper L) (pas_cons (py_ex (py_var (pv 1))) (pas_cons (py_ex (py_var (pv 2))) (pas_cons (py_ex (py_var (pv 4))) pas_nil))))))))) (pys_one (py_ret (py_lit pe_bl))) pys_nil)
  (pys_cons (py_sif (py_tcmp ok_ne (py_ex (py_ix ok_ix (py_ex (py_callK0 (F_class_paper L) (Bk_0 L) (pkw_cons (py_ex (py_var (pv 2))) (pkw_cons (py_ex (py_callTy ok_tupc (pas_cons (py_pk (pv 1)) pas_nil) L.b_tuple)) pkw_nil)))) (py_ex (py_lit pe_int)))) (py_ex (py_ix ok_ix (py_pk (pv 4)) (py_ex (py_lit pe_int))))) (pys_one (py_ret (py_lit pe_bl))) pys_nil)
  (pys_cons (py_for (py_range1 (py_ex (py_lit pe_int)) L.b_range) (pg_nm (i := 5)) (pys_cons (py_set (i := 6) (py_if (py_tcmp ok_eq (py_pk (pv 5)) (py_ex (py_lit pe_int))) (py_var (pv 4)) (py_call (F_l_near L) (B_l_near L) (pas_cons (py_ex (py_var (pv 0))) (pas_cons (py_ex (py_var (pv 1))) (pas_cons (py_ex (py_var (pv 2))) (pas_cons (py_ex (py_var (pv 4))) pas_nil)))))))
  (pys_cons (py_set (i := 7) (py_call (F_l_is_paper L) (B_l_is_paper L) (pas_cons (py_ex (py_var (pv 1))) (pas_cons (py_ex (py_var (pv 2))) (pas_cons (py_ex (py_var (pv 6))) pas_nil)))))
  (pys_one (py_sif (py_w (py_wor (py_tnot (py_tval (py_call (F_l_says L) (B_l_says L) (pas_cons (py_ex (py_call (F_is_class_paper L) (B_is_class_paper L) (pas_cons (py_ex (py_var (pv 1))) (pas_cons (py_ex (py_var (pv 2))) (pas_cons (py_ex (py_var (pv 6))) pas_nil))))) (pas_cons (py_ex (py_var (pv 7))) pas_nil))))) (py_wor1 (py_tnot (py_tval (py_call (F_l_says L) (B_l_says L) (pas_cons (py_ex (py_callK0 (F_is_class_paper L) (Bk_1 L) (pkw_cons (py_ex (py_var (pv 6))) (pkw_cons (py_ex (py_var (pv 2))) (pkw_cons (py_ex (py_callTy ok_tupc (pas_cons (py_pk (pv 1)) pas_nil) L.b_tuple)) pkw_nil))))) (pas_cons (py_ex (py_var (pv 7))) pas_nil)))))))) (pys_one (py_ret (py_lit pe_bl))) pys_nil)))))
  (pys_one (py_ret (py_lit pe_bl)))))))
theorem F_l_right {g : G} (L : LG g) : FnM g 6 "_law_right" (fdAt g "_law_right") ["tape", "spans", "hands"] m_l_right := L.d_l_right.fnG sc_l_right rfl fun cdv A outer s H E => d_l_right L _ cdv A outer s H E
def N_l_caught : List Str := ["work", "found", "error"]
theorem sc_l_caught : FnScope N_l_caught ["work"] (defScope (top 30)) := ⟨rfl, rfl, rfl, by decide +kernel, rfl, by decide +kernel, by decide +kernel⟩
theorem B_l_caught {g : G} (L : LG g) : Bnd g (fdAt g "_law_caught") ["work"] 1 [] (List.range 1) := L.d_l_caught.bnd rfl (by decide) fun _ _ _ _ _ _ us ws h1 h2 => match us, ws, h1, h2 with | [_], [], _, _ => rfl
def NL_5 : List Str := ["ask", "spans", "hands"]
theorem ns_5 : NdefX.NScope NL_5 [] ["ask", "spans", "hands"] LE_5.scope := NdefX.nscope_by (by decide +kernel)
def apf_class_paper : Ap := apFn "class_paper" 2 m_class_paper
theorem P_apf_class_paper {g : G} (L : LG g) : ApOk g 5 apf_class_paper := apFn_ok (L.d_class_paper.any (F_class_paper L) rfl fun _ _ _ _ _ _ us h => match us, h with | [_, _], _ => rfl)
def NL_3 : List Str := ["one", "two"]
theorem ns_3 : NdefX.NScope NL_3 ["one", "two"] [] LE_3.scope := NdefX.nscope_by (by decide +kernel)
def ev_apl_3_0 : Ev := (vCall m_is_class_paper (List.range 3) [(.ex (vVar 0)), (.ex (vVar 1)), (.ex (vLit .non))])
theorem e_apl_3_0 {g : G} (L : LG g) (cl : List (Str × Addr)) (c f : Addr) (A : Around) (outer : List Env) (s : Shared) (H : Hp) (E : XK) : PyE g 5 (cxL g NL_3 LE_3 cl c f A outer s H E) (WB E) LE_3.body ev_apl_3_0 :=
  (py_call (F_is_class_paper L) (B_is_class_paper L) (pas_cons (py_ex (py_var (pv 0))) (pas_cons (py_ex (py_var (pv 1))) (pas_cons (py_ex (py_lit pe_non)) pas_nil))))
def apl_3_0 : Ap := apClo 3 2 0 ev_apl_3_0
theorem P_apl_3_0 {g : G} (L : LG g) : ApOk g 6 apl_3_0 := apClo_ok (clo_any L.l_3 ns_3 rfl rfl (fun _ _ _ _ us h => match us, h with | [_, _], _ => rfl) fun cl c f A outer s H E => e_apl_3_0 L cl c f A outer s H E)
def apo_0 : Ap := apOr apf_class_paper apl_3_0
theorem P_apo_0 {g : G} (L : LG g) : ApOk g 6 apo_0 := apOr_ok (P_apf_class_paper L) (P_apl_3_0 L)
def ev_apl_5_0 : Ev := (vCallV apo_0 0 [(.ex (vVar 1)), (.ex (vVar 2))])
theorem e_apl_5_0 {g : G} (L : LG g) (cl : List (Str × Addr)) (c f : Addr) (A : Around) (outer : List Env) (s : Shared) (H : Hp) (E : XK) : PyE g 6 (cxL g NL_5 LE_5 cl c f A outer s H E) (WB E) LE_5.body ev_apl_5_0 :=
  (py_callV (P_apo_0 L) (pv 0) (pas_cons (py_ex (py_var (pv 1))) (pas_cons (py_ex (py_var (pv 2))) pas_nil)))
def apl_5_0 : Ap := apClo 5 0 0 ev_apl_5_0
theorem P_apl_5_0 {g : G} (L : LG g) : ApOk g 7 apl_5_0 := apClo_ok (clo_any L.l_5 ns_5 rfl rfl (fun _ _ _ _ us h => match us, h with | [], _ => rfl) fun cl c f A outer s H E => e_apl_5_0 L cl c f A outer s H E)
def mv_l_caught_i0 : Sv := (sSeq (sSet 1 (vLit .non))
  (sSeq (sTry (sDrop (vCallV apl_5_0 0 [])) catch_AgainError 2 1)
  (sRet (vMove 1))))
def m_l_caught_i0 : Mf := mBody 2 mv_l_caught_i0
theorem d_l_caught_i0 {g : G} (L : LG g) (f : Addr) (cdv : Value) (A : Around) (outer : List Env) (s : Shared) (H : Hp) (E : XK) : PySs g 7 (cxG g N_l_caught "_law_caught" (defScope (top 30)) f cdv A outer s H E) (WB E) (defBody (top 30)) mv_l_caught_i0 :=
  (pys_cons (py_set (i := 1) (py_lit pe_non))
  (pys_cons (py_try (i := 2) (j := 1) L.catch_AgainError fun _ _ _ => (pys_one (py_drop (py_callV0 (P_apl_5_0 L) (pv 0)))))
  (pys_one (py_ret (py_move (pv 1))))))
theorem F_l_caught_i0 {g : G} (L : LG g) : FnM g 8 "_law_caught" (fdAt g "_law_caught") ["work"] m_l_caught_i0 := L.d_l_caught.fnG sc_l_caught rfl fun cdv A outer s H E => d_l_caught_i0 L _ cdv A outer s H E
def NL_2 : List Str := ["ask", "odd"]
theorem ns_2 : NdefX.NScope NL_2 [] ["ask", "odd"] LE_2.scope := NdefX.nscope_by (by decide +kernel)
def NL_1 : List Str := ["one", "two"]
theorem ns_1 : NdefX.NScope NL_1 ["one", "two"] [] LE_1.scope := NdefX.nscope_by (by decide +kernel)
def ev_apl_1_0 : Ev := (vCall m_is_class_paper (List.range 3) [(.ex (vVar 0)), (.ex (vVar 1)), (.ex (vLit .non))])
theorem e_apl_1_0 {g : G} (L : LG g) (cl : List (Str × Addr)) (c f : Addr) (A : Around) (outer : List Env) (s : Shared) (H : Hp) (E : XK) : PyE g 5 (cxL g NL_1 LE_1 cl c f A outer s H E) (WB E) LE_1.body ev_apl_1_0 :=
  (py_call (F_is_class_paper L) (B_is_class_paper L) (pas_cons (py_ex (py_var (pv 0))) (pas_cons (py_ex (py_var (pv 1))) (pas_cons (py_ex (py_lit pe_non)) pas_nil))))
def apl_1_0 : Ap := apClo 1 2 0 ev_apl_1_0
theorem P_apl_1_0 {g : G} (L : LG g) : ApOk g 6 apl_1_0 := apClo_ok (clo_any L.l_1 ns_1 rfl rfl (fun _ _ _ _ us h => match us, h with | [_, _], _ => rfl) fun cl c f A outer s H E => e_apl_1_0 L cl c f A outer s H E)
def apo_2 : Ap := apOr apf_class_paper apl_1_0
theorem P_apo_2 {g : G} (L : LG g) : ApOk g 6 apo_2 := apOr_ok (P_apf_class_paper L) (P_apl_1_0 L)
def ev_apl_2_0 : Ev := (vCallV apo_2 0 [(.ex (vLst [(.ex (vLit (.int 2))), (.ex (vLit (.int 3)))])), (.ex (vVar 1))])
theorem e_apl_2_0 {g : G} (L : LG g) (cl : List (Str × Addr)) (c f : Addr) (A : Around) (outer : List Env) (s : Shared) (H : Hp) (E : XK) : PyE g 6 (cxL g NL_2 LE_2 cl c f A outer s H E) (WB E) LE_2.body ev_apl_2_0 :=
  (py_callV (P_apo_2 L) (pv 0) (pas_cons (py_ex (py_lst (pas_cons (py_ex (py_lit pe_int)) (pas_cons (py_ex (py_lit pe_int)) pas_nil)))) (pas_cons (py_ex (py_var (pv 1))) pas_nil)))
def apl_2_0 : Ap := apClo 2 0 0 ev_apl_2_0
theorem P_apl_2_0 {g : G} (L : LG g) : ApOk g 7 apl_2_0 := apClo_ok (clo_any L.l_2 ns_2 rfl rfl (fun _ _ _ _ us h => match us, h with | [], _ => rfl) fun cl c f A outer s H E => e_apl_2_0 L cl c f A outer s H E)
def mv_l_caught_i1 : Sv := (sSeq (sSet 1 (vLit .non))
  (sSeq (sTry (sDrop (vCallV apl_2_0 0 [])) catch_AgainError 2 1)
  (sRet (vMove 1))))
def m_l_caught_i1 : Mf := mBody 2 mv_l_caught_i1
theorem d_l_caught_i1 {g : G} (L : LG g) (f : Addr) (cdv : Value) (A : Around) (outer : List Env) (s : Shared) (H : Hp) (E : XK) : PySs g 7 (cxG g N_l_caught "_law_caught" (defScope (top 30)) f cdv A outer s H E) (WB E) (defBody (top 30)) mv_l_caught_i1 :=
  (pys_cons (py_set (i := 1) (py_lit pe_non))
  (pys_cons (py_try (i := 2) (j := 1) L.catch_AgainError fun _ _ _ => (pys_one (py_drop (py_callV0 (P_apl_2_0 L) (pv 0)))))
  (pys_one (py_ret (py_move (pv 1))))))
theorem F_l_caught_i1 {g : G} (L : LG g) : FnM g 8 "_law_caught" (fdAt g "_law_caught") ["work"] m_l_caught_i1 := L.d_l_caught.fnG sc_l_caught rfl fun cdv A outer s H E => d_l_caught_i1 L _ cdv A outer s H E
def N_l_refuses : List Str := ["tape", "ask", "wrong", "index", "caught"]
theorem sc_l_refuses : FnScope N_l_refuses ["tape", "ask"] (defScope (top 41)) := ⟨rfl, rfl, rfl, by decide +kernel, rfl, by decide +kernel, by decide +kernel⟩
theorem B_l_refuses {g : G} (L : LG g) : Bnd g (fdAt g "_law_refuses") ["tape", "ask"] 2 [] (List.range 2) := L.d_l_refuses.bnd rfl (by decide) fun _ _ _ _ _ _ us ws h1 h2 => match us, ws, h1, h2 with | [_, _], [], _, _ => rfl
def N_l_bad_spans : List Str := ["tape", "odd", "at"]
theorem sc_l_bad_spans : FnScope N_l_bad_spans ["tape"] (defScope (top 40)) := ⟨rfl, rfl, rfl, by decide +kernel, rfl, by decide +kernel, by decide +kernel⟩
theorem B_l_bad_spans {g : G} (L : LG g) : Bnd g (fdAt g "_law_bad_spans") ["tape"] 1 [] (List.range 1) := L.d_l_bad_spans.bnd rfl (by decide) fun _ _ _ _ _ _ us ws h1 h2 => match us, ws, h1, h2 with | [_], [], _, _ => rfl
def mv_l_bad_spans : Sv := (sSeq (sPar 1 2 (vCall m_l_pick (List.range 2) [(.ex (vVar 0)), (.ex (vLst [(.ex (vLit (.int 0))), (.ex (vLit (.int 61))), (.ex (vPrim pNeg [(.ex (vLit (.int 1)))])), (.ex (vLit (.bl true))), (.ex (vLit .non)), (.ex (vLit (.str "2")))]))]) (vCall m_l_draw (List.range 2) [(.ex (vVar 0)), (.ex (vLit (.int 5)))]))
  (sRet (vCall m_l_pick (List.range 2) [(.ex (vVar 0)), (.ex (vLst [(.ex (vTup [(.ex (vLit .non)), (.ex (vLit .non))])), (.ex (vTup [(.ex (vLst [])), (.ex (vLit .non))])), (.ex (vTup [(.ex (vPrim pMul [(.ex (vLst [(.ex (vLit (.int 2)))])), (.ex (vLit (.int 7)))])), (.ex (vLit .non))])), (.ex (vTup [(.ex (vLit (.int 5))), (.ex (vLit .non))])), (.ex (vTup [(.ex vDic0), (.ex (vLit .non))])), (.ex (vTup [(.ex (vPrim pAdd [(.ex (vPrim pMul [(.ex (vLst [(.ex (vLit (.int 2)))])), (.pk 2)])), (.ex (vLst [(.ex (vVar 1))]))])), (.ex (vVar 2))])), (.ex (vTup [(.ex (vPrim pAdd [(.ex (vPrim pMul [(.ex (vLst [(.ex (vLit (.int 60)))])), (.pk 2)])), (.ex (vLst [(.ex (vVar 1)), (.ex (vLit (.int 0)))]))])), (.ex (vVar 2))]))]))])))
def m_l_bad_spans : Mf := mBody 2 mv_l_bad_spans
theorem d_l_bad_spans {g : G} (L : LG g) (f : Addr) (cdv : Value) (A : Around) (outer : List Env) (s : Shared) (H : Hp) (E : XK) : PySs g 3 (cxG g N_l_bad_spans "_law_bad_spans" (defScope (top 40)) f cdv A outer s H E) (WB E) (defBody (top 40)) mv_l_bad_spans :=
  (pys_cons (py_par (i := 1) (j := 2) (py_call (F_l_pick L) (B_l_pick L) (pas_cons (py_ex (py_var (pv 0))) (pas_cons (py_ex (py_lst (pas_cons (py_ex (py_lit pe_int)) (pas_cons (py_ex (py_lit pe_int)) (pas_cons (py_ex (py_un ok_neg (py_ex (py_lit pe_int)))) (pas_cons (py_ex (py_lit pe_bl)) (pas_cons (py_ex (py_lit pe_non)) (pas_cons (py_ex (py_lit pe_str)) pas_nil)))))))) pas_nil))) (py_call (F_l_draw L) (B_l_draw L) (pas_cons (py_ex (py_var (pv 0))) (pas_cons (py_ex (py_lit pe_int)) pas_nil))))
  (pys_one (py_ret (py_call (F_l_pick L) (B_l_pick L) (pas_cons (py_ex (py_var (pv 0))) (pas_cons (py_ex (py_lst (pas_cons (py_ex (py_tup (pas_cons (py_ex (py_lit pe_non)) (pas_cons (py_ex (py_lit pe_non)) pas_nil)))) (pas_cons (py_ex (py_tup (pas_cons (py_ex (py_lst pas_nil)) (pas_cons (py_ex (py_lit pe_non)) pas_nil)))) (pas_cons (py_ex (py_tup (pas_cons (py_ex (py_bin ok_mul (py_ex (py_lst (pas_cons (py_ex (py_lit pe_int)) pas_nil))) (py_ex (py_lit pe_int)))) (pas_cons (py_ex (py_lit pe_non)) pas_nil)))) (pas_cons (py_ex (py_tup (pas_cons (py_ex (py_lit pe_int)) (pas_cons (py_ex (py_lit pe_non)) pas_nil)))) (pas_cons (py_ex (py_tup (pas_cons (py_ex py_dic0) (pas_cons (py_ex (py_lit pe_non)) pas_nil)))) (pas_cons (py_ex (py_tup (pas_cons (py_ex (py_bin ok_add (py_ex (py_bin ok_mul (py_ex (py_lst (pas_cons (py_ex (py_lit pe_int)) pas_nil))) (py_pk (pv 2)))) (py_ex (py_lst (pas_cons (py_ex (py_var (pv 1))) pas_nil))))) (pas_cons (py_ex (py_var (pv 2))) pas_nil)))) (pas_cons (py_ex (py_tup (pas_cons (py_ex (py_bin ok_add (py_ex (py_bin ok_mul (py_ex (py_lst (pas_cons (py_ex (py_lit pe_int)) pas_nil))) (py_pk (pv 2)))) (py_ex (py_lst (pas_cons (py_ex (py_var (pv 1))) (pas_cons (py_ex (py_lit pe_int)) pas_nil)))))) (pas_cons (py_ex (py_var (pv 2))) pas_nil)))) pas_nil))))))))) pas_nil))))))
theorem F_l_bad_spans {g : G} (L : LG g) : FnM g 4 "_law_bad_spans" (fdAt g "_law_bad_spans") ["tape"] m_l_bad_spans := L.d_l_bad_spans.fnG sc_l_bad_spans rfl fun cdv A outer s H E => d_l_bad_spans L _ cdv A outer s H E
def NL_0 : List Str := ["ask", "wrong"]
theorem ns_0 : NdefX.NScope NL_0 [] ["ask", "wrong"] LE_0.scope := NdefX.nscope_by (by decide +kernel)
def NL_4 : List Str := ["one", "ask", "odd"]
theorem ns_4 : NdefX.NScope NL_4 ["one"] ["ask", "odd"] LE_4.scope := NdefX.nscope_by (by decide +kernel)
def ev_apl_4_0 : Ev := (vCallV apo_2 1 [(.ex (vVar 0)), (.ex (vVar 2))])
theorem e_apl_4_0 {g : G} (L : LG g) (cl : List (Str × Addr)) (c f : Addr) (A : Around) (outer : List Env) (s : Shared) (H : Hp) (E : XK) : PyE g 6 (cxL g NL_4 LE_4 cl c f A outer s H E) (WB E) LE_4.body ev_apl_4_0 :=
  (py_callV (P_apo_2 L) (pv 1) (pas_cons (py_ex (py_var (pv 0))) (pas_cons (py_ex (py_var (pv 2))) pas_nil)))
def apl_4_0 : Ap := apClo 4 1 0 ev_apl_4_0
theorem P_apl_4_0 {g : G} (L : LG g) : ApOk g 7 apl_4_0 := apClo_ok (clo_any L.l_4 ns_4 rfl rfl (fun _ _ _ _ us h => match us, h with | [_], _ => rfl) fun cl c f A outer s H E => e_apl_4_0 L cl c f A outer s H E)
def ev_apl_0_0 : Ev := (vCallV apl_4_0 0 [(.ex (vVar 1))])
theorem e_apl_0_0 {g : G} (L : LG g) (cl : List (Str × Addr)) (c f : Addr) (A : Around) (outer : List Env) (s : Shared) (H : Hp) (E : XK) : PyE g 7 (cxL g NL_0 LE_0 cl c f A outer s H E) (WB E) LE_0.body ev_apl_0_0 :=
  (py_callV (P_apl_4_0 L) (pv 0) (pas_cons (py_ex (py_var (pv 1))) pas_nil))
def apl_0_0 : Ap := apClo 0 0 0 ev_apl_0_0
theorem P_apl_0_0 {g : G} (L : LG g) : ApOk g 8 apl_0_0 := apClo_ok (clo_any L.l_0 ns_0 rfl rfl (fun _ _ _ _ us h => match us, h with | [], _ => rfl) fun cl c f A outer s H E => e_apl_0_0 L cl c f A outer s H E)
def mv_l_caught_i2 : Sv := (sSeq (sSet 1 (vLit .non))
  (sSeq (sTry (sDrop (vCallV apl_0_0 0 [])) catch_AgainError 2 1)
  (sRet (vMove 1))))
def m_l_caught_i2 : Mf := mBody 2 mv_l_caught_i2
theorem d_l_caught_i2 {g : G} (L : LG g) (f : Addr) (cdv : Value) (A : Around) (outer : List Env) (s : Shared) (H : Hp) (E : XK) : PySs g 8 (cxG g N_l_caught "_law_caught" (defScope (top 30)) f cdv A outer s H E) (WB E) (defBody (top 30)) mv_l_caught_i2 :=
  (pys_cons (py_set (i := 1) (py_lit pe_non))
  (pys_cons (py_try (i := 2) (j := 1) L.catch_AgainError fun _ _ _ => (pys_one (py_drop (py_callV0 (P_apl_0_0 L) (pv 0)))))
  (pys_one (py_ret (py_move (pv 1))))))
theorem F_l_caught_i2 {g : G} (L : LG g) : FnM g 9 "_law_caught" (fdAt g "_law_caught") ["work"] m_l_caught_i2 := L.d_l_caught.fnG sc_l_caught rfl fun cdv A outer s H E => d_l_caught_i2 L _ cdv A outer s H E
def mv_l_refuses_i0 : Sv := (sSeq (sAsg (vCall m_l_bad_spans (List.range 1) [(.ex (vVar 0))]) (.tu [(.nm 2), (.nm 3)]))
  (sSeq (sSet 4 (vCallL m_l_caught_i2 1 [] 0 [1, 2] []))
  (sRet (vAnd (vPrim (pIsi sub) [(.pk 4), (.ex (vLit (.fn "BadSpans")))]) (vPrim pEq [(.ex (vFld "index" has_index (vVar 4))), (.pk 3)])))))
def m_l_refuses_i0 : Mf := mBody 3 mv_l_refuses_i0
theorem d_l_refuses_i0 {g : G} (L : LG g) {c : Addr} (hT : TabK g c "_law_refuses.<locals>.<lambda>") (f : Addr) (A : Around) (outer : List Env) (s : Shared) (H : Hp) (E : XK) : PySs g 9 (cxG g N_l_refuses "_law_refuses" (defScope (top 41)) f (.ref c) A outer s H E) (WB E) (defBody (top 41)) mv_l_refuses_i0 :=
  (pys_cons (py_asg (py_call (F_l_bad_spans L) (B_l_bad_spans L) (pas_cons (py_ex (py_var (pv 0))) pas_nil)) (pg_tu (pg_cons (pg_nm (i := 2)) (pg_cons (pg_nm (i := 3)) pg_nil))))
  (pys_cons (py_set (i := 4) (py_callL (F_l_caught_i2 L) (B_l_caught L) L.l_0 (caps_of (N := N_l_refuses) (sc := (defScope (top 41)).names) (by decide +kernel)) (pal_here (lamIn_of (l := LE_0) (sc := (defScope (top 41)).names) hT (by decide +kernel)) pas_nil)))
  (pys_one (py_ret (py_and (py_callB (ok_isi L.isi L.xok) (pas_cons (py_pk (pv 4)) (pas_cons (py_ex (py_gfn L.r_BadSpans)) pas_nil)) L.b_isinstance) (py_one (py_cmp ok_eq (py_ex (py_fld L.fld_index (py_var (pv 4)))) (py_pk (pv 3)))))))))
theorem F_l_refuses_i0 {g : G} (L : LG g) : FnM g 10 "_law_refuses" (fdAt g "_law_refuses") ["tape", "ask"] m_l_refuses_i0 := by
  obtain ⟨c, hC, hT⟩ := L.c_l_refuses
  exact L.d_l_refuses.fnGC hC sc_l_refuses rfl fun A outer s H E => d_l_refuses_i0 L hT _ A outer s H E
def mv_law : Sv := (sSeq (sFor (srcR [(.ex (vPrim pAdd [(.ex (vLit (.int 4))), (.ex (vPrim pMin [(.ex (vPrim pLen [(.pk 0)])), (.ex (vLit (.int 8)))]))]))]) (.nm 2) (sSeq (sSet 3 (vPrim pAdd [(.ex (vLit (.int 1))), (.ex (vCall m_l_draw (List.range 2) [(.ex (vVar 1)), (.ex (vLit (.int 4)))]))]))
  (sSeq (sSet 4 (vCall m_l_pick (List.range 2) [(.ex (vVar 1)), (.ex (vLst [(.ex (vCall m_l_spans (List.range 2) [(.ex (vVar 1)), (.ex (vLit (.int 12)))])), (.ex (vCall m_l_spans (List.range 2) [(.ex (vVar 1)), (.ex (vLit (.int 60)))])), (.ex (vCall m_l_full (List.range 2) [(.ex (vVar 1)), (.ex (vVar 3))]))]))]))
  (sIf (tOf (vCall m_l_is_chain (List.range 1) [(.ex (vVar 4))])) (sIf (tNotD (tOf (vCall m_l_right (List.range 3) [(.ex (vVar 1)), (.ex (vVar 4)), (.ex (vVar 3))]))) (sRet (vLit (.bl false))) sPass) (sFor (srcOf (vLst [(.ex (vLit (.fn "class_paper"))), (.ex (vLam0 3))])) (.nm 5) (sIf (tNotD (tOf (vPrim (pIsi sub) [(.ex (vCallL m_l_caught_i0 1 [] 5 [5, 4, 3] [])), (.ex (vLit (.fn "NotChain")))]))) (sRet (vLit (.bl false))) sPass))))))
  (sSeq (sSet 6 (vCall m_l_pick (List.range 2) [(.ex (vVar 1)), (.ex (vLst [(.ex (vLit (.int 0))), (.ex (vLit (.int 5))), (.ex (vLit .non)), (.ex (vLit (.bl true)))]))]))
  (sSeq (sFor (srcOf (vLst [(.ex (vLit (.fn "class_paper"))), (.ex (vLam0 1))])) (.nm 5) (sSeq (sSet 7 (vCallL m_l_caught_i1 1 [] 2 [5, 6] []))
  (sIf (tOrD (tNotD (tOf (vPrim (pIsi sub) [(.pk 7), (.ex (vLit (.fn "BadNumber")))]))) (tOrD (tOf (vPrim pNe [(.ex (vFld "part" has_part (vVar 7))), (.ex (vLit (.str "hands")))])) (tNotD (tOf (vCallL m_l_refuses_i0 2 [(.ex (vVar 1))] 4 [5, 6] []))))) (sRet (vLit (.bl false))) sPass)))
  (sRet (vLit (.bl true))))))
theorem d_law {g : G} (L : LG g) {c : Addr} (hT : TabK g c "law.<locals>.<lambda>") (f : Addr) (A : Around) (outer : List Env) (s : Shared) (H : Hp) (E : XK) : PySs g 10 (cxG g N_law "law" (defScope (top 46)) f (.ref c) A outer s H E) (WB E) ((defBody (top 46)).drop 1) mv_law :=
  (pys_cons (py_for (py_range1 (py_ex (py_bin ok_add (py_ex (py_lit pe_int)) (py_ex (py_callB ok_min (pas_cons (py_ex (py_callB ok_len (pas_cons (py_pk (pv 0)) pas_nil) L.b_len)) (pas_cons (py_ex (py_lit pe_int)) pas_nil)) L.b_min)))) L.b_range) (pg_nm (i := 2)) (pys_cons (py_set (i := 3) (py_bin ok_add (py_ex (py_lit pe_int)) (py_ex (py_call (F_l_draw L) (B_l_draw L) (pas_cons (py_ex (py_var (pv 1))) (pas_cons (py_ex (py_lit pe_int)) pas_nil))))))
  (pys_cons (py_set (i := 4) (py_call (F_l_pick L) (B_l_pick L) (pas_cons (py_ex (py_var (pv 1))) (pas_cons (py_ex (py_lst (pas_cons (py_ex (py_call (F_l_spans L) (B_l_spans L) (pas_cons (py_ex (py_var (pv 1))) (pas_cons (py_ex (py_lit pe_int)) pas_nil)))) (pas_cons (py_ex (py_call (F_l_spans L) (B_l_spans L) (pas_cons (py_ex (py_var (pv 1))) (pas_cons (py_ex (py_lit pe_int)) pas_nil)))) (pas_cons (py_ex (py_call (F_l_full L) (B_l_full L) (pas_cons (py_ex (py_var (pv 1))) (pas_cons (py_ex (py_var (pv 3))) pas_nil)))) pas_nil))))) pas_nil))))
  (pys_one (py_sif (py_tval (py_call (F_l_is_chain L) (B_l_is_chain L) (pas_cons (py_ex (py_var (pv 4))) pas_nil))) (pys_one (py_sif (py_tnot (py_tval (py_call (F_l_right L) (B_l_right L) (pas_cons (py_ex (py_var (pv 1))) (pas_cons (py_ex (py_var (pv 4))) (pas_cons (py_ex (py_var (pv 3))) pas_nil)))))) (pys_one (py_ret (py_lit pe_bl))) pys_nil)) (pys_one (py_for (py_src (py_lst (pas_cons (py_ex (py_gfn L.r_class_paper)) (pas_cons (py_ex (py_lam0 (lamIn_of (l := LE_3) (sc := (defScope (top 46)).names) hT (by decide +kernel)) L.l_3 (by decide +kernel))) pas_nil)))) (pg_nm (i := 5)) (pys_one (py_sif (py_tnot (py_tval (py_callB (ok_isi L.isi L.xok) (pas_cons (py_ex (py_callL (F_l_caught_i0 L) (B_l_caught L) L.l_5 (caps_of (N := N_law) (sc := (defScope (top 46)).names) (by decide +kernel)) (pal_here (lamIn_of (l := LE_5) (sc := (defScope (top 46)).names) hT (by decide +kernel)) pas_nil))) (pas_cons (py_ex (py_gfn L.r_NotChain)) pas_nil)) L.b_isinstance))) (pys_one (py_ret (py_lit pe_bl))) pys_nil)))))))))
  (pys_cons (py_set (i := 6) (py_call (F_l_pick L) (B_l_pick L) (pas_cons (py_ex (py_var (pv 1))) (pas_cons (py_ex (py_lst (pas_cons (py_ex (py_lit pe_int)) (pas_cons (py_ex (py_lit pe_int)) (pas_cons (py_ex (py_lit pe_non)) (pas_cons (py_ex (py_lit pe_bl)) pas_nil)))))) pas_nil))))
  (pys_cons (py_for (py_src (py_lst (pas_cons (py_ex (py_gfn L.r_class_paper)) (pas_cons (py_ex (py_lam0 (lamIn_of (l := LE_1) (sc := (defScope (top 46)).names) hT (by decide +kernel)) L.l_1 (by decide +kernel))) pas_nil)))) (pg_nm (i := 5)) (pys_cons (py_set (i := 7) (py_callL (F_l_caught_i1 L) (B_l_caught L) L.l_2 (caps_of (N := N_law) (sc := (defScope (top 46)).names) (by decide +kernel)) (pal_here (lamIn_of (l := LE_2) (sc := (defScope (top 46)).names) hT (by decide +kernel)) pas_nil)))
  (pys_one (py_sif (py_w (py_wor (py_tnot (py_tval (py_callB (ok_isi L.isi L.xok) (pas_cons (py_pk (pv 7)) (pas_cons (py_ex (py_gfn L.r_BadNumber)) pas_nil)) L.b_isinstance))) (py_wor (py_tcmp ok_ne (py_ex (py_fld L.fld_part (py_var (pv 7)))) (py_ex (py_lit pe_str))) (py_wor1 (py_tnot (py_tval (py_callL (F_l_refuses_i0 L) (B_l_refuses L) L.l_4 (caps_of (N := N_law) (sc := (defScope (top 46)).names) (by decide +kernel)) (pal_cons (py_ex (py_var (pv 1))) (pal_here (lamIn_of (l := LE_4) (sc := (defScope (top 46)).names) hT (by decide +kernel)) pas_nil))))))))) (pys_one (py_ret (py_lit pe_bl))) pys_nil))))
  (pys_one (py_ret (py_lit pe_bl))))))
def N_l_begun : List Str := ["script", "large", "grain"]
theorem sc_l_begun : FnScope N_l_begun ["script"] (defScope (top 26)) := ⟨rfl, rfl, rfl, by decide +kernel, rfl, by decide +kernel, by decide +kernel⟩
theorem B_l_begun {g : G} (L : LG g) : Bnd g (fdAt g "_law_begun") ["script"] 1 [] (List.range 1) := L.d_l_begun.bnd rfl (by decide) fun _ _ _ _ _ _ us ws h1 h2 => match us, ws, h1, h2 with | [_], [], _, _ => rfl
theorem FB_l_begun {g : G} (L : LG g) : FnB g 1 (fAt g "_law_begun") (fdAt g "_law_begun") ["script"] lgA clA 63 :=
  begunA (k := 0) (pos1 := ⟨0, 0, 0, 0⟩) (evL := evLA) (evC := evCA) L.d_l_begun.fn sc_l_begun rfl rfl (fun cdv A outer s H E => (py_setLc (i := 1) (own := [("grain", 2)]) (py_srcScr (pv 0)) rfl (fun _ _ _ _ _ => (pg_nm (i := 2))) (fun _ _ _ _ _ => (pts_if (py_tcmp ok_ge (py_ex (py_callB ok_abs (pas_cons (py_pk (pv 2)) pas_nil) L.b_abs)) (py_ex (py_bin ok_pow (py_ex (py_lit pe_int)) (py_ex (py_lit pe_int))))))) (fun _ _ _ _ _ => (py_bin ok_sub (py_ex (py_callB ok_abs (pas_cons (py_pk (pv 2)) pas_nil) L.b_abs)) (py_ex (py_bin ok_pow (py_ex (py_lit pe_int)) (py_ex (py_lit pe_int)))))))) (fun cdv A outer s H E => pv 1) (fun cdv A outer s H E => (py_lc (own := [("grain", 2)]) (py_srcScr (pv 0)) rfl (fun _ _ _ _ _ => (pg_nm (i := 2))) (fun _ _ _ _ _ => pts_no) (fun _ _ _ _ _ => (py_callB ok_abs (pas_cons (py_pk (pv 2)) pas_nil) L.b_abs)))) (fun ns h => evLA_eq ns h) (fun ns h => evCA_eq ns h _) (by decide) L.tkm
theorem law_run {g : G} (L : LG g) {ns : List Int} (hlen : ns.length ≤ 63) (plain : ∃ τ', mv_law (.fz (.script ns) :: .fz .tape :: List.replicate 6 .un) ⟨lgA ns, 0, clA ns, 0⟩ = .rt (.fz (.bl true)) τ')
    {s : Shared} {H : Hp} {a : Addr} (e0 : Env0 g.prog g.w g.K g.mg g.base callerA [] s H) (hT : ∀ p ∈ g.T, H p.1 = some (.tbl #[])) (hq : SqL g.K H a (ns.map V.int)) :
    codeAny (model g.prog g.w) callerA (.call (.ref (fAt g "law")) ⟨[.ref a], []⟩) (CR (L2.CX g.prog g.w) [] g.prog g.w H s (fun v _ => v = .bl true) fun _ _ _ => False) s := by
  obtain ⟨c, hC, hK⟩ := L.c_law
  exact law_body (k := 10) (j := 1) L.d_law hC sc_law rfl (by decide) rfl rfl L.d_l_begun (FB_l_begun L) (B_l_begun L) (B_law L) (by decide) (by decide) (fun A outer s H E at_ => ps_set at_.nd rfl (by first | exact Or.inl rfl | exact Or.inr rfl) (pe_begun at_ L.d_l_begun.mg L.d_l_begun.fn.kp (FB_l_begun L) (B_l_begun L) (by decide) (pv 0))) (fun A outer s H E => d_law L hK _ A outer s H E) hlen plain e0 hT hq
end LWk57
namespace GR
def sumR : Nat → (Nat → Nat) → Nat
  | 0, _ => 0
  | n + 1, g => sumR n g + g n
theorem sumR_congr {g h : Nat → Nat} : ∀ (n : Nat), (∀ i, i < n → g i = h i) → sumR n g = sumR n h
  | 0, _ => rfl
  | n + 1, e => by rw [sumR, sumR, sumR_congr n fun i hi => e i (by omega), e n (by omega)]
theorem sumR_add (g h : Nat → Nat) : ∀ n, sumR n (fun i => g i + h i) = sumR n g + sumR n h
  | 0 => rfl
  | n + 1 => by rw [sumR, sumR, sumR, sumR_add g h n]; omega
theorem sumR_zero : ∀ n, sumR n (fun _ => 0) = 0
  | 0 => rfl
  | n + 1 => by rw [sumR, sumR_zero n]
theorem sumR_app (g : Nat → Nat) (a : Nat) : ∀ b, sumR (a + b) g = sumR a g + sumR b (fun i => g (a + i))
  | 0 => rfl
  | b + 1 => by rw [Nat.add_succ, sumR, sumR_app g a b, sumR]; omega
theorem sumR_le {g : Nat → Nat} {c : Nat} : ∀ n, (∀ i, i < n → g i ≤ c) → sumR n g ≤ n * c
  | 0, _ => by rw [sumR]; omega
  | n + 1, h => by
    have h1 := sumR_le n fun i hi => h i (by omega)
    have h2 := h n (by omega)
    rw [sumR, Nat.succ_mul]
    omega
theorem sumR_lt {g : Nat → Nat} {c : Nat} : ∀ n, sumR n g < n * c → ∃ i, i < n ∧ g i < c
  | 0, h => by rw [sumR] at h; omega
  | n + 1, h => by
    rw [sumR, Nat.succ_mul] at h
    by_cases k : g n < c
    · exact ⟨n, by omega, k⟩
    · obtain ⟨i, hi, z⟩ := sumR_lt (g := g) (c := c) n (by omega)
      exact ⟨i, by omega, z⟩
theorem sumR_one (a c : Nat) : ∀ n, sumR n (fun i => if i = a then c else 0) = if a < n then c else 0
  | 0 => by rw [sumR, if_neg (by omega)]
  | n + 1 => by
    rw [sumR, sumR_one a c n]
    by_cases h : a < n
    · rw [if_pos h, if_neg (by omega), if_pos (by omega)]
      omega
    · by_cases e : n = a
      · rw [if_neg h, if_pos e, if_pos (by omega)]
        omega
      · rw [if_neg h, if_neg e, if_neg (by omega)]
theorem sumR_res {s r : Nat} (h : r < s) : ∀ m, sumR (s * m) (fun i => if i % s = r then 1 else 0) = m
  | 0 => rfl
  | m + 1 => by
    rw [Nat.mul_succ, sumR_app, sumR_res h m, sumR_congr (h := fun i => if i = r then 1 else 0) s fun i hi => by
      simp only [Nat.mul_add_mod, Nat.mod_eq_of_lt hi], sumR_one, if_pos h]
/-- a class: its span, its hand, its rest -/
abbrev C := Nat × Nat × Nat
def cov (t : C) (h r : Nat) : Nat := if h = t.2.1 ∧ r % t.1 = t.2.2 then 1 else 0
def covs : List C → Nat → Nat → Nat
  | [], _, _ => 0
  | t :: T, h, r => cov t h r + covs T h r
def tot (W : Nat) : List C → Nat
  | [] => 0
  | t :: T => W / t.1 + tot W T
structure Ok (H W : Nat) (t : C) : Prop where
  p : 0 < t.1
  d : t.1 ∣ W
  h : t.2.1 < H
  r : t.2.2 < t.1
theorem one_cov {H W : Nat} {t : C} (o : Ok H W t) : sumR H (fun h => sumR W (cov t h)) = W / t.1 := by
  obtain ⟨m, rfl⟩ := o.d
  rw [Nat.mul_div_cancel_left _ o.p, sumR_congr (h := fun h => if h = t.2.1 then m else 0) H fun h hh => ?_, sumR_one, if_pos o.h]
  by_cases e : h = t.2.1
  · rw [if_pos e]
    refine Eq.trans (sumR_congr _ fun r hr => ?_) (sumR_res o.r m)
    unfold cov
    by_cases c : r % t.1 = t.2.2
    · rw [if_pos ⟨e, c⟩, if_pos c]
    · rw [if_neg fun x => c x.2, if_neg c]
  · rw [if_neg e]
    refine Eq.trans (sumR_congr (h := fun _ => 0) _ fun r hr => ?_) (sumR_zero (t.1 * m))
    unfold cov
    rw [if_neg fun x => e x.1]
theorem all_cov {H W : Nat} : ∀ {T : List C}, (∀ t ∈ T, Ok H W t) → sumR H (fun h => sumR W (covs T h)) = tot W T
  | [], _ => by
    show sumR H (fun h => sumR W (fun _ => 0)) = 0
    rw [sumR_congr (h := fun _ => 0) H fun i _ => sumR_zero W, sumR_zero]
  | t :: T, o => by
    rw [tot, ← one_cov (o t (by simp)), ← all_cov (T := T) fun x hx => o x (by simp [hx]), ← sumR_add]
    exact sumR_congr _ fun h _ => sumR_add (cov t h) (covs T h) W
theorem covs_zero {h r : Nat} : ∀ {T : List C}, covs T h r = 0 ↔ ∀ t ∈ T, ¬ (h = t.2.1 ∧ r % t.1 = t.2.2)
  | [] => by simp [covs]
  | t :: T => by
    rw [covs, Nat.add_eq_zero_iff, covs_zero (T := T)]
    unfold cov
    by_cases c : h = t.2.1 ∧ r % t.1 = t.2.2
    · rw [if_pos c]
      simp
      exact fun e => absurd c.2 (e c.1)
    · rw [if_neg c]
      simp only [List.mem_cons, forall_eq_or_imp, true_and]
      exact ⟨fun x => ⟨c, x⟩, fun x => x.2⟩
/-- no two of them cover the same -/
def Dis (T : List C) : Prop := T.Pairwise fun a b => ∀ h r, ¬ ((h = a.2.1 ∧ r % a.1 = a.2.2) ∧ (h = b.2.1 ∧ r % b.1 = b.2.2))
theorem covs_le {h r : Nat} : ∀ {T : List C}, Dis T → covs T h r ≤ 1
  | [], _ => Nat.zero_le _
  | t :: T, d => by
    obtain ⟨d1, d2⟩ := List.pairwise_cons.mp d
    have ih := covs_le (h := h) (r := r) d2
    rw [covs]
    unfold cov
    by_cases c : h = t.2.1 ∧ r % t.1 = t.2.2
    · have z : covs T h r = 0 := covs_zero.mpr fun b hb c2 => d1 b hb h r ⟨c, c2⟩
      rw [if_pos c, z]
      omega
    · rw [if_neg c]
      omega
/-- classes that do not meet need no more room than there is -/
theorem room_of {H W : Nat} {T : List C} (o : ∀ t ∈ T, Ok H W t) (d : Dis T) : tot W T ≤ H * W := by
  rw [← all_cov o]
  refine sumR_le H fun h _ => ?_
  have := sumR_le (g := covs T h) (c := 1) W fun r _ => covs_le d
  rwa [Nat.mul_one] at this
/-- where there is room a class is free -/
theorem free_of {H W : Nat} {T : List C} (o : ∀ t ∈ T, Ok H W t) (l : tot W T < H * W) : ∃ h r, h < H ∧ r < W ∧ ∀ t ∈ T, ¬ (h = t.2.1 ∧ r % t.1 = t.2.2) := by
  rw [← all_cov o] at l
  obtain ⟨h, hh, l2⟩ := sumR_lt H l
  obtain ⟨r, hr, l3⟩ := sumR_lt (g := covs T h) (c := 1) W (by rw [Nat.mul_one]; exact l2)
  exact ⟨h, r, hh, hr, covs_zero.mp (by omega)⟩
theorem tot_scale {W n : Nat} : ∀ {T : List C}, (∀ t ∈ T, t.1 ∣ W) → tot (W * n) T = n * tot W T
  | [], _ => rfl
  | t :: T, d => by
    rw [tot, tot, tot_scale (T := T) fun x hx => d x (by simp [hx]), Nat.mul_add, Nat.mul_comm W n, Nat.mul_div_assoc n (d t (by simp))]
end GR
set_option maxHeartbeats 0
namespace LWk57
open PySem PySem.Spec L2 PD
open PyProof.Rows hiding St pairD cutD
local macro_rules | `(tactic| walk_at "w_1") => `(tactic| (first | with_reducible refine w_seq ?_ | with_reducible refine w_set ?_ | with_reducible refine w_ret ?_ | with_reducible refine w_drop ?_ | with_reducible refine w_pass ?_ | with_reducible refine w_sif ?_ | with_reducible refine w_asg ?_ | with_reducible refine w_par ?_ | with_reducible refine w_for ?_ | with_reducible refine w_src ?_ | with_reducible refine w_srcR ?_ | with_reducible refine w_enum ?_ | with_reducible refine w_zip ?_ | with_reducible refine w_raiseF ?_ | with_reducible refine w_raiseT ?_ | with_reducible refine w_brk ?_ | with_reducible refine w_ct ?_ | with_reducible refine w_lit ?_ | with_reducible refine w_fz ?_ | with_reducible refine w_prim ?_ | with_reducible refine w_call ?_ | with_reducible refine w_nil ?_ | with_reducible refine w_ex ?_ | with_reducible refine w_tup ?_ | with_reducible refine w_lst ?_ | with_reducible refine w_tof ?_ | with_reducible refine w_tnot ?_ | with_reducible refine w_tyes ?_ | with_reducible refine w_tor ?_ | with_reducible refine w_tand ?_ | with_reducible refine w_and ?_ | with_reducible refine w_or ?_ | with_reducible refine w_not ?_ | with_reducible refine w_vif ?_ | with_reducible refine w_chain ?_ | with_reducible refine w_fld ?_ | with_reducible refine w_tput ?_ | with_reducible refine w_setIx ?_ | with_reducible refine w_dic0 ?_ | with_reducible refine w_lc ?_ | with_reducible refine w_aFz ?_ | with_reducible refine w_try ?_ | with_reducible refine w_callL ?_ | with_reducible refine w_b ?_ | with_reducible refine w_i ?_ | with_reducible refine wp_add ?_ | with_reducible refine wp_sub ?_ | with_reducible refine wp_neg ?_ | with_reducible refine wp_lt ?_ | with_reducible refine wp_le ?_ | with_reducible refine wp_gt ?_ | with_reducible refine wp_ge ?_ | with_reducible refine wp_eqI ?_ | with_reducible refine wp_neI ?_ | with_reducible refine wp_len ?_ | with_reducible refine wp_lenT ?_ | with_reducible refine wp_lenS ?_ | with_reducible refine wp_int ?_ | with_reducible refine wp_abs ?_ | with_reducible refine wp_min2 ?_ | with_reducible refine wp_max2 ?_ | with_reducible refine wp_sorted ?_ | with_reducible refine wp_tupC ?_ | with_reducible refine wp_tupCT ?_ | with_reducible refine wp_lstC ?_ | with_reducible refine wp_lstCT ?_ | with_reducible refine wi_tt ?_ | with_reducible refine wi_ff ?_ | with_reducible refine wi_not ?_ | with_reducible refine wp_sl1 ?_ | with_reducible refine w_se ?_ | with_reducible refine w_lam0 ?_ | with_reducible refine w_par3 ?_ | with_reducible refine w_dicK ?_ | with_reducible refine w_evN ?_ | with_reducible refine w_evC ?_ | with_reducible refine w_lc2 ?_ | with_reducible refine wp_eqT ?_ | ((with_reducible apply w_var); case h => exact rfl) | ((with_reducible apply w_varO); case h => exact rfl) | ((with_reducible apply w_move); case h => exact rfl) | ((with_reducible apply w_moveO); case h => exact rfl) | ((with_reducible apply w_pk); case h => exact rfl) | ((with_reducible apply w_res); case h => exact rfl) | ((with_reducible apply w_ls); case h => exact rfl) | ((with_reducible apply w_sl); case h => exact rfl) | ((with_reducible apply w_ti); case h => exact rfl) | ((with_reducible apply w_tc); case h => exact rfl) | ((with_reducible apply w_tne); case h => exact rfl) | ((with_reducible apply w_tp); case h => exact rfl) | ((with_reducible apply w_ow); case h => exact rfl) | ((with_reducible apply w_aug); case ha => exact rfl) | ((with_reducible apply w_app); case h0 => exact rfl) | ((with_reducible apply w_so); case h => exact rfl) | ((with_reducible apply w_l); (case h => exact rfl); case hl => exact rfl) | ((with_reducible apply wp_is); case h => exact rfl) | ((with_reducible apply wp_isnot); case h => exact rfl) | ((with_reducible apply wp_ixT); case h => exact rfl) | ((with_reducible apply w_z); case h => exact rfl) | ((with_reducible apply w_fx); (case h => exact rfl); case h2 => exact rfl) | ((with_reducible refine wi_pos ?hp ?_); case hp => omega) | ((with_reducible refine wi_neg ?hp ?_); case hp => omega) | ((with_reducible refine wp_mod ?hp ?_); case hp => omega) | ((with_reducible refine wp_fdiv ?hp ?hq ?_); (case hp => omega); case hq => omega) | ((with_reducible refine wp_mulS ?hp ?hq ?_); (case hp => omega); case hq => omega)))
/-- a row of ints, list or tuple -/
def Sq (d : D) (ns : List Int) : Prop := d = .lst (ns.map D.int) ∨ d = .tup (ns.map D.int)
theorem Sq.seq {d : D} {ns : List Int} (h : Sq d ns) : seqD d = some (ns.map D.int) := by rcases h with rfl | rfl <;> rfl
/-- spans that are right -/
structure Spn (ns : List Int) : Prop where
  n1 : 0 < ns.length
  n6 : ns.length ≤ 6
  lo : ∀ i ∈ ns, 1 ≤ i
  hi : ∀ i ∈ ns, i ≤ 60
section
variable {k : Nat} {τ : Tape} {Q : Rs → Tape → Prop} {E : D → Tape → Prop} {QP : Rs → Prop}
theorem common_use {a b : Int} (ha : 0 ≤ a) (hb : 0 ≤ b) (hf : b < 1000000000000) (q : Q (.fz (.int (Nat.gcd a.toNat b.toNat : Nat))) τ) : WF (m_l_common [.fz (.int a), .fz (.int b)] τ) Q E := by
  obtain ⟨a, rfl⟩ := Int.eq_ofNat_of_zero_le ha
  obtain ⟨b, rfl⟩ := Int.eq_ofNat_of_zero_le hb
  rw [Int.toNat_natCast, Int.toNat_natCast] at q
  refine w_body ?_
  unfold mv_l_common
  refine w_seq ?_
  refine w_while (fun m ρ τ' => τ' = τ ∧ ∃ x y : Nat, ρ = [.fz (.int x), .fz (.int y)] ∧ y ≤ m ∧ Nat.gcd x y = Nat.gcd a b) (m := b) ⟨rfl, a, b, rfl, Nat.le_refl _, rfl⟩ (by unfold FUEL; omega) ?_
  rintro m ρ τ' ⟨rfl, x, y, rfl, h1, h2⟩
  refine w_tof ?_
  (repeat' (first | walk_at "w_1"))
  refine wi_dec (fun h => ?_) fun h => ?_
  · (repeat' (first | walk_at "w_1"))
    have hy : 0 < y := by omega
    refine ⟨x % y, Nat.lt_of_lt_of_le (Nat.mod_lt _ hy) h1, rfl, y, x % y, rfl, Nat.le_refl _, ?_⟩
    rw [← h2, Nat.gcd_comm x y, Nat.gcd_rec y x, Nat.gcd_comm]
  · have hy : y = 0 := by omega
    subst hy
    rw [Nat.gcd_zero_right] at h2
    (repeat' (first | walk_at "w_1"))
    rw [h2]
    exact q
theorem common_use2 {a b : Int} (ha : 0 ≤ a) (hb : 0 ≤ b) (hf : b < 1000000000000) (q : Q (.fz (.int (Nat.gcd a.toNat b.toNat : Nat))) τ) : WF (m_common_part [.fz (.int a), .fz (.int b)] τ) Q E := by
  obtain ⟨a, rfl⟩ := Int.eq_ofNat_of_zero_le ha
  obtain ⟨b, rfl⟩ := Int.eq_ofNat_of_zero_le hb
  rw [Int.toNat_natCast, Int.toNat_natCast] at q
  refine w_body ?_
  unfold mv_common_part
  refine w_seq ?_
  refine w_while (fun m ρ τ' => τ' = τ ∧ ∃ x y : Nat, ρ = [.fz (.int x), .fz (.int y)] ∧ y ≤ m ∧ Nat.gcd x y = Nat.gcd a b) (m := b) ⟨rfl, a, b, rfl, Nat.le_refl _, rfl⟩ (by unfold FUEL; omega) ?_
  rintro m ρ τ' ⟨rfl, x, y, rfl, h1, h2⟩
  refine w_tof ?_
  (repeat' (first | walk_at "w_1"))
  refine wi_dec (fun h => ?_) fun h => ?_
  · (repeat' (first | walk_at "w_1"))
    have hy : 0 < y := by omega
    refine ⟨x % y, Nat.lt_of_lt_of_le (Nat.mod_lt _ hy) h1, rfl, y, x % y, rfl, Nat.le_refl _, ?_⟩
    rw [← h2, Nat.gcd_comm x y, Nat.gcd_rec y x, Nat.gcd_comm]
  · have hy : y = 0 := by omega
    subst hy
    rw [Nat.gcd_zero_right] at h2
    (repeat' (first | walk_at "w_1"))
    rw [h2]
    exact q
theorem wp_isi {x c : D} {r : Bool} (h : fIsi sub x c = .at (.bl r)) (q : QP (.fz (.bl r))) : WP (pIsi sub [x, c]) QP := by
  show WP (fIsi sub x c) QP
  rw [h]
  exact ⟨q⟩
theorem isiI {i : Int} : fIsi sub (.int i) (.ty "int") = .at (.bl true) := by rfl
theorem isiIb {i : Int} : fIsi sub (.int i) (.ty "bool") = .at (.bl false) := by rfl
theorem isiL {xs : List D} : fIsi sub (.lst xs) (.tup [.ty "list", .ty "tuple"]) = .at (.bl true) := by rfl
theorem isiT {xs : List D} : fIsi sub (.tup xs) (.tup [.ty "list", .ty "tuple"]) = .at (.bl true) := by rfl
/-- no whole number -/
def NotNum (d : D) : Prop := fIsi sub d (.ty "int") = .at (.bl false) ∨ (fIsi sub d (.ty "int") = .at (.bl true) ∧ fIsi sub d (.ty "bool") = .at (.bl true))
theorem between_use {x lo hi : Int} (q : Q (.fz (.bl (decide (lo ≤ x ∧ x ≤ hi)))) τ) : WF (m_is_between [.fz (.int x), .fz (.int lo), .fz (.int hi)] τ) Q E := by
  refine w_body ?_
  unfold mv_is_between
  (repeat' (first | (refine w_body ?_; unfold mv_is_number) | (with_reducible refine wp_isi isiI ?_) | (with_reducible refine wp_isi isiIb ?_) | walk_at "w_1"))
  refine wi_dec (fun h => ?_) fun h => ?_
  · (repeat' (first | walk_at "w_1"))
    rw [show decide (x ≤ hi) = decide (lo ≤ x ∧ x ≤ hi) from by simp [h]]
    exact q
  · rw [show false = decide (lo ≤ x ∧ x ≤ hi) from by simp [h]]
    exact q
theorem between_not {d a b : D} (h : NotNum d) (q : Q (.fz (.bl false)) τ) : WF (m_is_between [.fz d, .fz a, .fz b] τ) Q E := by
  refine w_body ?_
  unfold mv_is_between
  rcases h with h | ⟨h, h2⟩
  · (repeat' (first | (refine w_body ?_; unfold mv_is_number) | (with_reducible refine wp_isi h ?_) | walk_at "w_1"))
    exact q
  · (repeat' (first | (refine w_body ?_; unfold mv_is_number) | (with_reducible refine wp_isi h ?_) | (with_reducible refine wp_isi h2 ?_) | walk_at "w_1"))
    exact q
/-- what is no span -/
def BadItem (d : D) : Prop := NotNum d ∨ ∃ i, d = .int i ∧ ¬ (1 ≤ i ∧ i ≤ 60)
theorem Sq.len {d : D} {ns : List Int} (h : Sq d ns) (q : QP (.fz (.int ns.length))) : WP (pLen [d]) QP := by
  rcases h with rfl | rfl
  · exact wp_len (by rw [List.length_map]; exact q)
  · exact wp_lenT (by rw [List.length_map]; exact q)
theorem Sq.isl {d : D} {ns : List Int} (h : Sq d ns) : fIsi sub d (.tup [.ty "list", .ty "tuple"]) = .at (.bl true) := by
  rcases h with rfl | rfl
  · exact isiL
  · exact isiT
theorem need_ok {d : D} {ns : List Int} (hd : Sq d ns) (hs : Spn ns) (q : Q (.fz .non) τ) : WF (m_need_spans [.fz d] τ) Q E := by
  have h1 := hs.n1
  have h6 := hs.n6
  refine w_body ?_
  unfold mv_need_spans
  (repeat' (first | (refine w_body ?_; unfold mv_is_list) | (with_reducible refine wp_isi hd.isl ?_) | (with_reducible refine hd.len ?_) | (with_reducible apply w_so hd.seq) | walk_at "w_1"))
  refine w_forL (fun j ρ τ' => τ' = τ ∧ ∃ s1 s2, ρ = [.fz d, s1, s2]) ⟨rfl, _, _, rfl⟩ ?_ fun ρ τ' ⟨h, _⟩ => by rw [h]; exact q
  rintro j x ρ τ' hx ⟨rfl, s1, s2, rfl⟩
  obtain ⟨y, hy, rfl⟩ := enumD_at hx
  obtain ⟨i, rfl, hi, hm⟩ := map_int_at hy
  have l := hs.lo i hm
  have u := hs.hi i hm
  (repeat' (first | walk_at "w_1"))
  refine between_use ?_
  (repeat' (first | walk_at "w_1"))
  exact ⟨rfl, _, _, rfl⟩
theorem need_no {d : D} (hd : fIsi sub d (.tup [.ty "list", .ty "tuple"]) = .at (.bl false)) (e : E (.exc "BadSpans" [("index", .non)]) τ) : WF (m_need_spans [.fz d] τ) Q E := by
  refine w_body ?_
  unfold mv_need_spans
  (repeat' (first | (refine w_body ?_; unfold mv_is_list) | (with_reducible refine wp_isi hd ?_) | walk_at "w_1"))
  exact e
theorem need_len {ds : List D} (hn : ds.length = 0 ∨ 6 < ds.length) (e : E (.exc "BadSpans" [("index", .non)]) τ) : WF (m_need_spans [.fz (.lst ds)] τ) Q E := by
  refine w_body ?_
  unfold mv_need_spans
  (repeat' (first | (refine w_body ?_; unfold mv_is_list) | (with_reducible refine wp_isi isiL ?_) | walk_at "w_1"))
  refine wi_dec (fun h => ?_) fun h => ?_
  · (repeat' (first | walk_at "w_1"))
    exact e
  · (repeat' (first | walk_at "w_1"))
    exact e
theorem need_at {ds : List D} {a : Nat} {y : D} (hn : 1 ≤ ds.length ∧ ds.length ≤ 6) (hs : ∀ (j : Nat) x, j < a → ds[j]? = some x → ∃ i : Int, x = .int i ∧ 1 ≤ i ∧ i ≤ 60) (hy : ds[a]? = some y) (hb : BadItem y) (e : E (.exc "BadSpans" [("index", .int a)]) τ) : WF (m_need_spans [.fz (.lst ds)] τ) Q E := by
  have ha : a < ds.length := (List.getElem?_eq_some_iff.mp hy).1
  refine w_body ?_
  unfold mv_need_spans
  (repeat' (first | (refine w_body ?_; unfold mv_is_list) | (with_reducible refine wp_isi isiL ?_) | walk_at "w_1"))
  refine w_forL (fun j ρ τ' => j ≤ a ∧ τ' = τ ∧ ∃ s1 s2, ρ = [.fz (.lst ds), s1, s2]) ⟨by omega, rfl, _, _, rfl⟩ ?_ fun ρ τ' ⟨h, _⟩ => by
    have := enumD_len ds 0
    omega
  rintro j x ρ τ' hx ⟨hj, rfl, s1, s2, rfl⟩
  obtain ⟨z, hz, rfl⟩ := enumD_at hx
  by_cases c : j = a
  · subst c
    rw [hy] at hz
    cases hz
    rcases hb with hb | ⟨i, rfl, hi⟩
    · (repeat' (first | walk_at "w_1"))
      refine between_not hb ?_
      (repeat' (first | walk_at "w_1"))
      rw [Nat.zero_add]
      exact e
    · (repeat' (first | walk_at "w_1"))
      refine between_use ?_
      (repeat' (first | walk_at "w_1"))
      rw [Nat.zero_add]
      exact e
  · obtain ⟨i, rfl, l, u⟩ := hs j z (by omega) hz
    (repeat' (first | walk_at "w_1"))
    refine between_use ?_
    (repeat' (first | walk_at "w_1"))
    exact ⟨by omega, rfl, _, _, rfl⟩
/-- ints in 1..m -/
def Up (m : Int) (ns : List Int) : Prop := ∀ i ∈ ns, 1 ≤ i ∧ i ≤ m
theorem up_app {m : Int} {ns : List Int} {i : Int} (h : Up m ns) (h1 : 1 ≤ i) (h2 : i ≤ m) : Up m (ns ++ [i]) := fun x hx => by
  rcases List.mem_append.mp hx with hx | hx
  · exact h x hx
  · rw [List.mem_singleton.mp hx]; exact ⟨h1, h2⟩
theorem len_lt {n : Nat} (h : n ≤ 1000) : n < sizeLine := Nat.lt_of_le_of_lt h (by decide)
theorem wp_lenM {f : Int → D} {ns : List Int} (q : QP (.fz (.int ns.length))) : WP (pLen [.lst (ns.map f)]) QP := wp_len (by rw [List.length_map]; exact q)
theorem spans_use {m : Int} (hm : 2 ≤ m ∧ m ≤ 60) (ht : TOk k τ) (hk : k ≤ 900000) (q : ∀ (ns : List Int) τ', 0 < ns.length → ns.length ≤ 6 → Up m ns → TOk (k + 30) τ' → Q (.own (.lst (ns.map D.int))) τ') : WF (m_l_spans [.fz .tape, .fz (.int m)] τ) Q E := by
  obtain ⟨p1, p2⟩ := hm
  refine w_body ?_
  unfold mv_l_spans
  (repeat' (first | walk_at "w_1"))
  refine draw_use ht (by omega) ⟨by omega, by omega⟩ fun many τ1 d1 d2 t1 => ?_
  (repeat' (first | walk_at "w_1"))
  refine draw_use t1 (by omega) ⟨by decide, by decide⟩ fun way τ2 d3 d4 t2 => ?_
  (repeat' (first | walk_at "w_1"))
  refine wi_dec (fun h => ?_) fun h => ?_
  · (repeat' (first | walk_at "w_1"))
    refine w_rng1 ⟨by omega, by omega⟩ ?_
    (repeat' (first | walk_at "w_1"))
    refine w_lcL (fun j acc ρ τ' => TOk (k + 2 + j) τ' ∧ ∃ ns : List Int, acc = ns.map D.int ∧ ns.length = j ∧ j ≤ (1 + many).toNat ∧ Up m ns ∧ ρ = [.fz .tape, .fz (.int m), .fz (.int (1 + many)), .fz (.int way), .un, .un, .un, .un]) ⟨t2, [], rfl, rfl, Nat.zero_le _, fun i hi => (nomatch hi), rfl⟩ ?_ ?_
    · rintro j x acc ρ τ' hx ⟨tj, ns, rfl, hl, hj, hu, rfl⟩
      obtain ⟨rfl, hj2⟩ := rngL_at hx
      (repeat' (first | walk_at "w_1"))
      refine draw_use tj (by omega) ⟨by omega, by omega⟩ fun d τ3 e1 e2 t3 => ?_
      (repeat' (first | walk_at "w_1"))
      refine ⟨by rw [List.length_map]; exact len_lt (by omega), t3, ns ++ [1 + d], by rw [List.map_append]; rfl, by rw [List.length_append]; simp only [List.length_singleton]; omega, by omega, up_app hu (by omega) (by omega), rfl⟩
    · rintro acc ρ τ' ⟨tj, ns, rfl, hl, hj, hu, rfl⟩
      rw [rngL_len] at hl tj
      exact q ns τ' (by omega) (by omega) hu (tj.mono (by omega))
  · (repeat' (first | walk_at "w_1"))
    refine draw_use t2 (by omega) ⟨by split <;> omega, by split <;> omega⟩ fun st τ3 d5 d6 t3 => ?_
    have st2 : st < m := by
      revert d6
      split <;> omega
    (repeat' (first | walk_at "w_1"))
    refine draw_use t3 (by omega) ⟨by decide, by decide⟩ fun laps τ4 d7 d8 t4 => ?_
    (repeat' (first | walk_at "w_1"))
    refine w_rng1 ⟨by omega, by omega⟩ ?_
    refine w_forL (fun j ρ τ' => TOk (k + 4 + j) τ' ∧ ∃ (ns : List Int) (s4 s6 : Sl), isCell s4 = false ∧ j ≤ laps.toNat ∧ ns.length = j + 1 ∧ Up m ns ∧ ρ = [.fz .tape, .fz (.int m), .fz (.int (1 + many)), .fz (.int way), s4, .own (.lst (ns.map D.int)), s6, .un]) ⟨t4, [1 + st], .un, .un, rfl, Nat.zero_le _, rfl, fun i hi => by rw [List.mem_singleton.mp hi]; exact ⟨by omega, by omega⟩, rfl⟩ ?_ ?_
    · rintro j x ρ τ' hx ⟨tj, ns, s4, s6, z4, hj, hl, hu, rfl⟩
      obtain ⟨rfl, hj2⟩ := rngL_at hx
      have hne : ns ≠ [] := fun e => by rw [e] at hl; simp at hl
      have ha : atI (ns.map D.int) (-1) = some (.int (ns.getLast hne)) := by
        unfold atI ixN
        rw [if_neg (by decide), if_pos (by rw [List.length_map]; omega)]
        show (ns.map D.int)[((-1 : Int) + ((ns.map D.int).length : Nat)).toNat]? = _
        rw [List.length_map, show ((-1 : Int) + (ns.length : Nat)).toNat = ns.length - 1 from by omega, List.getElem?_map, ← List.getLast?_eq_getElem?, List.getLast?_eq_some_getLast hne]
        rfl
      obtain ⟨u1, u2⟩ := hu _ (List.getLast_mem hne)
      generalize ns.getLast hne = la at *
      (repeat' (first | (with_reducible refine wp_ix ha ?_) | walk_at "w_1"))
      refine pick_lit rfl rfl tj (by omega) fun d hd τ5 t5 => ?_
      obtain ⟨c, rfl, c1, c2⟩ : ∃ c : Int, d = .int c ∧ 1 ≤ c ∧ c ≤ 5 := by
        simp only [List.mem_cons, List.not_mem_nil, or_false] at hd
        rcases hd with rfl | rfl | rfl | rfl | rfl | rfl <;> exact ⟨_, rfl, by decide, by decide⟩
      have pos : 1 ≤ la * c := Int.le_trans (by decide : (1 : Int) ≤ 1 * 1) (Int.mul_le_mul u1 c1 (by decide) (by omega))
      (repeat' (first | walk_at "w_1"))
      refine wi_dec (fun h => ?_) fun h => ?_
      · (repeat' (first | walk_at "w_1"))
        refine ⟨by rw [List.length_map]; exact len_lt (by omega), t5, ns ++ [la * c], .fz (.int (0 + (j : Int))), .fz (.int (la * c)), rfl, by omega, by rw [List.length_append]; simp only [List.length_singleton]; omega, up_app hu pos h, ?_⟩
        rw [List.map_append]
        rfl
      · (repeat' (first | (with_reducible refine wp_ix ha ?_) | walk_at "w_1"))
        refine ⟨by rw [List.length_map]; exact len_lt (by omega), t5, ns ++ [la], .fz (.int (0 + (j : Int))), .fz (.int (la * c)), rfl, by omega, by rw [List.length_append]; simp only [List.length_singleton]; omega, up_app hu u1 u2, ?_⟩
        rw [List.map_append]
        rfl
    · rintro ρ τ' ⟨tj, ns, s4, s6, z4, hj, hl, hu, rfl⟩
      rw [rngL_len] at hl tj
      (repeat' (first | walk_at "w_1"))
      refine w_rng1 ⟨by omega, by omega⟩ ?_
      have fr : ∀ (s : Sl), isCell s = false → freeIn [.fz .tape, .fz (.int m), .fz (.int (1 + many)), .fz (.int way), s, .own (.lst (ns.map D.int)), s6, .un] [4] = true := fun s h => by
        show (!isCell s && true) = true
        rw [h]
        rfl
      rw [fr _ z4]
      refine w_so rfl (w_lcL (fun j acc ρ τ'' => TOk (k + 7 + j) τ'' ∧ ∃ ms : List Int, acc = ms.map D.int ∧ ms.length = j ∧ j ≤ (1 + many).toNat ∧ Up m ms ∧ ρ = [.fz .tape, .fz (.int m), .fz (.int (1 + many)), .fz (.int way), .un, .own (.lst (ns.map D.int)), s6, .un]) ⟨tj.mono (by omega), [], rfl, rfl, Nat.zero_le _, fun i hi => (nomatch hi), rfl⟩ ?_ ?_)
      · rintro j x acc ρ τ'' hx ⟨tj, ms, rfl, hl2, hj3, hu2, rfl⟩
        obtain ⟨rfl, hj2⟩ := rngL_at hx
        (repeat' (first | walk_at "w_1"))
        refine pick_use rfl ⟨by rw [List.length_map]; omega, by rw [List.length_map]; omega⟩ tj (by omega) fun d hd τ5 t5 => ?_
        obtain ⟨c, hc, rfl⟩ := List.mem_map.mp hd
        obtain ⟨c1, c2⟩ := hu c hc
        exact ⟨by rw [List.length_map]; exact len_lt (by omega), t5, ms ++ [c], by rw [List.map_append]; rfl, by rw [List.length_append]; simp only [List.length_singleton]; omega, by omega, up_app hu2 c1 c2, rfl⟩
      · rintro acc ρ τ'' ⟨tk, ms, rfl, hl2, hj3, hu2, rfl⟩
        rw [rngL_len] at hl2 tk
        (repeat' (first | walk_at "w_1"))
        refine wi_dec (fun h => ?_) fun h => ?_
        · (repeat' (first | walk_at "w_1"))
          refine draw_use tk (by omega) ⟨by omega, by omega⟩ fun e τ5 d9 d10 t5 => ?_
          (repeat' (first | walk_at "w_1"))
          refine pick_lit rfl rfl t5 (by omega) fun d hd τ6 t6 => ?_
          obtain ⟨c, rfl, c1, c2⟩ : ∃ c : Int, d = .int c ∧ 1 ≤ c ∧ c ≤ m := by
            simp only [List.mem_cons, List.not_mem_nil, or_false] at hd
            rcases hd with rfl | rfl | rfl | rfl
            · exact ⟨_, rfl, by decide, by omega⟩
            · exact ⟨_, rfl, by decide, by omega⟩
            · exact ⟨_, rfl, by omega, Int.le_refl _⟩
            · exact ⟨_, rfl, by show 1 ≤ 1 + e; omega, by show 1 + e ≤ m; omega⟩
          (repeat' (first | walk_at "w_1"))
          refine draw_use t6 (by omega) ⟨by omega, by omega⟩ fun ix τ7 d11 d12 t7 => ?_
          have hix : ixN (ms.map D.int).length ix = some ix.toNat := by
            unfold ixN
            rw [if_pos d11, List.length_map, if_pos (by omega)]
          (repeat' (first | walk_at "w_1"))
          refine ⟨ix.toNat, hix, ?_⟩
          have e2 : (ms.map D.int).set ix.toNat (.int c) = (ms.set ix.toNat c).map D.int := by rw [List.map_set]
          (repeat' (first | walk_at "w_1"))
          have := q (ms.set ix.toNat c) _ (by rw [List.length_set]; omega) (by rw [List.length_set]; omega) (fun i hi => by
            rcases List.mem_or_eq_of_mem_set hi with hi | rfl
            · exact hu2 i hi
            · exact ⟨c1, c2⟩) (t7.mono (by omega))
          rw [← e2] at this
          exact this
        · (repeat' (first | walk_at "w_1"))
          exact q ms _ (by omega) (by omega) hu2 (tk.mono (by omega))
structure Wrong (w idx : D) : Prop where
  run : ∀ {Q : Rs → Tape → Prop} {E : D → Tape → Prop} {τ : Tape}, E (.exc "BadSpans" [("index", idx)]) τ → WF (m_need_spans [.fz w] τ) Q E
  nc : w.nc = true
  ix : idx = .non ∨ ∃ a : Int, idx = .int a
theorem nc_rep {d : D} (h : d.nc = true) : ∀ n : Nat, D.ncL (List.replicate n d) = true
  | 0 => rfl
  | n + 1 => by rw [List.replicate_succ, D.ncL, h, nc_rep h n]; rfl
theorem nc_app : ∀ {a b : List D}, D.ncL a = true → D.ncL b = true → D.ncL (a ++ b) = true
  | [], b, _, h => h
  | d :: a, b, h, h2 => by
    rw [D.ncL, Bool.and_eq_true] at h
    rw [List.cons_append, D.ncL, h.1, nc_app h.2 h2]
    rfl
theorem nc_ints : ∀ ns : List Int, D.ncL (ns.map D.int) = true
  | [] => rfl
  | n :: ns => by rw [List.map_cons, D.ncL, nc_ints ns]; rfl
theorem flat_rep (d : D) (n : Nat) : (List.replicate n [d]).flatten = List.replicate n d := List.flatten_replicate_singleton
theorem bad_use (ht : TOk k τ) (hk : k ≤ 900000) (q : ∀ w idx τ', Wrong w idx → TOk (k + 3) τ' → Q (.fz (.tup [w, idx])) τ') : WF (m_l_bad_spans [.fz .tape] τ) Q E := by
  refine w_body ?_
  unfold mv_l_bad_spans
  (repeat' (first | walk_at "w_1"))
  refine pick_lit rfl rfl ht (by omega) fun d hd τ1 t1 => ?_
  obtain ⟨hb, hc⟩ : BadItem d ∧ d.nc = true := by
    simp only [List.mem_cons, List.not_mem_nil, or_false] at hd
    rcases hd with rfl | rfl | rfl | rfl | rfl | rfl
    · exact ⟨.inr ⟨0, rfl, by decide⟩, rfl⟩
    · exact ⟨.inr ⟨61, rfl, by decide⟩, rfl⟩
    · exact ⟨.inr ⟨-1, rfl, by decide⟩, rfl⟩
    · exact ⟨.inl (.inr ⟨rfl, rfl⟩), rfl⟩
    · exact ⟨.inl (.inl rfl), rfl⟩
    · exact ⟨.inl (.inl rfl), rfl⟩
  clear hd
  (repeat' (first | walk_at "w_1"))
  refine draw_use t1 (by omega) ⟨by decide, by decide⟩ fun a τ2 a0 a1 t2 => ?_
  obtain ⟨n, rfl⟩ := Int.eq_ofNat_of_zero_le a0
  have n5 : n < 5 := by omega
  have s5 : ∀ {i j : Nat}, i + j ≤ 1000 → i + j ≤ sizeLine := fun h => Nat.le_trans h (by decide)
  have l1 : ∀ d : D, (List.replicate ((n : Int).toNat) [d]).flatten.length = n := fun d => by rw [flat_rep, List.length_replicate, Int.toNat_natCast]
  (repeat' (first | (with_reducible refine wp_mulL ⟨by omega, by omega, Nat.le_of_ble_eq_true rfl⟩ ?_) | (with_reducible refine wp_addL (s5 (by rw [l1]; simp only [List.length_cons, List.length_nil]; omega)) ?_) | walk_at "w_1"))
  refine pick_lit rfl rfl t2 (by omega) fun x hx τ3 t3 => ?_
  have wr : ∀ (y : Int) (r : List D), 1 ≤ y → y ≤ 60 → r.length ≤ 1 → D.ncL r = true → Wrong (.lst ((List.replicate ((n : Int).toNat) [D.int y]).flatten ++ d :: r)) (.int (n : Int)) := fun y r y1 y2 hr hr2 => by
    rw [flat_rep, Int.toNat_natCast]
    refine ⟨fun {Q E τ} e => need_at (a := n) (y := d) ⟨?_, ?_⟩ ?_ ?_ hb e, ?_, .inr ⟨_, rfl⟩⟩
    · rw [List.length_append, List.length_cons]; omega
    · rw [List.length_append, List.length_cons, List.length_replicate]; omega
    · intro j x hj hx
      rw [List.getElem?_append_left (by rw [List.length_replicate]; exact hj)] at hx
      rw [List.getElem?_replicate, if_pos hj] at hx
      cases hx
      exact ⟨y, rfl, y1, y2⟩
    · rw [List.getElem?_append_right (by rw [List.length_replicate]; exact Nat.le_refl _), List.length_replicate, Nat.sub_self]
      rfl
    · exact nc_app (nc_rep rfl n) (by rw [D.ncL, hc, hr2]; rfl)
  simp only [List.mem_cons, List.not_mem_nil, or_false] at hx
  rcases hx with rfl | rfl | rfl | rfl | rfl | rfl | rfl
  · exact q _ _ _ ⟨fun e => need_no rfl e, rfl, .inl rfl⟩ t3
  · exact q _ _ _ ⟨fun e => need_len (.inl rfl) e, rfl, .inl rfl⟩ t3
  · exact q _ _ _ ⟨fun e => need_len (.inr (by decide)) e, rfl, .inl rfl⟩ t3
  · exact q _ _ _ ⟨fun e => need_no rfl e, rfl, .inl rfl⟩ t3
  · exact q _ _ _ ⟨fun e => need_no rfl e, rfl, .inl rfl⟩ t3
  · exact q _ _ _ (wr 2 [] (by decide) (by decide) (by decide) rfl) t3
  · exact q _ _ _ (wr 60 [.int 0] (by decide) (by decide) (by decide) rfl) t3
theorem fin_eq {idx : D} (h : idx = .non ∨ ∃ a : Int, idx = .int a) (q : QP (.fz (.bl true))) : WP (pEq [idx, idx]) QP := by
  rcases h with rfl | ⟨a, rfl⟩
  · exact wp_eqD rfl rfl rfl rfl rfl q
  · refine wp_eqI ?_
    rw [decide_eq_true rfl]
    exact q
theorem isiBS {fs : List (Str × D)} : fIsi sub (.exc "BadSpans" fs) (.fn "BadSpans") = .at (.bl true) := by rfl
theorem isiBN {fs : List (Str × D)} : fIsi sub (.exc "BadNumber" fs) (.fn "BadNumber") = .at (.bl true) := by rfl
theorem app_take (f : Int → Int) (ns : List Int) (j : Nat) (n : Int) (h : ns[j]? = some n) : ((ns.take j).map f).map D.int ++ [D.int (f n)] = ((ns.take (j + 1)).map f).map D.int := by
  rw [List.take_succ, h]
  simp
def shp (p : Int × Int) (i : Int) : Int × Int := ((p.1 * i + p.2) / (Nat.gcd (p.1 * i + p.2).toNat (p.2 * i).toNat : Nat), (p.2 * i) / (Nat.gcd (p.1 * i + p.2).toNat (p.2 * i).toNat : Nat))
def sumS (ns : List Int) : Int × Int := ns.foldl shp (0, 1)
structure Bd (j : Nat) (p : Int × Int) : Prop where
  t0 : 0 ≤ p.1
  t1 : p.1 ≤ 100 ^ j
  l0 : 0 < p.2
  l1 : p.2 ≤ 60 ^ j
structure Mid (j : Nat) (t l i : Int) : Prop where
  a0 : 0 ≤ t * i + l
  a1 : t * i + l ≤ 100 ^ (j + 1)
  b0 : 0 < l * i
  b1 : l * i ≤ 60 ^ (j + 1)
  g0 : 0 < Nat.gcd (t * i + l).toNat (l * i).toNat
  g1 : ((Nat.gcd (t * i + l).toNat (l * i).toNat : Nat) : Int) ≤ l * i
theorem mid_of {j : Nat} {t l i : Int} (h : Bd j (t, l)) (hi : 1 ≤ i ∧ i ≤ 60) : Mid j t l i := by
  obtain ⟨t0, t1, l0, l1⟩ := h
  simp only at t0 t1 l0 l1
  have e1 : (100 : Int) ^ (j + 1) = 100 * 100 ^ j := by rw [Int.pow_succ, Int.mul_comm]
  have e2 : (60 : Int) ^ (j + 1) = 60 * 60 ^ j := by rw [Int.pow_succ, Int.mul_comm]
  have m1 : t * i ≤ 100 ^ j * 60 := Int.mul_le_mul t1 hi.2 (by omega) (by omega)
  have m2 : l * i ≤ 60 ^ j * 60 := Int.mul_le_mul l1 hi.2 (by omega) (by omega)
  have m3 : 0 ≤ t * i := Int.mul_nonneg t0 (by omega)
  have m4 : 0 < l * i := Int.mul_pos l0 (by omega)
  have m5 : (60 : Int) ^ j ≤ 100 ^ j := by
    have : (60 : Nat) ^ j ≤ 100 ^ j := Nat.pow_le_pow_left (by decide) j
    exact_mod_cast this
  have g0 : 0 < Nat.gcd (t * i + l).toNat (l * i).toNat := Nat.gcd_pos_of_pos_right _ (by omega)
  have g1 : Nat.gcd (t * i + l).toNat (l * i).toNat ≤ (l * i).toNat := Nat.gcd_le_right _ (by omega)
  exact ⟨by omega, by omega, m4, by omega, g0, by omega⟩
theorem shp_bd {j : Nat} {p : Int × Int} {i : Int} (h : Bd j p) (hi : 1 ≤ i ∧ i ≤ 60) : Bd (j + 1) (shp p i) := by
  obtain ⟨t, l⟩ := p
  obtain ⟨a0, a1, b0, b1, g0, g1⟩ := mid_of h hi
  unfold shp
  simp only
  generalize hg : Nat.gcd (t * i + l).toNat (l * i).toNat = g at *
  have d : g ∣ (l * i).toNat := by rw [← hg]; exact Nat.gcd_dvd_right _ _
  have gp : (0 : Int) < g := by omega
  refine ⟨Int.ediv_nonneg a0 (by omega), Int.le_trans (Int.ediv_le_self _ a0) a1, ?_, Int.le_trans (Int.ediv_le_self _ (by omega)) b1⟩
  exact Int.ediv_pos_of_pos_of_dvd b0 (by omega) (by
    have : (l * i) = ((l * i).toNat : Int) := by omega
    rw [this]; exact Int.natCast_dvd_natCast.mpr d)
theorem sumS_bd {ns : List Int} (h : ∀ i ∈ ns, 1 ≤ i ∧ i ≤ 60) : Bd ns.length (sumS ns) := by
  unfold sumS
  have gen : ∀ (ns : List Int) (j : Nat) (p : Int × Int), (∀ i ∈ ns, 1 ≤ i ∧ i ≤ 60) → Bd j p → Bd (j + ns.length) (ns.foldl shp p) := by
    intro ns
    induction ns with
    | nil => intro j p _ hb; exact hb
    | cons i ns ih =>
      intro j p h hb
      rw [List.foldl_cons, List.length_cons, show j + (ns.length + 1) = (j + 1) + ns.length from by omega]
      exact ih (j + 1) _ (fun x hx => h x (by simp [hx])) (shp_bd hb (h i (by simp)))
  have := gen ns 0 (0, 1) h ⟨by decide, by decide, by decide, by decide⟩
  rwa [Nat.zero_add] at this
theorem pow_small {j : Nat} (h : j ≤ 6) : (100 : Int) ^ j ≤ 1000000000000 ∧ (60 : Int) ^ j ≤ 46656000000 := by
  have : j = 0 ∨ j = 1 ∨ j = 2 ∨ j = 3 ∨ j = 4 ∨ j = 5 ∨ j = 6 := by omega
  rcases this with rfl | rfl | rfl | rfl | rfl | rfl | rfl <;> decide
theorem sum_use {d : D} {ns : List Int} (hd : Sq d ns) (hn : ns.length ≤ 6) (h60 : ∀ i ∈ ns, 1 ≤ i ∧ i ≤ 60) (q : Q (.fz (.tup [.int (sumS ns).1, .int (sumS ns).2])) τ) : WF (m_l_sum [.fz d] τ) Q E := by
  refine w_body ?_
  unfold mv_l_sum
  (repeat' (first | (with_reducible apply w_so hd.seq) | walk_at "w_1"))
  refine w_forL (fun j ρ τ' => τ' = τ ∧ ∃ t l s3 s4, ρ = [.fz d, .fz (.int t), .fz (.int l), s3, s4] ∧ (t, l) = sumS (ns.take j) ∧ Bd j (t, l)) ⟨rfl, 0, 1, .un, .un, rfl, rfl, ⟨by decide, by decide, by decide, by decide⟩⟩ ?_ ?_
  · rintro j x ρ τ' hx ⟨rfl, t, l, s3, s4, rfl, hs, hb⟩
    obtain ⟨i, rfl, hi, hm⟩ := map_int_at hx
    have hj : j < ns.length := (List.getElem?_eq_some_iff.mp hi).1
    have b60 := h60 i hm
    have M := mid_of hb b60
    have B2 := shp_bd hb b60
    obtain ⟨p1, p2⟩ := pow_small (j := j) (by omega)
    obtain ⟨p3, p4⟩ := pow_small (j := j + 1) (by omega)
    obtain ⟨a0, a1, b0, b1, g0, g1⟩ := M
    obtain ⟨t0, t1, l0, l1⟩ := hb
    simp only at t0 t1 l0 l1
    (repeat' (first | walk_at "w_1"))
    refine common_use (by omega) (by omega) (by omega) ?_
    (repeat' (first | walk_at "w_1"))
    refine ⟨rfl, _, _, _, _, rfl, ?_, B2⟩
    unfold sumS at hs ⊢
    rw [List.take_succ, hi, List.foldl_append, ← hs]
    rfl
  · rintro ρ τ' ⟨rfl, t, l, s3, s4, rfl, hs, hb⟩
    rw [List.length_map, List.take_length] at hs
    rw [← hs] at q
    (repeat' (first | walk_at "w_1"))
    exact q
theorem sum_use2 {d : D} {ns : List Int} (hd : Sq d ns) (hn : ns.length ≤ 6) (h60 : ∀ i ∈ ns, 1 ≤ i ∧ i ≤ 60) (q : Q (.fz (.tup [.int (sumS ns).1, .int (sumS ns).2])) τ) : WF (m_sum_of_shares [.fz d] τ) Q E := by
  refine w_body ?_
  unfold mv_sum_of_shares
  (repeat' (first | (with_reducible apply w_so hd.seq) | walk_at "w_1"))
  refine w_forL (fun j ρ τ' => τ' = τ ∧ ∃ t l s3 s4, ρ = [.fz d, .fz (.int t), .fz (.int l), s3, s4] ∧ (t, l) = sumS (ns.take j) ∧ Bd j (t, l)) ⟨rfl, 0, 1, .un, .un, rfl, rfl, ⟨by decide, by decide, by decide, by decide⟩⟩ ?_ ?_
  · rintro j x ρ τ' hx ⟨rfl, t, l, s3, s4, rfl, hs, hb⟩
    obtain ⟨i, rfl, hi, hm⟩ := map_int_at hx
    have hj : j < ns.length := (List.getElem?_eq_some_iff.mp hi).1
    have b60 := h60 i hm
    have M := mid_of hb b60
    have B2 := shp_bd hb b60
    obtain ⟨p1, p2⟩ := pow_small (j := j) (by omega)
    obtain ⟨p3, p4⟩ := pow_small (j := j + 1) (by omega)
    obtain ⟨a0, a1, b0, b1, g0, g1⟩ := M
    obtain ⟨t0, t1, l0, l1⟩ := hb
    simp only at t0 t1 l0 l1
    (repeat' (first | walk_at "w_1"))
    refine common_use2 (by omega) (by omega) (by omega) ?_
    (repeat' (first | walk_at "w_1"))
    refine ⟨rfl, _, _, _, _, rfl, ?_, B2⟩
    unfold sumS at hs ⊢
    rw [List.take_succ, hi, List.foldl_append, ← hs]
    rfl
  · rintro ρ τ' ⟨rfl, t, l, s3, s4, rfl, hs, hb⟩
    rw [List.length_map, List.take_length] at hs
    rw [← hs] at q
    (repeat' (first | walk_at "w_1"))
    exact q
end
end LWk57
set_option maxHeartbeats 0
namespace LWk57
open PySem PySem.Spec L2 PD
open PyProof.Rows hiding St pairD cutD
local macro_rules | `(tactic| walk_at "w_1") => `(tactic| (first | with_reducible refine w_seq ?_ | with_reducible refine w_set ?_ | with_reducible refine w_ret ?_ | with_reducible refine w_drop ?_ | with_reducible refine w_pass ?_ | with_reducible refine w_sif ?_ | with_reducible refine w_asg ?_ | with_reducible refine w_par ?_ | with_reducible refine w_for ?_ | with_reducible refine w_src ?_ | with_reducible refine w_srcR ?_ | with_reducible refine w_enum ?_ | with_reducible refine w_zip ?_ | with_reducible refine w_raiseF ?_ | with_reducible refine w_raiseT ?_ | with_reducible refine w_brk ?_ | with_reducible refine w_ct ?_ | with_reducible refine w_lit ?_ | with_reducible refine w_fz ?_ | with_reducible refine w_prim ?_ | with_reducible refine w_call ?_ | with_reducible refine w_nil ?_ | with_reducible refine w_ex ?_ | with_reducible refine w_tup ?_ | with_reducible refine w_lst ?_ | with_reducible refine w_tof ?_ | with_reducible refine w_tnot ?_ | with_reducible refine w_tyes ?_ | with_reducible refine w_tor ?_ | with_reducible refine w_tand ?_ | with_reducible refine w_and ?_ | with_reducible refine w_or ?_ | with_reducible refine w_not ?_ | with_reducible refine w_vif ?_ | with_reducible refine w_chain ?_ | with_reducible refine w_fld ?_ | with_reducible refine w_tput ?_ | with_reducible refine w_setIx ?_ | with_reducible refine w_dic0 ?_ | with_reducible refine w_lc ?_ | with_reducible refine w_aFz ?_ | with_reducible refine w_try ?_ | with_reducible refine w_callL ?_ | with_reducible refine w_b ?_ | with_reducible refine w_i ?_ | with_reducible refine wp_add ?_ | with_reducible refine wp_sub ?_ | with_reducible refine wp_neg ?_ | with_reducible refine wp_lt ?_ | with_reducible refine wp_le ?_ | with_reducible refine wp_gt ?_ | with_reducible refine wp_ge ?_ | with_reducible refine wp_eqI ?_ | with_reducible refine wp_neI ?_ | with_reducible refine wp_len ?_ | with_reducible refine wp_lenT ?_ | with_reducible refine wp_lenS ?_ | with_reducible refine wp_int ?_ | with_reducible refine wp_abs ?_ | with_reducible refine wp_min2 ?_ | with_reducible refine wp_max2 ?_ | with_reducible refine wp_sorted ?_ | with_reducible refine wp_tupC ?_ | with_reducible refine wp_tupCT ?_ | with_reducible refine wp_lstC ?_ | with_reducible refine wp_lstCT ?_ | with_reducible refine wi_tt ?_ | with_reducible refine wi_ff ?_ | with_reducible refine wi_not ?_ | with_reducible refine wp_sl1 ?_ | with_reducible refine w_se ?_ | with_reducible refine w_lam0 ?_ | with_reducible refine w_par3 ?_ | with_reducible refine w_dicK ?_ | with_reducible refine w_evN ?_ | with_reducible refine w_evC ?_ | with_reducible refine w_lc2 ?_ | with_reducible refine wp_eqT ?_ | ((with_reducible apply w_var); case h => exact rfl) | ((with_reducible apply w_varO); case h => exact rfl) | ((with_reducible apply w_move); case h => exact rfl) | ((with_reducible apply w_moveO); case h => exact rfl) | ((with_reducible apply w_pk); case h => exact rfl) | ((with_reducible apply w_res); case h => exact rfl) | ((with_reducible apply w_ls); case h => exact rfl) | ((with_reducible apply w_sl); case h => exact rfl) | ((with_reducible apply w_ti); case h => exact rfl) | ((with_reducible apply w_tc); case h => exact rfl) | ((with_reducible apply w_tne); case h => exact rfl) | ((with_reducible apply w_tp); case h => exact rfl) | ((with_reducible apply w_ow); case h => exact rfl) | ((with_reducible apply w_aug); case ha => exact rfl) | ((with_reducible apply w_app); case h0 => exact rfl) | ((with_reducible apply w_so); case h => exact rfl) | ((with_reducible apply w_l); (case h => exact rfl); case hl => exact rfl) | ((with_reducible apply wp_is); case h => exact rfl) | ((with_reducible apply wp_isnot); case h => exact rfl) | ((with_reducible apply wp_ixT); case h => exact rfl) | ((with_reducible apply w_z); case h => exact rfl) | ((with_reducible apply w_fx); (case h => exact rfl); case h2 => exact rfl) | ((with_reducible refine wi_pos ?hp ?_); case hp => omega) | ((with_reducible refine wi_neg ?hp ?_); case hp => omega) | ((with_reducible refine wp_mod ?hp ?_); case hp => omega) | ((with_reducible refine wp_fdiv ?hp ?hq ?_); (case hp => omega); case hq => omega) | ((with_reducible refine wp_mulS ?hp ?hq ?_); (case hp => omega); case hq => omega)))
abbrev CL := List (Int × Int)
def gN (ns : List Int) (i : Nat) : Int := ns.getD i 0
theorem gN_at {ns : List Int} {i : Nat} {s : Int} (h : ns[i]? = some s) : gN ns i = s := by
  unfold gN
  rw [List.getD_eq_getElem?_getD, h]
  rfl
theorem at_gN {ns : List Int} {i : Nat} (h : i < ns.length) : ns[i]? = some (gN ns i) := by
  rw [List.getElem?_eq_getElem h, gN_at (List.getElem?_eq_getElem h)]
theorem Spn.at {ns : List Int} (h : Spn ns) {i : Nat} (hi : i < ns.length) : 1 ≤ gN ns i ∧ gN ns i ≤ 60 := by
  have m : gN ns i ∈ ns := List.mem_of_getElem? (at_gN hi)
  exact ⟨h.lo _ m, h.hi _ m⟩
def gcdI (a b : Int) : Int := (Nat.gcd a.toNat b.toNat : Nat)
theorem gcdI_comm (a b : Int) : gcdI a b = gcdI b a := by unfold gcdI; rw [Nat.gcd_comm]
theorem gcdI_pos {a b : Int} (h : 1 ≤ b) : 0 < gcdI a b := by
  unfold gcdI
  have := Nat.gcd_pos_of_pos_right a.toNat (n := b.toNat) (by omega)
  omega
theorem gcdI_dvd {a b : Int} (ha : 1 ≤ a) (hb : 1 ≤ b) : gcdI a b ∣ a ∧ gcdI a b ∣ b := by
  unfold gcdI
  have h1 := Nat.gcd_dvd_left a.toNat b.toNat
  have h2 := Nat.gcd_dvd_right a.toNat b.toNat
  rw [show a = (a.toNat : Int) from by omega, show b = (b.toNat : Int) from by omega]
  rw [Int.toNat_natCast, Int.toNat_natCast]
  exact ⟨Int.natCast_dvd_natCast.mpr h1, Int.natCast_dvd_natCast.mpr h2⟩
/-- two classes of two jobs meet -/
def Meets (ns : List Int) (i j : Nat) (a b : Int × Int) : Prop := a.1 = b.1 ∧ (a.2 - b.2) % gcdI (gN ns i) (gN ns j) = 0
instance {ns : List Int} {i j : Nat} {a b : Int × Int} : Decidable (Meets ns i j a b) := inferInstanceAs (Decidable (_ ∧ _))
theorem emod_neg {a b g : Int} (h : (a - b) % g = 0) : (b - a) % g = 0 := by
  have := Int.dvd_of_emod_eq_zero h
  refine Int.emod_eq_zero_of_dvd ?_
  rw [show b - a = -(a - b) from by omega]
  exact (Int.dvd_neg).mpr this
theorem Meets.symm {ns : List Int} {i j : Nat} {a b : Int × Int} (h : Meets ns i j a b) : Meets ns j i b a := ⟨h.1.symm, by rw [gcdI_comm]; exact emod_neg h.2⟩
/-- a class that can be -/
def Bnd1 (ns : List Int) (h : Int) (i : Nat) (p : Int × Int) : Prop := 0 ≤ p.1 ∧ p.1 ≤ h - 1 ∧ 0 ≤ p.2 ∧ p.2 ≤ gN ns i - 1
structure Cls (ns : List Int) (h : Int) (cs : CL) : Prop where
  len : cs.length = ns.length
  bd : ∀ i p, cs[i]? = some p → Bnd1 ns h i p
  ap : ∀ i j p q, j < i → cs[i]? = some p → cs[j]? = some q → ¬ Meets ns i j p q
def SqD (d : D) (ds : List D) : Prop := d = .lst ds ∨ d = .tup ds
def Good (ns : List Int) (h : Int) (thing : D) : Prop := ∃ cs : CL, SqD thing (cs.map pairD) ∧ Cls ns h cs
def Odd (d : D) : Prop := (∃ (a : Int) (b : Bool), d = .tup [.int a, .bl b]) ∨ (∃ xs, d = .tup xs ∧ xs.length ≠ 2) ∨ fIsi sub d (.ty "tuple") = .at (.bl false)
def Itm (d : D) : Prop := (∃ p : Int × Int, d = pairD p) ∨ Odd d
structure Thg (thing : D) : Prop where
  nc : thing.nc = true
  sh : (∃ ds, SqD thing ds ∧ ds.length ≤ 100 ∧ ∀ d ∈ ds, Itm d) ∨ fIsi sub thing (.tup [.ty "list", .ty "tuple"]) = .at (.bl false)
section
variable {k : Nat} {τ : Tape} {Q : Rs → Tape → Prop} {E : D → Tape → Prop} {QP : Rs → Prop}
theorem SqD.seq {d : D} {ds : List D} (h : SqD d ds) : seqD d = some ds := by rcases h with rfl | rfl <;> rfl
theorem SqD.len {d : D} {ds : List D} (h : SqD d ds) (q : QP (.fz (.int ds.length))) : WP (pLen [d]) QP := by
  rcases h with rfl | rfl
  · exact wp_len q
  · exact wp_lenT q
theorem SqD.isl {d : D} {ds : List D} (h : SqD d ds) : fIsi sub d (.tup [.ty "list", .ty "tuple"]) = .at (.bl true) := by
  rcases h with rfl | rfl
  · exact isiL
  · exact isiT
theorem SqD.ix {d x : D} {ds : List D} (h : SqD d ds) {i : Nat} (e : ds[i]? = some x) (q : QP (.fz x)) : WP (pIx [d, .int (i : Int)]) QP := by
  have hi : i < ds.length := (List.getElem?_eq_some_iff.mp e).1
  have : atI ds (i : Int) = some x := by
    rw [atI_nat ds i hi]
    rw [List.getElem?_eq_getElem hi] at e
    exact e
  rcases h with rfl | rfl
  · exact wp_ix this q
  · exact wp_ixT this q
theorem Sq.sqD {d : D} {ns : List Int} (h : Sq d ns) : SqD d (ns.map D.int) := h
theorem Sq.ix {d : D} {ns : List Int} (h : Sq d ns) {i : Nat} (hi : i < ns.length) (q : QP (.fz (.int (gN ns i)))) : WP (pIx [d, .int (i : Int)]) QP := by
  refine h.sqD.ix (x := .int (gN ns i)) ?_ q
  rw [List.getElem?_map, at_gN hi]
  rfl
theorem isiP {xs : List D} : fIsi sub (.tup xs) (.ty "tuple") = .at (.bl true) := by rfl
theorem meet_use {d : D} {ns : List Int} (hd : Sq d ns) (hs : Spn ns) {i j : Nat} (hi : i < ns.length) (hj : j < ns.length) {a b : Int × Int} (q : Q (.fz (.bl (decide (Meets ns i j a b)))) τ) : WF (m_l_meet [.fz d, .fz (.int (i : Int)), .fz (.int (j : Int)), .fz (pairD a), .fz (pairD b)] τ) Q E := by
  obtain ⟨i1, i2⟩ := hs.at hi
  obtain ⟨j1, j2⟩ := hs.at hj
  have gp := gcdI_pos (a := gN ns i) j1
  refine w_body ?_
  unfold mv_l_meet pairD
  (repeat' (first | walk_at "w_1"))
  refine wi_dec (fun h => ?_) fun h => ?_
  · rw [decide_eq_false (fun m : Meets ns i j a b => h m.1)] at q
    (repeat' (first | walk_at "w_1"))
    exact q
  · have h : a.1 = b.1 := Decidable.of_not_not h
    (repeat' (first | (with_reducible refine hd.ix hi ?_) | (with_reducible refine hd.ix hj ?_) | walk_at "w_1"))
    refine common_use (by omega) (by omega) (by omega) ?_
    have e : (Nat.gcd (gN ns i).toNat (gN ns j).toNat : Nat) = gcdI (gN ns i) (gN ns j) := rfl
    rw [e]
    (repeat' (first | walk_at "w_1"))
    rw [show decide ((a.2 - b.2) % gcdI (gN ns i) (gN ns j) = 0) = decide (Meets ns i j a b) from by
      unfold Meets
      simp [h]]
    exact q
theorem whole_use {x lo hi : Int} (q : Q (.fz (.bl (decide (lo ≤ x ∧ x ≤ hi)))) τ) : WF (m_l_is_whole [.fz (.int x), .fz (.int lo), .fz (.int hi)] τ) Q E := by
  refine w_body ?_
  unfold mv_l_is_whole
  (repeat' (first | (with_reducible refine wp_isi isiI ?_) | (with_reducible refine wp_isi isiIb ?_) | walk_at "w_1"))
  refine wi_dec (fun h => ?_) fun h => ?_
  · (repeat' (first | walk_at "w_1"))
    rw [show decide (x ≤ hi) = decide (lo ≤ x ∧ x ≤ hi) from by simp [h]]
    exact q
  · rw [show false = decide (lo ≤ x ∧ x ≤ hi) from by simp [h]]
    exact q
theorem isiB1 {b : Bool} : fIsi sub (.bl b) (.ty "int") = .at (.bl true) := by rfl
theorem isiB2 {b : Bool} : fIsi sub (.bl b) (.ty "bool") = .at (.bl true) := by rfl
theorem whole_not {b : Bool} {lo hi : D} (q : Q (.fz (.bl false)) τ) : WF (m_l_is_whole [.fz (.bl b), .fz lo, .fz hi] τ) Q E := by
  refine w_body ?_
  unfold mv_l_is_whole
  (repeat' (first | (with_reducible refine wp_isi isiB1 ?_) | (with_reducible refine wp_isi isiB2 ?_) | walk_at "w_1"))
  exact q
end
end LWk57
set_option maxHeartbeats 0
namespace LWk57
open PySem PySem.Spec L2 PD
open PyProof.Rows hiding St pairD cutD
local macro_rules | `(tactic| walk_at "w_1") => `(tactic| (first | with_reducible refine w_seq ?_ | with_reducible refine w_set ?_ | with_reducible refine w_ret ?_ | with_reducible refine w_drop ?_ | with_reducible refine w_pass ?_ | with_reducible refine w_sif ?_ | with_reducible refine w_asg ?_ | with_reducible refine w_par ?_ | with_reducible refine w_for ?_ | with_reducible refine w_src ?_ | with_reducible refine w_srcR ?_ | with_reducible refine w_enum ?_ | with_reducible refine w_zip ?_ | with_reducible refine w_raiseF ?_ | with_reducible refine w_raiseT ?_ | with_reducible refine w_brk ?_ | with_reducible refine w_ct ?_ | with_reducible refine w_lit ?_ | with_reducible refine w_fz ?_ | with_reducible refine w_prim ?_ | with_reducible refine w_call ?_ | with_reducible refine w_nil ?_ | with_reducible refine w_ex ?_ | with_reducible refine w_tup ?_ | with_reducible refine w_lst ?_ | with_reducible refine w_tof ?_ | with_reducible refine w_tnot ?_ | with_reducible refine w_tyes ?_ | with_reducible refine w_tor ?_ | with_reducible refine w_tand ?_ | with_reducible refine w_and ?_ | with_reducible refine w_or ?_ | with_reducible refine w_not ?_ | with_reducible refine w_vif ?_ | with_reducible refine w_chain ?_ | with_reducible refine w_fld ?_ | with_reducible refine w_tput ?_ | with_reducible refine w_setIx ?_ | with_reducible refine w_dic0 ?_ | with_reducible refine w_lc ?_ | with_reducible refine w_aFz ?_ | with_reducible refine w_try ?_ | with_reducible refine w_callL ?_ | with_reducible refine w_b ?_ | with_reducible refine w_i ?_ | with_reducible refine wp_add ?_ | with_reducible refine wp_sub ?_ | with_reducible refine wp_neg ?_ | with_reducible refine wp_lt ?_ | with_reducible refine wp_le ?_ | with_reducible refine wp_gt ?_ | with_reducible refine wp_ge ?_ | with_reducible refine wp_eqI ?_ | with_reducible refine wp_neI ?_ | with_reducible refine wp_len ?_ | with_reducible refine wp_lenT ?_ | with_reducible refine wp_lenS ?_ | with_reducible refine wp_int ?_ | with_reducible refine wp_abs ?_ | with_reducible refine wp_min2 ?_ | with_reducible refine wp_max2 ?_ | with_reducible refine wp_sorted ?_ | with_reducible refine wp_tupC ?_ | with_reducible refine wp_tupCT ?_ | with_reducible refine wp_lstC ?_ | with_reducible refine wp_lstCT ?_ | with_reducible refine wi_tt ?_ | with_reducible refine wi_ff ?_ | with_reducible refine wi_not ?_ | with_reducible refine wp_sl1 ?_ | with_reducible refine w_se ?_ | with_reducible refine w_lam0 ?_ | with_reducible refine w_par3 ?_ | with_reducible refine w_dicK ?_ | with_reducible refine w_evN ?_ | with_reducible refine w_evC ?_ | with_reducible refine w_lc2 ?_ | with_reducible refine wp_eqT ?_ | ((with_reducible apply w_var); case h => exact rfl) | ((with_reducible apply w_varO); case h => exact rfl) | ((with_reducible apply w_move); case h => exact rfl) | ((with_reducible apply w_moveO); case h => exact rfl) | ((with_reducible apply w_pk); case h => exact rfl) | ((with_reducible apply w_res); case h => exact rfl) | ((with_reducible apply w_ls); case h => exact rfl) | ((with_reducible apply w_sl); case h => exact rfl) | ((with_reducible apply w_ti); case h => exact rfl) | ((with_reducible apply w_tc); case h => exact rfl) | ((with_reducible apply w_tne); case h => exact rfl) | ((with_reducible apply w_tp); case h => exact rfl) | ((with_reducible apply w_ow); case h => exact rfl) | ((with_reducible apply w_aug); case ha => exact rfl) | ((with_reducible apply w_app); case h0 => exact rfl) | ((with_reducible apply w_so); case h => exact rfl) | ((with_reducible apply w_l); (case h => exact rfl); case hl => exact rfl) | ((with_reducible apply wp_is); case h => exact rfl) | ((with_reducible apply wp_isnot); case h => exact rfl) | ((with_reducible apply wp_ixT); case h => exact rfl) | ((with_reducible apply w_z); case h => exact rfl) | ((with_reducible apply w_fx); (case h => exact rfl); case h2 => exact rfl) | ((with_reducible refine wi_pos ?hp ?_); case hp => omega) | ((with_reducible refine wi_neg ?hp ?_); case hp => omega) | ((with_reducible refine wp_mod ?hp ?_); case hp => omega) | ((with_reducible refine wp_fdiv ?hp ?hq ?_); (case hp => omega); case hq => omega) | ((with_reducible refine wp_mulS ?hp ?hq ?_); (case hp => omega); case hq => omega)))
theorem pairD_inj {p q : Int × Int} (h : pairD p = pairD q) : p = q := by
  unfold pairD at h
  injection h with h
  injection h with h1 h2
  injection h2 with h2 _
  injection h1 with h1
  injection h2 with h2
  exact Prod.ext h1 h2
theorem pairs_inj : ∀ {cs es : CL}, cs.map pairD = es.map pairD → cs = es
  | [], [], _ => rfl
  | [], _ :: _, h => by cases h
  | _ :: _, [], h => by cases h
  | c :: cs, e :: es, h => by
    rw [List.map_cons, List.map_cons] at h
    injection h with h1 h2
    rw [pairD_inj h1, pairs_inj h2]
theorem SqD.inj {d : D} {ds es : List D} (h : SqD d ds) (h2 : SqD d es) : ds = es := by
  rcases h with rfl | rfl <;> rcases h2 with e | e <;> first | (injection e) | cases e
theorem good_of {ns : List Int} {h : Int} {d : D} {ds : List D} (s : SqD d ds) (g : Good ns h d) : ∃ cs : CL, ds = cs.map pairD ∧ Cls ns h cs := by
  obtain ⟨cs, s2, c⟩ := g
  exact ⟨cs, s.inj s2, c⟩
theorem good_at {ns : List Int} {h : Int} {d x : D} {ds : List D} {i : Nat} (s : SqD d ds) (g : Good ns h d) (e : ds[i]? = some x) : ∃ p, x = pairD p ∧ Bnd1 ns h i p := by
  obtain ⟨cs, rfl, c⟩ := good_of s g
  rw [List.getElem?_map] at e
  cases e2 : cs[i]? with
  | none => rw [e2] at e; cases e
  | some p => rw [e2] at e; cases e; exact ⟨p, rfl, c.bd i p e2⟩
theorem odd_no {d : D} (h : Odd d) (p : Int × Int) : d ≠ pairD p := by
  rintro rfl
  rcases h with ⟨a, b, h⟩ | ⟨xs, h, h2⟩ | h
  · unfold pairD at h; injection h with h; injection h with _ h; injection h with h _; cases h
  · unfold pairD at h; injection h with h; subst h; exact h2 rfl
  · have : fIsi sub (pairD p) (.ty "tuple") = .at (.bl true) := isiP
    rw [this] at h
    cases h
theorem all_pairs {P : Nat → Int × Int → Prop} : ∀ {ds : List D} (b : Nat), (∀ i x, ds[i]? = some x → ∃ p, x = pairD p ∧ P (b + i) p) → ∃ cs : CL, ds = cs.map pairD ∧ ∀ i p, cs[i]? = some p → P (b + i) p
  | [], b, _ => ⟨[], rfl, fun i p h => by simp at h⟩
  | d :: ds, b, h => by
    obtain ⟨p, rfl, hp⟩ := h 0 d rfl
    obtain ⟨cs, rfl, hc⟩ := all_pairs (ds := ds) (b + 1) fun i x e => by
      have := h (i + 1) x e
      rwa [show b + (i + 1) = b + 1 + i from by omega] at this
    refine ⟨p :: cs, rfl, fun i q e => ?_⟩
    cases i with
    | zero => cases e; exact hp
    | succ i =>
      have := hc i q e
      rwa [show b + 1 + i = b + (i + 1) from by omega] at this
theorem map_pair_at {cs : CL} {i : Nat} {x : D} (h : (cs.map pairD)[i]? = some x) : ∃ p, x = pairD p ∧ cs[i]? = some p := by
  rw [List.getElem?_map] at h
  cases e : cs[i]? with
  | none => rw [e] at h; cases h
  | some p => rw [e] at h; cases h; exact ⟨p, rfl, rfl⟩
theorem rep_succ (m : Nat) : List.replicate m (D.int 1) ++ [D.int 1] = List.replicate (m + 1) (D.int 1) := List.replicate_succ'.symm
section
variable {k : Nat} {τ : Tape} {Q : Rs → Tape → Prop} {E : D → Tape → Prop} {QP : Rs → Prop}
theorem wp_len2 {a b : D} (q : QP (.fz (.int 2))) : WP (pLen [.tup [a, b]]) QP := ⟨q⟩
theorem are_use {d thing : D} {ns : List Int} {h : Int} (hd : Sq d ns) (hs : Spn ns) (T : Thg thing) (y : Good ns h thing → Q (.fz (.bl true)) τ) (n : ¬ Good ns h thing → Q (.fz (.bl false)) τ) : WF (m_l_are_classes [.fz d, .fz (.int h), .fz thing] τ) Q E := by
  have n6 := hs.n6
  refine w_body ?_
  unfold mv_l_are_classes
  rcases T.sh with ⟨ds, sd, l100, it⟩ | no
  · (repeat' (first | (with_reducible refine wp_isi sd.isl ?_) | (with_reducible refine sd.len ?_) | (with_reducible refine hd.len ?_) | walk_at "w_1"))
    refine wi_dec (fun c => ?_) fun c => ?_
    · (repeat' (first | walk_at "w_1"))
      refine n fun g => ?_
      obtain ⟨cs, rfl, cc⟩ := good_of sd g
      have := cc.len
      rw [List.length_map] at c
      omega
    have hl : ds.length = ns.length := by omega
    (repeat' (first | (with_reducible apply w_so sd.seq) | walk_at "w_1"))
    refine w_forL (fun j ρ τ' => τ' = τ ∧ j ≤ ds.length ∧ (∀ i x, i < j → ds[i]? = some x → ∃ p, x = pairD p ∧ Bnd1 ns h i p) ∧ ∃ s3 s4, ρ = [.fz d, .fz (.int h), .fz thing, s3, s4, .un]) ⟨rfl, Nat.zero_le _, fun i x hi => absurd hi (Nat.not_lt_zero _), _, _, rfl⟩ ?_ ?_
    · rintro j x ρ τ' hx ⟨rfl, hj, ih, s3, s4, rfl⟩
      obtain ⟨z, hz, rfl⟩ := enumD_at hx
      have hj2 : j < ds.length := (List.getElem?_eq_some_iff.mp hz).1
      have jn : j < ns.length := by omega
      have bad : (∀ p, z = pairD p → ¬ Bnd1 ns h j p) → ¬ Good ns h thing := fun f g => by
        obtain ⟨p, e, b⟩ := good_at sd g hz
        exact f p e b
      rw [Nat.zero_add]
      rcases it z (List.mem_of_getElem? hz) with ⟨p, rfl⟩ | o
      · unfold pairD
        (repeat' (first | (with_reducible refine wp_isi isiP ?_) | (with_reducible refine wp_len2 ?_) | walk_at "w_1"))
        refine whole_use ?_
        (repeat' (first | walk_at "w_1"))
        refine wi_dec (fun c1 => ?_) fun c1 => ?_
        · (repeat' (first | (with_reducible refine hd.ix jn ?_) | walk_at "w_1"))
          refine whole_use ?_
          (repeat' (first | walk_at "w_1"))
          refine wi_dec (fun c2 => ?_) fun c2 => ?_
          · (repeat' (first | walk_at "w_1"))
            refine ⟨rfl, by omega, fun i x hi e => ?_, _, _, rfl⟩
            by_cases c : i = j
            · subst c
              rw [hz] at e
              cases e
              exact ⟨p, rfl, c1.1, c1.2, c2.1, c2.2⟩
            · exact ih i x (by omega) e
          · (repeat' (first | walk_at "w_1"))
            refine n (bad fun q e b => ?_)
            have e := pairD_inj (p := p) (q := q) e
            subst e
            exact c2 ⟨b.2.2.1, b.2.2.2⟩
        · (repeat' (first | walk_at "w_1"))
          refine n (bad fun q e b => ?_)
          have e := pairD_inj (p := p) (q := q) e
          subst e
          exact c1 ⟨b.1, b.2.1⟩
      · have nb := bad fun p e => absurd e (odd_no o p)
        rcases o with ⟨a, b, rfl⟩ | ⟨xs, rfl, hx⟩ | o
        · (repeat' (first | (with_reducible refine wp_isi isiP ?_) | (with_reducible refine wp_len2 ?_) | walk_at "w_1"))
          refine whole_use ?_
          (repeat' (first | walk_at "w_1"))
          refine wi_dec (fun c1 => ?_) fun c1 => ?_
          · (repeat' (first | (with_reducible refine hd.ix jn ?_) | walk_at "w_1"))
            refine whole_not ?_
            (repeat' (first | walk_at "w_1"))
            exact n nb
          · (repeat' (first | walk_at "w_1"))
            exact n nb
        · (repeat' (first | (with_reducible refine wp_isi isiP ?_) | walk_at "w_1"))
          exact n nb
        · (repeat' (first | (with_reducible refine wp_isi o ?_) | walk_at "w_1"))
          exact n nb
    · rintro ρ τ' ⟨rfl, hj, ih, s3, s4, rfl⟩
      rw [enumD_len] at ih
      obtain ⟨cs, rfl, hb⟩ := all_pairs (ds := ds) (P := fun i p => Bnd1 ns h i p) 0 fun i x e => by
        rw [Nat.zero_add]
        exact ih i x (List.getElem?_eq_some_iff.mp e).1 e
      simp only [Nat.zero_add] at hb
      rw [List.length_map] at hl
      clear ih hj
      (repeat' (first | (with_reducible refine hd.len ?_) | (with_reducible refine w_rng1 ⟨by omega, by omega⟩ ?_) | walk_at "w_1"))
      refine w_forL (fun i ρ τ'' => τ'' = τ' ∧ (∀ a b p q, a < i → b < a → cs[a]? = some p → cs[b]? = some q → ¬ Meets ns a b p q) ∧ ∃ s3, ρ = [.fz d, .fz (.int h), .fz thing, s3, s4, .un]) ⟨rfl, fun a b p q l => absurd l (Nat.not_lt_zero _), _, rfl⟩ ?_ ?_
      · rintro j x ρ τ'' hx ⟨rfl, ih, s3, rfl⟩
        obtain ⟨rfl, hj⟩ := rngL_at hx
        have hj : j < ns.length := by omega
        rw [Int.zero_add]
        obtain ⟨p, hp⟩ : ∃ p, cs[j]? = some p := ⟨_, List.getElem?_eq_getElem (by omega)⟩
        have hp2 : (cs.map pairD)[j]? = some (pairD p) := by rw [List.getElem?_map, hp]; rfl
        (repeat' (first | (with_reducible refine w_rng1 ⟨by omega, by omega⟩ ?_) | walk_at "w_1"))
        refine w_lcL (fun t acc ρ τ => τ = τ'' ∧ ∃ m, m ≤ t ∧ t ≤ j ∧ acc = List.replicate m (.int 1) ∧ (m = 0 → ∀ b q, b < t → cs[b]? = some q → ¬ Meets ns j b p q) ∧ (m ≠ 0 → ∃ b q, b < j ∧ cs[b]? = some q ∧ Meets ns j b p q) ∧ ρ = [.fz d, .fz (.int h), .fz thing, .fz (.int (j : Int)), s4, .un]) ⟨rfl, 0, Nat.le_refl _, Nat.zero_le _, rfl, fun _ b q l => absurd l (Nat.not_lt_zero _), fun c => absurd rfl c, rfl⟩ ?_ ?_
        · rintro t x acc ρ τ hx ⟨rfl, m, hm, ht, rfl, i1, i2, rfl⟩
          obtain ⟨rfl, ht2⟩ := rngL_at hx
          have ht3 : t < j := by omega
          rw [Int.zero_add]
          obtain ⟨q, hq⟩ : ∃ q, cs[t]? = some q := ⟨_, List.getElem?_eq_getElem (by omega)⟩
          have hq2 : (cs.map pairD)[t]? = some (pairD q) := by rw [List.getElem?_map, hq]; rfl
          (repeat' (first | (with_reducible refine sd.ix hp2 ?_) | (with_reducible refine sd.ix hq2 ?_) | walk_at "w_1"))
          refine meet_use hd hs (by omega) (by omega) ?_
          (repeat' (first | walk_at "w_1"))
          refine wi_dec (fun c => ?_) fun c => ?_
          · (repeat' (first | walk_at "w_1"))
            refine ⟨by rw [List.length_replicate]; exact len_lt (by omega), rfl, m + 1, by omega, by omega, rep_succ m, fun e => absurd e (by omega), fun _ => ⟨t, q, ht3, hq, c⟩, rfl⟩
          · (repeat' (first | walk_at "w_1"))
            refine ⟨rfl, m, by omega, by omega, rfl, fun e b r l e2 => ?_, i2, rfl⟩
            by_cases z : b = t
            · subst z
              rw [hq] at e2
              cases e2
              exact c
            · exact i1 e b r (by omega) e2
        · rintro acc ρ τ ⟨rfl, m, hm, ht, rfl, i1, i2, rfl⟩
          rw [rngL_len] at i1
          (repeat' (first | (with_reducible refine wp_neNil (fl_ones.mono (by omega)) ?_) | walk_at "w_1"))
          rw [List.length_replicate]
          refine wi_dec (fun c => ?_) fun c => ?_
          · (repeat' (first | walk_at "w_1"))
            refine ⟨rfl, fun a b p2 q l1 l2 e1 e2 => ?_, _, rfl⟩
            by_cases z : a = j
            · subst z
              rw [hp] at e1
              cases e1
              exact i1 c b q (by omega) e2
            · exact ih a b p2 q (by omega) l2 e1 e2
          · obtain ⟨b, q, l, e, mt⟩ := i2 c
            (repeat' (first | walk_at "w_1"))
            refine n fun g => ?_
            obtain ⟨es, e3, cc⟩ := good_of sd g
            have := pairs_inj e3
            subst this
            exact cc.ap j b p q l hp e mt
      · rintro ρ τ'' ⟨rfl, ih, s3, rfl⟩
        rw [rngL_len] at ih
        (repeat' (first | walk_at "w_1"))
        refine y ⟨cs, sd, hl, hb, fun i j p q l e1 e2 => ih i j p q ?_ l e1 e2⟩
        have := (List.getElem?_eq_some_iff.mp e1).1
        omega
  · (repeat' (first | (with_reducible refine wp_isi no ?_) | walk_at "w_1"))
    refine n fun ⟨cs, sd, _⟩ => ?_
    rw [sd.isl] at no
    cases no
end
end LWk57
set_option maxHeartbeats 0
namespace LWk57
open PySem PySem.Spec L2 PD
open PyProof.Rows hiding St pairD cutD
local macro_rules | `(tactic| walk_at "w_1") => `(tactic| (first | with_reducible refine w_seq ?_ | with_reducible refine w_set ?_ | with_reducible refine w_ret ?_ | with_reducible refine w_drop ?_ | with_reducible refine w_pass ?_ | with_reducible refine w_sif ?_ | with_reducible refine w_asg ?_ | with_reducible refine w_par ?_ | with_reducible refine w_for ?_ | with_reducible refine w_src ?_ | with_reducible refine w_srcR ?_ | with_reducible refine w_enum ?_ | with_reducible refine w_zip ?_ | with_reducible refine w_raiseF ?_ | with_reducible refine w_raiseT ?_ | with_reducible refine w_brk ?_ | with_reducible refine w_ct ?_ | with_reducible refine w_lit ?_ | with_reducible refine w_fz ?_ | with_reducible refine w_prim ?_ | with_reducible refine w_call ?_ | with_reducible refine w_nil ?_ | with_reducible refine w_ex ?_ | with_reducible refine w_tup ?_ | with_reducible refine w_lst ?_ | with_reducible refine w_tof ?_ | with_reducible refine w_tnot ?_ | with_reducible refine w_tyes ?_ | with_reducible refine w_tor ?_ | with_reducible refine w_tand ?_ | with_reducible refine w_and ?_ | with_reducible refine w_or ?_ | with_reducible refine w_not ?_ | with_reducible refine w_vif ?_ | with_reducible refine w_chain ?_ | with_reducible refine w_fld ?_ | with_reducible refine w_tput ?_ | with_reducible refine w_setIx ?_ | with_reducible refine w_dic0 ?_ | with_reducible refine w_lc ?_ | with_reducible refine w_aFz ?_ | with_reducible refine w_try ?_ | with_reducible refine w_callL ?_ | with_reducible refine w_b ?_ | with_reducible refine w_i ?_ | with_reducible refine wp_add ?_ | with_reducible refine wp_sub ?_ | with_reducible refine wp_neg ?_ | with_reducible refine wp_lt ?_ | with_reducible refine wp_le ?_ | with_reducible refine wp_gt ?_ | with_reducible refine wp_ge ?_ | with_reducible refine wp_eqI ?_ | with_reducible refine wp_neI ?_ | with_reducible refine wp_len ?_ | with_reducible refine wp_lenT ?_ | with_reducible refine wp_lenS ?_ | with_reducible refine wp_int ?_ | with_reducible refine wp_abs ?_ | with_reducible refine wp_min2 ?_ | with_reducible refine wp_max2 ?_ | with_reducible refine wp_sorted ?_ | with_reducible refine wp_tupC ?_ | with_reducible refine wp_tupCT ?_ | with_reducible refine wp_lstC ?_ | with_reducible refine wp_lstCT ?_ | with_reducible refine wi_tt ?_ | with_reducible refine wi_ff ?_ | with_reducible refine wi_not ?_ | with_reducible refine wp_sl1 ?_ | with_reducible refine w_se ?_ | with_reducible refine w_lam0 ?_ | with_reducible refine w_par3 ?_ | with_reducible refine w_dicK ?_ | with_reducible refine w_evN ?_ | with_reducible refine w_evC ?_ | with_reducible refine w_lc2 ?_ | with_reducible refine wp_eqT ?_ | ((with_reducible apply w_var); case h => exact rfl) | ((with_reducible apply w_varO); case h => exact rfl) | ((with_reducible apply w_move); case h => exact rfl) | ((with_reducible apply w_moveO); case h => exact rfl) | ((with_reducible apply w_pk); case h => exact rfl) | ((with_reducible apply w_res); case h => exact rfl) | ((with_reducible apply w_ls); case h => exact rfl) | ((with_reducible apply w_sl); case h => exact rfl) | ((with_reducible apply w_ti); case h => exact rfl) | ((with_reducible apply w_tc); case h => exact rfl) | ((with_reducible apply w_tne); case h => exact rfl) | ((with_reducible apply w_tp); case h => exact rfl) | ((with_reducible apply w_ow); case h => exact rfl) | ((with_reducible apply w_aug); case ha => exact rfl) | ((with_reducible apply w_app); case h0 => exact rfl) | ((with_reducible apply w_so); case h => exact rfl) | ((with_reducible apply w_l); (case h => exact rfl); case hl => exact rfl) | ((with_reducible apply wp_is); case h => exact rfl) | ((with_reducible apply wp_isnot); case h => exact rfl) | ((with_reducible apply wp_ixT); case h => exact rfl) | ((with_reducible apply w_z); case h => exact rfl) | ((with_reducible apply w_fx); (case h => exact rfl); case h2 => exact rfl) | ((with_reducible refine wi_pos ?hp ?_); case hp => omega) | ((with_reducible refine wi_neg ?hp ?_); case hp => omega) | ((with_reducible refine wp_mod ?hp ?_); case hp => omega) | ((with_reducible refine wp_fdiv ?hp ?hq ?_); (case hp => omega); case hq => omega) | ((with_reducible refine wp_mulS ?hp ?hq ?_); (case hp => omega); case hq => omega)))
/-- what is taken, as a dict -/
def kvF : Nat → CL → List (D × D)
  | _, [] => []
  | i, c :: cs => (.int (i : Int), pairD c) :: kvF (i + 1) cs
theorem kvF_len : ∀ (cs : CL) (i : Nat), (kvF i cs).length = cs.length
  | [], _ => rfl
  | c :: cs, i => by rw [kvF, List.length_cons, List.length_cons, kvF_len cs]
theorem kvF_look : ∀ (cs : CL) (i o : Nat) (p : Int × Int), cs[o]? = some p → lookK (kvF i cs) (.inl ((i + o : Nat) : Int)) = some (pairD p)
  | [], i, o, p, h => by simp at h
  | c :: cs, i, o, p, h => by
    rw [kvF, lookK]
    cases o with
    | zero => cases h; rw [if_pos (by rw [keyD]; rfl)]
    | succ o =>
      rw [if_neg (by rw [keyD]; intro e; injection e with e; injection e with e; omega), show i + (o + 1) = i + 1 + o from by omega]
      exact kvF_look cs (i + 1) o p h
theorem kvF_app : ∀ (cs : CL) (i : Nat) (p : Int × Int), kvF i (cs ++ [p]) = kvF i cs ++ [(.int ((i + cs.length : Nat) : Int), pairD p)]
  | [], i, p => rfl
  | c :: cs, i, p => by
    rw [List.cons_append, kvF, kvF_app cs, kvF, List.length_cons, show i + 1 + cs.length = i + (cs.length + 1) from by omega]
    rfl
theorem kvF_any : ∀ (cs : CL) (i n : Nat), i + cs.length ≤ n → ((kvF i cs).any fun p => decide (keyD p.1 = some (.inl (n : Int)))) = false
  | [], _, _, _ => rfl
  | c :: cs, i, n, h => by
    rw [List.length_cons] at h
    rw [kvF, List.any_cons, kvF_any cs (i + 1) n (by omega), Bool.or_false]
    refine decide_eq_false fun e => ?_
    rw [keyD] at e
    injection e with e
    injection e with e
    omega
theorem kvF_put (cs : CL) (p : Int × Int) : putKD (kvF 0 cs) (.inl (cs.length : Int)) (pairD p) = kvF 0 (cs ++ [p]) := by
  unfold putKD
  rw [kvF_any cs 0 cs.length (by omega), if_neg (by decide), kvF_app, Nat.zero_add]
  rfl
theorem kvF_key : ∀ (cs : CL) (i o : Nat) (x : D), ((kvF i cs).map (·.1))[o]? = some x → x = .int ((i + o : Nat) : Int) ∧ o < cs.length
  | [], _, _, _, h => by simp [kvF] at h
  | c :: cs, i, o, x, h => by
    rw [kvF, List.map_cons] at h
    cases o with
    | zero => cases h; exact ⟨rfl, by simp⟩
    | succ o =>
      obtain ⟨h1, h2⟩ := kvF_key cs (i + 1) o x h
      exact ⟨by rw [h1, show i + 1 + o = i + (o + 1) from by omega], by rw [List.length_cons]; omega⟩
section
variable {k : Nat} {τ : Tape} {Q : Rs → Tape → Prop} {E : D → Tape → Prop} {QP : Rs → Prop}
theorem free_use {d : D} {ns : List Int} (hd : Sq d ns) (hs : Spn ns) {j : Nat} (hj : j < ns.length) {cs : CL} (hc : cs.length = j) {p : Int × Int} (y : (∀ o q, cs[o]? = some q → ¬ Meets ns j o p q) → Q (.fz (.bl true)) τ) (n : (∃ o q, cs[o]? = some q ∧ Meets ns j o p q) → Q (.fz (.bl false)) τ) :
    WF (m_is_free [.fz d, .bor (.dic (kvF 0 cs)), .fz (.int p.1), .fz (.int p.2), .fz (.int (gN ns j))] τ) Q E := by
  obtain ⟨j1, j2⟩ := hs.at hj
  have n6 := hs.n6
  refine w_body ?_
  unfold mv_is_free
  refine w_seq (w_forK (kvs := kvF 0 cs) rfl rfl ?_)
  refine w_forL (fun i ρ τ' => τ' = τ ∧ (∀ o q, o < i → cs[o]? = some q → ¬ Meets ns j o p q) ∧ ∃ s5 s6 s7, ρ = [.fz d, .bor (.clo 0 [.dic (kvF 0 cs)]), .fz (.int p.1), .fz (.int p.2), .fz (.int (gN ns j)), s5, s6, s7]) ⟨rfl, fun o q l => absurd l (Nat.not_lt_zero _), _, _, _, rfl⟩ ?_ ?_
  · rintro o x ρ τ' hx ⟨rfl, ih, s5, s6, s7, rfl⟩
    obtain ⟨rfl, ho⟩ := kvF_key cs 0 o x hx
    have hn : o < ns.length := by omega
    obtain ⟨o1, o2⟩ := hs.at hn
    obtain ⟨q, hq⟩ : ∃ q, cs[o]? = some q := ⟨_, List.getElem?_eq_getElem ho⟩
    have hl := kvF_look cs 0 o q hq
    rw [Nat.zero_add] at hl ⊢
    have gp := gcdI_pos (a := gN ns j) o1
    (repeat' (first | walk_at "w_1"))
    refine w_dgetK (kv0 := kvF 0 cs) rfl ?_
    (repeat' (first | walk_at "w_1"))
    refine ⟨kvF 0 cs, .inl (o : Int), pairD q, rfl, rfl, hl, ?_⟩
    (repeat' (first | (with_reducible refine hd.ix hn ?_) | walk_at "w_1"))
    refine common_use2 (by omega) (by omega) (by omega) ?_
    have e : (Nat.gcd (gN ns j).toNat (gN ns o).toNat : Nat) = gcdI (gN ns j) (gN ns o) := rfl
    rw [e]
    unfold pairD
    (repeat' (first | walk_at "w_1"))
    refine wi_dec (fun h1 => ?_) fun h1 => ?_
    · (repeat' (first | walk_at "w_1"))
      refine wi_dec (fun h2 => ?_) fun h2 => ?_
      · (repeat' (first | walk_at "w_1"))
        exact n ⟨o, q, hq, h1.symm, emod_neg h2⟩
      · (repeat' (first | walk_at "w_1"))
        refine ⟨rfl, fun b r l e2 m => ?_, _, _, _, rfl⟩
        by_cases z : b = o
        · subst z
          rw [hq] at e2
          cases e2
          exact h2 (emod_neg m.2)
        · exact ih b r (by omega) e2 m
    · (repeat' (first | walk_at "w_1"))
      refine ⟨rfl, fun b r l e2 m => ?_, _, _, _, rfl⟩
      by_cases z : b = o
      · subst z
        rw [hq] at e2
        cases e2
        exact h1 m.1.symm
      · exact ih b r (by omega) e2 m
  · rintro ρ τ' ⟨rfl, ih, s5, s6, s7, rfl⟩
    rw [List.length_map, kvF_len] at ih
    (repeat' (first | walk_at "w_1"))
    exact y fun o q e => ih o q (List.getElem?_eq_some_iff.mp e).1 e
theorem right_use {d thing : D} {ns : List Int} {h : Int} (hd : Sq d ns) (hs : Spn ns) (T : Thg thing) (y : Good ns h thing → Q (.fz (.bl true)) τ) (n : ¬ Good ns h thing → Q (.fz (.bl false)) τ) : WF (m_classes_right [.fz d, .fz (.int h), .fz thing] τ) Q E := by
  have n6 := hs.n6
  refine w_body ?_
  unfold mv_classes_right
  rcases T.sh with ⟨ds, sd, l100, it⟩ | no
  · (repeat' (first | (refine w_body ?_; unfold mv_is_list) | (with_reducible refine wp_isi sd.isl ?_) | (with_reducible refine sd.len ?_) | (with_reducible refine hd.len ?_) | walk_at "w_1"))
    refine wi_dec (fun c => ?_) fun c => ?_
    · (repeat' (first | walk_at "w_1"))
      refine n fun g => ?_
      obtain ⟨cs, rfl, cc⟩ := good_of sd g
      have := cc.len
      rw [List.length_map] at c
      omega
    have hl : ds.length = ns.length := by omega
    (repeat' (first | (with_reducible apply w_so sd.seq) | walk_at "w_1"))
    refine w_forL (fun j ρ τ' => τ' = τ ∧ j ≤ ds.length ∧ ∃ cs : CL, cs.length = j ∧ ds.take j = cs.map pairD ∧ (∀ i p, cs[i]? = some p → Bnd1 ns h i p) ∧ (∀ a b p q, b < a → cs[a]? = some p → cs[b]? = some q → ¬ Meets ns a b p q) ∧ ∃ s4 s5, ρ = [.fz d, .fz (.int h), .fz thing, .own (.dic (kvF 0 cs)), s4, s5]) ⟨rfl, Nat.zero_le _, [], rfl, rfl, fun i p e => by simp at e, fun a b p q l e => by simp at e, _, _, rfl⟩ ?_ ?_
    · rintro j x ρ τ' hx ⟨rfl, hj, cs, rfl, tk, hb, ap, s4, s5, rfl⟩
      obtain ⟨z, hz, rfl⟩ := enumD_at hx
      have hj2 : cs.length < ds.length := (List.getElem?_eq_some_iff.mp hz).1
      have jn : cs.length < ns.length := by omega
      have bad : (∀ p, z = pairD p → ¬ Bnd1 ns h cs.length p) → ¬ Good ns h thing := fun f g => by
        obtain ⟨p, e, b⟩ := good_at sd g hz
        exact f p e b
      rw [Nat.zero_add]
      rcases it z (List.mem_of_getElem? hz) with ⟨p, rfl⟩ | o
      · have tk2 : ds.take (cs.length + 1) = (cs ++ [p]).map pairD := by
          rw [List.take_succ, hz, tk, List.map_append]
          rfl
        have fin : Bnd1 ns h cs.length p → (∀ o q, cs[o]? = some q → ¬ Meets ns cs.length o p q) → (∀ i q, (cs ++ [p])[i]? = some q → Bnd1 ns h i q) ∧ ∀ a b r q, b < a → (cs ++ [p])[a]? = some r → (cs ++ [p])[b]? = some q → ¬ Meets ns a b r q := fun f1 f2 => by
          have key : ∀ i q, (cs ++ [p])[i]? = some q → (i < cs.length ∧ cs[i]? = some q) ∨ (i = cs.length ∧ q = p) := fun i q e => by
            have l := (List.getElem?_eq_some_iff.mp e).1
            rw [List.length_append, List.length_singleton] at l
            by_cases c : i < cs.length
            · rw [List.getElem?_append_left c] at e
              exact .inl ⟨c, e⟩
            · have : i = cs.length := by omega
              subst this
              rw [List.getElem?_append_right (Nat.le_refl _), Nat.sub_self] at e
              cases e
              exact .inr ⟨rfl, rfl⟩
          refine ⟨fun i q e => ?_, fun a b r q l e1 e2 => ?_⟩
          · rcases key i q e with ⟨l, e⟩ | ⟨rfl, rfl⟩
            · exact hb i q e
            · exact f1
          · rcases key a r e1 with ⟨l1, e1⟩ | ⟨rfl, rfl⟩
            · rcases key b q e2 with ⟨l2, e2⟩ | ⟨rfl, rfl⟩
              · exact ap a b r q l e1 e2
              · omega
            · rcases key b q e2 with ⟨l2, e2⟩ | ⟨rfl, rfl⟩
              · exact f2 b q e2
              · omega
        generalize hpd : pairD p = pd at *
        have hpd2 : pd = .tup [.int p.1, .int p.2] := hpd.symm
        subst hpd2
        (repeat' (first | (with_reducible refine wp_isi isiP ?_) | (with_reducible refine wp_len2 ?_) | walk_at "w_1"))
        refine between_use ?_
        (repeat' (first | walk_at "w_1"))
        refine wi_dec (fun c1 => ?_) fun c1 => ?_
        · (repeat' (first | (with_reducible refine hd.ix jn ?_) | walk_at "w_1"))
          refine between_use ?_
          (repeat' (first | walk_at "w_1"))
          refine wi_dec (fun c2 => ?_) fun c2 => ?_
          · (repeat' (first | (with_reducible refine hd.ix jn ?_) | walk_at "w_1"))
            refine free_use hd hs jn rfl (fun f => ?_) fun f => ?_
            · obtain ⟨g1, g2⟩ := fin ⟨c1.1, c1.2, c2.1, c2.2⟩ f
              (repeat' (first | walk_at "w_1"))
              refine w_dputK ?_
              (repeat' (first | walk_at "w_1"))
              refine ⟨_, rfl, ?_⟩
              (repeat' (first | walk_at "w_1"))
              refine ⟨_, .inl (cs.length : Int), rfl, rfl, by rw [kvF_len]; exact len_lt (by omega), ?_⟩
              refine ⟨rfl, by omega, cs ++ [p], by rw [List.length_append]; rfl, tk2, g1, g2, .fz (.int (cs.length : Int)), .fz (.tup [.int p.1, .int p.2]), ?_⟩
              rw [← kvF_put]
              rfl
            · obtain ⟨o, q, e, m⟩ := f
              (repeat' (first | walk_at "w_1"))
              refine n fun g => ?_
              obtain ⟨es, e3, cc⟩ := good_of sd g
              subst e3
              have e4 : es.take cs.length = cs := by
                rw [← List.map_take] at tk
                exact pairs_inj tk
              have e5 : es[cs.length]? = some p := by
                obtain ⟨r, h1, h2⟩ := map_pair_at hz
                rw [h2, pairD_inj (p := p) (q := r) h1]
              have ho := (List.getElem?_eq_some_iff.mp e).1
              refine cc.ap cs.length o p q ho e5 ?_ m
              rw [← e4, List.getElem?_take_of_lt ho] at e
              exact e
          · (repeat' (first | walk_at "w_1"))
            refine n (bad fun q e b => ?_)
            have e := pairD_inj (p := p) (q := q) e
            subst e
            exact c2 ⟨b.2.2.1, b.2.2.2⟩
        · (repeat' (first | walk_at "w_1"))
          refine n (bad fun q e b => ?_)
          have e := pairD_inj (p := p) (q := q) e
          subst e
          exact c1 ⟨b.1, b.2.1⟩
      · have nb := bad fun p e => absurd e (odd_no o p)
        rcases o with ⟨a, b, rfl⟩ | ⟨xs, rfl, hx⟩ | o
        · (repeat' (first | (with_reducible refine wp_isi isiP ?_) | (with_reducible refine wp_len2 ?_) | walk_at "w_1"))
          refine between_use ?_
          (repeat' (first | walk_at "w_1"))
          refine wi_dec (fun c1 => ?_) fun c1 => ?_
          · (repeat' (first | (with_reducible refine hd.ix jn ?_) | walk_at "w_1"))
            refine between_not (.inr ⟨rfl, rfl⟩) ?_
            (repeat' (first | walk_at "w_1"))
            exact n nb
          · (repeat' (first | walk_at "w_1"))
            exact n nb
        · (repeat' (first | (with_reducible refine wp_isi isiP ?_) | walk_at "w_1"))
          exact n nb
        · (repeat' (first | (with_reducible refine wp_isi o ?_) | walk_at "w_1"))
          exact n nb
    · rintro ρ τ' ⟨rfl, hj, cs, hc, tk, hb, ap, s4, s5, rfl⟩
      rw [enumD_len] at hc tk
      rw [List.take_length] at tk
      (repeat' (first | walk_at "w_1"))
      exact y ⟨cs, by rw [← tk]; exact sd, by omega, hb, fun i j p q l e1 e2 => ap i j p q l e1 e2⟩
  · (repeat' (first | (refine w_body ?_; unfold mv_is_list) | (with_reducible refine wp_isi no ?_) | walk_at "w_1"))
    refine n fun ⟨cs, sd, _⟩ => ?_
    rw [sd.isl] at no
    cases no
end
end LWk57
set_option maxHeartbeats 0
namespace LWk57
open PySem PySem.Spec L2 PD
open PyProof.Rows hiding St pairD cutD
local macro_rules | `(tactic| walk_at "w_1") => `(tactic| (first | with_reducible refine w_seq ?_ | with_reducible refine w_set ?_ | with_reducible refine w_ret ?_ | with_reducible refine w_drop ?_ | with_reducible refine w_pass ?_ | with_reducible refine w_sif ?_ | with_reducible refine w_asg ?_ | with_reducible refine w_par ?_ | with_reducible refine w_for ?_ | with_reducible refine w_src ?_ | with_reducible refine w_srcR ?_ | with_reducible refine w_enum ?_ | with_reducible refine w_zip ?_ | with_reducible refine w_raiseF ?_ | with_reducible refine w_raiseT ?_ | with_reducible refine w_brk ?_ | with_reducible refine w_ct ?_ | with_reducible refine w_lit ?_ | with_reducible refine w_fz ?_ | with_reducible refine w_prim ?_ | with_reducible refine w_call ?_ | with_reducible refine w_nil ?_ | with_reducible refine w_ex ?_ | with_reducible refine w_tup ?_ | with_reducible refine w_lst ?_ | with_reducible refine w_tof ?_ | with_reducible refine w_tnot ?_ | with_reducible refine w_tyes ?_ | with_reducible refine w_tor ?_ | with_reducible refine w_tand ?_ | with_reducible refine w_and ?_ | with_reducible refine w_or ?_ | with_reducible refine w_not ?_ | with_reducible refine w_vif ?_ | with_reducible refine w_chain ?_ | with_reducible refine w_fld ?_ | with_reducible refine w_tput ?_ | with_reducible refine w_setIx ?_ | with_reducible refine w_dic0 ?_ | with_reducible refine w_lc ?_ | with_reducible refine w_aFz ?_ | with_reducible refine w_try ?_ | with_reducible refine w_callL ?_ | with_reducible refine w_b ?_ | with_reducible refine w_i ?_ | with_reducible refine wp_add ?_ | with_reducible refine wp_sub ?_ | with_reducible refine wp_neg ?_ | with_reducible refine wp_lt ?_ | with_reducible refine wp_le ?_ | with_reducible refine wp_gt ?_ | with_reducible refine wp_ge ?_ | with_reducible refine wp_eqI ?_ | with_reducible refine wp_neI ?_ | with_reducible refine wp_len ?_ | with_reducible refine wp_lenT ?_ | with_reducible refine wp_lenS ?_ | with_reducible refine wp_int ?_ | with_reducible refine wp_abs ?_ | with_reducible refine wp_min2 ?_ | with_reducible refine wp_max2 ?_ | with_reducible refine wp_sorted ?_ | with_reducible refine wp_tupC ?_ | with_reducible refine wp_tupCT ?_ | with_reducible refine wp_lstC ?_ | with_reducible refine wp_lstCT ?_ | with_reducible refine wi_tt ?_ | with_reducible refine wi_ff ?_ | with_reducible refine wi_not ?_ | with_reducible refine wp_sl1 ?_ | with_reducible refine w_se ?_ | with_reducible refine w_lam0 ?_ | with_reducible refine w_par3 ?_ | with_reducible refine w_dicK ?_ | with_reducible refine w_evN ?_ | with_reducible refine w_evC ?_ | with_reducible refine w_lc2 ?_ | with_reducible refine wp_eqT ?_ | ((with_reducible apply w_var); case h => exact rfl) | ((with_reducible apply w_varO); case h => exact rfl) | ((with_reducible apply w_move); case h => exact rfl) | ((with_reducible apply w_moveO); case h => exact rfl) | ((with_reducible apply w_pk); case h => exact rfl) | ((with_reducible apply w_res); case h => exact rfl) | ((with_reducible apply w_ls); case h => exact rfl) | ((with_reducible apply w_sl); case h => exact rfl) | ((with_reducible apply w_ti); case h => exact rfl) | ((with_reducible apply w_tc); case h => exact rfl) | ((with_reducible apply w_tne); case h => exact rfl) | ((with_reducible apply w_tp); case h => exact rfl) | ((with_reducible apply w_ow); case h => exact rfl) | ((with_reducible apply w_aug); case ha => exact rfl) | ((with_reducible apply w_app); case h0 => exact rfl) | ((with_reducible apply w_so); case h => exact rfl) | ((with_reducible apply w_l); (case h => exact rfl); case hl => exact rfl) | ((with_reducible apply wp_is); case h => exact rfl) | ((with_reducible apply wp_isnot); case h => exact rfl) | ((with_reducible apply wp_ixT); case h => exact rfl) | ((with_reducible apply w_z); case h => exact rfl) | ((with_reducible apply w_fx); (case h => exact rfl); case h2 => exact rfl) | ((with_reducible refine wi_pos ?hp ?_); case hp => omega) | ((with_reducible refine wi_neg ?hp ?_); case hp => omega) | ((with_reducible refine wp_mod ?hp ?_); case hp => omega) | ((with_reducible refine wp_fdiv ?hp ?hq ?_); (case hp => omega); case hq => omega) | ((with_reducible refine wp_mulS ?hp ?hq ?_); (case hp => omega); case hq => omega)))
def cAt (cs : CL) (i : Nat) : Int × Int := cs.getD i (0, 0)
theorem cAt_at {cs : CL} {i : Nat} {p : Int × Int} (h : cs[i]? = some p) : cAt cs i = p := by
  unfold cAt
  rw [List.getD_eq_getElem?_getD, h]
  rfl
theorem at_cAt {cs : CL} {i : Nat} (h : i < cs.length) : cs[i]? = some (cAt cs i) := by
  rw [List.getElem?_eq_getElem h, cAt_at (List.getElem?_eq_getElem h)]
section
variable {k : Nat} {τ : Tape} {Q : Rs → Tape → Prop} {E : D → Tape → Prop} {QP : Rs → Prop}
theorem hands_ok {d : D} {ns : List Int} {h : Int} (hd : Sq d ns) (hs : Spn ns) (hh : 1 ≤ h ∧ h ≤ 4) (q : Q (.fz .non) τ) : WF (m_need_spans_hands [.fz d, .fz (.int h)] τ) Q E := by
  obtain ⟨h1, h4⟩ := hh
  refine w_body ?_
  unfold mv_need_spans_hands
  (repeat' (first | walk_at "w_1"))
  refine need_ok hd hs ?_
  (repeat' (first | walk_at "w_1"))
  refine between_use ?_
  (repeat' (first | walk_at "w_1"))
  exact q
/-- what is no number of hands -/
def BadHands (x : D) : Prop := NotNum x ∨ ∃ i, x = .int i ∧ ¬ (1 ≤ i ∧ i ≤ 4)
theorem hands_no {d x : D} {ns : List Int} (hd : Sq d ns) (hs : Spn ns) (hx : BadHands x) (e : E (.exc "BadNumber" [("part", .str "hands")]) τ) : WF (m_need_spans_hands [.fz d, .fz x] τ) Q E := by
  refine w_body ?_
  unfold mv_need_spans_hands
  (repeat' (first | walk_at "w_1"))
  refine need_ok hd hs ?_
  rcases hx with hx | ⟨i, rfl, hi⟩
  · (repeat' (first | walk_at "w_1"))
    refine between_not hx ?_
    (repeat' (first | walk_at "w_1"))
    exact e
  · (repeat' (first | walk_at "w_1"))
    refine between_use ?_
    (repeat' (first | walk_at "w_1"))
    exact e
theorem hands_bad {w idx x : D} (hw : Wrong w idx) (e : E (.exc "BadSpans" [("index", idx)]) τ) : WF (m_need_spans_hands [.fz w, .fz x] τ) Q E := by
  refine w_body ?_
  unfold mv_need_spans_hands
  (repeat' (first | walk_at "w_1"))
  exact hw.run e
theorem nc_pairs : ∀ cs : CL, D.ncL (cs.map pairD) = true
  | [] => rfl
  | c :: cs => by
    rw [List.map_cons, D.ncL, nc_pairs cs]
    rfl
theorem thg_pairs {e : D} {cs : CL} (he : SqD e (cs.map pairD)) (hl : cs.length ≤ 100) : Thg e := by
  refine ⟨?_, .inl ⟨_, he, by rw [List.length_map]; exact hl, fun d hd => ?_⟩⟩
  · rcases he with rfl | rfl <;> (rw [D.nc]; exact nc_pairs cs)
  · obtain ⟨p, _, rfl⟩ := List.mem_map.mp hd
    exact .inl ⟨p, rfl⟩
theorem wp_ixI {ns : List Int} {i : Nat} (hi : i < ns.length) (q : QP (.fz (.int (gN ns i)))) : WP (pIx [.lst (ns.map D.int), .int (i : Int)]) QP := Sq.ix (.inl rfl) hi q
theorem ixN_nat {n i : Nat} (h : i < n) : ixN n (i : Int) = some i := by
  unfold ixN
  rw [if_pos (by omega), if_pos (by omega), Int.toNat_natCast]
theorem ncL_of : ∀ {ds : List D}, (∀ d ∈ ds, d.nc = true) → D.ncL ds = true
  | [], _ => rfl
  | d :: ds, h => by
    rw [D.ncL, h d (by simp), ncL_of (ds := ds) fun e he => h e (by simp [he])]
    rfl
theorem thg_of {e : D} {ds : List D} (he : SqD e ds) (hl : ds.length ≤ 100) (h : ∀ d ∈ ds, Itm d ∧ d.nc = true) : Thg e := by
  refine ⟨?_, .inl ⟨ds, he, hl, fun d hd => (h d hd).1⟩⟩
  rcases he with rfl | rfl <;> (rw [D.nc]; exact ncL_of fun d hd => (h d hd).2)
theorem cut_mem {ds : List D} {a b : Option Int} {d : D} (h : d ∈ cutD ds a b) : d ∈ ds := by
  unfold cutD at h
  exact List.mem_of_mem_drop (List.mem_of_mem_take h)
theorem cut_le {ds : List D} {a b : Option Int} : (cutD ds a b).length ≤ ds.length := by
  unfold cutD
  rw [List.length_take, List.length_drop]
  omega
theorem near_use {ns : List Int} {cs : CL} {h : Int} (hs : Spn ns) (hh : 1 ≤ h ∧ h ≤ 4) (hc : cs.length = ns.length) (ht : TOk k τ) (hk : k ≤ 900000) (q : ∀ thing τ', Thg thing → TOk (k + 5) τ' → Q (.fz thing) τ') :
    WF (m_l_near_classes [.fz .tape, .fz (.lst (ns.map D.int)), .fz (.int h), .fz (.lst (cs.map pairD))] τ) Q E := by
  have n6 := hs.n6
  have n1 := hs.n1
  obtain ⟨hh1, hh4⟩ := hh
  refine w_body ?_
  unfold mv_l_near_classes
  (repeat' (first | walk_at "w_1"))
  rw [List.length_map]
  refine draw_use ht (by omega) ⟨by omega, by omega⟩ fun a τ1 a0 a1 t1 => ?_
  obtain ⟨a, rfl⟩ := Int.eq_ofNat_of_zero_le a0
  have ha : a < ns.length := by omega
  obtain ⟨g1, g2⟩ := hs.at ha
  obtain ⟨p, hp⟩ : ∃ p, cs[a]? = some p := ⟨_, List.getElem?_eq_getElem (by omega)⟩
  have sc : SqD (.lst (cs.map pairD)) (cs.map pairD) := .inl rfl
  have hp2 : (cs.map pairD)[a]? = some (pairD p) := by rw [List.getElem?_map, hp]; rfl
  (repeat' (first | (with_reducible refine sc.ix hp2 ?_) | walk_at "w_1"))
  (repeat' (first | (with_reducible refine wp_ixI ha ?_) | walk_at "w_1"))
  refine draw_use t1 (by omega) ⟨by omega, by omega⟩ fun r τ2 r0 r1 t2 => ?_
  (repeat' (first | walk_at "w_1"))
  refine draw_use t2 (by omega) ⟨by omega, by omega⟩ fun r' τ3 r2 r3 t3 => ?_
  (repeat' (first | (with_reducible refine wp_ixI ha ?_) | walk_at "w_1"))
  refine pick_lit rfl rfl t3 (by omega) fun d hd τ4 t4 => ?_
  have itm : Itm d ∧ d.nc = true := by
    simp only [List.mem_cons, List.not_mem_nil, or_false] at hd
    rcases hd with rfl | rfl | rfl | rfl | rfl | rfl | rfl | rfl | rfl | rfl
    · exact ⟨.inl ⟨(p.1, r), rfl⟩, rfl⟩
    · exact ⟨.inl ⟨(r', p.2), rfl⟩, rfl⟩
    · exact ⟨.inl ⟨(p.1, gN ns a), rfl⟩, rfl⟩
    · exact ⟨.inl ⟨(h, p.2), rfl⟩, rfl⟩
    · exact ⟨.inl ⟨(p.1, -1), rfl⟩, rfl⟩
    · exact ⟨.inr (.inl ⟨p.1, true, rfl⟩), rfl⟩
    · exact ⟨.inr (.inr (.inl ⟨_, rfl, by simp⟩)), rfl⟩
    · exact ⟨.inr (.inr (.inr rfl)), rfl⟩
    · exact ⟨.inr (.inr (.inr rfl)), rfl⟩
    · exact ⟨.inr (.inr (.inl ⟨_, rfl, by simp⟩)), rfl⟩
  clear hd
  (repeat' (first | walk_at "w_1"))
  refine ⟨a, by rw [List.length_map]; exact ixN_nat (by omega), ?_⟩
  have all : ∀ x ∈ (cs.map pairD).set a d, Itm x ∧ x.nc = true := fun x hx => by
    rcases List.mem_or_eq_of_mem_set hx with hx | rfl
    · obtain ⟨q, _, rfl⟩ := List.mem_map.mp hx
      exact ⟨.inl ⟨q, rfl⟩, rfl⟩
    · exact itm
  have ll : ((cs.map pairD).set a d).length ≤ 6 := by rw [List.length_set, List.length_map]; omega
  have e0 : rsD (.fz d) = d := rfl
  rw [e0]
  generalize (cs.map pairD).set a d = ds at all ll
  have cl : ∀ {a b : Option Int}, (cutD ds a b).length ≤ 6 := fun {a b} => Nat.le_trans cut_le ll
  have l12 : (ds.length + (cutD ds none (some 1)).length) ≤ sizeLine := by
    have := cl (a := none) (b := some 1)
    exact Nat.le_of_lt (len_lt (by omega))
  (repeat' (first | (with_reducible refine wp_sl01 ?_) | (with_reducible refine wp_addL l12 ?_) | walk_at "w_1"))
  refine pick_lit rfl rfl t4 (by omega) fun x hx τ5 t5 => ?_
  refine q x τ5 ?_ t5
  simp only [List.mem_cons, List.not_mem_nil, or_false] at hx
  rcases hx with rfl | rfl | rfl | rfl | rfl | rfl | rfl | rfl | rfl
  · exact thg_of (.inl rfl) (by omega) all
  · exact thg_of (.inl rfl) (by omega) all
  · exact thg_of (.inl rfl) (by omega) all
  · exact thg_of (.inr rfl) (by omega) all
  · exact thg_of (.inl rfl) (Nat.le_trans cl (by omega)) fun x hx => all x (cut_mem hx)
  · refine thg_of (.inl rfl) ?_ fun x hx => ?_
    · have := cl (a := none) (b := some 1)
      rw [List.length_append]
      omega
    · rcases List.mem_append.mp hx with hx | hx
      · exact all x hx
      · exact all x (cut_mem hx)
  · exact ⟨rfl, .inr rfl⟩
  · exact ⟨rfl, .inr rfl⟩
  · exact ⟨rfl, .inr rfl⟩
theorem wp_nn (q : QP (.fz (.bl false))) : WP (pNe [.lst [], .lst []]) QP := wp_neD rfl rfl rfl rfl rfl q
theorem len_big {n : Nat} (h : n ≤ 100000) : n < sizeLine := Nat.lt_of_le_of_lt h (by decide)
theorem says_use {b : Bool} (q : Q (.fz (.bl true)) τ) : WF (m_l_says [.fz (.bl b), .fz (.bl b)] τ) Q E := by
  refine w_body ?_
  unfold mv_l_says
  cases b
  · (repeat' (first | walk_at "w_1"))
    exact q
  · (repeat' (first | walk_at "w_1"))
    exact q
def szN (ns : List Int) (n : Nat) : CL := (List.range n).map fun i => (gN ns i, (i : Int))
theorem szN_succ (ns : List Int) (n : Nat) : (szN ns n).map pairD ++ [pairD (gN ns n, (n : Int))] = (szN ns (n + 1)).map pairD := by
  unfold szN
  rw [List.range_succ, List.map_append, List.map_append]
  rfl
theorem szN_len (ns : List Int) (n : Nat) : (szN ns n).length = n := by unfold szN; rw [List.length_map, List.length_range]
theorem szN_mem {ns : List Int} {n : Nat} {x : Int × Int} : x ∈ szN ns n ↔ ∃ i, i < n ∧ x = (gN ns i, (i : Int)) := by
  unfold szN
  rw [List.mem_map]
  constructor
  · rintro ⟨i, h, e⟩
    exact ⟨i, List.mem_range.mp h, e.symm⟩
  · rintro ⟨i, h, e⟩
    exact ⟨i, List.mem_range.mpr h, e.symm⟩
end
end LWk57
set_option maxHeartbeats 0
namespace LWk57
open PySem PySem.Spec L2 PD
open PyProof.Rows hiding St pairD cutD
local macro_rules | `(tactic| walk_at "w_1") => `(tactic| (first | with_reducible refine w_seq ?_ | with_reducible refine w_set ?_ | with_reducible refine w_ret ?_ | with_reducible refine w_drop ?_ | with_reducible refine w_pass ?_ | with_reducible refine w_sif ?_ | with_reducible refine w_asg ?_ | with_reducible refine w_par ?_ | with_reducible refine w_for ?_ | with_reducible refine w_src ?_ | with_reducible refine w_srcR ?_ | with_reducible refine w_enum ?_ | with_reducible refine w_zip ?_ | with_reducible refine w_raiseF ?_ | with_reducible refine w_raiseT ?_ | with_reducible refine w_brk ?_ | with_reducible refine w_ct ?_ | with_reducible refine w_lit ?_ | with_reducible refine w_fz ?_ | with_reducible refine w_prim ?_ | with_reducible refine w_call ?_ | with_reducible refine w_nil ?_ | with_reducible refine w_ex ?_ | with_reducible refine w_tup ?_ | with_reducible refine w_lst ?_ | with_reducible refine w_tof ?_ | with_reducible refine w_tnot ?_ | with_reducible refine w_tyes ?_ | with_reducible refine w_tor ?_ | with_reducible refine w_tand ?_ | with_reducible refine w_and ?_ | with_reducible refine w_or ?_ | with_reducible refine w_not ?_ | with_reducible refine w_vif ?_ | with_reducible refine w_chain ?_ | with_reducible refine w_fld ?_ | with_reducible refine w_tput ?_ | with_reducible refine w_setIx ?_ | with_reducible refine w_dic0 ?_ | with_reducible refine w_lc ?_ | with_reducible refine w_aFz ?_ | with_reducible refine w_try ?_ | with_reducible refine w_callL ?_ | with_reducible refine w_b ?_ | with_reducible refine w_i ?_ | with_reducible refine wp_add ?_ | with_reducible refine wp_sub ?_ | with_reducible refine wp_neg ?_ | with_reducible refine wp_lt ?_ | with_reducible refine wp_le ?_ | with_reducible refine wp_gt ?_ | with_reducible refine wp_ge ?_ | with_reducible refine wp_eqI ?_ | with_reducible refine wp_neI ?_ | with_reducible refine wp_len ?_ | with_reducible refine wp_lenT ?_ | with_reducible refine wp_lenS ?_ | with_reducible refine wp_int ?_ | with_reducible refine wp_abs ?_ | with_reducible refine wp_min2 ?_ | with_reducible refine wp_max2 ?_ | with_reducible refine wp_sorted ?_ | with_reducible refine wp_tupC ?_ | with_reducible refine wp_tupCT ?_ | with_reducible refine wp_lstC ?_ | with_reducible refine wp_lstCT ?_ | with_reducible refine wi_tt ?_ | with_reducible refine wi_ff ?_ | with_reducible refine wi_not ?_ | with_reducible refine wp_sl1 ?_ | with_reducible refine w_se ?_ | with_reducible refine w_lam0 ?_ | with_reducible refine w_par3 ?_ | with_reducible refine w_dicK ?_ | with_reducible refine w_evN ?_ | with_reducible refine w_evC ?_ | with_reducible refine w_lc2 ?_ | with_reducible refine wp_eqT ?_ | ((with_reducible apply w_var); case h => exact rfl) | ((with_reducible apply w_varO); case h => exact rfl) | ((with_reducible apply w_move); case h => exact rfl) | ((with_reducible apply w_moveO); case h => exact rfl) | ((with_reducible apply w_pk); case h => exact rfl) | ((with_reducible apply w_res); case h => exact rfl) | ((with_reducible apply w_ls); case h => exact rfl) | ((with_reducible apply w_sl); case h => exact rfl) | ((with_reducible apply w_ti); case h => exact rfl) | ((with_reducible apply w_tc); case h => exact rfl) | ((with_reducible apply w_tne); case h => exact rfl) | ((with_reducible apply w_tp); case h => exact rfl) | ((with_reducible apply w_ow); case h => exact rfl) | ((with_reducible apply w_aug); case ha => exact rfl) | ((with_reducible apply w_app); case h0 => exact rfl) | ((with_reducible apply w_so); case h => exact rfl) | ((with_reducible apply w_l); (case h => exact rfl); case hl => exact rfl) | ((with_reducible apply wp_is); case h => exact rfl) | ((with_reducible apply wp_isnot); case h => exact rfl) | ((with_reducible apply wp_ixT); case h => exact rfl) | ((with_reducible apply w_z); case h => exact rfl) | ((with_reducible apply w_fx); (case h => exact rfl); case h2 => exact rfl) | ((with_reducible refine wi_pos ?hp ?_); case hp => omega) | ((with_reducible refine wi_neg ?hp ?_); case hp => omega) | ((with_reducible refine wp_mod ?hp ?_); case hp => omega) | ((with_reducible refine wp_fdiv ?hp ?hq ?_); (case hp => omega); case hq => omega) | ((with_reducible refine wp_mulS ?hp ?hq ?_); (case hp => omega); case hq => omega)))
/-- of two spans that lie in order the first divides the second -/
def ChainP (ns : List Int) : Prop := ∀ a ∈ ns, ∀ b ∈ ns, a ≤ b → b % a = 0
abbrev TL := List (Nat × (Int × Int))
def cG (ns : List Int) (t : Nat × (Int × Int)) : GR.C := ((gN ns t.1).toNat, t.2.1.toNat, t.2.2.toNat)
/-- what is taken -/
structure Tk (ns : List Int) (h : Int) (ts : TL) : Prop where
  lt : ∀ t ∈ ts, t.1 < ns.length
  bd : ∀ t ∈ ts, Bnd1 ns h t.1 t.2
  ap : ts.Pairwise fun a b => ¬ Meets ns a.1 b.1 a.2 b.2
theorem int_mod {r s : Int} (h0 : 0 ≤ r) (h1 : 1 ≤ s) : ((r.toNat % s.toNat : Nat) : Int) = r % s := by
  rw [Int.natCast_emod]
  rw [Int.toNat_of_nonneg h0, Int.toNat_of_nonneg (by omega)]
theorem Tk.ok {ns : List Int} {h : Int} {ts : TL} (hs : Spn ns) (T : Tk ns h ts) {W : Nat} (hW : ∀ t ∈ ts, (gN ns t.1).toNat ∣ W) : ∀ c ∈ ts.map (cG ns), GR.Ok h.toNat W c := fun c hc => by
  obtain ⟨t, ht, rfl⟩ := List.mem_map.mp hc
  obtain ⟨g1, g2⟩ := hs.at (T.lt t ht)
  obtain ⟨b1, b2, b3, b4⟩ := T.bd t ht
  exact ⟨by show 0 < (gN ns t.1).toNat; omega, hW t ht, by show t.2.1.toNat < h.toNat; omega, by show t.2.2.toNat < (gN ns t.1).toNat; omega⟩
theorem Tk.dis {ns : List Int} {h : Int} {ts : TL} (hs : Spn ns) (T : Tk ns h ts) : GR.Dis (ts.map (cG ns)) := by
  unfold GR.Dis
  rw [List.pairwise_map]
  refine List.Pairwise.imp_of_mem ?_ T.ap
  intro a b ha hb nm hd r ⟨⟨x1, x2⟩, y1, y2⟩
  obtain ⟨ga, _⟩ := hs.at (T.lt a ha)
  obtain ⟨gb, _⟩ := hs.at (T.lt b hb)
  obtain ⟨a1, a2, a3, a4⟩ := T.bd a ha
  obtain ⟨b1, b2, b3, b4⟩ := T.bd b hb
  have x1 : hd = a.2.1.toNat := x1
  have y1 : hd = b.2.1.toNat := y1
  have x2 : r % (gN ns a.1).toNat = a.2.2.toNat := x2
  have y2 : r % (gN ns b.1).toNat = b.2.2.toNat := y2
  refine nm ⟨by omega, ?_⟩
  have e1 := int_mod (r := (r : Int)) (s := gN ns a.1) (by omega) ga
  have e2 := int_mod (r := (r : Int)) (s := gN ns b.1) (by omega) gb
  rw [Int.toNat_natCast] at e1 e2
  rw [x2] at e1
  rw [y2] at e2
  have f1 : a.2.2 = (r : Int) % gN ns a.1 := by omega
  have f2 : b.2.2 = (r : Int) % gN ns b.1 := by omega
  obtain ⟨d1, d2⟩ := gcdI_dvd ga gb
  refine Int.emod_eq_zero_of_dvd ?_
  rw [f1, f2]
  have a1 : gcdI (gN ns a.1) (gN ns b.1) ∣ (r : Int) - (r : Int) % gN ns a.1 := Int.dvd_trans d1 (Int.dvd_self_sub_emod)
  have a2 : gcdI (gN ns a.1) (gN ns b.1) ∣ (r : Int) - (r : Int) % gN ns b.1 := Int.dvd_trans d2 (Int.dvd_self_sub_emod)
  have := Int.dvd_sub a2 a1
  rwa [show (r : Int) - (r : Int) % gN ns b.1 - ((r : Int) - (r : Int) % gN ns a.1) = (r : Int) % gN ns a.1 - (r : Int) % gN ns b.1 from by omega] at this
theorem dvd_toNat {a b : Int} (ha : 1 ≤ a) (hb : 1 ≤ b) (h : b % a = 0) : a.toNat ∣ b.toNat := by
  have := Int.dvd_of_emod_eq_zero h
  rw [← Int.toNat_of_nonneg (show 0 ≤ a by omega), ← Int.toNat_of_nonneg (show 0 ≤ b by omega)] at this
  exact Int.natCast_dvd_natCast.mp this
/-- the class (a, b) of a span that those of ts divide meets none of them -/
theorem free_not {ns : List Int} {h : Int} {ts : TL} (hs : Spn ns) (T : Tk ns h ts) {i : Nat} (hi : i < ns.length) (dv : ∀ t ∈ ts, gN ns i % gN ns t.1 = 0) {a b : Nat} (hf : ∀ c ∈ ts.map (cG ns), ¬ (a = c.2.1 ∧ b % c.1 = c.2.2)) : ∀ t ∈ ts, ¬ Meets ns i t.1 ((a : Int), (b : Int)) t.2 := fun t ht m => by
  obtain ⟨gi, _⟩ := hs.at hi
  obtain ⟨gt, _⟩ := hs.at (T.lt t ht)
  obtain ⟨b1, b2, b3, b4⟩ := T.bd t ht
  obtain ⟨m1, m2⟩ := m
  have m1 : (a : Int) = t.2.1 := m1
  have m2 : ((b : Int) - t.2.2) % gcdI (gN ns i) (gN ns t.1) = 0 := m2
  have eg : gcdI (gN ns i) (gN ns t.1) = gN ns t.1 := by
    have d := dvd_toNat gt gi (dv t ht)
    unfold gcdI
    rw [Nat.gcd_comm, Nat.gcd_eq_left d]
    omega
  rw [eg] at m2
  refine hf (cG ns t) (List.mem_map.mpr ⟨t, ht, rfl⟩) ⟨by show a = t.2.1.toNat; omega, ?_⟩
  show b % (gN ns t.1).toNat = t.2.2.toNat
  have e1 := int_mod (r := (b : Int)) (s := gN ns t.1) (by omega) gt
  rw [Int.toNat_natCast] at e1
  have e2 : (b : Int) % gN ns t.1 = t.2.2 := by
    have d := Int.dvd_of_emod_eq_zero m2
    rw [show (b : Int) = t.2.2 + gN ns t.1 * (((b : Int) - t.2.2) / gN ns t.1) from by
      have := Int.mul_ediv_cancel' d
      omega, Int.add_mul_emod_self_left]
    exact Int.emod_eq_of_lt b3 (by omega)
  omega
def totN (M : Nat) (ns : List Int) : Nat := (ns.map fun i => M / i.toNat).sum
theorem tot_sum (W : Nat) : ∀ T : List GR.C, GR.tot W T = (T.map fun t => W / t.1).sum
  | [] => rfl
  | t :: T => by rw [GR.tot, tot_sum W T, List.map_cons, List.sum_cons]
/-- the sum of shares as a sum over a common multiple -/
theorem sum_rel {M : Nat} : ∀ {ns : List Int}, (∀ i ∈ ns, 1 ≤ i ∧ i ≤ 60) → (∀ i ∈ ns, i.toNat ∣ M) → ∀ {j : Nat} {p : Int × Int} {S : Nat}, Bd j p → p.1 * M = p.2 * S → (ns.foldl shp p).1 * M = (ns.foldl shp p).2 * ((S + totN M ns : Nat) : Int)
  | [], _, _, j, p, S, _, h => by
    unfold totN
    rw [List.map_nil, List.sum_nil, Nat.add_zero]
    exact h
  | i :: ns, hb, hd, j, p, S, B, h => by
    obtain ⟨t, l⟩ := p
    have b60 := hb i (by simp)
    have B2 := shp_bd B b60
    obtain ⟨a0, a1, b0, b1, g0, g1⟩ := mid_of B b60
    rw [List.foldl_cons]
    have e : S + totN M (i :: ns) = (S + M / i.toNat) + totN M ns := by
      unfold totN
      rw [List.map_cons, List.sum_cons]
      omega
    rw [e]
    refine sum_rel (fun x hx => hb x (by simp [hx])) (fun x hx => hd x (by simp [hx])) B2 ?_
    obtain ⟨m, hm⟩ := hd i (by simp)
    have hi : (i.toNat : Int) = i := Int.toNat_of_nonneg (by omega)
    have em : ((M / i.toNat : Nat) : Int) = m := by
      rw [hm, Nat.mul_div_cancel_left _ (by omega)]
    have eM : (M : Int) = i * m := by
      rw [hm, Int.natCast_mul, hi]
    have key : (t * i + l) * (M : Int) = (l * i) * ((S + M / i.toNat : Nat) : Int) := by
      rw [Int.natCast_add, em, Int.mul_add, Int.add_mul]
      have h : t * (M : Int) = l * (S : Int) := h
      rw [Int.mul_assoc t i, Int.mul_comm i, ← Int.mul_assoc, h, Int.mul_assoc l i m, ← eM, Int.mul_assoc l, Int.mul_comm (S : Int) i, ← Int.mul_assoc]
    unfold shp
    simp only
    generalize hg : Nat.gcd (t * i + l).toNat (l * i).toNat = g at *
    have d1 : (g : Int) ∣ t * i + l := by
      rw [show t * i + l = ((t * i + l).toNat : Int) from by omega]
      exact Int.natCast_dvd_natCast.mpr (by rw [← hg]; exact Nat.gcd_dvd_left _ _)
    have d2 : (g : Int) ∣ l * i := by
      rw [show l * i = ((l * i).toNat : Int) from by omega]
      exact Int.natCast_dvd_natCast.mpr (by rw [← hg]; exact Nat.gcd_dvd_right _ _)
    obtain ⟨u, hu⟩ := d1
    obtain ⟨v, hv⟩ := d2
    have gp : (g : Int) ≠ 0 := by omega
    rw [hu, hv, Int.mul_ediv_cancel_left _ gp, Int.mul_ediv_cancel_left _ gp]
    rw [hu, hv, Int.mul_assoc, Int.mul_assoc] at key
    exact Int.eq_of_mul_eq_mul_left gp key
theorem sum_le {ns : List Int} (hb : ∀ i ∈ ns, 1 ≤ i ∧ i ≤ 60) {M : Nat} (hM : 0 < M) (hd : ∀ i ∈ ns, i.toNat ∣ M) {h : Int} (hh : 0 ≤ h) : (sumS ns).1 ≤ h * (sumS ns).2 ↔ totN M ns ≤ h.toNat * M := by
  have r := sum_rel hb hd (j := 0) (p := (0, 1)) (S := 0) ⟨by decide, by decide, by decide, by decide⟩ (by simp)
  rw [Nat.zero_add] at r
  have r : (sumS ns).1 * (M : Int) = (sumS ns).2 * (totN M ns : Int) := r
  have l0 := (sumS_bd hb).l0
  have Mp : (0 : Int) < M := by omega
  have eh : ((h.toNat * M : Nat) : Int) = h * M := by rw [Int.natCast_mul, Int.toNat_of_nonneg hh]
  constructor
  · intro le
    have h1 : (sumS ns).2 * (totN M ns : Int) ≤ (sumS ns).2 * (h * M) := by
      rw [← r, ← Int.mul_assoc, Int.mul_comm (sumS ns).2 h]
      exact Int.mul_le_mul_of_nonneg_right le (by omega)
    have := Int.le_of_mul_le_mul_left h1 l0
    omega
  · intro le
    have h1 : (totN M ns : Int) ≤ h * M := by omega
    have h2 : (sumS ns).1 * (M : Int) ≤ h * (sumS ns).2 * M := by
      rw [r, Int.mul_comm h, Int.mul_assoc]
      exact Int.mul_le_mul_of_nonneg_left h1 (by omega)
    exact Int.le_of_mul_le_mul_right h2 Mp
end LWk57
set_option maxHeartbeats 0
namespace LWk57
open PySem PySem.Spec L2 PD
open PyProof.Rows hiding St pairD cutD
local macro_rules | `(tactic| walk_at "w_1") => `(tactic| (first | with_reducible refine w_seq ?_ | with_reducible refine w_set ?_ | with_reducible refine w_ret ?_ | with_reducible refine w_drop ?_ | with_reducible refine w_pass ?_ | with_reducible refine w_sif ?_ | with_reducible refine w_asg ?_ | with_reducible refine w_par ?_ | with_reducible refine w_for ?_ | with_reducible refine w_src ?_ | with_reducible refine w_srcR ?_ | with_reducible refine w_enum ?_ | with_reducible refine w_zip ?_ | with_reducible refine w_raiseF ?_ | with_reducible refine w_raiseT ?_ | with_reducible refine w_brk ?_ | with_reducible refine w_ct ?_ | with_reducible refine w_lit ?_ | with_reducible refine w_fz ?_ | with_reducible refine w_prim ?_ | with_reducible refine w_call ?_ | with_reducible refine w_nil ?_ | with_reducible refine w_ex ?_ | with_reducible refine w_tup ?_ | with_reducible refine w_lst ?_ | with_reducible refine w_tof ?_ | with_reducible refine w_tnot ?_ | with_reducible refine w_tyes ?_ | with_reducible refine w_tor ?_ | with_reducible refine w_tand ?_ | with_reducible refine w_and ?_ | with_reducible refine w_or ?_ | with_reducible refine w_not ?_ | with_reducible refine w_vif ?_ | with_reducible refine w_chain ?_ | with_reducible refine w_fld ?_ | with_reducible refine w_tput ?_ | with_reducible refine w_setIx ?_ | with_reducible refine w_dic0 ?_ | with_reducible refine w_lc ?_ | with_reducible refine w_aFz ?_ | with_reducible refine w_try ?_ | with_reducible refine w_callL ?_ | with_reducible refine w_b ?_ | with_reducible refine w_i ?_ | with_reducible refine wp_add ?_ | with_reducible refine wp_sub ?_ | with_reducible refine wp_neg ?_ | with_reducible refine wp_lt ?_ | with_reducible refine wp_le ?_ | with_reducible refine wp_gt ?_ | with_reducible refine wp_ge ?_ | with_reducible refine wp_eqI ?_ | with_reducible refine wp_neI ?_ | with_reducible refine wp_len ?_ | with_reducible refine wp_lenT ?_ | with_reducible refine wp_lenS ?_ | with_reducible refine wp_int ?_ | with_reducible refine wp_abs ?_ | with_reducible refine wp_min2 ?_ | with_reducible refine wp_max2 ?_ | with_reducible refine wp_sorted ?_ | with_reducible refine wp_tupC ?_ | with_reducible refine wp_tupCT ?_ | with_reducible refine wp_lstC ?_ | with_reducible refine wp_lstCT ?_ | with_reducible refine wi_tt ?_ | with_reducible refine wi_ff ?_ | with_reducible refine wi_not ?_ | with_reducible refine wp_sl1 ?_ | with_reducible refine w_se ?_ | with_reducible refine w_lam0 ?_ | with_reducible refine w_par3 ?_ | with_reducible refine w_dicK ?_ | with_reducible refine w_evN ?_ | with_reducible refine w_evC ?_ | with_reducible refine w_lc2 ?_ | with_reducible refine wp_eqT ?_ | ((with_reducible apply w_var); case h => exact rfl) | ((with_reducible apply w_varO); case h => exact rfl) | ((with_reducible apply w_move); case h => exact rfl) | ((with_reducible apply w_moveO); case h => exact rfl) | ((with_reducible apply w_pk); case h => exact rfl) | ((with_reducible apply w_res); case h => exact rfl) | ((with_reducible apply w_ls); case h => exact rfl) | ((with_reducible apply w_sl); case h => exact rfl) | ((with_reducible apply w_ti); case h => exact rfl) | ((with_reducible apply w_tc); case h => exact rfl) | ((with_reducible apply w_tne); case h => exact rfl) | ((with_reducible apply w_tp); case h => exact rfl) | ((with_reducible apply w_ow); case h => exact rfl) | ((with_reducible apply w_aug); case ha => exact rfl) | ((with_reducible apply w_app); case h0 => exact rfl) | ((with_reducible apply w_so); case h => exact rfl) | ((with_reducible apply w_l); (case h => exact rfl); case hl => exact rfl) | ((with_reducible apply wp_is); case h => exact rfl) | ((with_reducible apply wp_isnot); case h => exact rfl) | ((with_reducible apply wp_ixT); case h => exact rfl) | ((with_reducible apply w_z); case h => exact rfl) | ((with_reducible apply w_fx); (case h => exact rfl); case h2 => exact rfl) | ((with_reducible refine wi_pos ?hp ?_); case hp => omega) | ((with_reducible refine wi_neg ?hp ?_); case hp => omega) | ((with_reducible refine wp_mod ?hp ?_); case hp => omega) | ((with_reducible refine wp_fdiv ?hp ?hq ?_); (case hp => omega); case hq => omega) | ((with_reducible refine wp_mulS ?hp ?hq ?_); (case hp => omega); case hq => omega)))
def kvG (ts : TL) : List (D × D) := ts.map fun t => (.int (t.1 : Int), pairD t.2)
theorem kvG_len (ts : TL) : (kvG ts).length = ts.length := by unfold kvG; rw [List.length_map]
theorem kvG_find : ∀ (ts : TL) (i : Nat), lookK (kvG ts) (.inl (i : Int)) = (ts.find? fun t => t.1 == i).map fun t => pairD t.2
  | [], i => rfl
  | t :: ts, i => by
    show (if keyD (.int (t.1 : Int)) = some (.inl (i : Int)) then some (pairD t.2) else lookK (kvG ts) (.inl (i : Int))) = _
    rw [List.find?_cons, kvG_find ts i]
    by_cases c : t.1 = i
    · rw [if_pos (by rw [keyD, c]), show (t.1 == i) = true from by simp [c]]
      rfl
    · rw [if_neg (by rw [keyD]; intro e; injection e with e; injection e with e; omega), show (t.1 == i) = false from by simp [c]]
theorem find_nodup : ∀ {ts : TL} {t : Nat × (Int × Int)}, (ts.map (·.1)).Nodup → t ∈ ts → (ts.find? fun u => u.1 == t.1) = some t
  | [], t, _, h => by cases h
  | u :: ts, t, nd, h => by
    rw [List.map_cons, List.nodup_cons] at nd
    rw [List.find?_cons]
    rcases List.mem_cons.mp h with rfl | h
    · simp
    · have : u.1 ≠ t.1 := fun e => nd.1 (by rw [e]; exact List.mem_map.mpr ⟨t, h, rfl⟩)
      rw [show (u.1 == t.1) = false from by simp [this]]
      exact find_nodup nd.2 h
theorem kvG_look {ts : TL} {t : Nat × (Int × Int)} (nd : (ts.map (·.1)).Nodup) (h : t ∈ ts) : lookK (kvG ts) (.inl (t.1 : Int)) = some (pairD t.2) := by
  rw [kvG_find, find_nodup nd h]
  rfl
theorem kvG_put {ts : TL} {i : Nat} {p : Int × Int} (h : i ∉ ts.map (·.1)) : putKD (kvG ts) (.inl (i : Int)) (pairD p) = kvG (ts ++ [(i, p)]) := by
  have : ((kvG ts).any fun q => decide (keyD q.1 = some (.inl (i : Int)))) = false := by
    rw [Bool.eq_false_iff]
    intro c
    obtain ⟨x, hx, e⟩ := List.any_eq_true.mp c
    obtain ⟨t, ht, rfl⟩ := List.mem_map.mp hx
    have e := of_decide_eq_true e
    have e : keyD (.int (t.1 : Int)) = some (.inl (i : Int)) := e
    rw [keyD] at e
    injection e with e
    injection e with e
    exact h (List.mem_map.mpr ⟨t, ht, by show t.1 = i; omega⟩)
  unfold putKD
  rw [this, if_neg (by decide)]
  unfold kvG
  rw [List.map_append]
  rfl
theorem kvG_key {ts : TL} {o : Nat} {x : D} (h : ((kvG ts).map (·.1))[o]? = some x) : ∃ t, ts[o]? = some t ∧ x = .int (t.1 : Int) := by
  unfold kvG at h
  rw [List.map_map, List.getElem?_map] at h
  cases e : ts[o]? with
  | none => rw [e] at h; cases h
  | some t => rw [e] at h; cases h; exact ⟨t, rfl, rfl⟩
section
variable {k : Nat} {τ : Tape} {Q : Rs → Tape → Prop} {E : D → Tape → Prop} {QP : Rs → Prop}
theorem free_useG {d : D} {ns : List Int} (hd : Sq d ns) (hs : Spn ns) {i : Nat} (hi : i < ns.length) {ts : TL} (nd : (ts.map (·.1)).Nodup) (lt : ∀ t ∈ ts, t.1 < ns.length) {p : Int × Int} (y : (∀ t ∈ ts, ¬ Meets ns i t.1 p t.2) → Q (.fz (.bl true)) τ) (n : (∃ t ∈ ts, Meets ns i t.1 p t.2) → Q (.fz (.bl false)) τ) :
    WF (m_is_free [.fz d, .bor (.dic (kvG ts)), .fz (.int p.1), .fz (.int p.2), .fz (.int (gN ns i))] τ) Q E := by
  obtain ⟨j1, j2⟩ := hs.at hi
  refine w_body ?_
  unfold mv_is_free
  refine w_seq (w_forK (kvs := kvG ts) rfl rfl ?_)
  refine w_forL (fun o ρ τ' => τ' = τ ∧ (∀ b t, b < o → ts[b]? = some t → ¬ Meets ns i t.1 p t.2) ∧ ∃ s5 s6 s7, ρ = [.fz d, .bor (.clo 0 [.dic (kvG ts)]), .fz (.int p.1), .fz (.int p.2), .fz (.int (gN ns i)), s5, s6, s7]) ⟨rfl, fun o q l => absurd l (Nat.not_lt_zero _), _, _, _, rfl⟩ ?_ ?_
  · rintro o x ρ τ' hx ⟨rfl, ih, s5, s6, s7, rfl⟩
    obtain ⟨t, ht, rfl⟩ := kvG_key hx
    have mt := List.mem_of_getElem? ht
    have hn := lt t mt
    obtain ⟨o1, o2⟩ := hs.at hn
    have hl := kvG_look nd mt
    have gp := gcdI_pos (a := gN ns i) o1
    (repeat' (first | walk_at "w_1"))
    refine w_dgetK (kv0 := kvG ts) rfl ?_
    (repeat' (first | walk_at "w_1"))
    refine ⟨kvG ts, .inl (t.1 : Int), pairD t.2, rfl, rfl, hl, ?_⟩
    (repeat' (first | (with_reducible refine hd.ix hn ?_) | walk_at "w_1"))
    refine common_use2 (by omega) (by omega) (by omega) ?_
    have e : (Nat.gcd (gN ns i).toNat (gN ns t.1).toNat : Nat) = gcdI (gN ns i) (gN ns t.1) := rfl
    rw [e]
    unfold pairD
    (repeat' (first | walk_at "w_1"))
    refine wi_dec (fun h1 => ?_) fun h1 => ?_
    · (repeat' (first | walk_at "w_1"))
      refine wi_dec (fun h2 => ?_) fun h2 => ?_
      · (repeat' (first | walk_at "w_1"))
        exact n ⟨t, mt, h1.symm, emod_neg h2⟩
      · (repeat' (first | walk_at "w_1"))
        refine ⟨rfl, fun b r l e2 m => ?_, _, _, _, rfl⟩
        by_cases z : b = o
        · subst z
          rw [ht] at e2
          cases e2
          exact h2 (emod_neg m.2)
        · exact ih b r (by omega) e2 m
    · (repeat' (first | walk_at "w_1"))
      refine ⟨rfl, fun b r l e2 m => ?_, _, _, _, rfl⟩
      by_cases z : b = o
      · subst z
        rw [ht] at e2
        cases e2
        exact h1 m.1.symm
      · exact ih b r (by omega) e2 m
  · rintro ρ τ' ⟨rfl, ih, s5, s6, s7, rfl⟩
    rw [List.length_map, kvG_len] at ih
    (repeat' (first | walk_at "w_1"))
    exact y fun t ht m => by
      obtain ⟨b, hb, e⟩ := List.getElem_of_mem ht
      exact ih b t hb (by rw [List.getElem?_eq_getElem hb, e]) m
end
theorem map_gN (ns : List Int) : (List.range ns.length).map (gN ns) = ns := map_getD ns
theorem totN_sz (M : Nat) (ns : List Int) : totN M ns = ((szN ns ns.length).map fun p => M / p.1.toNat).sum := by
  unfold totN szN
  rw [List.map_map]
  have := congrArg (fun l => (l.map fun i => M / i.toNat).sum) (map_gN ns)
  simp only [List.map_map] at this
  exact this.symm
theorem szN_nodup (ns : List Int) (n : Nat) : ((szN ns n).map (·.2)).Nodup := by
  unfold szN
  rw [List.map_map]
  show ((List.range n).map fun i : Nat => (i : Int)).Nodup
  refine List.Pairwise.map _ (fun a b h => ?_) List.nodup_range
  intro e
  exact h (by omega)
/-- the order in which classes are laid -/
structure Ord (ns : List Int) (L : CL) : Prop where
  mem : ∀ x, x ∈ L ↔ ∃ i, i < ns.length ∧ x = (gN ns i, (i : Int))
  len : L.length = ns.length
  nd : (L.map (·.2)).Nodup
  srt : ∀ (a b : Nat) p q, a < b → L[a]? = some p → L[b]? = some q → p.1 ≤ q.1
  tot : ∀ M, totN M ns = (L.map fun p => M / p.1.toNat).sum
theorem ord_sz (ns : List Int) : Ord ns (sortP (szN ns ns.length)) := by
  have pm := sortP_perm (szN ns ns.length)
  refine ⟨fun x => by rw [pm.mem_iff, szN_mem], by rw [pm.length_eq, szN_len], (pm.map _).nodup_iff.mpr (szN_nodup _ _), fun a b p q l e1 e2 => ?_, fun M => ?_⟩
  · obtain ⟨h1, f1⟩ := List.getElem?_eq_some_iff.mp e1
    obtain ⟨h2, f2⟩ := List.getElem?_eq_some_iff.mp e2
    have := List.pairwise_iff_getElem.mp (sortP_sorted (szN ns ns.length)) a b h1 h2 l
    rw [f1, f2] at this
    rw [Bool.eq_false_iff, ne_eq, SrtO.lexB_iff] at this
    omega
  · rw [totN_sz]
    exact ((pm.map _).sum_nat).symm
theorem cls_tk {ns : List Int} {h : Int} {cs : CL} (hc : Cls ns h cs) : Tk ns h ((List.range ns.length).map fun i => (i, cAt cs i)) := by
  have hl := hc.len
  refine ⟨fun t ht => ?_, fun t ht => ?_, ?_⟩
  · obtain ⟨i, hi, rfl⟩ := List.mem_map.mp ht
    exact List.mem_range.mp hi
  · obtain ⟨i, hi, rfl⟩ := List.mem_map.mp ht
    have := List.mem_range.mp hi
    exact hc.bd i _ (at_cAt (by omega))
  · rw [List.pairwise_map]
    refine List.Pairwise.imp_of_mem ?_ List.pairwise_lt_range
    intro a b ha hb lt m
    have ha := List.mem_range.mp ha
    have hb := List.mem_range.mp hb
    exact hc.ap b a _ _ lt (at_cAt (by omega)) (at_cAt (by omega)) m.symm
theorem cls_room {ns : List Int} {h : Int} {cs : CL} (hs : Spn ns) (hc : Cls ns h cs) {M : Nat} (hd : ∀ i ∈ ns, i.toNat ∣ M) : totN M ns ≤ h.toNat * M := by
  have T := cls_tk hc
  have dv : ∀ t ∈ ((List.range ns.length).map fun i => (i, cAt cs i)), (gN ns t.1).toNat ∣ M := fun t ht => hd _ (List.mem_of_getElem? (at_gN (T.lt t ht)))
  have := GR.room_of (T.ok hs dv) (T.dis hs)
  rw [tot_sum, List.map_map, List.map_map] at this
  refine Nat.le_trans (Nat.le_of_eq ?_) this
  unfold totN
  have e := congrArg (fun l => (l.map fun i => M / i.toNat).sum) (map_gN ns)
  simp only [List.map_map] at e
  exact e.symm
/-- where no class is free the shares are too many -/
theorem no_free {ns : List Int} {h : Int} {L : CL} {j i : Nat} {ts : TL} (hs : Spn ns) (h1 : 1 ≤ h) (O : Ord ns L) (ch : ChainP ns) (T : Tk ns h ts) (hL : L[j]? = some (gN ns i, (i : Int))) (hi : i < ns.length) (ht : ts.map (fun t => (gN ns t.1, (t.1 : Int))) = L.take j)
    (no : ∀ a b : Nat, (a : Int) < h → (b : Int) < gN ns i → ∃ t ∈ ts, Meets ns i t.1 ((a : Int), (b : Int)) t.2) {M : Nat} (hM : 0 < M) (hd : ∀ i ∈ ns, i.toNat ∣ M) : h.toNat * M < totN M ns := by
  obtain ⟨gi, _⟩ := hs.at hi
  have hj := (List.getElem?_eq_some_iff.mp hL).1
  have dv : ∀ t ∈ ts, gN ns i % gN ns t.1 = 0 := fun t mt => by
    obtain ⟨b, hb, e⟩ := List.getElem_of_mem mt
    have e1 : (L.take j)[b]? = some (gN ns t.1, (t.1 : Int)) := by
      rw [← ht, List.getElem?_map, List.getElem?_eq_getElem hb, e]
      rfl
    have hb2 : b < j := by
      have := (List.getElem?_eq_some_iff.mp e1).1
      rw [List.length_take] at this
      omega
    rw [List.getElem?_take_of_lt hb2] at e1
    have := O.srt b j _ _ hb2 e1 hL
    exact ch _ (List.mem_of_getElem? (at_gN (T.lt t mt))) _ (List.mem_of_getElem? (at_gN hi)) this
  have dvN : ∀ t ∈ ts, (gN ns t.1).toNat ∣ (gN ns i).toNat := fun t mt => dvd_toNat (hs.at (T.lt t mt)).1 gi (dv t mt)
  have big : h.toNat * (gN ns i).toNat ≤ GR.tot (gN ns i).toNat (ts.map (cG ns)) := by
    rcases Nat.lt_or_ge (GR.tot (gN ns i).toNat (ts.map (cG ns))) (h.toNat * (gN ns i).toNat) with l | l
    · exfalso
      obtain ⟨a, b, ha, hb, f⟩ := GR.free_of (T.ok hs dvN) l
      obtain ⟨t, mt, m⟩ := no a b (by omega) (by omega)
      exact free_not hs T hi dv f t mt m
    · exact l
  obtain ⟨n, hn⟩ := hd _ (List.mem_of_getElem? (at_gN hi))
  have np : 0 < n := by
    rcases Nat.eq_zero_or_pos n with z | z
    · rw [z, Nat.mul_zero] at hn; omega
    · exact z
  have sc : GR.tot M (ts.map (cG ns)) = n * GR.tot (gN ns i).toNat (ts.map (cG ns)) := by
    rw [hn]
    exact GR.tot_scale fun c hc => by
      obtain ⟨t, mt, rfl⟩ := List.mem_map.mp hc
      exact dvN t mt
  have e1 : GR.tot M (ts.map (cG ns)) = ((L.take j).map fun p => M / p.1.toNat).sum := by
    rw [tot_sum, List.map_map, ← ht, List.map_map]
    rfl
  have e2 : totN M ns = ((L.take j).map fun p => M / p.1.toNat).sum + (M / (gN ns i).toNat + ((L.drop (j + 1)).map fun p => M / p.1.toNat).sum) := by
    rw [O.tot M]
    have : L = L.take j ++ (gN ns i, (i : Int)) :: L.drop (j + 1) := by
      obtain ⟨_, e⟩ := List.getElem?_eq_some_iff.mp hL
      rw [← e, ← List.drop_eq_getElem_cons hj, List.take_append_drop]
    have e3 := congrArg (fun l => (l.map fun p => M / p.1.toNat).sum) this
    simp only [List.map_append, List.sum_append, List.map_cons, List.sum_cons] at e3
    exact e3
  have e4 : M / (gN ns i).toNat = n := by
    rw [hn, Nat.mul_div_cancel_left _ (by omega)]
  have e5 : h.toNat * M ≤ GR.tot M (ts.map (cG ns)) := by
    rw [sc]
    calc h.toNat * M = n * (h.toNat * (gN ns i).toNat) := by rw [hn, Nat.mul_comm _ n, Nat.mul_left_comm]
      _ ≤ _ := Nat.mul_le_mul_left n big
  rw [← e1] at e2
  omega
end LWk57
set_option maxHeartbeats 0
namespace LWk57
open PySem PySem.Spec L2 PD
open PyProof.Rows hiding St pairD cutD
local macro_rules | `(tactic| walk_at "w_1") => `(tactic| (first | with_reducible refine w_seq ?_ | with_reducible refine w_set ?_ | with_reducible refine w_ret ?_ | with_reducible refine w_drop ?_ | with_reducible refine w_pass ?_ | with_reducible refine w_sif ?_ | with_reducible refine w_asg ?_ | with_reducible refine w_par ?_ | with_reducible refine w_for ?_ | with_reducible refine w_src ?_ | with_reducible refine w_srcR ?_ | with_reducible refine w_enum ?_ | with_reducible refine w_zip ?_ | with_reducible refine w_raiseF ?_ | with_reducible refine w_raiseT ?_ | with_reducible refine w_brk ?_ | with_reducible refine w_ct ?_ | with_reducible refine w_lit ?_ | with_reducible refine w_fz ?_ | with_reducible refine w_prim ?_ | with_reducible refine w_call ?_ | with_reducible refine w_nil ?_ | with_reducible refine w_ex ?_ | with_reducible refine w_tup ?_ | with_reducible refine w_lst ?_ | with_reducible refine w_tof ?_ | with_reducible refine w_tnot ?_ | with_reducible refine w_tyes ?_ | with_reducible refine w_tor ?_ | with_reducible refine w_tand ?_ | with_reducible refine w_and ?_ | with_reducible refine w_or ?_ | with_reducible refine w_not ?_ | with_reducible refine w_vif ?_ | with_reducible refine w_chain ?_ | with_reducible refine w_fld ?_ | with_reducible refine w_tput ?_ | with_reducible refine w_setIx ?_ | with_reducible refine w_dic0 ?_ | with_reducible refine w_lc ?_ | with_reducible refine w_aFz ?_ | with_reducible refine w_try ?_ | with_reducible refine w_callL ?_ | with_reducible refine w_b ?_ | with_reducible refine w_i ?_ | with_reducible refine wp_add ?_ | with_reducible refine wp_sub ?_ | with_reducible refine wp_neg ?_ | with_reducible refine wp_lt ?_ | with_reducible refine wp_le ?_ | with_reducible refine wp_gt ?_ | with_reducible refine wp_ge ?_ | with_reducible refine wp_eqI ?_ | with_reducible refine wp_neI ?_ | with_reducible refine wp_len ?_ | with_reducible refine wp_lenT ?_ | with_reducible refine wp_lenS ?_ | with_reducible refine wp_int ?_ | with_reducible refine wp_abs ?_ | with_reducible refine wp_min2 ?_ | with_reducible refine wp_max2 ?_ | with_reducible refine wp_sorted ?_ | with_reducible refine wp_tupC ?_ | with_reducible refine wp_tupCT ?_ | with_reducible refine wp_lstC ?_ | with_reducible refine wp_lstCT ?_ | with_reducible refine wi_tt ?_ | with_reducible refine wi_ff ?_ | with_reducible refine wi_not ?_ | with_reducible refine wp_sl1 ?_ | with_reducible refine w_se ?_ | with_reducible refine w_lam0 ?_ | with_reducible refine w_par3 ?_ | with_reducible refine w_dicK ?_ | with_reducible refine w_evN ?_ | with_reducible refine w_evC ?_ | with_reducible refine w_lc2 ?_ | with_reducible refine wp_eqT ?_ | ((with_reducible apply w_var); case h => exact rfl) | ((with_reducible apply w_varO); case h => exact rfl) | ((with_reducible apply w_move); case h => exact rfl) | ((with_reducible apply w_moveO); case h => exact rfl) | ((with_reducible apply w_pk); case h => exact rfl) | ((with_reducible apply w_res); case h => exact rfl) | ((with_reducible apply w_ls); case h => exact rfl) | ((with_reducible apply w_sl); case h => exact rfl) | ((with_reducible apply w_ti); case h => exact rfl) | ((with_reducible apply w_tc); case h => exact rfl) | ((with_reducible apply w_tne); case h => exact rfl) | ((with_reducible apply w_tp); case h => exact rfl) | ((with_reducible apply w_ow); case h => exact rfl) | ((with_reducible apply w_aug); case ha => exact rfl) | ((with_reducible apply w_app); case h0 => exact rfl) | ((with_reducible apply w_so); case h => exact rfl) | ((with_reducible apply w_l); (case h => exact rfl); case hl => exact rfl) | ((with_reducible apply wp_is); case h => exact rfl) | ((with_reducible apply wp_isnot); case h => exact rfl) | ((with_reducible apply wp_ixT); case h => exact rfl) | ((with_reducible apply w_z); case h => exact rfl) | ((with_reducible apply w_fx); (case h => exact rfl); case h2 => exact rfl) | ((with_reducible refine wi_pos ?hp ?_); case hp => omega) | ((with_reducible refine wi_neg ?hp ?_); case hp => omega) | ((with_reducible refine wp_mod ?hp ?_); case hp => omega) | ((with_reducible refine wp_fdiv ?hp ?hq ?_); (case hp => omega); case hq => omega) | ((with_reducible refine wp_mulS ?hp ?hq ?_); (case hp => omega); case hq => omega)))
def lookT (ts : TL) (i : Nat) : Int × Int := ((ts.find? fun t => t.1 == i).map (·.2)).getD (0, 0)
theorem lookT_at {ts : TL} {t : Nat × (Int × Int)} (nd : (ts.map (·.1)).Nodup) (h : t ∈ ts) : lookT ts t.1 = t.2 := by
  unfold lookT
  rw [find_nodup nd h]
  rfl
theorem nodup_fst {ns : List Int} {L : CL} {j : Nat} {ts : TL} (O : Ord ns L) (ht : ts.map (fun t => (gN ns t.1, (t.1 : Int))) = L.take j) : (ts.map (·.1)).Nodup := by
  have h1 : ((L.take j).map (·.2)).Nodup := by
    rw [List.map_take]
    exact O.nd.sublist (List.take_sublist _ _)
  rw [← ht, List.map_map] at h1
  have h2 : (ts.map (fun t => (t.1 : Int))).Nodup := h1
  have e : ts.map (fun t => (t.1 : Int)) = (ts.map (·.1)).map (fun i : Nat => (i : Int)) := by rw [List.map_map]; rfl
  rw [e] at h2
  exact (List.pairwise_map.mp h2).imp fun n e => n (by rw [e])
theorem take_job {ns : List Int} {L : CL} {j i : Nat} {ts : TL} (O : Ord ns L) (ht : ts.map (fun t => (gN ns t.1, (t.1 : Int))) = L.take j) (hL : L[j]? = some (gN ns i, (i : Int))) : i ∉ ts.map (·.1) := fun m => by
  obtain ⟨t, mt, e⟩ := List.mem_map.mp m
  obtain ⟨b, hb, e1⟩ := List.getElem_of_mem mt
  have hj := (List.getElem?_eq_some_iff.mp hL).1
  have e2 : (L.take j)[b]? = some (gN ns t.1, (t.1 : Int)) := by
    rw [← ht, List.getElem?_map, List.getElem?_eq_getElem hb, e1]
    rfl
  have hb2 : b < j := by
    have := (List.getElem?_eq_some_iff.mp e2).1
    rw [List.length_take] at this
    omega
  rw [List.getElem?_take_of_lt hb2, e] at e2
  obtain ⟨l1, f1⟩ := List.getElem?_eq_some_iff.mp e2
  obtain ⟨l2, f2⟩ := List.getElem?_eq_some_iff.mp hL
  have := List.pairwise_iff_getElem.mp O.nd b j (by rw [List.length_map]; exact l1) (by rw [List.length_map]; exact l2) hb2
  rw [List.getElem_map, List.getElem_map, f1, f2] at this
  exact this rfl
theorem tk_cls {ns : List Int} {h : Int} {ts : TL} (T : Tk ns h ts) (nd : (ts.map (·.1)).Nodup) (all : ∀ i, i < ns.length → i ∈ ts.map (·.1)) : Cls ns h ((List.range ns.length).map (lookT ts)) := by
  have key : ∀ i p, ((List.range ns.length).map (lookT ts))[i]? = some p → (i, p) ∈ ts := fun i p e => by
    have l := (List.getElem?_eq_some_iff.mp e).1
    rw [List.length_map, List.length_range] at l
    rw [List.getElem?_map, List.getElem?_range l] at e
    cases e
    obtain ⟨t, mt, e⟩ := List.mem_map.mp (all i l)
    subst e
    rw [lookT_at nd mt]
    exact mt
  refine ⟨by rw [List.length_map, List.length_range], fun i p e => T.bd _ (key i p e), fun i j p q lt e1 e2 m => ?_⟩
  obtain ⟨a, ha, f1⟩ := List.getElem_of_mem (key i p e1)
  obtain ⟨b, hb, f2⟩ := List.getElem_of_mem (key j q e2)
  rcases Nat.lt_trichotomy a b with c | c | c
  · have := List.pairwise_iff_getElem.mp T.ap a b ha hb c
    rw [f1, f2] at this
    exact this m
  · subst c
    rw [f1] at f2
    injection f2 with f2 _
    omega
  · have := List.pairwise_iff_getElem.mp T.ap b a hb ha c
    rw [f1, f2] at this
    exact this m.symm
theorem Tk.add {ns : List Int} {h : Int} {ts : TL} (T : Tk ns h ts) {i : Nat} (hi : i < ns.length) {p : Int × Int} (b : Bnd1 ns h i p) (f : ∀ t ∈ ts, ¬ Meets ns i t.1 p t.2) : Tk ns h (ts ++ [(i, p)]) := by
  refine ⟨fun t ht => ?_, fun t ht => ?_, ?_⟩
  · rcases List.mem_append.mp ht with ht | ht
    · exact T.lt t ht
    · rw [List.mem_singleton.mp ht]; exact hi
  · rcases List.mem_append.mp ht with ht | ht
    · exact T.bd t ht
    · rw [List.mem_singleton.mp ht]; exact b
  · rw [List.pairwise_append]
    refine ⟨T.ap, List.pairwise_singleton _ _, fun a ha c hc m => ?_⟩
    rw [List.mem_singleton.mp hc] at m
    exact f a ha m.symm
section
variable {k : Nat} {τ : Tape} {Q : Rs → Tape → Prop} {E : D → Tape → Prop} {QP : Rs → Prop}
theorem for_use {d : D} {ns : List Int} {h : Int} (hd : Sq d ns) (hs : Spn ns) (ch : ChainP ns) (hh : 1 ≤ h ∧ h ≤ 32) {M : Nat} (hM : 0 < M) (dM : ∀ i ∈ ns, i.toNat ∣ M) (no : h.toNat * M < totN M ns → Q (.fz .non) τ) (yes : ∀ cs, Cls ns h cs → Q (.own (.lst (cs.map pairD))) τ) :
    WF (m_classes_for [.fz d, .fz (.int h)] τ) Q E := by
  have n6 := hs.n6
  obtain ⟨hh1, hh4⟩ := hh
  refine w_body ?_
  unfold mv_classes_for
  (repeat' (first | (with_reducible apply w_so hd.seq) | walk_at "w_1"))
  refine w_lcL (fun j acc ρ τ' => τ' = τ ∧ j ≤ ns.length ∧ acc = (szN ns j).map pairD ∧ ρ = [.fz d, .fz (.int h), .own (.dic []), .un, .un, .un, .un, .un, .un]) ⟨rfl, Nat.zero_le _, rfl, rfl⟩ ?_ ?_
  · rintro j x acc ρ τ' hx ⟨rfl, hj, rfl, rfl⟩
    obtain ⟨z, hz, rfl⟩ := enumD_at hx
    obtain ⟨s, rfl, hsj, -⟩ := map_int_at hz
    have hj2 := (List.getElem?_eq_some_iff.mp hsj).1
    have e1 := gN_at hsj
    rw [Nat.zero_add]
    (repeat' (first | walk_at "w_1"))
    refine ⟨by rw [List.length_map, szN_len]; exact len_lt (by omega), rfl, by omega, ?_, rfl⟩
    rw [← szN_succ, e1]
    rfl
  · rintro acc ρ τ' ⟨rfl, hj, rfl, rfl⟩
    rw [enumD_len, List.length_map]
    (repeat' (first | (with_reducible refine wp_sortedP ?_) | walk_at "w_1"))
    have O := ord_sz ns
    generalize sortP (szN ns ns.length) = L at O
    have Ll := O.len
    refine w_forL (fun j ρ τ'' => τ'' = τ' ∧ j ≤ L.length ∧ ∃ (ts : TL) (s3 s4 s6 : Sl), isCell s4 = false ∧ Tk ns h ts ∧ ts.map (fun t => (gN ns t.1, (t.1 : Int))) = L.take j ∧ ρ = [.fz d, .fz (.int h), .own (.dic (kvG ts)), s3, s4, .un, s6, .un, .un]) ⟨rfl, Nat.zero_le _, [], _, _, _, rfl, ⟨fun t ht => (nomatch ht), fun t ht => (nomatch ht), List.Pairwise.nil⟩, rfl, rfl⟩ ?_ ?_
    · rintro j x ρ τ'' hx ⟨rfl, hj, ts, s3, s4, s6, c4, T, ht, rfl⟩
      obtain ⟨p0, rfl, hp0⟩ := map_pair_at hx
      have hj2 := (List.getElem?_eq_some_iff.mp hp0).1
      obtain ⟨i, hi, rfl⟩ := (O.mem p0).mp (List.mem_of_getElem? hp0)
      obtain ⟨g1, g2⟩ := hs.at hi
      have nd := nodup_fst O ht
      unfold pairD
      (repeat' (first | (with_reducible refine w_rng1 ⟨by omega, by omega⟩ ?_) | walk_at "w_1"))
      refine w_lcL2 (fun a acc ρ τ1 => τ1 = τ'' ∧ a ≤ h.toNat ∧ ∃ fr : CL, acc = fr.map pairD ∧ fr.length ≤ a * 60 ∧ (∀ p ∈ fr, Bnd1 ns h i p ∧ ∀ t ∈ ts, ¬ Meets ns i t.1 p t.2) ∧ (fr = [] → ∀ a' b : Nat, a' < a → (b : Int) < gN ns i → ∃ t ∈ ts, Meets ns i t.1 ((a' : Int), (b : Int)) t.2) ∧ ρ = [.fz d, .fz (.int h), .own (.dic (kvG ts)), .fz (.int (gN ns i)), .fz (.int (i : Int)), .un, s6, .un, .un]) ⟨rfl, Nat.zero_le _, [], rfl, Nat.zero_le _, fun _ h => (nomatch h), fun _ a' b l => absurd l (Nat.not_lt_zero _), rfl⟩ ?_ ?_
      · rintro a x acc ρ τ1 hx ⟨rfl, ha, fr0, rfl, l0, f0, e0, rfl⟩
        obtain ⟨rfl, ha2⟩ := rngL_at hx
        rw [Int.zero_add]
        refine w_so rfl ?_
        (repeat' (first | (with_reducible refine w_rng1 ⟨by omega, by omega⟩ ?_) | walk_at "w_1"))
        refine w_lcL (fun b acc ρ τ2 => τ2 = τ1 ∧ b ≤ (gN ns i).toNat ∧ ∃ fr : CL, acc = fr.map pairD ∧ fr.length ≤ a * 60 + b ∧ (∀ p ∈ fr, Bnd1 ns h i p ∧ ∀ t ∈ ts, ¬ Meets ns i t.1 p t.2) ∧ (fr = [] → (∀ a' b : Nat, a' < a → (b : Int) < gN ns i → ∃ t ∈ ts, Meets ns i t.1 ((a' : Int), (b : Int)) t.2) ∧ ∀ b' : Nat, b' < b → ∃ t ∈ ts, Meets ns i t.1 ((a : Int), (b' : Int)) t.2) ∧ ρ = [.fz d, .fz (.int h), .own (.dic (kvG ts)), .fz (.int (gN ns i)), .fz (.int (i : Int)), .un, s6, .fz (.int (a : Int)), .un]) ⟨rfl, Nat.zero_le _, fr0, rfl, by omega, f0, fun e => ⟨e0 e, fun b' l => absurd l (Nat.not_lt_zero _)⟩, rfl⟩ ?_ ?_
        · rintro b x acc ρ τ2 hx ⟨rfl, hb, fr, rfl, l1, f1, e1, rfl⟩
          obtain ⟨rfl, hb2⟩ := rngL_at hx
          rw [Int.zero_add]
          refine w_so rfl ?_
          (repeat' (first | walk_at "w_1"))
          refine free_useG (p := ((a : Int), (b : Int))) hd hs hi nd T.lt (fun f => ?_) fun f => ?_
          · (repeat' (first | walk_at "w_1"))
            refine ⟨by rw [List.length_map]; exact len_big (by omega), rfl, by omega, fr ++ [((a : Int), (b : Int))], ?_, by rw [List.length_append, List.length_singleton]; omega, fun p hp => ?_, fun e => by simp at e, rfl⟩
            · rw [List.map_append]
              rfl
            · rcases List.mem_append.mp hp with hp | hp
              · exact f1 p hp
              · rw [List.mem_singleton.mp hp]
                exact ⟨⟨by show (0 : Int) ≤ (a : Int); omega, by show (a : Int) ≤ h - 1; omega, by show (0 : Int) ≤ (b : Int); omega, by show (b : Int) ≤ gN ns i - 1; omega⟩, f⟩
          · (repeat' (first | walk_at "w_1"))
            refine ⟨rfl, by omega, fr, rfl, by omega, f1, fun e => ⟨(e1 e).1, fun b' l => ?_⟩, rfl⟩
            by_cases z : b' = b
            · subst z
              exact f
            · exact (e1 e).2 b' (by omega)
        · rintro acc ρ τ2 ⟨rfl, hb, fr, rfl, l1, f1, e1, rfl⟩
          rw [rngL_len] at l1 e1
          refine ⟨rfl, by omega, fr, rfl, by omega, f1, fun e a' b l lb => ?_, rfl⟩
          by_cases z : a' = a
          · subst z
            exact (e1 e).2 b (by omega)
          · exact (e1 e).1 a' b (by omega) lb
      · rintro acc ρ τ1 ⟨rfl, ha, fr, rfl, l1, f1, e1, rfl⟩
        rw [rngL_len] at l1 e1
        have flf : Fl 64 (.lst (fr.map pairD)) := (Fl.lst (n := 1) fun d hd => by
          obtain ⟨p, _, rfl⟩ := List.mem_map.mp hd
          exact Fl.pair).mono (by omega)
        (repeat' (first | (with_reducible refine wp_eqNil flf ?_) | walk_at "w_1"))
        rw [List.length_map]
        refine wi_dec (fun c => ?_) fun c => ?_
        · (repeat' (first | walk_at "w_1"))
          exact no (no_free hs hh1 O ch T hp0 hi ht (fun a b la lb => e1 (List.eq_nil_of_length_eq_zero c) a b (by omega) lb) hM dM)
        · cases fr with
          | nil => exact (c rfl).elim
          | cons p fr =>
            obtain ⟨b1, b2⟩ := f1 p (by simp)
            (repeat' (first | walk_at "w_1"))
            refine w_dputK ?_
            (repeat' (first | walk_at "w_1"))
            refine wp_ix (d := pairD p) (atI_nat (α := D) ((p :: fr).map pairD) 0 (by simp)) ?_
            refine ⟨kvG ts, rfl, ?_⟩
            (repeat' (first | walk_at "w_1"))
            refine ⟨kvG ts, .inl (i : Int), rfl, rfl, ?_, ?_⟩
            · rw [kvG_len]
              have : ts.length = (L.take j).length := by rw [← ht, List.length_map]
              rw [List.length_take] at this
              exact len_lt (by omega)
            · refine ⟨rfl, by omega, ts ++ [(i, p)], .fz (.int (gN ns i)), .fz (.int (i : Int)), .own (.lst ((p :: fr).map pairD)), rfl, T.add hi b1 b2, ?_, ?_⟩
              · rw [List.map_append, ht, List.take_succ, hp0]
                rfl
              · show [Sl.fz d, .fz (.int h), .own (.dic (putKD (kvG ts) (.inl (i : Int)) (pairD p))), .fz (.int (gN ns i)), .fz (.int (i : Int)), .un, .own (.lst ((p :: fr).map pairD)), .un, .un] = _
                rw [kvG_put (take_job O ht hp0)]
    · rintro ρ τ'' ⟨rfl, hj, ts, s3, s4, s6, c4, T, ht, rfl⟩
      rw [List.length_map, List.take_length] at ht
      have nd := nodup_fst (j := L.length) O (by rw [List.take_length]; exact ht)
      have all : ∀ i, i < ns.length → i ∈ ts.map (·.1) := fun i hi => by
        have := (O.mem _).mpr ⟨i, hi, rfl⟩
        rw [← ht] at this
        obtain ⟨t, mt, e⟩ := List.mem_map.mp this
        injection e with _ e
        exact List.mem_map.mpr ⟨t, mt, by omega⟩
      have fr : ∀ (s : Sl), isCell s = false → freeIn [.fz d, .fz (.int h), .own (.dic (kvG ts)), s3, s, .un, s6, .un, .un] [4] = true := fun s h => by
        show (!isCell s && true) = true
        rw [h]
        rfl
      (repeat' (first | (with_reducible refine hd.len ?_) | (with_reducible refine w_rng1 ⟨by omega, by omega⟩ ?_) | walk_at "w_1"))
      rw [fr _ c4]
      refine w_so rfl ?_
      refine w_lcL (fun i acc ρ τ => τ = τ'' ∧ i ≤ ns.length ∧ acc = ((List.range i).map (lookT ts)).map pairD ∧ ρ = [.fz d, .fz (.int h), .own (.dic (kvG ts)), s3, .un, .un, s6, .un, .un]) ⟨rfl, Nat.zero_le _, rfl, rfl⟩ ?_ ?_
      · rintro i x acc ρ τ hx ⟨rfl, hi, rfl, rfl⟩
        obtain ⟨rfl, hi2⟩ := rngL_at hx
        rw [Int.zero_add]
        obtain ⟨t, mt, e⟩ := List.mem_map.mp (all i (by omega))
        subst e
        refine w_so rfl ?_
        (repeat' (first | walk_at "w_1"))
        refine w_dgetK (kv0 := kvG ts) rfl ?_
        (repeat' (first | walk_at "w_1"))
        refine ⟨kvG ts, .inl (t.1 : Int), pairD t.2, rfl, rfl, kvG_look nd mt, ?_⟩
        refine ⟨by rw [List.length_map, List.length_map, List.length_range]; exact len_lt (by omega), rfl, by omega, ?_, rfl⟩
        rw [List.range_succ, List.map_append, List.map_append, List.map_singleton, List.map_singleton, lookT_at nd mt]
      · rintro acc ρ τ ⟨rfl, hi, rfl, rfl⟩
        rw [rngL_len]
        (repeat' (first | walk_at "w_1"))
        exact yes _ (tk_cls T nd all)
end
end LWk57
set_option maxHeartbeats 0
namespace LWk57
open PySem PySem.Spec L2 PD
open PyProof.Rows hiding St pairD cutD
local macro_rules | `(tactic| walk_at "w_1") => `(tactic| (first | with_reducible refine w_seq ?_ | with_reducible refine w_set ?_ | with_reducible refine w_ret ?_ | with_reducible refine w_drop ?_ | with_reducible refine w_pass ?_ | with_reducible refine w_sif ?_ | with_reducible refine w_asg ?_ | with_reducible refine w_par ?_ | with_reducible refine w_for ?_ | with_reducible refine w_src ?_ | with_reducible refine w_srcR ?_ | with_reducible refine w_enum ?_ | with_reducible refine w_zip ?_ | with_reducible refine w_raiseF ?_ | with_reducible refine w_raiseT ?_ | with_reducible refine w_brk ?_ | with_reducible refine w_ct ?_ | with_reducible refine w_lit ?_ | with_reducible refine w_fz ?_ | with_reducible refine w_prim ?_ | with_reducible refine w_call ?_ | with_reducible refine w_nil ?_ | with_reducible refine w_ex ?_ | with_reducible refine w_tup ?_ | with_reducible refine w_lst ?_ | with_reducible refine w_tof ?_ | with_reducible refine w_tnot ?_ | with_reducible refine w_tyes ?_ | with_reducible refine w_tor ?_ | with_reducible refine w_tand ?_ | with_reducible refine w_and ?_ | with_reducible refine w_or ?_ | with_reducible refine w_not ?_ | with_reducible refine w_vif ?_ | with_reducible refine w_chain ?_ | with_reducible refine w_fld ?_ | with_reducible refine w_tput ?_ | with_reducible refine w_setIx ?_ | with_reducible refine w_dic0 ?_ | with_reducible refine w_lc ?_ | with_reducible refine w_aFz ?_ | with_reducible refine w_try ?_ | with_reducible refine w_callL ?_ | with_reducible refine w_b ?_ | with_reducible refine w_i ?_ | with_reducible refine wp_add ?_ | with_reducible refine wp_sub ?_ | with_reducible refine wp_neg ?_ | with_reducible refine wp_lt ?_ | with_reducible refine wp_le ?_ | with_reducible refine wp_gt ?_ | with_reducible refine wp_ge ?_ | with_reducible refine wp_eqI ?_ | with_reducible refine wp_neI ?_ | with_reducible refine wp_len ?_ | with_reducible refine wp_lenT ?_ | with_reducible refine wp_lenS ?_ | with_reducible refine wp_int ?_ | with_reducible refine wp_abs ?_ | with_reducible refine wp_min2 ?_ | with_reducible refine wp_max2 ?_ | with_reducible refine wp_sorted ?_ | with_reducible refine wp_tupC ?_ | with_reducible refine wp_tupCT ?_ | with_reducible refine wp_lstC ?_ | with_reducible refine wp_lstCT ?_ | with_reducible refine wi_tt ?_ | with_reducible refine wi_ff ?_ | with_reducible refine wi_not ?_ | with_reducible refine wp_sl1 ?_ | with_reducible refine w_se ?_ | with_reducible refine w_lam0 ?_ | with_reducible refine w_par3 ?_ | with_reducible refine w_dicK ?_ | with_reducible refine w_evN ?_ | with_reducible refine w_evC ?_ | with_reducible refine w_lc2 ?_ | with_reducible refine wp_eqT ?_ | ((with_reducible apply w_var); case h => exact rfl) | ((with_reducible apply w_varO); case h => exact rfl) | ((with_reducible apply w_move); case h => exact rfl) | ((with_reducible apply w_moveO); case h => exact rfl) | ((with_reducible apply w_pk); case h => exact rfl) | ((with_reducible apply w_res); case h => exact rfl) | ((with_reducible apply w_ls); case h => exact rfl) | ((with_reducible apply w_sl); case h => exact rfl) | ((with_reducible apply w_ti); case h => exact rfl) | ((with_reducible apply w_tc); case h => exact rfl) | ((with_reducible apply w_tne); case h => exact rfl) | ((with_reducible apply w_tp); case h => exact rfl) | ((with_reducible apply w_ow); case h => exact rfl) | ((with_reducible apply w_aug); case ha => exact rfl) | ((with_reducible apply w_app); case h0 => exact rfl) | ((with_reducible apply w_so); case h => exact rfl) | ((with_reducible apply w_l); (case h => exact rfl); case hl => exact rfl) | ((with_reducible apply wp_is); case h => exact rfl) | ((with_reducible apply wp_isnot); case h => exact rfl) | ((with_reducible apply wp_ixT); case h => exact rfl) | ((with_reducible apply w_z); case h => exact rfl) | ((with_reducible apply w_fx); (case h => exact rfl); case h2 => exact rfl) | ((with_reducible refine wi_pos ?hp ?_); case hp => omega) | ((with_reducible refine wi_neg ?hp ?_); case hp => omega) | ((with_reducible refine wp_mod ?hp ?_); case hp => omega) | ((with_reducible refine wp_fdiv ?hp ?hq ?_); (case hp => omega); case hq => omega) | ((with_reducible refine wp_mulS ?hp ?hq ?_); (case hp => omega); case hq => omega)))
/-- neighbours in the sorted row divide -/
def Adj (L : List Int) : Prop := ∀ j, j + 1 < L.length → gN L (j + 1) % gN L j = 0
theorem sorted_gN {L : List Int} (h : L.Pairwise (· ≤ ·)) {i j : Nat} (hij : i ≤ j) (hj : j < L.length) : gN L i ≤ gN L j := by
  rcases Nat.lt_or_eq_of_le hij with c | c
  · have e1 := List.getElem?_eq_some_iff.mp (at_gN (ns := L) (i := i) (by omega))
    have e2 := List.getElem?_eq_some_iff.mp (at_gN hj)
    obtain ⟨h1, f1⟩ := e1
    obtain ⟨h2, f2⟩ := e2
    have := List.pairwise_iff_getElem.mp h i j h1 h2 c
    rwa [f1, f2] at this
  · subst c; exact Int.le_refl _
theorem adj_dvd {L : List Int} (A : Adj L) (i : Nat) : ∀ n, i + n < L.length → gN L i ∣ gN L (i + n)
  | 0, _ => Int.dvd_refl _
  | n + 1, h => Int.dvd_trans (adj_dvd A i n (by omega)) (Int.dvd_of_emod_eq_zero (A (i + n) h))
theorem adj_chain {ns : List Int} (A : Adj (sortN ns)) : ChainP ns := fun a ha b hb le => by
  obtain ⟨i, hi, e1⟩ := List.getElem_of_mem ((sortN_perm ns).mem_iff.mpr ha)
  obtain ⟨j, hj, e2⟩ := List.getElem_of_mem ((sortN_perm ns).mem_iff.mpr hb)
  have f1 : gN (sortN ns) i = a := gN_at (by rw [List.getElem?_eq_getElem hi, e1])
  have f2 : gN (sortN ns) j = b := gN_at (by rw [List.getElem?_eq_getElem hj, e2])
  rcases Nat.le_total i j with c | c
  · have := adj_dvd A i (j - i) (by omega)
    rw [show i + (j - i) = j from by omega, f1, f2] at this
    exact Int.emod_eq_zero_of_dvd this
  · have := sorted_gN (sortN_sorted ns) c hi
    rw [f1, f2] at this
    rw [Int.le_antisymm le this]
    exact Int.emod_self
theorem chain_adj {ns : List Int} (C : ChainP ns) : Adj (sortN ns) := fun j hj => by
  refine C _ ((sortN_perm ns).mem_iff.mp (List.mem_of_getElem? (at_gN (by omega)))) _ ((sortN_perm ns).mem_iff.mp (List.mem_of_getElem? (at_gN hj))) ?_
  exact sorted_gN (sortN_sorted ns) (Nat.le_succ j) hj
/-- one turn of zip(line, line[1:]) -/
theorem zip_at {L : List Int} {j : Nat} {x : D} (h : (zipD (L.map D.int) ((L.map D.int).drop 1))[j]? = some x) : j + 1 < L.length ∧ x = .tup [.int (gN L j), .int (gN L (j + 1))] := by
  obtain ⟨a, b, h1, h2, rfl⟩ := zipD_at h
  rw [List.getElem?_drop] at h2
  obtain ⟨p, rfl, e1, _⟩ := map_int_at h1
  obtain ⟨q, rfl, e2, _⟩ := map_int_at h2
  rw [Nat.add_comm] at e2
  refine ⟨(List.getElem?_eq_some_iff.mp e2).1, ?_⟩
  rw [gN_at e1, gN_at e2]
theorem zipD_len : ∀ (xs ys : List D), (zipD xs ys).length = min xs.length ys.length
  | [], ys => by simp [zipD]
  | x :: xs, [] => by simp [zipD]
  | x :: xs, y :: ys => by rw [zipD, List.length_cons, zipD_len xs ys, List.length_cons, List.length_cons]; omega
theorem zip_len (L : List Int) : (zipD (L.map D.int) ((L.map D.int).drop 1)).length = L.length - 1 := by
  rw [zipD_len, List.length_drop, List.length_map]
  omega
section
variable {k : Nat} {τ : Tape} {Q : Rs → Tape → Prop} {E : D → Tape → Prop} {QP : Rs → Prop}
theorem wp_sortedS {d : D} {ns : List Int} (hd : Sq d ns) (q : QP (.own (.lst ((sortN ns).map D.int)))) : WP (pSorted [d]) QP := by
  rcases hd with rfl | rfl
  · exact wp_sorted q
  · show WP (match nsOf (ns.map D.int) with
      | some ns => .nl ((sortN ns).map D.int)
      | none => .bad) QP
    rw [nsOf_map]
    exact ⟨q⟩
theorem pos_sort {ns : List Int} (hs : Spn ns) {j : Nat} (hj : j < (sortN ns).length) : 0 < gN (sortN ns) j := by
  have := hs.lo _ ((sortN_perm ns).mem_iff.mp (List.mem_of_getElem? (at_gN hj)))
  omega
theorem chain_use {d : D} {ns : List Int} (hd : Sq d ns) (hs : Spn ns) (y : ChainP ns → Q (.fz (.bl true)) τ) (n : ¬ ChainP ns → Q (.fz (.bl false)) τ) : WF (m_chain_right [.fz d] τ) Q E := by
  have n6 := hs.n6
  have sl : (sortN ns).length = ns.length := (sortN_perm ns).length_eq
  have ps := @pos_sort ns hs
  have y2 : Adj (sortN ns) → Q (.fz (.bl true)) τ := fun A => y (adj_chain A)
  have n2 : ¬ Adj (sortN ns) → Q (.fz (.bl false)) τ := fun A => n fun C => A (chain_adj C)
  refine w_body ?_
  unfold mv_chain_right
  (repeat' (first | (with_reducible refine wp_sortedS hd ?_) | walk_at "w_1"))
  generalize sortN ns = L at *
  (repeat' (first | walk_at "w_1"))
  refine w_lcL (fun j acc ρ τ' => τ' = τ ∧ j ≤ L.length - 1 ∧ ∃ bs : List Bool, acc = bs.map D.bl ∧ bs.length = j ∧ (bs.all id = true ↔ ∀ i, i < j → gN L (i + 1) % gN L i = 0) ∧ ρ = [.fz d, .fz (.lst (L.map D.int)), .un, .un]) ⟨rfl, Nat.zero_le _, [], rfl, rfl, ⟨fun _ i h => absurd h (Nat.not_lt_zero _), fun _ => rfl⟩, rfl⟩ ?_ ?_
  · rintro j x acc ρ τ' hx ⟨rfl, hj, bs, rfl, bl, ib, rfl⟩
    obtain ⟨hj2, rfl⟩ := zip_at hx
    have p0 := ps (j := j) (by omega)
    (repeat' (first | walk_at "w_1"))
    refine ⟨by rw [List.length_map]; exact len_lt (by omega), rfl, by omega, bs ++ [decide (gN L (j + 1) % gN L j = 0)], by rw [List.map_append]; rfl, by rw [List.length_append, List.length_singleton, bl], ?_, rfl⟩
    rw [List.all_append, Bool.and_eq_true, ib]
    simp only [List.all_cons, List.all_nil, Bool.and_true, id, decide_eq_true_eq]
    constructor
    · rintro ⟨h1, h2⟩ i hi
      by_cases c : i = j
      · rw [c]; exact h2
      · exact h1 i (by omega)
    · exact fun h => ⟨fun i hi => h i (by omega), h j (by omega)⟩
  · rintro acc ρ τ' ⟨rfl, hj, bs, rfl, bl, ib, rfl⟩
    rw [zip_len] at bl ib
    (repeat' (first | (with_reducible refine wp_all ?_) | walk_at "w_1"))
    cases e : bs.all id with
    | true => exact y2 fun i hi => ib.mp e i (by omega)
    | false =>
      refine n2 fun A => ?_
      rw [ib.mpr fun i hi => A i (by omega)] at e
      cases e
theorem ischain_use {ns : List Int} (hs : Spn ns) (y : ChainP ns → Q (.fz (.bl true)) τ) (n : ¬ ChainP ns → Q (.fz (.bl false)) τ) : WF (m_l_is_chain [.fz (.lst (ns.map D.int))] τ) Q E := by
  have n6 := hs.n6
  have sl : (sortN ns).length = ns.length := (sortN_perm ns).length_eq
  have ps := @pos_sort ns hs
  have y2 : Adj (sortN ns) → Q (.fz (.bl true)) τ := fun A => y (adj_chain A)
  have n2 : ¬ Adj (sortN ns) → Q (.fz (.bl false)) τ := fun A => n fun C => A (chain_adj C)
  refine w_body ?_
  unfold mv_l_is_chain
  (repeat' (first | walk_at "w_1"))
  generalize sortN ns = L at *
  refine w_lcL (fun j acc ρ τ' => τ' = τ ∧ j ≤ L.length - 1 ∧ ∃ m, m ≤ j ∧ acc = List.replicate m (.int 1) ∧ (m = 0 ↔ ∀ i, i < j → gN L (i + 1) % gN L i = 0) ∧ ρ = [.fz (.lst (ns.map D.int)), .fz (.lst (L.map D.int)), .un, .un]) ⟨rfl, Nat.zero_le _, 0, Nat.le_refl _, rfl, ⟨fun _ i h => absurd h (Nat.not_lt_zero _), fun _ => rfl⟩, rfl⟩ ?_ ?_
  · rintro j x acc ρ τ' hx ⟨rfl, hj, m, hm, rfl, im, rfl⟩
    obtain ⟨hj2, rfl⟩ := zip_at hx
    have p0 := ps (j := j) (by omega)
    (repeat' (first | walk_at "w_1"))
    refine wi_dec (fun c => ?_) fun c => ?_
    · (repeat' (first | walk_at "w_1"))
      refine ⟨by rw [List.length_replicate]; exact len_lt (by omega), rfl, by omega, m + 1, by omega, rep_succ m, ⟨fun e => absurd e (by omega), fun h => absurd (h j (by omega)) c⟩, rfl⟩
    · refine ⟨rfl, by omega, m, by omega, rfl, ⟨fun e i hi => ?_, fun h => im.mpr fun i hi => h i (by omega)⟩, rfl⟩
      by_cases z : i = j
      · rw [z]; exact Decidable.not_not.mp c
      · exact im.mp e i (by omega)
  · rintro acc ρ τ' ⟨rfl, hj, m, hm, rfl, im, rfl⟩
    rw [zip_len] at im
    (repeat' (first | (with_reducible refine wp_eqNil (fl_ones.mono (by omega)) ?_) | walk_at "w_1"))
    rw [List.length_replicate]
    by_cases c : m = 0
    · rw [decide_eq_true c]
      exact y2 fun i hi => im.mp c i (by omega)
    · rw [decide_eq_false c]
      exact n2 fun A => c (im.mpr fun i hi => A i (by omega))
end
/-- a common multiple -/
def lcmL : List Int → Nat
  | [] => 1
  | i :: ns => i.toNat * lcmL ns
theorem lcmL_pos : ∀ {ns : List Int}, (∀ i ∈ ns, 1 ≤ i ∧ i ≤ 60) → 0 < lcmL ns
  | [], _ => Nat.one_pos
  | i :: ns, h => Nat.mul_pos (by have := h i (by simp); omega) (lcmL_pos fun x hx => h x (by simp [hx]))
theorem lcmL_dvd : ∀ {ns : List Int} {i : Int}, i ∈ ns → i.toNat ∣ lcmL ns
  | a :: ns, i, h => by
    rcases List.mem_cons.mp h with rfl | h
    · exact Nat.dvd_mul_right _ _
    · exact Nat.dvd_trans (lcmL_dvd h) (Nat.dvd_mul_left _ _)
theorem Spn.b {ns : List Int} (hs : Spn ns) : ∀ i ∈ ns, 1 ≤ i ∧ i ≤ 60 := fun i h => ⟨hs.lo i h, hs.hi i h⟩
abbrev paC (cs : CL) : D := .tup [.str "classes", .lst (cs.map pairD)]
abbrev paS (ns : List Int) : D := .tup [.str "sum", .int (sumS ns).1, .int (sumS ns).2]
section
variable {k : Nat} {τ : Tape} {Q : Rs → Tape → Prop} {E : D → Tape → Prop} {QP : Rs → Prop}
theorem paper_use {d : D} {ns : List Int} {h : Int} (hd : Sq d ns) (hs : Spn ns) (hh : 1 ≤ h ∧ h ≤ 4) (ch : ChainP ns) (y : ∀ cs, Cls ns h cs → (sumS ns).1 ≤ h * (sumS ns).2 → Q (.fz (paC cs)) τ) (n : ¬ (sumS ns).1 ≤ h * (sumS ns).2 → Q (.fz (paS ns)) τ) : WF (m_class_paper [.fz d, .fz (.int h)] τ) Q E := by
  refine w_body ?_
  unfold mv_class_paper
  (repeat' (first | walk_at "w_1"))
  refine hands_ok hd hs hh ?_
  (repeat' (first | walk_at "w_1"))
  refine chain_use hd hs (fun _ => ?_) fun c => absurd ch c
  (repeat' (first | walk_at "w_1"))
  have hM := lcmL_pos hs.b
  have sl := sum_le hs.b hM (fun i hi => lcmL_dvd hi) (h := h) (by omega)
  refine for_use hd hs ch ⟨hh.1, by omega⟩ hM (fun i hi => lcmL_dvd hi) (fun l => ?_) fun cs hc => ?_
  · (repeat' (first | walk_at "w_1"))
    refine sum_use2 hd hs.n6 hs.b ?_
    (repeat' (first | walk_at "w_1"))
    exact n fun z => by have := sl.mp z; omega
  · (repeat' (first | walk_at "w_1"))
    exact y cs hc (sl.mpr (cls_room hs hc fun i hi => lcmL_dvd hi))
theorem paper_no {d : D} {ns : List Int} {h : Int} (hd : Sq d ns) (hs : Spn ns) (hh : 1 ≤ h ∧ h ≤ 4) (ch : ¬ ChainP ns) (e : E (.exc "NotChain" []) τ) : WF (m_class_paper [.fz d, .fz (.int h)] τ) Q E := by
  refine w_body ?_
  unfold mv_class_paper
  (repeat' (first | walk_at "w_1"))
  refine hands_ok hd hs hh ?_
  (repeat' (first | walk_at "w_1"))
  refine chain_use hd hs (fun c => absurd c ch) fun c => ?_
  (repeat' (first | walk_at "w_1"))
  exact e
theorem paper_hands {d x : D} {ns : List Int} (hd : Sq d ns) (hs : Spn ns) (hx : BadHands x) (e : E (.exc "BadNumber" [("part", .str "hands")]) τ) : WF (m_class_paper [.fz d, .fz x] τ) Q E := by
  refine w_body ?_
  unfold mv_class_paper
  (repeat' (first | walk_at "w_1"))
  refine hands_no hd hs hx ?_
  exact e
theorem paper_bad {w idx x : D} (hw : Wrong w idx) (e : E (.exc "BadSpans" [("index", idx)]) τ) : WF (m_class_paper [.fz w, .fz x] τ) Q E := by
  refine w_body ?_
  unfold mv_class_paper
  (repeat' (first | walk_at "w_1"))
  refine hands_bad hw ?_
  exact e
theorem ispaper_no {d t : D} {ns : List Int} {h : Int} (hd : Sq d ns) (hs : Spn ns) (hh : 1 ≤ h ∧ h ≤ 4) (ch : ¬ ChainP ns) (e : E (.exc "NotChain" []) τ) : WF (m_is_class_paper [.fz d, .fz (.int h), .fz t] τ) Q E := by
  refine w_body ?_
  unfold mv_is_class_paper
  (repeat' (first | walk_at "w_1"))
  refine hands_ok hd hs hh ?_
  (repeat' (first | walk_at "w_1"))
  refine chain_use hd hs (fun c => absurd c ch) fun c => ?_
  (repeat' (first | walk_at "w_1"))
  exact e
theorem ispaper_hands {d x t : D} {ns : List Int} (hd : Sq d ns) (hs : Spn ns) (hx : BadHands x) (e : E (.exc "BadNumber" [("part", .str "hands")]) τ) : WF (m_is_class_paper [.fz d, .fz x, .fz t] τ) Q E := by
  refine w_body ?_
  unfold mv_is_class_paper
  (repeat' (first | walk_at "w_1"))
  refine hands_no hd hs hx ?_
  exact e
theorem ispaper_bad {w idx x t : D} (hw : Wrong w idx) (e : E (.exc "BadSpans" [("index", idx)]) τ) : WF (m_is_class_paper [.fz w, .fz x, .fz t] τ) Q E := by
  refine w_body ?_
  unfold mv_is_class_paper
  (repeat' (first | walk_at "w_1"))
  refine hands_bad hw ?_
  exact e
end
end LWk57
set_option maxHeartbeats 0
namespace LWk57
open PySem PySem.Spec L2 PD
open PyProof.Rows hiding St pairD cutD
local macro_rules | `(tactic| walk_at "w_1") => `(tactic| (first | with_reducible refine w_seq ?_ | with_reducible refine w_set ?_ | with_reducible refine w_ret ?_ | with_reducible refine w_drop ?_ | with_reducible refine w_pass ?_ | with_reducible refine w_sif ?_ | with_reducible refine w_asg ?_ | with_reducible refine w_par ?_ | with_reducible refine w_for ?_ | with_reducible refine w_src ?_ | with_reducible refine w_srcR ?_ | with_reducible refine w_enum ?_ | with_reducible refine w_zip ?_ | with_reducible refine w_raiseF ?_ | with_reducible refine w_raiseT ?_ | with_reducible refine w_brk ?_ | with_reducible refine w_ct ?_ | with_reducible refine w_lit ?_ | with_reducible refine w_fz ?_ | with_reducible refine w_prim ?_ | with_reducible refine w_call ?_ | with_reducible refine w_nil ?_ | with_reducible refine w_ex ?_ | with_reducible refine w_tup ?_ | with_reducible refine w_lst ?_ | with_reducible refine w_tof ?_ | with_reducible refine w_tnot ?_ | with_reducible refine w_tyes ?_ | with_reducible refine w_tor ?_ | with_reducible refine w_tand ?_ | with_reducible refine w_and ?_ | with_reducible refine w_or ?_ | with_reducible refine w_not ?_ | with_reducible refine w_vif ?_ | with_reducible refine w_chain ?_ | with_reducible refine w_fld ?_ | with_reducible refine w_tput ?_ | with_reducible refine w_setIx ?_ | with_reducible refine w_dic0 ?_ | with_reducible refine w_lc ?_ | with_reducible refine w_aFz ?_ | with_reducible refine w_try ?_ | with_reducible refine w_callL ?_ | with_reducible refine w_b ?_ | with_reducible refine w_i ?_ | with_reducible refine wp_add ?_ | with_reducible refine wp_sub ?_ | with_reducible refine wp_neg ?_ | with_reducible refine wp_lt ?_ | with_reducible refine wp_le ?_ | with_reducible refine wp_gt ?_ | with_reducible refine wp_ge ?_ | with_reducible refine wp_eqI ?_ | with_reducible refine wp_neI ?_ | with_reducible refine wp_len ?_ | with_reducible refine wp_lenT ?_ | with_reducible refine wp_lenS ?_ | with_reducible refine wp_int ?_ | with_reducible refine wp_abs ?_ | with_reducible refine wp_min2 ?_ | with_reducible refine wp_max2 ?_ | with_reducible refine wp_sorted ?_ | with_reducible refine wp_tupC ?_ | with_reducible refine wp_tupCT ?_ | with_reducible refine wp_lstC ?_ | with_reducible refine wp_lstCT ?_ | with_reducible refine wi_tt ?_ | with_reducible refine wi_ff ?_ | with_reducible refine wi_not ?_ | with_reducible refine wp_sl1 ?_ | with_reducible refine w_se ?_ | with_reducible refine w_lam0 ?_ | with_reducible refine w_par3 ?_ | with_reducible refine w_dicK ?_ | with_reducible refine w_evN ?_ | with_reducible refine w_evC ?_ | with_reducible refine w_lc2 ?_ | with_reducible refine wp_eqT ?_ | ((with_reducible apply w_var); case h => exact rfl) | ((with_reducible apply w_varO); case h => exact rfl) | ((with_reducible apply w_move); case h => exact rfl) | ((with_reducible apply w_moveO); case h => exact rfl) | ((with_reducible apply w_pk); case h => exact rfl) | ((with_reducible apply w_res); case h => exact rfl) | ((with_reducible apply w_ls); case h => exact rfl) | ((with_reducible apply w_sl); case h => exact rfl) | ((with_reducible apply w_ti); case h => exact rfl) | ((with_reducible apply w_tc); case h => exact rfl) | ((with_reducible apply w_tne); case h => exact rfl) | ((with_reducible apply w_tp); case h => exact rfl) | ((with_reducible apply w_ow); case h => exact rfl) | ((with_reducible apply w_aug); case ha => exact rfl) | ((with_reducible apply w_app); case h0 => exact rfl) | ((with_reducible apply w_so); case h => exact rfl) | ((with_reducible apply w_l); (case h => exact rfl); case hl => exact rfl) | ((with_reducible apply wp_is); case h => exact rfl) | ((with_reducible apply wp_isnot); case h => exact rfl) | ((with_reducible apply wp_ixT); case h => exact rfl) | ((with_reducible apply w_z); case h => exact rfl) | ((with_reducible apply w_fx); (case h => exact rfl); case h2 => exact rfl) | ((with_reducible refine wi_pos ?hp ?_); case hp => omega) | ((with_reducible refine wi_neg ?hp ?_); case hp => omega) | ((with_reducible refine wp_mod ?hp ?_); case hp => omega) | ((with_reducible refine wp_fdiv ?hp ?hq ?_); (case hp => omega); case hq => omega) | ((with_reducible refine wp_mulS ?hp ?hq ?_); (case hp => omega); case hq => omega)))
section
variable {QP : Rs → Prop}
theorem isiPl {xs : List D} : fIsi sub (.lst xs) (.ty "tuple") = .at (.bl false) := by rfl
theorem isiPn : fIsi sub .non (.ty "tuple") = .at (.bl false) := by rfl
theorem isiSs {x : Str} : fIsi sub (.str x) (.ty "str") = .at (.bl true) := by rfl
theorem isiNi : fIsi sub .non (.ty "int") = .at (.bl false) := by rfl
end
/-- what is asked about -/
inductive PT : D → Prop where
  | cls (w : D) (T : Thg w) : PT (.tup [.str "classes", w])
  | sum (a b : Int) (ha : 0 ≤ a ∧ a ≤ 2 ^ 100) (hb : 1 ≤ b ∧ b ≤ 2 ^ 100) : PT (.tup [.str "sum", .int a, .int b])
  | sumB (x : Bool) (b : Int) : PT (.tup [.str "sum", .bl x, .int b])
  | sumN (a : Int) : PT (.tup [.str "sum", .int a, .non])
  | sum1 : PT (.tup [.str "sum"])
  | sum2 (a : D) : PT (.tup [.str "sum", a])
  | lst (xs : List D) : PT (.lst xs)
  | non : PT .non
  | nil : PT (.tup [])
  | cls3 (w x : D) : PT (.tup [.str "classes", w, x])
  | Cls (w : D) : PT (.tup [.str "Classes", w])
/-- what is right -/
def Val (ns : List Int) (h : Int) (t : D) : Prop := (∃ w, t = .tup [.str "classes", w] ∧ Good ns h w) ∨ (t = paS ns ∧ h * (sumS ns).2 < (sumS ns).1)
theorem sum_nums {ns : List Int} (hs : Spn ns) : 0 ≤ (sumS ns).1 ∧ (sumS ns).1 ≤ 1000000000000 ∧ 1 ≤ (sumS ns).2 ∧ (sumS ns).2 ≤ 46656000000 := by
  obtain ⟨t0, t1, l0, l1⟩ := sumS_bd hs.b
  obtain ⟨p1, p2⟩ := pow_small hs.n6
  omega
theorem val_cls {ns : List Int} {h : Int} {w : D} (g : ¬ Good ns h w) : ¬ Val ns h (.tup [.str "classes", w]) := by
  rintro (⟨w', e, g'⟩ | ⟨e, _⟩)
  · cases e; exact g g'
  · injection e with e
    injection e with e _
    injection e with e
    exact absurd e (by decide +kernel)
theorem val_len {ns : List Int} {h : Int} {xs : List D} (h2 : xs.length ≠ 2) (h3 : xs.length ≠ 3) : ¬ Val ns h (.tup xs) := by
  rintro (⟨w', e, g'⟩ | ⟨e, _⟩)
  · injection e with e; subst e; exact h2 rfl
  · injection e with e; subst e; exact h3 rfl
theorem val_sum2 {ns : List Int} {h : Int} {x : String} {a : D} (hx : ((x : Str) == ("classes" : Str)) = false) : ¬ Val ns h (.tup [.str x, a]) := by
  rintro (⟨w', e, g'⟩ | ⟨e, _⟩)
  · injection e with e
    injection e with e _
    injection e with e
    exact absurd e (str_ne hx)
  · injection e with e
    injection e with _ e
    injection e with _ e
    cases e
theorem val_3 {ns : List Int} {h : Int} {x a b : D} (n : ¬ (.tup [x, a, b] = paS ns ∧ h * (sumS ns).2 < (sumS ns).1)) : ¬ Val ns h (.tup [x, a, b]) := by
  rintro (⟨w', e, g'⟩ | e)
  · cases e
  · exact n e
theorem pos_mul {h b : Int} (hh : 1 ≤ h) (hb : 1 ≤ b) : 1 ≤ h * b := by
  have := Int.mul_le_mul hh hb (by decide) (by omega)
  omega
theorem val_ab {ns : List Int} {h a b : Int} (c : ¬ (a = (sumS ns).1 ∧ b = (sumS ns).2)) : ¬ Val ns h (.tup [.str "sum", .int a, .int b]) := val_3 fun e => c (by
  have e := e.1
  injection e with e
  injection e with _ e
  injection e with e1 e
  injection e with e2 _
  injection e1 with e1
  injection e2 with e2
  exact ⟨e1, e2⟩)
section
variable {k : Nat} {τ : Tape} {Q : Rs → Tape → Prop} {E : D → Tape → Prop} {QP : Rs → Prop}
theorem lp_use {ns : List Int} {h : Int} {t : D} (hs : Spn ns) (hh : 1 ≤ h ∧ h ≤ 4) (T : PT t) (y : Val ns h t → Q (.fz (.bl true)) τ) (n : ¬ Val ns h t → Q (.fz (.bl false)) τ) : WF (m_l_is_paper [.fz (.lst (ns.map D.int)), .fz (.int h), .fz t] τ) Q E := by
  obtain ⟨t0, t1, l0, l1⟩ := sum_nums hs
  obtain ⟨hh1, hh4⟩ := id hh
  have sq : Sq (.lst (ns.map D.int)) ns := .inl rfl
  refine w_body ?_
  unfold mv_l_is_paper
  cases T with
  | cls w T =>
    (repeat' (first | (with_reducible refine wp_eqTc ?_) | (with_reducible refine wp_len2 ?_) | (with_reducible refine wp_lenT3 ?_) | (with_reducible refine wp_lenT1 ?_) | (with_reducible refine wp_isi isiP ?_) | (with_reducible refine wp_isi isiSs ?_) | (with_reducible refine same_eq (strOk_of _) ?_) | walk_at "w_1"))
    refine are_use sq hs T (fun g => y (.inl ⟨w, rfl, g⟩)) fun g => n (val_cls g)
  | sum a b ha hb =>
    (repeat' (first | (with_reducible refine wp_eqTc ?_) | (with_reducible refine wp_len2 ?_) | (with_reducible refine wp_lenT3 ?_) | (with_reducible refine wp_lenT1 ?_) | (with_reducible refine wp_isi isiP ?_) | (with_reducible refine wp_isi isiSs ?_) | (with_reducible refine diff_eq (x := "sum") (by decide +kernel) ?_) | (with_reducible refine same_ne (strOk_of _) ?_) | (with_reducible refine wp_slT3 ?_) | (with_reducible refine wp_eqP2 ?_) | (with_reducible refine wp_pow ⟨by decide, by decide, by decide⟩ ?_) | walk_at "w_1"))
    have e1 : (10 : Int) ^ (12 : Int).toNat = 1000000000000 := by decide
    refine whole_use ?_
    rw [e1]
    by_cases c : a = (sumS ns).1 ∧ b = (sumS ns).2
    · obtain ⟨rfl, rfl⟩ := c
      rw [decide_eq_true (by omega)]
      (repeat' (first | (with_reducible refine wp_eqTc ?_) | (with_reducible refine wp_len2 ?_) | (with_reducible refine wp_lenT3 ?_) | (with_reducible refine wp_lenT1 ?_) | (with_reducible refine wp_isi isiP ?_) | (with_reducible refine wp_isi isiSs ?_) | (with_reducible refine diff_eq (x := "sum") (by decide +kernel) ?_) | (with_reducible refine same_ne (strOk_of _) ?_) | (with_reducible refine wp_slT3 ?_) | (with_reducible refine wp_eqP2 ?_) | (with_reducible refine wp_pow ⟨by decide, by decide, by decide⟩ ?_) | walk_at "w_1"))
      refine whole_use ?_
      rw [e1, decide_eq_true (by omega)]
      (repeat' (first | (with_reducible refine wp_eqTc ?_) | (with_reducible refine wp_len2 ?_) | (with_reducible refine wp_lenT3 ?_) | (with_reducible refine wp_lenT1 ?_) | (with_reducible refine wp_isi isiP ?_) | (with_reducible refine wp_isi isiSs ?_) | (with_reducible refine diff_eq (x := "sum") (by decide +kernel) ?_) | (with_reducible refine same_ne (strOk_of _) ?_) | (with_reducible refine wp_slT3 ?_) | (with_reducible refine wp_eqP2 ?_) | walk_at "w_1"))
      refine sum_use sq hs.n6 hs.b ?_
      (repeat' (first | (with_reducible refine wp_eqTc ?_) | (with_reducible refine wp_len2 ?_) | (with_reducible refine wp_lenT3 ?_) | (with_reducible refine wp_lenT1 ?_) | (with_reducible refine wp_isi isiP ?_) | (with_reducible refine wp_isi isiSs ?_) | (with_reducible refine diff_eq (x := "sum") (by decide +kernel) ?_) | (with_reducible refine same_ne (strOk_of _) ?_) | (with_reducible refine wp_slT3 ?_) | (with_reducible refine wp_eqP2 ?_) | walk_at "w_1"))
      by_cases c : h * (sumS ns).2 < (sumS ns).1
      · rw [decide_eq_true c]; exact y (.inr ⟨rfl, c⟩)
      · rw [decide_eq_false c]; exact n (val_3 fun e => c e.2)
    · have nv : ¬ Val ns h (.tup [.str "sum", .int a, .int b]) := val_ab c
      by_cases c1 : 0 ≤ a ∧ a ≤ 1000000000000
      · rw [decide_eq_true c1]
        (repeat' (first | (with_reducible refine wp_eqTc ?_) | (with_reducible refine wp_len2 ?_) | (with_reducible refine wp_lenT3 ?_) | (with_reducible refine wp_lenT1 ?_) | (with_reducible refine wp_isi isiP ?_) | (with_reducible refine wp_isi isiSs ?_) | (with_reducible refine diff_eq (x := "sum") (by decide +kernel) ?_) | (with_reducible refine same_ne (strOk_of _) ?_) | (with_reducible refine wp_slT3 ?_) | (with_reducible refine wp_eqP2 ?_) | (with_reducible refine wp_pow ⟨by decide, by decide, by decide⟩ ?_) | walk_at "w_1"))
        refine whole_use ?_
        rw [e1]
        by_cases c2 : 0 ≤ b ∧ b ≤ 1000000000000
        · rw [decide_eq_true c2]
          (repeat' (first | (with_reducible refine wp_eqTc ?_) | (with_reducible refine wp_len2 ?_) | (with_reducible refine wp_lenT3 ?_) | (with_reducible refine wp_lenT1 ?_) | (with_reducible refine wp_isi isiP ?_) | (with_reducible refine wp_isi isiSs ?_) | (with_reducible refine diff_eq (x := "sum") (by decide +kernel) ?_) | (with_reducible refine same_ne (strOk_of _) ?_) | (with_reducible refine wp_slT3 ?_) | (with_reducible refine wp_eqP2 ?_) | walk_at "w_1"))
          refine sum_use sq hs.n6 hs.b ?_
          (repeat' (first | (with_reducible refine wp_eqTc ?_) | (with_reducible refine wp_len2 ?_) | (with_reducible refine wp_lenT3 ?_) | (with_reducible refine wp_lenT1 ?_) | (with_reducible refine wp_isi isiP ?_) | (with_reducible refine wp_isi isiSs ?_) | (with_reducible refine diff_eq (x := "sum") (by decide +kernel) ?_) | (with_reducible refine same_ne (strOk_of _) ?_) | (with_reducible refine wp_slT3 ?_) | (with_reducible refine wp_eqP2 ?_) | walk_at "w_1"))
          exact n nv
        · rw [decide_eq_false c2]
          (repeat' (first | walk_at "w_1"))
          exact n nv
      · rw [decide_eq_false c1]
        (repeat' (first | walk_at "w_1"))
        exact n nv
  | sumB x b =>
    (repeat' (first | (with_reducible refine wp_eqTc ?_) | (with_reducible refine wp_len2 ?_) | (with_reducible refine wp_lenT3 ?_) | (with_reducible refine wp_lenT1 ?_) | (with_reducible refine wp_isi isiP ?_) | (with_reducible refine wp_isi isiSs ?_) | (with_reducible refine diff_eq (x := "sum") (by decide +kernel) ?_) | (with_reducible refine same_ne (strOk_of _) ?_) | (with_reducible refine wp_slT3 ?_) | (with_reducible refine wp_eqP2 ?_) | (with_reducible refine wp_pow ⟨by decide, by decide, by decide⟩ ?_) | walk_at "w_1"))
    refine whole_not ?_
    (repeat' (first | walk_at "w_1"))
    exact n (val_3 fun e => by have e := e.1; injection e with e; injection e with _ e; injection e with e _; cases e)
  | sumN a =>
    (repeat' (first | (with_reducible refine wp_eqTc ?_) | (with_reducible refine wp_len2 ?_) | (with_reducible refine wp_lenT3 ?_) | (with_reducible refine wp_lenT1 ?_) | (with_reducible refine wp_isi isiP ?_) | (with_reducible refine wp_isi isiSs ?_) | (with_reducible refine diff_eq (x := "sum") (by decide +kernel) ?_) | (with_reducible refine same_ne (strOk_of _) ?_) | (with_reducible refine wp_slT3 ?_) | (with_reducible refine wp_eqP2 ?_) | (with_reducible refine wp_pow ⟨by decide, by decide, by decide⟩ ?_) | walk_at "w_1"))
    have e1 : (10 : Int) ^ (12 : Int).toNat = 1000000000000 := by decide
    have nv : ¬ Val ns h (.tup [.str "sum", .int a, .non]) := val_3 fun e => by
      have e := e.1
      injection e with e
      injection e with _ e
      injection e with _ e
      injection e with e _
      cases e
    refine whole_use ?_
    by_cases c1 : 0 ≤ a ∧ a ≤ (10 : Int) ^ (12 : Int).toNat
    · rw [decide_eq_true c1]
      (repeat' (first | (with_reducible refine wp_eqTc ?_) | (with_reducible refine wp_len2 ?_) | (with_reducible refine wp_lenT3 ?_) | (with_reducible refine wp_lenT1 ?_) | (with_reducible refine wp_isi isiP ?_) | (with_reducible refine wp_isi isiSs ?_) | (with_reducible refine diff_eq (x := "sum") (by decide +kernel) ?_) | (with_reducible refine same_ne (strOk_of _) ?_) | (with_reducible refine wp_slT3 ?_) | (with_reducible refine wp_eqP2 ?_) | (with_reducible refine wp_pow ⟨by decide, by decide, by decide⟩ ?_) | (refine w_body ?_; unfold mv_l_is_whole) | (with_reducible refine wp_isi isiNi ?_) | walk_at "w_1"))
      exact n nv
    · rw [decide_eq_false c1]
      (repeat' (first | walk_at "w_1"))
      exact n nv
  | sum1 =>
    (repeat' (first | (with_reducible refine wp_eqTc ?_) | (with_reducible refine wp_len2 ?_) | (with_reducible refine wp_lenT3 ?_) | (with_reducible refine wp_lenT1 ?_) | (with_reducible refine wp_isi isiP ?_) | (with_reducible refine wp_isi isiSs ?_) | (with_reducible refine diff_eq (x := "sum") (by decide +kernel) ?_) | (with_reducible refine same_ne (strOk_of _) ?_) | (with_reducible refine wp_slT3 ?_) | (with_reducible refine wp_eqP2 ?_) | walk_at "w_1"))
    exact n (val_len (by decide) (by decide))
  | sum2 a =>
    (repeat' (first | (with_reducible refine wp_eqTc ?_) | (with_reducible refine wp_len2 ?_) | (with_reducible refine wp_lenT3 ?_) | (with_reducible refine wp_lenT1 ?_) | (with_reducible refine wp_isi isiP ?_) | (with_reducible refine wp_isi isiSs ?_) | (with_reducible refine diff_eq (x := "sum") (by decide +kernel) ?_) | (with_reducible refine same_ne (strOk_of _) ?_) | (with_reducible refine wp_slT3 ?_) | (with_reducible refine wp_eqP2 ?_) | walk_at "w_1"))
    exact n (val_sum2 (by decide +kernel))
  | lst xs =>
    (repeat' (first | (with_reducible refine wp_isi isiPl ?_) | walk_at "w_1"))
    exact n fun v => by rcases v with ⟨_, e, _⟩ | ⟨e, _⟩ <;> cases e
  | non =>
    (repeat' (first | (with_reducible refine wp_isi isiPn ?_) | walk_at "w_1"))
    exact n fun v => by rcases v with ⟨_, e, _⟩ | ⟨e, _⟩ <;> cases e
  | nil =>
    (repeat' (first | (with_reducible refine wp_isi isiP ?_) | (with_reducible refine wp_eqTn ?_) | walk_at "w_1"))
    exact n (val_len (by decide) (by decide))
  | cls3 w x =>
    (repeat' (first | (with_reducible refine wp_eqTc ?_) | (with_reducible refine wp_len2 ?_) | (with_reducible refine wp_lenT3 ?_) | (with_reducible refine wp_lenT1 ?_) | (with_reducible refine wp_isi isiP ?_) | (with_reducible refine wp_isi isiSs ?_) | (with_reducible refine same_eq (strOk_of _) ?_) | walk_at "w_1"))
    exact n (val_3 fun e => by
      have e := e.1
      injection e with e
      injection e with e _
      injection e with e
      exact absurd e (str_ne (by decide +kernel)))
  | Cls w =>
    (repeat' (first | (with_reducible refine wp_eqTc ?_) | (with_reducible refine wp_len2 ?_) | (with_reducible refine wp_lenT3 ?_) | (with_reducible refine wp_lenT1 ?_) | (with_reducible refine wp_isi isiP ?_) | (with_reducible refine wp_isi isiSs ?_) | (with_reducible refine diff_eq (x := "Classes") (by decide +kernel) ?_) | (with_reducible refine diff_ne (x := "Classes") (by decide +kernel) ?_) | walk_at "w_1"))
    exact n (val_sum2 (by decide +kernel))
theorem pp_use {d : D} {ns : List Int} {h : Int} {t : D} (sq : Sq d ns) (hs : Spn ns) (hh : 1 ≤ h ∧ h ≤ 4) (ch : ChainP ns) (T : PT t) (y : Val ns h t → Q (.fz (.bl true)) τ) (n : ¬ Val ns h t → Q (.fz (.bl false)) τ) : WF (m_is_class_paper [.fz d, .fz (.int h), .fz t] τ) Q E := by
  obtain ⟨t0, t1, l0, l1⟩ := sum_nums hs
  obtain ⟨hh1, hh4⟩ := id hh
  refine w_body ?_
  unfold mv_is_class_paper
  (repeat' (first | walk_at "w_1"))
  refine hands_ok sq hs hh ?_
  (repeat' (first | walk_at "w_1"))
  refine chain_use sq hs (fun _ => ?_) fun c => absurd ch c
  cases T with
  | cls w T =>
    (repeat' (first | (with_reducible refine wp_eqTc ?_) | (with_reducible refine wp_len2 ?_) | (with_reducible refine wp_lenT3 ?_) | (with_reducible refine wp_lenT1 ?_) | (with_reducible refine wp_isi isiP ?_) | (with_reducible refine wp_isi isiSs ?_) | (with_reducible refine same_eq (strOk_of _) ?_) | walk_at "w_1"))
    refine right_use sq hs T (fun g => y (.inl ⟨w, rfl, g⟩)) fun g => n (val_cls g)
  | sum a b ha hb =>
    (repeat' (first | (with_reducible refine wp_eqTc ?_) | (with_reducible refine wp_len2 ?_) | (with_reducible refine wp_lenT3 ?_) | (with_reducible refine wp_lenT1 ?_) | (with_reducible refine wp_isi isiP ?_) | (with_reducible refine wp_isi isiSs ?_) | (with_reducible refine diff_eq (x := "sum") (by decide +kernel) ?_) | (with_reducible refine same_ne (strOk_of _) ?_) | (with_reducible refine wp_slT3 ?_) | (with_reducible refine wp_eqP2 ?_) | (with_reducible refine w_lcC rfl ?_) | (with_reducible refine w_lcN ?_) | (refine wp_all2 ?_) | walk_at "w_1"))
    refine between_use ?_
    (repeat' (first | (with_reducible refine w_lcC rfl ?_) | (with_reducible refine w_lcN ?_) | (refine wp_all2 ?_) | walk_at "w_1"))
    refine between_use ?_
    (repeat' (first | (with_reducible refine w_lcC rfl ?_) | (with_reducible refine w_lcN ?_) | (refine wp_all2 ?_) | walk_at "w_1"))
    have hb1 : (1 ≤ b ∧ b ≤ b) := ⟨hb.1, Int.le_refl _⟩
    rw [decide_eq_true hb1, Bool.and_true]
    by_cases c : a = (sumS ns).1 ∧ b = (sumS ns).2
    · obtain ⟨rfl, rfl⟩ := c
      by_cases c1 : 1 ≤ (sumS ns).1 ∧ (sumS ns).1 ≤ (sumS ns).1
      · rw [decide_eq_true c1]
        (repeat' (first | (with_reducible refine wp_eqTc ?_) | (with_reducible refine wp_len2 ?_) | (with_reducible refine wp_lenT3 ?_) | (with_reducible refine wp_lenT1 ?_) | (with_reducible refine wp_isi isiP ?_) | (with_reducible refine wp_isi isiSs ?_) | (with_reducible refine diff_eq (x := "sum") (by decide +kernel) ?_) | (with_reducible refine same_ne (strOk_of _) ?_) | (with_reducible refine wp_slT3 ?_) | (with_reducible refine wp_eqP2 ?_) | walk_at "w_1"))
        refine sum_use2 sq hs.n6 hs.b ?_
        (repeat' (first | (with_reducible refine wp_eqTc ?_) | (with_reducible refine wp_len2 ?_) | (with_reducible refine wp_lenT3 ?_) | (with_reducible refine wp_lenT1 ?_) | (with_reducible refine wp_isi isiP ?_) | (with_reducible refine wp_isi isiSs ?_) | (with_reducible refine diff_eq (x := "sum") (by decide +kernel) ?_) | (with_reducible refine same_ne (strOk_of _) ?_) | (with_reducible refine wp_slT3 ?_) | (with_reducible refine wp_eqP2 ?_) | walk_at "w_1"))
        by_cases c : h * (sumS ns).2 < (sumS ns).1
        · rw [decide_eq_true c]; exact y (.inr ⟨rfl, c⟩)
        · rw [decide_eq_false c]; exact n (val_3 fun e => c e.2)
      · rw [decide_eq_false c1]
        have := pos_mul hh1 l0
        (repeat' (first | walk_at "w_1"))
        exact n (val_3 fun e => by have := e.2; omega)
    · have nv : ¬ Val ns h (.tup [.str "sum", .int a, .int b]) := val_ab c
      by_cases c1 : 1 ≤ a ∧ a ≤ a
      · rw [decide_eq_true c1]
        (repeat' (first | (with_reducible refine wp_eqTc ?_) | (with_reducible refine wp_len2 ?_) | (with_reducible refine wp_lenT3 ?_) | (with_reducible refine wp_lenT1 ?_) | (with_reducible refine wp_isi isiP ?_) | (with_reducible refine wp_isi isiSs ?_) | (with_reducible refine diff_eq (x := "sum") (by decide +kernel) ?_) | (with_reducible refine same_ne (strOk_of _) ?_) | (with_reducible refine wp_slT3 ?_) | (with_reducible refine wp_eqP2 ?_) | walk_at "w_1"))
        refine sum_use2 sq hs.n6 hs.b ?_
        (repeat' (first | (with_reducible refine wp_eqTc ?_) | (with_reducible refine wp_len2 ?_) | (with_reducible refine wp_lenT3 ?_) | (with_reducible refine wp_lenT1 ?_) | (with_reducible refine wp_isi isiP ?_) | (with_reducible refine wp_isi isiSs ?_) | (with_reducible refine diff_eq (x := "sum") (by decide +kernel) ?_) | (with_reducible refine same_ne (strOk_of _) ?_) | (with_reducible refine wp_slT3 ?_) | (with_reducible refine wp_eqP2 ?_) | walk_at "w_1"))
        exact n nv
      · rw [decide_eq_false c1]
        (repeat' (first | walk_at "w_1"))
        exact n nv
  | sumB x b =>
    (repeat' (first | (with_reducible refine wp_eqTc ?_) | (with_reducible refine wp_len2 ?_) | (with_reducible refine wp_lenT3 ?_) | (with_reducible refine wp_lenT1 ?_) | (with_reducible refine wp_isi isiP ?_) | (with_reducible refine wp_isi isiSs ?_) | (with_reducible refine diff_eq (x := "sum") (by decide +kernel) ?_) | (with_reducible refine same_ne (strOk_of _) ?_) | (with_reducible refine wp_slT3 ?_) | (with_reducible refine wp_eqP2 ?_) | (with_reducible refine w_lcC rfl ?_) | (with_reducible refine w_lcN ?_) | (refine wp_all2 ?_) | walk_at "w_1"))
    refine between_not (.inr ⟨rfl, rfl⟩) ?_
    (repeat' (first | (with_reducible refine w_lcC rfl ?_) | (with_reducible refine w_lcN ?_) | (refine wp_all2 ?_) | walk_at "w_1"))
    refine between_use ?_
    (repeat' (first | (with_reducible refine w_lcC rfl ?_) | (with_reducible refine w_lcN ?_) | (refine wp_all2 ?_) | walk_at "w_1"))
    rw [Bool.false_and]
    (repeat' (first | walk_at "w_1"))
    exact n (val_3 fun e => by have e := e.1; injection e with e; injection e with _ e; injection e with e _; cases e)
  | sumN a =>
    (repeat' (first | (with_reducible refine wp_eqTc ?_) | (with_reducible refine wp_len2 ?_) | (with_reducible refine wp_lenT3 ?_) | (with_reducible refine wp_lenT1 ?_) | (with_reducible refine wp_isi isiP ?_) | (with_reducible refine wp_isi isiSs ?_) | (with_reducible refine diff_eq (x := "sum") (by decide +kernel) ?_) | (with_reducible refine same_ne (strOk_of _) ?_) | (with_reducible refine wp_slT3 ?_) | (with_reducible refine wp_eqP2 ?_) | (with_reducible refine w_lcC rfl ?_) | (with_reducible refine w_lcN ?_) | (refine wp_all2 ?_) | walk_at "w_1"))
    refine between_use ?_
    (repeat' (first | (with_reducible refine w_lcC rfl ?_) | (with_reducible refine w_lcN ?_) | (refine wp_all2 ?_) | walk_at "w_1"))
    refine between_not (.inl rfl) ?_
    (repeat' (first | (with_reducible refine w_lcC rfl ?_) | (with_reducible refine w_lcN ?_) | (refine wp_all2 ?_) | walk_at "w_1"))
    rw [Bool.and_false]
    (repeat' (first | walk_at "w_1"))
    exact n (val_3 fun e => by
      have e := e.1
      injection e with e
      injection e with _ e
      injection e with _ e
      injection e with e _
      cases e)
  | sum1 =>
    (repeat' (first | (with_reducible refine wp_eqTc ?_) | (with_reducible refine wp_len2 ?_) | (with_reducible refine wp_lenT3 ?_) | (with_reducible refine wp_lenT1 ?_) | (with_reducible refine wp_isi isiP ?_) | (with_reducible refine wp_isi isiSs ?_) | (with_reducible refine diff_eq (x := "sum") (by decide +kernel) ?_) | (with_reducible refine same_ne (strOk_of _) ?_) | (with_reducible refine wp_slT3 ?_) | (with_reducible refine wp_eqP2 ?_) | walk_at "w_1"))
    exact n (val_len (by decide) (by decide))
  | sum2 a =>
    (repeat' (first | (with_reducible refine wp_eqTc ?_) | (with_reducible refine wp_len2 ?_) | (with_reducible refine wp_lenT3 ?_) | (with_reducible refine wp_lenT1 ?_) | (with_reducible refine wp_isi isiP ?_) | (with_reducible refine wp_isi isiSs ?_) | (with_reducible refine diff_eq (x := "sum") (by decide +kernel) ?_) | (with_reducible refine same_ne (strOk_of _) ?_) | (with_reducible refine wp_slT3 ?_) | (with_reducible refine wp_eqP2 ?_) | walk_at "w_1"))
    exact n (val_sum2 (by decide +kernel))
  | lst xs =>
    (repeat' (first | (with_reducible refine wp_isi isiPl ?_) | walk_at "w_1"))
    exact n fun v => by rcases v with ⟨_, e, _⟩ | ⟨e, _⟩ <;> cases e
  | non =>
    (repeat' (first | (with_reducible refine wp_isi isiPn ?_) | walk_at "w_1"))
    exact n fun v => by rcases v with ⟨_, e, _⟩ | ⟨e, _⟩ <;> cases e
  | nil =>
    (repeat' (first | (with_reducible refine wp_isi isiP ?_) | (with_reducible refine wp_eqTn ?_) | walk_at "w_1"))
    exact n (val_len (by decide) (by decide))
  | cls3 w x =>
    (repeat' (first | (with_reducible refine wp_eqTc ?_) | (with_reducible refine wp_len2 ?_) | (with_reducible refine wp_lenT3 ?_) | (with_reducible refine wp_lenT1 ?_) | (with_reducible refine wp_isi isiP ?_) | (with_reducible refine wp_isi isiSs ?_) | (with_reducible refine same_eq (strOk_of _) ?_) | walk_at "w_1"))
    exact n (val_3 fun e => by
      have e := e.1
      injection e with e
      injection e with e _
      injection e with e
      exact absurd e (str_ne (by decide +kernel)))
  | Cls w =>
    (repeat' (first | (with_reducible refine wp_eqTc ?_) | (with_reducible refine wp_len2 ?_) | (with_reducible refine wp_lenT3 ?_) | (with_reducible refine wp_lenT1 ?_) | (with_reducible refine wp_isi isiP ?_) | (with_reducible refine wp_isi isiSs ?_) | (with_reducible refine diff_eq (x := "Classes") (by decide +kernel) ?_) | (with_reducible refine diff_ne (x := "Classes") (by decide +kernel) ?_) | walk_at "w_1"))
    exact n (val_sum2 (by decide +kernel))
end
end LWk57
set_option maxHeartbeats 0
namespace LWk57
open PySem PySem.Spec L2 PD
open PyProof.Rows hiding St pairD cutD
local macro_rules | `(tactic| walk_at "w_1") => `(tactic| (first | with_reducible refine w_seq ?_ | with_reducible refine w_set ?_ | with_reducible refine w_ret ?_ | with_reducible refine w_drop ?_ | with_reducible refine w_pass ?_ | with_reducible refine w_sif ?_ | with_reducible refine w_asg ?_ | with_reducible refine w_par ?_ | with_reducible refine w_for ?_ | with_reducible refine w_src ?_ | with_reducible refine w_srcR ?_ | with_reducible refine w_enum ?_ | with_reducible refine w_zip ?_ | with_reducible refine w_raiseF ?_ | with_reducible refine w_raiseT ?_ | with_reducible refine w_brk ?_ | with_reducible refine w_ct ?_ | with_reducible refine w_lit ?_ | with_reducible refine w_fz ?_ | with_reducible refine w_prim ?_ | with_reducible refine w_call ?_ | with_reducible refine w_nil ?_ | with_reducible refine w_ex ?_ | with_reducible refine w_tup ?_ | with_reducible refine w_lst ?_ | with_reducible refine w_tof ?_ | with_reducible refine w_tnot ?_ | with_reducible refine w_tyes ?_ | with_reducible refine w_tor ?_ | with_reducible refine w_tand ?_ | with_reducible refine w_and ?_ | with_reducible refine w_or ?_ | with_reducible refine w_not ?_ | with_reducible refine w_vif ?_ | with_reducible refine w_chain ?_ | with_reducible refine w_fld ?_ | with_reducible refine w_tput ?_ | with_reducible refine w_setIx ?_ | with_reducible refine w_dic0 ?_ | with_reducible refine w_lc ?_ | with_reducible refine w_aFz ?_ | with_reducible refine w_try ?_ | with_reducible refine w_callL ?_ | with_reducible refine w_b ?_ | with_reducible refine w_i ?_ | with_reducible refine wp_add ?_ | with_reducible refine wp_sub ?_ | with_reducible refine wp_neg ?_ | with_reducible refine wp_lt ?_ | with_reducible refine wp_le ?_ | with_reducible refine wp_gt ?_ | with_reducible refine wp_ge ?_ | with_reducible refine wp_eqI ?_ | with_reducible refine wp_neI ?_ | with_reducible refine wp_len ?_ | with_reducible refine wp_lenT ?_ | with_reducible refine wp_lenS ?_ | with_reducible refine wp_int ?_ | with_reducible refine wp_abs ?_ | with_reducible refine wp_min2 ?_ | with_reducible refine wp_max2 ?_ | with_reducible refine wp_sorted ?_ | with_reducible refine wp_tupC ?_ | with_reducible refine wp_tupCT ?_ | with_reducible refine wp_lstC ?_ | with_reducible refine wp_lstCT ?_ | with_reducible refine wi_tt ?_ | with_reducible refine wi_ff ?_ | with_reducible refine wi_not ?_ | with_reducible refine wp_sl1 ?_ | with_reducible refine w_se ?_ | with_reducible refine w_lam0 ?_ | with_reducible refine w_par3 ?_ | with_reducible refine w_dicK ?_ | with_reducible refine w_evN ?_ | with_reducible refine w_evC ?_ | with_reducible refine w_lc2 ?_ | with_reducible refine wp_eqT ?_ | ((with_reducible apply w_var); case h => exact rfl) | ((with_reducible apply w_varO); case h => exact rfl) | ((with_reducible apply w_move); case h => exact rfl) | ((with_reducible apply w_moveO); case h => exact rfl) | ((with_reducible apply w_pk); case h => exact rfl) | ((with_reducible apply w_res); case h => exact rfl) | ((with_reducible apply w_ls); case h => exact rfl) | ((with_reducible apply w_sl); case h => exact rfl) | ((with_reducible apply w_ti); case h => exact rfl) | ((with_reducible apply w_tc); case h => exact rfl) | ((with_reducible apply w_tne); case h => exact rfl) | ((with_reducible apply w_tp); case h => exact rfl) | ((with_reducible apply w_ow); case h => exact rfl) | ((with_reducible apply w_aug); case ha => exact rfl) | ((with_reducible apply w_app); case h0 => exact rfl) | ((with_reducible apply w_so); case h => exact rfl) | ((with_reducible apply w_l); (case h => exact rfl); case hl => exact rfl) | ((with_reducible apply wp_is); case h => exact rfl) | ((with_reducible apply wp_isnot); case h => exact rfl) | ((with_reducible apply wp_ixT); case h => exact rfl) | ((with_reducible apply w_z); case h => exact rfl) | ((with_reducible apply w_fx); (case h => exact rfl); case h2 => exact rfl) | ((with_reducible refine wi_pos ?hp ?_); case hp => omega) | ((with_reducible refine wi_neg ?hp ?_); case hp => omega) | ((with_reducible refine wp_mod ?hp ?_); case hp => omega) | ((with_reducible refine wp_fdiv ?hp ?hq ?_); (case hp => omega); case hq => omega) | ((with_reducible refine wp_mulS ?hp ?hq ?_); (case hp => omega); case hq => omega)))
theorem thg_zeros (n : Nat) (h : n ≤ 6) : Thg (.lst (List.replicate n [D.tup [.int 0, .int 0]]).flatten) := by
  have e : (List.replicate n [D.tup [.int 0, .int 0]]).flatten = (List.replicate n ((0, 0) : Int × Int)).map pairD := by
    induction n with
    | zero => rfl
    | succ n ih => rw [List.replicate_succ, List.flatten_cons, ih (by omega), List.replicate_succ, List.map_cons]; rfl
  rw [e]
  exact thg_pairs (.inl rfl) (by rw [List.length_replicate]; omega)
section
variable {k : Nat} {τ : Tape} {Q : Rs → Tape → Prop} {E : D → Tape → Prop} {QP : Rs → Prop}
theorem nearC_use {ns : List Int} {cs : CL} {h : Int} (hs : Spn ns) (hh : 1 ≤ h ∧ h ≤ 4) (hc : cs.length = ns.length) (ht : TOk k τ) (hk : k ≤ 800000) (q : ∀ thing τ', PT thing → TOk (k + 6) τ' → Q (.fz thing) τ') :
    WF (m_l_near [.fz .tape, .fz (.lst (ns.map D.int)), .fz (.int h), .fz (paC cs)] τ) Q E := by
  have sq : Sq (.lst (ns.map D.int)) ns := .inl rfl
  obtain ⟨t0, t1, l0, l1⟩ := sum_nums hs
  refine w_body ?_
  unfold mv_l_near
  (repeat' (first | (with_reducible refine same_eq (strOk_of _) ?_) | walk_at "w_1"))
  refine near_use hs hh hc ht (by omega) fun w τ1 T t1' => ?_
  (repeat' (first | walk_at "w_1"))
  refine sum_use sq hs.n6 hs.b ?_
  (repeat' (first | (with_reducible refine wp_addT3 ?_) | walk_at "w_1"))
  refine pick_lit rfl rfl t1' (by omega) fun d hd τ2 t2 => ?_
  refine q d τ2 ?_ t2
  simp only [List.mem_cons, List.not_mem_nil, or_false] at hd
  rcases hd with rfl | rfl | rfl | rfl | rfl | rfl | rfl | rfl
  · exact .cls _ T
  · exact .cls _ T
  · exact .cls _ T
  · exact .lst _
  · exact .sum _ _ ⟨t0, by omega⟩ ⟨l0, by omega⟩
  · exact .cls3 _ _
  · exact .lst _
  · exact .Cls _
theorem nearS_use {ns : List Int} {h : Int} (hs : Spn ns) (ht : TOk k τ) (hk : k ≤ 800000) (q : ∀ thing τ', PT thing → TOk (k + 6) τ' → Q (.fz thing) τ') :
    WF (m_l_near [.fz .tape, .fz (.lst (ns.map D.int)), .fz (.int h), .fz (paS ns)] τ) Q E := by
  have n6 := hs.n6
  obtain ⟨t0, t1, l0, l1⟩ := sum_nums hs
  unfold paS
  refine w_body ?_
  unfold mv_l_near
  generalize (sumS ns).1 = a at *
  generalize (sumS ns).2 = b at *
  (repeat' (first | (with_reducible refine diff_eq (x := "sum") (by decide +kernel) ?_) | (with_reducible refine wp_lenM ?_) | (with_reducible refine wp_mulL ⟨by omega, by omega, Nat.le_of_ble_eq_true rfl⟩ ?_) | walk_at "w_1"))
  refine pick_lit rfl rfl ht (by omega) fun d hd τ2 t2 => ?_
  refine q d τ2 ?_ (t2.mono (by omega))
  simp only [List.mem_cons, List.not_mem_nil, or_false] at hd
  rcases hd with rfl | rfl | rfl | rfl | rfl | rfl | rfl | rfl | rfl | rfl | rfl | rfl
  · exact .sum _ _ ⟨by omega, by omega⟩ ⟨by omega, by omega⟩
  · exact .sum _ _ ⟨by omega, by omega⟩ ⟨by omega, by omega⟩
  · exact .sum _ _ ⟨by omega, by omega⟩ ⟨by omega, by omega⟩
  · exact .sum2 _
  · exact .lst _
  · exact .sumB _ _
  · exact .sumN _
  · refine .cls _ (thg_zeros _ ?_)
    rw [Int.toNat_natCast]; exact n6
  · exact .non
  · exact .nil
  · exact .sum1
  · exact .cls _ ⟨rfl, .inr rfl⟩
/-- a round over spans that divide one another -/
theorem right_law {ns : List Int} {h : Int} (hs : Spn ns) (hh : 1 ≤ h ∧ h ≤ 4) (ch : ChainP ns) (ht : TOk k τ) (hk : k ≤ 700000) (q : ∀ τ', TOk (k + 36) τ' → Q (.fz (.bl true)) τ') :
    WF (m_l_right [.fz .tape, .fz (.lst (ns.map D.int)), .fz (.int h)] τ) Q E := by
  have sq : Sq (.lst (ns.map D.int)) ns := .inl rfl
  have sqT : Sq (.tup (ns.map D.int)) ns := .inr rfl
  obtain ⟨t0, t1, l0, l1⟩ := sum_nums hs
  obtain ⟨hh1, hh4⟩ := id hh
  refine w_body ?_
  unfold mv_l_right
  have loop : ∀ (told s0 : D) (T : PT told) (nr : ∀ (k : Nat) (τ : Tape) (Q : Rs → Tape → Prop) (E : D → Tape → Prop), TOk k τ → k ≤ 800000 → (∀ thing τ', PT thing → TOk (k + 6) τ' → Q (.fz thing) τ') → WF (m_l_near [.fz .tape, .fz (.lst (ns.map D.int)), .fz (.int h), .fz told] τ) Q E),
      WS (sSeq (sFor (srcR [(.ex (vLit (.int 6)))]) (.nm 5) (sSeq (sSet 6 (vIf (tOf (vPrim pEq [(.pk 5), (.ex (vLit (.int 0)))])) (vVar 4) (vCall m_l_near (List.range 4) [(.ex (vVar 0)), (.ex (vVar 1)), (.ex (vVar 2)), (.ex (vVar 4))])))
  (sSeq (sSet 7 (vCall m_l_is_paper (List.range 3) [(.ex (vVar 1)), (.ex (vVar 2)), (.ex (vVar 6))]))
  (sIf (tOrD (tNotD (tOf (vCall m_l_says (List.range 2) [(.ex (vCall m_is_class_paper (List.range 3) [(.ex (vVar 1)), (.ex (vVar 2)), (.ex (vVar 6))])), (.ex (vVar 7))]))) (tNotD (tOf (vCall m_l_says (List.range 2) [(.ex (vCall m_is_class_paper [2, 1, 0] [(.ex (vVar 6)), (.ex (vVar 2)), (.ex (vPrim pTupC [(.pk 1)]))])), (.ex (vVar 7))])))) (sRet (vLit (.bl false))) sPass))))
  (sRet (vLit (.bl true))) [.fz .tape, .fz (.lst (ns.map D.int)), .fz (.int h), .fz s0, .fz told, .un, .un, .un] τ) (fun x τ => Q (Rs.fz D.non) τ) Q NoB NoB fun x x_1 τ => E x τ := by
    intro told s0 T nr
    (repeat' (first | walk_at "w_1"))
    refine w_forL (fun j ρ τ' => TOk (k + 6 * j) τ' ∧ j ≤ 6 ∧ ∃ s5 s6 s7, ρ = [.fz .tape, .fz (.lst (ns.map D.int)), .fz (.int h), .fz s0, .fz told, s5, s6, s7]) ⟨ht, Nat.zero_le _, _, _, _, rfl⟩ ?_ ?_
    · rintro j x ρ τ' hx ⟨tj, hj, s5, s6, s7, rfl⟩
      obtain ⟨rfl, hj2⟩ := rngL_at hx
      rw [Int.zero_add]
      have hj3 : j < 6 := hj2
      refine w_so rfl ?_
      refine w_mid (fun ρ τ' => TOk (k + 6 * (j + 1)) τ' ∧ ∃ (thing : D) (s7 : Sl), PT thing ∧ ρ = [.fz .tape, .fz (.lst (ns.map D.int)), .fz (.int h), .fz s0, .fz told, .fz (.int (j : Int)), .fz thing, s7]) ?_ ?_
      · (repeat' (first | walk_at "w_1"))
        refine wi_dec (fun c => ?_) fun c => ?_
        · (repeat' (first | walk_at "w_1"))
          exact ⟨tj.mono (by omega), told, _, T, rfl⟩
        · (repeat' (first | walk_at "w_1"))
          refine nr _ _ _ _ tj (by omega) fun thing τ1 T1 t1 => ?_
          (repeat' (first | walk_at "w_1"))
          exact ⟨t1.mono (by omega), thing, _, T1, rfl⟩
      rintro ρ τ1 ⟨t1, thing, s7, T1, rfl⟩
      (repeat' (first | walk_at "w_1"))
      refine lp_use hs hh T1 (fun v => ?_) fun v => ?_
      · (repeat' (first | walk_at "w_1"))
        refine pp_use sq hs hh ch T1 (fun _ => ?_) fun v2 => absurd v v2
        (repeat' (first | walk_at "w_1"))
        refine says_use ?_
        (repeat' (first | walk_at "w_1"))
        refine pp_use sqT hs hh ch T1 (fun _ => ?_) fun v2 => absurd v v2
        (repeat' (first | walk_at "w_1"))
        refine says_use ?_
        (repeat' (first | walk_at "w_1"))
        exact ⟨t1, by omega, _, _, _, rfl⟩
      · (repeat' (first | walk_at "w_1"))
        refine pp_use sq hs hh ch T1 (fun v2 => absurd v2 v) fun _ => ?_
        (repeat' (first | walk_at "w_1"))
        refine says_use ?_
        (repeat' (first | walk_at "w_1"))
        refine pp_use sqT hs hh ch T1 (fun v2 => absurd v2 v) fun _ => ?_
        (repeat' (first | walk_at "w_1"))
        refine says_use ?_
        (repeat' (first | walk_at "w_1"))
        exact ⟨t1, by omega, _, _, _, rfl⟩
    · rintro ρ τ' ⟨tj, hj, s5, s6, s7, rfl⟩
      rw [rngL_len] at tj
      (repeat' (first | walk_at "w_1"))
      exact q _ tj
  have e6 : ((6 : Int)).toNat = 6 := rfl
  (repeat' (first | walk_at "w_1"))
  refine sum_use sq hs.n6 hs.b ?_
  (repeat' (first | walk_at "w_1"))
  refine paper_use sq hs hh ch (fun cs hc le => ?_) fun nle => ?_
  · have T : PT (paC cs) := .cls _ (thg_pairs (.inl rfl) (by have := hc.len; have := hs.n6; omega))
    have V : Val ns h (paC cs) := .inl ⟨_, rfl, cs, .inl rfl, hc⟩
    (repeat' (first | (with_reducible refine same_eq (strOk_of _) ?_) | (refine wp_neBv (r := false) (by rw [decide_eq_true le]; rfl) ?_) | walk_at "w_1"))
    refine lp_use hs hh T (fun _ => ?_) fun v => absurd V v
    (repeat' (first | walk_at "w_1"))
    refine paper_use sqT hs hh ch (fun cs2 hc2 _ => ?_) fun nle => absurd le nle
    (repeat' (first | (with_reducible refine same_ne (strOk_of _) ?_) | exact loop _ _ T fun k τ Q E ht hk q => nearC_use hs hh hc.len ht hk q | walk_at "w_1"))
  · have T : PT (paS ns) := .sum _ _ ⟨t0, by omega⟩ ⟨l0, by omega⟩
    have V : Val ns h (paS ns) := .inr ⟨rfl, by omega⟩
    (repeat' (first | (with_reducible refine diff_eq (x := "sum") (by decide +kernel) ?_) | (refine wp_neBv (r := false) (by rw [decide_eq_false nle]; rfl) ?_) | walk_at "w_1"))
    refine lp_use hs hh T (fun _ => ?_) fun v => absurd V v
    (repeat' (first | walk_at "w_1"))
    refine paper_use sqT hs hh ch (fun cs2 hc2 le => absurd le nle) fun _ => ?_
    (repeat' (first | (with_reducible refine same_ne (strOk_of _) ?_) | exact loop _ _ T fun k τ Q E ht hk q => nearS_use hs ht hk q | walk_at "w_1"))
end
end LWk57
set_option maxHeartbeats 0
namespace LWk57
open PySem PySem.Spec L2 PD
open PyProof.Rows hiding St pairD cutD
local macro_rules | `(tactic| walk_at "w_1") => `(tactic| (first | with_reducible refine w_seq ?_ | with_reducible refine w_set ?_ | with_reducible refine w_ret ?_ | with_reducible refine w_drop ?_ | with_reducible refine w_pass ?_ | with_reducible refine w_sif ?_ | with_reducible refine w_asg ?_ | with_reducible refine w_par ?_ | with_reducible refine w_for ?_ | with_reducible refine w_src ?_ | with_reducible refine w_srcR ?_ | with_reducible refine w_enum ?_ | with_reducible refine w_zip ?_ | with_reducible refine w_raiseF ?_ | with_reducible refine w_raiseT ?_ | with_reducible refine w_brk ?_ | with_reducible refine w_ct ?_ | with_reducible refine w_lit ?_ | with_reducible refine w_fz ?_ | with_reducible refine w_prim ?_ | with_reducible refine w_call ?_ | with_reducible refine w_nil ?_ | with_reducible refine w_ex ?_ | with_reducible refine w_tup ?_ | with_reducible refine w_lst ?_ | with_reducible refine w_tof ?_ | with_reducible refine w_tnot ?_ | with_reducible refine w_tyes ?_ | with_reducible refine w_tor ?_ | with_reducible refine w_tand ?_ | with_reducible refine w_and ?_ | with_reducible refine w_or ?_ | with_reducible refine w_not ?_ | with_reducible refine w_vif ?_ | with_reducible refine w_chain ?_ | with_reducible refine w_fld ?_ | with_reducible refine w_tput ?_ | with_reducible refine w_setIx ?_ | with_reducible refine w_dic0 ?_ | with_reducible refine w_lc ?_ | with_reducible refine w_aFz ?_ | with_reducible refine w_try ?_ | with_reducible refine w_callL ?_ | with_reducible refine w_b ?_ | with_reducible refine w_i ?_ | with_reducible refine wp_add ?_ | with_reducible refine wp_sub ?_ | with_reducible refine wp_neg ?_ | with_reducible refine wp_lt ?_ | with_reducible refine wp_le ?_ | with_reducible refine wp_gt ?_ | with_reducible refine wp_ge ?_ | with_reducible refine wp_eqI ?_ | with_reducible refine wp_neI ?_ | with_reducible refine wp_len ?_ | with_reducible refine wp_lenT ?_ | with_reducible refine wp_lenS ?_ | with_reducible refine wp_int ?_ | with_reducible refine wp_abs ?_ | with_reducible refine wp_min2 ?_ | with_reducible refine wp_max2 ?_ | with_reducible refine wp_sorted ?_ | with_reducible refine wp_tupC ?_ | with_reducible refine wp_tupCT ?_ | with_reducible refine wp_lstC ?_ | with_reducible refine wp_lstCT ?_ | with_reducible refine wi_tt ?_ | with_reducible refine wi_ff ?_ | with_reducible refine wi_not ?_ | with_reducible refine wp_sl1 ?_ | with_reducible refine w_se ?_ | with_reducible refine w_lam0 ?_ | with_reducible refine w_par3 ?_ | with_reducible refine w_dicK ?_ | with_reducible refine w_evN ?_ | with_reducible refine w_evC ?_ | with_reducible refine w_lc2 ?_ | with_reducible refine wp_eqT ?_ | ((with_reducible apply w_var); case h => exact rfl) | ((with_reducible apply w_varO); case h => exact rfl) | ((with_reducible apply w_move); case h => exact rfl) | ((with_reducible apply w_moveO); case h => exact rfl) | ((with_reducible apply w_pk); case h => exact rfl) | ((with_reducible apply w_res); case h => exact rfl) | ((with_reducible apply w_ls); case h => exact rfl) | ((with_reducible apply w_sl); case h => exact rfl) | ((with_reducible apply w_ti); case h => exact rfl) | ((with_reducible apply w_tc); case h => exact rfl) | ((with_reducible apply w_tne); case h => exact rfl) | ((with_reducible apply w_tp); case h => exact rfl) | ((with_reducible apply w_ow); case h => exact rfl) | ((with_reducible apply w_aug); case ha => exact rfl) | ((with_reducible apply w_app); case h0 => exact rfl) | ((with_reducible apply w_so); case h => exact rfl) | ((with_reducible apply w_l); (case h => exact rfl); case hl => exact rfl) | ((with_reducible apply wp_is); case h => exact rfl) | ((with_reducible apply wp_isnot); case h => exact rfl) | ((with_reducible apply wp_ixT); case h => exact rfl) | ((with_reducible apply w_z); case h => exact rfl) | ((with_reducible apply w_fx); (case h => exact rfl); case h2 => exact rfl) | ((with_reducible refine wi_pos ?hp ?_); case hp => omega) | ((with_reducible refine wi_neg ?hp ?_); case hp => omega) | ((with_reducible refine wp_mod ?hp ?_); case hp => omega) | ((with_reducible refine wp_fdiv ?hp ?hq ?_); (case hp => omega); case hq => omega) | ((with_reducible refine wp_mulS ?hp ?hq ?_); (case hp => omega); case hq => omega)))
section
variable {k : Nat} {τ : Tape} {Q : Rs → Tape → Prop} {E : D → Tape → Prop} {QP : Rs → Prop}
theorem full_use {h : Int} (hh : 1 ≤ h ∧ h ≤ 4) (ht : TOk k τ) (hk : k ≤ 900000) (q : ∀ (ns : List Int) τ', ns.length = 6 → Up 60 ns → TOk (k + 2) τ' → Q (.own (.lst (ns.map D.int))) τ') : WF (m_l_full [.fz .tape, .fz (.int h)] τ) Q E := by
  refine w_body ?_
  unfold mv_l_full
  refine w_mid (fun ρ τ' => τ' = τ ∧ ρ = [.fz .tape, .fz (.int h), .own (.dic [(.int 1, .lst ([2, 4, 8, 16, 32, 32].map D.int)), (.int 2, .lst ([1, 2, 4, 8, 16, 16].map D.int)), (.int 3, .lst ([1, 1, 2, 4, 8, 8].map D.int)), (.int 4, .lst ([1, 1, 1, 2, 4, 4].map D.int))]), .un, .un]) ?_ ?_
  · (repeat' (first | walk_at "w_1"))
    exact ⟨rfl, rfl⟩
  rintro ρ τ0 ⟨rfl, rfl⟩
  refine w_mid (fun ρ τ' => τ' = τ0 ∧ ∃ (s2 : Sl) (ns : List Int), ns.length = 6 ∧ Up 32 ns ∧ ρ = [.fz .tape, .fz (.int h), s2, .own (.lst (ns.map D.int)), .un]) ?_ ?_
  · have : h = 1 ∨ h = 2 ∨ h = 3 ∨ h = 4 := by omega
    rcases this with rfl | rfl | rfl | rfl
    · (repeat' (first | walk_at "w_1"))
      refine w_dgetK (kv0 := _) rfl ?_
      (repeat' (first | walk_at "w_1"))
      refine ⟨_, .inl 1, _, rfl, rfl, rfl, ?_⟩
      (repeat' (first | walk_at "w_1"))
      exact ⟨rfl, _, [2, 4, 8, 16, 32, 32], rfl, by unfold Up; decide, rfl⟩
    · (repeat' (first | walk_at "w_1"))
      refine w_dgetK (kv0 := _) rfl ?_
      (repeat' (first | walk_at "w_1"))
      refine ⟨_, .inl 2, _, rfl, rfl, rfl, ?_⟩
      (repeat' (first | walk_at "w_1"))
      exact ⟨rfl, _, [1, 2, 4, 8, 16, 16], rfl, by unfold Up; decide, rfl⟩
    · (repeat' (first | walk_at "w_1"))
      refine w_dgetK (kv0 := _) rfl ?_
      (repeat' (first | walk_at "w_1"))
      refine ⟨_, .inl 3, _, rfl, rfl, rfl, ?_⟩
      (repeat' (first | walk_at "w_1"))
      exact ⟨rfl, _, [1, 1, 2, 4, 8, 8], rfl, by unfold Up; decide, rfl⟩
    · (repeat' (first | walk_at "w_1"))
      refine w_dgetK (kv0 := _) rfl ?_
      (repeat' (first | walk_at "w_1"))
      refine ⟨_, .inl 4, _, rfl, rfl, rfl, ?_⟩
      (repeat' (first | walk_at "w_1"))
      exact ⟨rfl, _, [1, 1, 1, 2, 4, 4], rfl, by unfold Up; decide, rfl⟩
  rintro ρ τ' ⟨rfl, s2, ns, nl, hu, rfl⟩
  (repeat' (first | walk_at "w_1"))
  refine draw_use ht (by omega) ⟨by decide, by decide⟩ fun a τ1 a0 a1 t1 => ?_
  obtain ⟨a, rfl⟩ := Int.eq_ofNat_of_zero_le a0
  have ha : a < ns.length := by omega
  obtain ⟨u1, u2⟩ := hu _ (List.mem_of_getElem? (at_gN ha))
  have fin : ∀ d : D, (∃ c : Int, d = .int c ∧ 1 ≤ c ∧ c ≤ 60) → ∀ τ2, TOk (k + 2) τ2 → ∃ j, ixN (List.map D.int ns).length (a : Int) = some j ∧ Q (.own (.lst ((List.map D.int ns).set j d))) τ2 := by
    rintro d ⟨c, rfl, c1, c2⟩ τ2 t2
    refine ⟨a, by rw [List.length_map]; exact ixN_nat ha, ?_⟩
    have := q (ns.set a c) τ2 (by rw [List.length_set, nl]) (fun i hi => by
      rcases List.mem_or_eq_of_mem_set hi with hi | rfl
      · have := hu i hi; omega
      · exact ⟨c1, c2⟩) t2
    rw [List.map_set] at this
    exact this
  (repeat' (first | (with_reducible refine wp_ixI ha ?_) | walk_at "w_1"))
  refine wi_dec (fun c => ?_) fun c => ?_
  · (repeat' (first | (with_reducible refine wp_ixI ha ?_) | walk_at "w_1"))
    refine pick_lit rfl rfl t1 (by omega) fun d hd τ2 t2 => ?_
    have := fin d (by
      simp only [List.mem_cons, List.not_mem_nil, or_false] at hd
      rcases hd with rfl | rfl | rfl | rfl
      · exact ⟨_, rfl, by omega, by omega⟩
      · exact ⟨_, rfl, by omega, by omega⟩
      · exact ⟨_, rfl, by omega, by omega⟩
      · exact ⟨_, rfl, by split <;> omega, by split <;> omega⟩) τ2 t2
    clear hd
    (repeat' (first | walk_at "w_1"))
    obtain ⟨j, h1, h2⟩ := this
    refine ⟨j, h1, ?_⟩
    (repeat' (first | walk_at "w_1"))
    exact h2
  · (repeat' (first | (with_reducible refine wp_ixI ha ?_) | walk_at "w_1"))
    refine pick_lit rfl rfl t1 (by omega) fun d hd τ2 t2 => ?_
    have := fin d (by
      simp only [List.mem_cons, List.not_mem_nil, or_false] at hd
      rcases hd with rfl | rfl | rfl | rfl
      · exact ⟨_, rfl, by omega, by omega⟩
      · exact ⟨_, rfl, by omega, by omega⟩
      · exact ⟨_, rfl, by omega, by omega⟩
      · exact ⟨_, rfl, by split <;> omega, by split <;> omega⟩) τ2 t2
    clear hd
    (repeat' (first | walk_at "w_1"))
    obtain ⟨j, h1, h2⟩ := this
    refine ⟨j, h1, ?_⟩
    (repeat' (first | walk_at "w_1"))
    exact h2
theorem caughtA {ask : D} {ns : List Int} {h : Int} (ha : ask = .fn "class_paper" ∨ ask = .clo 3 []) (hs : Spn ns) (hh : 1 ≤ h ∧ h ≤ 4) (ch : ¬ ChainP ns) (q : Q (.fz (.exc "NotChain" [])) τ) : WF (m_l_caught_i0 [.fz (.clo 5 [ask, .lst (ns.map D.int), .int h])] τ) Q E := by
  refine w_body ?_
  unfold mv_l_caught_i0
  (repeat' (first | walk_at "w_1"))
  refine w_callV rfl rfl ?_
  (repeat' (first | walk_at "w_1"))
  refine w_lam (sl := []) rfl rfl ?_
  unfold ev_apl_5_0
  rcases ha with rfl | rfl
  · refine w_callV rfl (by decide +kernel) ?_
    (repeat' (first | walk_at "w_1"))
    unfold apo_0
    rw [apOr_l (by decide +kernel)]
    refine w_fn rfl (paper_no (.inl rfl) hs hh ch ⟨_, _, rfl, .inl ⟨rfl, ?_⟩⟩)
    (repeat' (first | walk_at "w_1"))
    exact q
  · refine w_callV rfl (by decide +kernel) ?_
    (repeat' (first | walk_at "w_1"))
    unfold apo_0
    rw [apOr_r (by decide +kernel)]
    refine w_lam rfl (by
      show (Sl.nc (.fz (.lst (ns.map D.int))) && (Sl.nc (.fz (.int h)) && true)) = true
      rw [Sl.nc, D.nc, ncL_of fun d hd => by obtain ⟨i, _, rfl⟩ := List.mem_map.mp hd; rfl]
      rfl) ?_
    unfold ev_apl_3_0
    (repeat' (first | walk_at "w_1"))
    refine ispaper_no (.inl rfl) hs hh ch ⟨_, _, rfl, .inl ⟨rfl, ?_⟩⟩
    (repeat' (first | walk_at "w_1"))
    exact q
theorem spn23 : Spn [2, 3] := ⟨by decide, by decide, by decide, by decide⟩
theorem caughtB {ask x : D} (ha : ask = .fn "class_paper" ∨ ask = .clo 1 []) (hx : BadHands x) (nx : x.nc = true) (q : Q (.fz (.exc "BadNumber" [("part", .str "hands")])) τ) : WF (m_l_caught_i1 [.fz (.clo 2 [ask, x])] τ) Q E := by
  refine w_body ?_
  unfold mv_l_caught_i1
  (repeat' (first | walk_at "w_1"))
  refine w_callV rfl rfl ?_
  (repeat' (first | walk_at "w_1"))
  refine w_lam (sl := []) rfl rfl ?_
  unfold ev_apl_2_0
  rcases ha with rfl | rfl
  · refine w_callV rfl (by decide +kernel) ?_
    (repeat' (first | walk_at "w_1"))
    unfold apo_2
    rw [apOr_l (by decide +kernel)]
    refine w_fn rfl (paper_hands (ns := [2, 3]) (.inl rfl) spn23 hx ⟨_, _, rfl, .inl ⟨rfl, ?_⟩⟩)
    (repeat' (first | walk_at "w_1"))
    exact q
  · refine w_callV rfl (by decide +kernel) ?_
    (repeat' (first | walk_at "w_1"))
    unfold apo_2
    rw [apOr_r (by decide +kernel)]
    refine w_lam rfl (by
      show (Sl.nc (.fz (.lst [.int 2, .int 3])) && (Sl.nc (.fz x) && true)) = true
      rw [Sl.nc, Sl.nc, nx]
      rfl) ?_
    unfold ev_apl_1_0
    (repeat' (first | walk_at "w_1"))
    refine ispaper_hands (ns := [2, 3]) (.inl rfl) spn23 hx ⟨_, _, rfl, .inl ⟨rfl, ?_⟩⟩
    (repeat' (first | walk_at "w_1"))
    exact q
theorem caughtC {ask w idx x : D} (ha : ask = .fn "class_paper" ∨ ask = .clo 1 []) (hw : Wrong w idx) (nx : x.nc = true) (q : Q (.fz (.exc "BadSpans" [("index", idx)])) τ) : WF (m_l_caught_i2 [.fz (.clo 0 [.clo 4 [ask, x], w])] τ) Q E := by
  refine w_body ?_
  unfold mv_l_caught_i2
  (repeat' (first | walk_at "w_1"))
  refine w_callV rfl rfl ?_
  (repeat' (first | walk_at "w_1"))
  refine w_lam (sl := []) rfl rfl ?_
  unfold ev_apl_0_0
  refine w_callV rfl rfl ?_
  (repeat' (first | walk_at "w_1"))
  refine w_lam rfl (by show (Sl.nc _ && true) = true; rw [Sl.nc, hw.nc]; rfl) ?_
  unfold ev_apl_4_0
  rcases ha with rfl | rfl
  · refine w_callV rfl (by decide +kernel) ?_
    (repeat' (first | walk_at "w_1"))
    unfold apo_2
    rw [apOr_l (by decide +kernel)]
    refine w_fn rfl (paper_bad hw ⟨_, _, rfl, .inl ⟨rfl, ?_⟩⟩)
    (repeat' (first | walk_at "w_1"))
    exact q
  · refine w_callV rfl (by decide +kernel) ?_
    (repeat' (first | walk_at "w_1"))
    unfold apo_2
    rw [apOr_r (by decide +kernel)]
    refine w_lam rfl (by
      show (Sl.nc (.fz w) && (Sl.nc (.fz x) && true)) = true
      rw [Sl.nc, Sl.nc, nx, hw.nc]
      rfl) ?_
    unfold ev_apl_1_0
    (repeat' (first | walk_at "w_1"))
    refine ispaper_bad hw ⟨_, _, rfl, .inl ⟨rfl, ?_⟩⟩
    (repeat' (first | walk_at "w_1"))
    exact q
theorem refuse0 {ask x : D} (ha : ask = .fn "class_paper" ∨ ask = .clo 1 []) (nx : x.nc = true) (ht : TOk k τ) (hk : k ≤ 900000) (q : ∀ τ', TOk (k + 3) τ' → Q (.fz (.bl true)) τ') : WF (m_l_refuses_i0 [.fz .tape, .fz (.clo 4 [ask, x])] τ) Q E := by
  refine w_body ?_
  unfold mv_l_refuses_i0
  (repeat' (first | walk_at "w_1"))
  refine bad_use ht hk fun w idx τ1 hw t1 => ?_
  (repeat' (first | walk_at "w_1"))
  refine ⟨rfl, caughtC ha hw nx ⟨by rcases hw.ix with rfl | ⟨a, rfl⟩ <;> rfl, ?_⟩⟩
  (repeat' (first | (with_reducible refine wp_isi isiBS ?_) | walk_at "w_1"))
  exact fin_eq hw.ix (q _ t1)
theorem isiNC : fIsi sub (.exc "NotChain" []) (.fn "NotChain") = .at (.bl true) := by rfl
end
theorem plain_law (ns : List Int) (hl : ns.length ≤ 63) : ∃ τ', mv_law (.fz (.script ns) :: .fz .tape :: List.replicate 6 .un) ⟨lgA ns, 0, clA ns, 0⟩ = .rt (.fz (.bl true)) τ' := by
  have t0 : TOk 0 ⟨lgA ns, 0, clA ns, 0⟩ := ⟨Int.le_refl _, Int.le_refl _⟩
  generalize (⟨lgA ns, 0, clA ns, 0⟩ : Tape) = τ at t0
  have main : WS (mv_law (.fz (.script ns) :: .fz .tape :: List.replicate 6 .un) τ) NoB (fun r _ => r = .fz (.bl true)) NoB NoB NoX := by
    unfold mv_law
    have hlen : (0 : Int) ≤ ns.length ∧ (ns.length : Int) ≤ 63 := ⟨by omega, by omega⟩
    refine w_mid (fun ρ τ' => TOk 1300 τ' ∧ ∃ s2 s3 s4 s5, ρ = [.fz (.script ns), .fz .tape, s2, s3, s4, s5, .un, .un]) ?_ ?_
    · (repeat' (first | walk_at "w_1"))
      refine w_rng1 ⟨by split <;> omega, by split <;> omega⟩ ?_
      generalize hn : (4 + if (8 : Int) < (ns.length : Int) then 8 else (ns.length : Int)).toNat = n
      have n12 : n ≤ 12 := by rw [← hn]; split <;> omega
      clear hn
      refine w_forL (fun j ρ τ' => TOk (100 * j) τ' ∧ j ≤ n ∧ ∃ s2 s3 s4 s5, ρ = [.fz (.script ns), .fz .tape, s2, s3, s4, s5, .un, .un]) ⟨t0, Nat.zero_le _, .un, .un, .un, .un, rfl⟩ ?_ ?_
      · rintro j x ρ τ' hx ⟨tj, hj, s2, s3, s4, s5, rfl⟩
        obtain ⟨rfl, hj2⟩ := rngL_at hx
        rw [Int.zero_add]
        refine w_so rfl ?_
        (repeat' (first | walk_at "w_1"))
        refine draw_use tj (by omega) ⟨by decide, by decide⟩ fun h τ1 h1 h2 t1 => ?_
        have hh : 1 ≤ 1 + h ∧ 1 + h ≤ 4 := ⟨by omega, by omega⟩
        (repeat' (first | walk_at "w_1"))
        refine spans_use ⟨by decide, by decide⟩ t1 (by omega) fun m1 τ2 l1 l6 u1 t2 => ?_
        (repeat' (first | walk_at "w_1"))
        refine spans_use ⟨by decide, by decide⟩ t2 (by omega) fun m2 τ3 l1' l6' u2 t3 => ?_
        (repeat' (first | walk_at "w_1"))
        refine full_use hh t3 (by omega) fun m3 τ4 l3 u3 t4 => ?_
        (repeat' (first | walk_at "w_1"))
        refine pick_lit rfl rfl t4 (by omega) fun d hd τ5 t5 => ?_
        obtain ⟨ms, rfl, hs⟩ : ∃ ms : List Int, d = .lst (ms.map D.int) ∧ Spn ms := by
          simp only [List.mem_cons, List.not_mem_nil, or_false] at hd
          rcases hd with rfl | rfl | rfl
          · exact ⟨m1, rfl, l1, l6, fun i hi => (u1 i hi).1, fun i hi => Int.le_trans (u1 i hi).2 (by decide)⟩
          · exact ⟨m2, rfl, l1', l6', fun i hi => (u2 i hi).1, fun i hi => (u2 i hi).2⟩
          · exact ⟨m3, rfl, by omega, by omega, fun i hi => (u3 i hi).1, fun i hi => (u3 i hi).2⟩
        clear hd
        (repeat' (first | walk_at "w_1"))
        refine ischain_use hs (fun ch => ?_) fun ch => ?_
        · (repeat' (first | walk_at "w_1"))
          refine right_law hs hh ch t5 (by omega) fun τ6 t6 => ?_
          (repeat' (first | walk_at "w_1"))
          exact ⟨t6.mono (by omega), by omega, _, _, _, _, rfl⟩
        · (repeat' (first | (with_reducible refine w_forC ?_) | (with_reducible refine w_forN ?_) | walk_at "w_1"))
          refine ⟨rfl, caughtA (.inl rfl) hs hh ch ⟨rfl, ?_⟩⟩
          (repeat' (first | (with_reducible refine w_forC ?_) | (with_reducible refine w_forN ?_) | (with_reducible refine wp_isi isiNC ?_) | walk_at "w_1"))
          refine ⟨rfl, caughtA (.inr rfl) hs hh ch ⟨rfl, ?_⟩⟩
          (repeat' (first | (with_reducible refine w_forC ?_) | (with_reducible refine w_forN ?_) | (with_reducible refine wp_isi isiNC ?_) | walk_at "w_1"))
          exact ⟨t5.mono (by omega), by omega, _, _, _, _, rfl⟩
      · rintro ρ τ' ⟨tj, hj, s2, s3, s4, s5, rfl⟩
        exact ⟨tj.mono (by omega), _, _, _, _, rfl⟩
    rintro ρ τ1 ⟨t1, s2, s3, s4, s5, rfl⟩
    refine w_mid (fun ρ τ' => TOk 1301 τ' ∧ ∃ x s2 s3 s4 s5, BadHands x ∧ x.nc = true ∧ ρ = [.fz (.script ns), .fz .tape, s2, s3, s4, s5, .fz x, .un]) ?_ ?_
    · (repeat' (first | walk_at "w_1"))
      refine pick_lit rfl rfl t1 (by omega) fun x hx τ2 t2 => ?_
      refine ⟨t2, x, s2, s3, s4, s5, ?_, ?_, rfl⟩
      · simp only [List.mem_cons, List.not_mem_nil, or_false] at hx
        rcases hx with rfl | rfl | rfl | rfl
        · exact .inr ⟨_, rfl, by omega⟩
        · exact .inr ⟨_, rfl, by omega⟩
        · exact .inl (.inl rfl)
        · exact .inl (.inr ⟨rfl, rfl⟩)
      · simp only [List.mem_cons, List.not_mem_nil, or_false] at hx
        rcases hx with rfl | rfl | rfl | rfl <;> rfl
    rintro ρ τ2 ⟨t2, x, s2, s3, s4, s5, bx, nx, rfl⟩
    (repeat' (first | (with_reducible refine w_forC ?_) | (with_reducible refine w_forN ?_) | walk_at "w_1"))
    refine ⟨rfl, caughtB (.inl rfl) bx nx ⟨rfl, ?_⟩⟩
    (repeat' (first | (with_reducible refine w_forC ?_) | (with_reducible refine w_forN ?_) | (with_reducible refine wp_isi isiBN ?_) | (with_reducible refine same_ne (strOk_of _) ?_) | walk_at "w_1"))
    refine ⟨rfl, refuse0 (.inl rfl) nx t2 (by omega) fun τ3 t3 => ⟨rfl, ?_⟩⟩
    (repeat' (first | (with_reducible refine w_forC ?_) | (with_reducible refine w_forN ?_) | walk_at "w_1"))
    refine ⟨rfl, caughtB (.inr rfl) bx nx ⟨rfl, ?_⟩⟩
    (repeat' (first | (with_reducible refine w_forC ?_) | (with_reducible refine w_forN ?_) | (with_reducible refine wp_isi isiBN ?_) | (with_reducible refine same_ne (strOk_of _) ?_) | walk_at "w_1"))
    refine ⟨rfl, refuse0 (.inr rfl) nx t3 (by omega) fun τ4 t4 => ⟨rfl, ?_⟩⟩
    (repeat' (first | (with_reducible refine w_forC ?_) | (with_reducible refine w_forN ?_) | walk_at "w_1"))
    rfl
  obtain ⟨h⟩ := main
  cases e : mv_law (.fz (.script ns) :: .fz .tape :: List.replicate 6 .un) τ with
  | rt r τ' => rw [e] at h; exact ⟨τ', by rw [h]⟩
  | nx _ _ => rw [e] at h; exact h.elim
  | bk _ _ => rw [e] at h; exact h.elim
  | ct _ _ => rw [e] at h; exact h.elim
  | exc _ _ _ => rw [e] at h; exact h.elim
  | bad => rw [e] at h; exact h.elim
end LWk57
set_option maxHeartbeats 0
namespace LWk57
open PySem PySem.Spec L2 PD
open PyProof.Rows hiding St
theorem ok_PartError : InitOk I_PartError := ⟨rfl, rfl, rfl, rfl, by decide, by decide +kernel, rfl, rfl, rfl, ⟨_, rfl, rfl⟩, fun _ _ _ _ _ _ _ _ _ _ => rfl, by decide, ⟨_, fun _ => rfl⟩, fun _ => rfl, fun _ => rfl⟩
theorem ok_ItemError : InitOk I_ItemError := ⟨rfl, rfl, rfl, rfl, by decide, by decide +kernel, rfl, rfl, rfl, ⟨_, rfl, rfl⟩, fun _ _ _ _ _ _ _ _ _ _ => rfl, by decide, ⟨_, fun _ => rfl⟩, fun _ => rfl, fun _ => rfl⟩
abbrev hk : PySem.W.Hook := hookP 5 fa fn tf ex ini
theorem ob_eq (s : PySem.W.SharedT) : ob s = hk.obs s.abs := obsP_eq (HandSHeadRun.getT_eq s)
theorem run (w : World) : HandSHeadRun.RunEq R (PySem.W.view R.prog [46]) hk ob 20000 names w := fun os => run0 w os
def tabL : Nat → Option LE
  | 0 => some LE_0
  | 1 => some LE_1
  | 2 => some LE_2
  | 3 => some LE_3
  | 4 => some LE_4
  | 5 => some LE_5
  | _ => none
def gOf (w : World) (K : PySem.W.Frag) (mg : Str → Option Value) (base : Heap) : G := ⟨R.prog, w, K, mg, base, tabsOf K tf, tabL, tkvA⟩
theorem lg_of {w : World} {K : PySem.W.Frag} {mg : Str → Option Value} {h base : Heap} (X : K.In h) (G : h.Ns mainGlobals mg) (c : SaysP fa fn tf ex ini w h K) (tb : ∀ p ∈ tf, LamX.TabB base mg (He.cT K p).1 (He.cT K p).2) : LG (gOf w K mg base) := by
  have exb : ∀ (i : Nat) {b : Bool} (h : (exL K)[i]? = some b := by rfl), b = true := fun i b h => List.all_eq_true.mp (show (exL K).all id = true from c.x.more) b (List.mem_of_getElem? h)
  have gl : ∀ x ∈ excB, (gOf w K mg base).mg x = some (.ref (He.ga (gOf w K mg base).K x)) := List.forall_mem_cons.mpr ⟨He.glo_ok X G (c.x.t.d.fact 34), List.forall_mem_cons.mpr ⟨He.glo_ok X G (c.x.t.d.fact 35), List.forall_mem_cons.mpr ⟨He.glo_ok X G (c.x.t.d.fact 36), List.forall_mem_cons.mpr ⟨He.glo_ok X G (c.x.t.d.fact 37), List.forall_mem_cons.mpr ⟨He.glo_ok X G (c.x.t.d.fact 38), List.forall_mem_cons.mpr ⟨He.glo_ok X G (c.x.t.d.fact 39), fun _ h => (nomatch h)⟩⟩⟩⟩⟩⟩
  exact {
    d_law := says_def X G c.x.t.d 0 0,
    d_l_draw := says_def X G c.x.t.d 1 1,
    d_l_blend := says_def X G c.x.t.d 2 2,
    b_int := He.free_ok X G (c.x.t.d.fact 41),
    d_l_pick := says_def X G c.x.t.d 3 3,
    b_len := He.free_ok X G (c.x.t.d.fact 42),
    d_l_full := says_def X G c.x.t.d 4 4,
    b_list := He.free_ok X G (c.x.t.d.fact 43),
    b_max := He.free_ok X G (c.x.t.d.fact 44),
    d_l_spans := says_def X G c.x.t.d 5 5,
    b_range := He.free_ok X G (c.x.t.d.fact 45),
    b_min := He.free_ok X G (c.x.t.d.fact 46),
    d_l_is_chain := says_def X G c.x.t.d 6 6,
    b_sorted := He.free_ok X G (c.x.t.d.fact 47),
    b_zip := He.free_ok X G (c.x.t.d.fact 48),
    d_l_right := says_def X G c.x.t.d 7 7,
    d_l_sum := says_def X G c.x.t.d 8 8,
    d_l_common := says_def X G c.x.t.d 9 9,
    d_class_paper := says_def X G c.x.t.d 10 10,
    d_need_spans_hands := says_def X G c.x.t.d 11 11,
    d_need_spans := says_def X G c.x.t.d 12 12,
    d_is_list := says_def X G c.x.t.d 13 13,
    b_tuple := He.free_ok X G (c.x.t.d.fact 49),
    isi := isiB_ok (exb 1) subOf_mem (tags_glo gl),
    xok := excOk_of subOf_exc (exb 2) gl,
    b_isinstance := He.free_ok X G (c.x.t.d.fact 50),
    g_MOST_JOBS := He.int_ok X G (c.x.t.d.fact 51),
    x_BadSpans := says_exf X G c.x.t.d c.i 1 38 40 (exb 3) ok_ItemError (by kernel_rfl),
    d_is_between := says_def X G c.x.t.d 14 14,
    d_is_number := says_def X G c.x.t.d 15 15,
    b_bool := He.free_ok X G (c.x.t.d.fact 52),
    g_MOST_SPAN := He.int_ok X G (c.x.t.d.fact 53),
    b_enumerate := He.free_ok X G (c.x.t.d.fact 54),
    g_MOST_HANDS := He.int_ok X G (c.x.t.d.fact 55),
    x_BadNumber := says_exf X G c.x.t.d c.i 0 37 40 (exb 4) ok_PartError (by kernel_rfl),
    d_chain_right := says_def X G c.x.t.d 16 16,
    b_all := He.free_ok X G (c.x.t.d.fact 56),
    x_NotChain := says_ext X G c.x.t.d 39 57,
    d_classes_for := says_def X G c.x.t.d 17 17,
    d_is_free := says_def X G c.x.t.d 18 18,
    d_common_part := says_def X G c.x.t.d 19 19,
    d_sum_of_shares := says_def X G c.x.t.d 20 20,
    d_l_is_paper := says_def X G c.x.t.d 21 21,
    b_str := He.free_ok X G (c.x.t.d.fact 58),
    d_l_are_classes := says_def X G c.x.t.d 22 22,
    d_l_is_whole := says_def X G c.x.t.d 23 23,
    d_l_meet := says_def X G c.x.t.d 24 24,
    d_l_near := says_def X G c.x.t.d 25 25,
    d_l_near_classes := says_def X G c.x.t.d 26 26,
    d_l_says := says_def X G c.x.t.d 27 27,
    d_is_class_paper := says_def X G c.x.t.d 28 28,
    d_classes_right := says_def X G c.x.t.d 29 29,
    r_NotChain := ⟨_, He.glo_ok X G (c.x.t.d.fact 39)⟩,
    d_l_caught := says_def X G c.x.t.d 30 30,
    l_5 := rfl,
    l_3 := rfl,
    catch_AgainError := catchB_ok (exb 5) catchOf_mem gl (gl _ (by decide)),
    r_class_paper := ⟨_, He.glo_ok X G (c.x.t.d.fact 10)⟩,
    l_2 := rfl,
    l_1 := rfl,
    r_BadNumber := ⟨_, He.glo_ok X G (c.x.t.d.fact 37)⟩,
    fld_part := fldB_ok (exb 6) (fun c h => of_decide_eq_true h) fun c h => gl c ((by decide : ∀ c ∈ hasL_part, c ∈ excB) c h),
    d_l_refuses := says_def X G c.x.t.d 31 31,
    d_l_bad_spans := says_def X G c.x.t.d 32 32,
    l_0 := rfl,
    l_4 := rfl,
    r_BadSpans := ⟨_, He.glo_ok X G (c.x.t.d.fact 38)⟩,
    fld_index := fldB_ok (exb 7) (fun c h => of_decide_eq_true h) fun c h => gl c ((by decide : ∀ c ∈ hasL_index, c ∈ excB) c h),
    c_l_refuses := ⟨_, says_code X G c.x.t.d 31 31, says_tab tb rfl (exb 0) (by decide)⟩,
    c_law := ⟨_, says_code X G c.x.t.d 0 0, says_tab tb rfl (exb 0) (by decide)⟩,
    d_l_begun := says_def X G c.x.t.d 33 33,
    b_abs := He.free_ok X G (c.x.t.d.fact 59),
    tkm := fun _ _ => rfl,
    tk := ⟨fun _ _ _ _ => rfl, fun _ _ _ _ => rfl, fun _ _ _ _ => rfl, fun _ _ _ _ => rfl, fun _ _ _ _ _ => rfl, fun _ _ _ _ _ => rfl, fun _ _ _ _ => (by decide : 4 ≤ 10)⟩ }
theorem plain (ns : List Int) (hl : ns.length ≤ 63) (hb : ∀ z ∈ ns, Builtin.Int.intBits z ≤ 1048576) : ∃ τ', mv_law (.fz (.script ns) :: .fz .tape :: List.replicate 6 .un) ⟨lgA ns, 0, clA ns, 0⟩ = .rt (.fz (.bl true)) τ' := plain_law ns hl
end LWk57
open PySem PySem.W PySem.Calls PyProof.Rows
theorem PySem.Challenge.cw_againsure_k57_whole_classes_or_a_sum_holds : PySem.Challenge.rw_againsure_k57_whole_classes_or_a_sum.Holds := by
  w_on; o_law
  refine HandSHeadRun.head_any (r := OpenLaw.row PySem.Challenge.rw_againsure_k57_whole_classes_or_a_sum) (q := view (OpenLaw.row PySem.Challenge.rw_againsure_k57_whole_classes_or_a_sum).prog [46]) (H := LWk57.hk) (ob := LWk57.ob) (M := 20000) (loose := LWk57.names) (d := HandSHeadRun.topDef (OpenLaw.row PySem.Challenge.rw_againsure_k57_whole_classes_or_a_sum).prog 46) (kwd := []) LWk57.ob_eq
    (by kernel_rfl) (fun s => by kernel_rfl) LWk57.run (by kernel_rfl) (by kernel_rfl) (by kernel_rfl) (by rfl) (by first | assumption | decide +kernel) (by decide +kernel) ⟨rfl, rfl, rfl, rfl, rfl, by decide +kernel⟩ ?hw ?hc
  case hw => w_witness2
  case hc =>
    refine PD.walk_ofG (l := PySem.Challenge.rw_againsure_k57_whole_classes_or_a_sum) (n := 63) rfl (by decide) (by kernel_rfl) ?F
    intro w mg fa h Y G hmg0
    obtain ⟨K, KX, c⟩ := Y
    have hmg : mg ("law" : PySem.Str) = some (.ref fa) := by
      have e : (HandSHeadRun.topDef (OpenLaw.row PySem.Challenge.rw_againsure_k57_whole_classes_or_a_sum).prog 46).name = ("law" : PySem.Str) := by kernel_rfl
      rw [← e]
      exact hmg0
    refine ⟨K, KX, LWk57.tf.map (He.cT K), fun p hp => ?_, fun p hp => ?_, fun p hp => ?_, fun base H s a ns hl hb k1 k2 k3 k4 k5 k6 => ?_⟩
    · obtain ⟨q, hq, rfl⟩ := List.mem_map.mp hp
      exact c.x.empty q hq
    · obtain ⟨q, hq, rfl⟩ := List.mem_map.mp hp
      exact c.x.out q hq
    · obtain ⟨q, hq, rfl⟩ := List.mem_map.mp hp
      exact PySem.W.codeHd_of_K KX (c.x.hd q hq)
    · have L := LWk57.lg_of (base := base) KX G c fun p hp => k3 _ (List.mem_map.mpr ⟨p, hp, rfl⟩)
      have ef : fa = PD.fAt (LWk57.gOf w K mg base) "law" := (PD.fAt_of (g := LWk57.gOf w K mg base) hmg).symm
      rw [ef]
      exact LWk57.law_run L hl (LWk57.plain ns hl hb) k4 (fun p hp => by
        obtain ⟨q, hq, rfl⟩ := List.mem_map.mp hp
        exact k5 _ (List.mem_map.mpr ⟨q, hq, rfl⟩)) k6

