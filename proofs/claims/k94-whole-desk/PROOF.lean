import PyProof.Rows.All
import Wide.All
import OpenK.AllK
import Wide.FinOn
import HandS.ForMost
import HandS.More
import HandS.WordsExc
import HandS.Defaults
import HandS.ExcInit
import HandS.ExcIs
import HandS.ExcField
import KE.KStateDown
import HandS.Head0
import HandS.Head1
import HandS.Head2
import HandS.HeadEnd
import HandS.HeadHook1
import HandS.HeadHook2
import HandS.HeadHook3
import HandS.Evl
import HandS.Wide
import HandS.Flow
import HandS.FStr
import HandS.StrMore
import HandS.Zip
import HandS.NoneIn
import HandS.Style
import HandS.TupAny
import HandS.IsInst
import HandS.TryMany
import HandS.Strs
import HandS.WrittenGet
import HandS.CallLocal
import HandS.Text
import PyProof.DictStraight
import HandS.Exc
import HandS.ExcCtx
import HandS.ExcInitHot
import HandS.HotCalls
import HandS.ExcOwn
import HandS.Words
import KE.KTryMore
import KE.KExcPX
import HandS.Comp
import HandS.Hot
import PyProof.Rows.TupIter
import PySem.Challenge.RW_tensloft_k94_whole_desk_as_it_stands
set_option Elab.async false
set_option linter.all false
set_option maxRecDepth 100000
/-! P0: the program's top. -/
namespace Tl
open PySem
def topS (i : Nat) : Stmt := PySem.Challenge.pw_tensloft_k94_whole_desk_as_it_stands.main.body.getD i (.Pass ⟨0, 0, 0, 0⟩)
end Tl
set_option maxHeartbeats 0

/-! H1: the head: what is looked at behind the top, the run. -/
namespace Hd
open PySem PySem.Spec PyProof.Rows L2
/-! ### further looks -/
/-- the table x of the module holds a tuple of these at k -/
def rowB (K : PySem.W.Frag) (x : Str) (q : Str × List Str) : Bool := match PySem.W.nsIn K (He.ga K x) q.1 with
  | some (some (.ref a)) => (match K.lookup a with
    | some ⟨.type c, _, .seq its _, _⟩ => decide (c = "tuple") && (decide (its.size ≤ sizeLine) && He.relAll (q.2.map V.str) its.toList)
    | _ => false)
  | _ => false
def formsT : List (Str × List Str) := [((PySem.Str.ofString "lay"), [(PySem.Str.ofString "name"), (PySem.Str.ofString "shape"), (PySem.Str.ofString "bytes")]), ((PySem.Str.ofString "less"), [(PySem.Str.ofString "name"), (PySem.Str.ofString "one"), (PySem.Str.ofString "one")]), ((PySem.Str.ofString "drop"), [(PySem.Str.ofString "one")]), ((PySem.Str.ofString "undo"), []), ((PySem.Str.ofString "again"), []), ((PySem.Str.ofString "names"), []), ((PySem.Str.ofString "show"), [(PySem.Str.ofString "one")]), ((PySem.Str.ofString "bytes"), [(PySem.Str.ofString "one")]), ((PySem.Str.ofString "shape"), [(PySem.Str.ofString "one")]), ((PySem.Str.ofString "order"), [(PySem.Str.ofString "one"), (PySem.Str.ofString "one")])]
def formsB (K : PySem.W.Frag) : Bool := formsT.all (rowB K (Str.ofString "FORMS"))
def readersB (K : PySem.W.Frag) : Bool := [Str.ofString "name", Str.ofString "one"].all fun k => He.eqO (PySem.W.nsIn K (He.ga K (Str.ofString "READERS")) k) (some (some (.ref (He.ga K (Str.ofString "read_name")))))
/-- an own exception class with its own __init__ -/
def oexB (K : PySem.W.Frag) (C : Addr) : Bool := (match K.lookup C with
  | some ⟨.type "type", _, .cls cd, sl⟩ => (match cd.mro, sl.toList with
    | .ref C' :: bm, [_, _, _, _, some (.builtin n), _] => decide (C' = C) && (decide (n = "ValueError.__new__") && (cd.hasDict && (!cd.hasDel && PySem.HandSPX.refsVE bm)))
    | _, _ => false)
  | _ => false) && (He.eqO (PySem.W.findIn K (.ref C) (Str.ofString "__setattr__")) (some (some (.builtin "object.__setattr__"))) && (decide (PySem.W.subIn K (.ref C) (.type "BaseException") = some true) && (decide (PySem.W.typeIn K (.ref C) = some (.type "type")) && PySem.W.keepIn K (.ref C))))
/-- isinstance's look at an exception's class -/
def excCB (K : PySem.W.Frag) (D : Addr) : Bool := He.eqO (PySem.W.findIn K (.ref D) (Str.ofString "__getattribute__")) (some (some (.builtin "BaseException.__getattribute__"))) && (He.eqO (PySem.W.findIn K (.ref D) (Str.ofString "__getattr__")) (some none) &&
  (decide (PySem.W.subIn K (.ref D) (.type "BaseException") = some true) && (PySem.W.hasDictIn K D && (He.eqO (PySem.W.findIn K (.ref D) (Str.ofString "__class__")) (some (some (.builtin "object.__class__"))) &&
  (He.eqO (PySem.W.specialIn K (.builtin "object.__class__") (Str.ofString "__get__")) (some (some (.builtin "getset_descriptor.__get__"))) && (decide (PySem.W.takesIn K (.builtin "object.__class__") = some true) && decide (PySem.W.mroIn K D (.type "object") = some true)))))))
def sorts : List Str := [(PySem.Str.ofString "NoShape"), (PySem.Str.ofString "NoFit"), (PySem.Str.ofString "Wrong"), (PySem.Str.ofString "NoTable"), (PySem.Str.ofString "NoRow"), (PySem.Str.ofString "BadLine"), (PySem.Str.ofString "TooLong"), (PySem.Str.ofString "NoRule"), (PySem.Str.ofString "NoDeed"), (PySem.Str.ofString "NoName"), (PySem.Str.ofString "NoText"), (PySem.Str.ofString "Nought"), (PySem.Str.ofString "Unlike"), (PySem.Str.ofString "NoLine"), (PySem.Str.ofString "NothingDone")]
def sortB (K : PySem.W.Frag) (nm : Str) : Bool := excCB K (He.ga K nm) && ((sorts.all fun x => (He.Fa.glo x).ok K && decide (PySem.W.kitOne K (.ref (He.ga K nm)) (.ref (He.ga K x)) = some (decide (x = nm)))) &&
  (decide (PySem.W.kitOne K (.ref (He.ga K nm)) (.ref (He.ga K (Str.ofString "LoftError"))) = some true) && decide (PySem.W.kitOne K (.ref (He.ga K nm)) (.type "ValueError") = some true)))
def ownB (K : PySem.W.Frag) (L : Addr) : Bool := He.eqO (PySem.W.specialIn K (.ref L) (Str.ofString "__getattribute__")) (some (some (.builtin "type.__getattribute__"))) && (PySem.W.readsIn K L (.type "type") &&
  (match PySem.W.findCls K (.ref L) (.type "type") (Str.ofString "__init__") with
  | some (.val (.builtin n)) => decide (n = "ValueError.__init__")
  | _ => false))
/-! ### the hook: what the module's names reach in four steps, and the statics -/
def refsDict (o : Obj) : List Addr := match o.data with
  | .dict es _ => es.toList.flatMap fun e => He.refV e.val
  | _ => []
def refsFn (o : Obj) : List Addr := match o.data with
  | .func fd => He.refV fd.code
  | _ => []
def stepA (g : Addr → Option Obj) (f : Obj → List Addr) (as : List Addr) : List Addr := as.flatMap fun a => match g a with
  | some o => f o
  | none => []
def asY (g : Addr → Option Obj) : List Addr := mainGlobals :: cStatics :: (stepA g refsDict [mainGlobals] ++ (stepA g He.refsD (stepA g refsDict [mainGlobals]) ++
  (stepA g refsDict (stepA g He.refsD (stepA g refsDict [mainGlobals])) ++ stepA g refsFn (stepA g refsDict (stepA g He.refsD (stepA g refsDict [mainGlobals]))))))
abbrev AlY : Type := He.AlT × Bool
def obsK (fa : List He.Fa) (fn : List He.DefD) (ts : List He.Tab) (ex : List (PySem.W.Frag → Bool)) (K : PySem.W.Frag) : AlY := (He.obsT fa fn ts K, ex.all fun f => f K)
def obsY (fa : List He.Fa) (fn : List He.DefD) (ts : List He.Tab) (ex : List (PySem.W.Frag → Bool)) (g : Addr → Option Obj) : AlY := obsK fa fn ts ex (He.frG g (asY g))
def valY (fn : List He.DefD) (ts : List He.Tab) (w : World) : AlY := (He.valT fn ts w, true)
def SaysY (fa : List He.Fa) (fn : List He.DefD) (ts : List He.Tab) (ex : List (PySem.W.Frag → Bool)) (w : World) (K : PySem.W.Frag) : Prop := obsK fa fn ts ex K = valY fn ts w
def hookY (fa : List He.Fa) (fn : List He.DefD) (ts : List He.Tab) (ex : List (PySem.W.Frag → Bool)) : PySem.W.Hook where
  α := AlY
  obs := fun s => obsY fa fn ts ex s.heap.get?
  val := fun w => valY fn ts w
  says := fun w h => ∃ K : PySem.W.Frag, K.In h ∧ SaysY fa fn ts ex w K
  of := fun _ _ e => ⟨_, He.frG_in, e⟩
  keeps := fun _ _ _ ⟨K, hK, c⟩ k => ⟨K, PySem.W.Frag.In.keeps hK k, c⟩
theorem obsY_eq {fa : List He.Fa} {fn : List He.DefD} {ts : List He.Tab} {ex : List (PySem.W.Frag → Bool)} {g : Addr → Option Obj} {s : Shared} (h : ∀ a, g a = s.heap.get? a) : obsY fa fn ts ex g = (hookY fa fn ts ex).obs s := by
  have e : g = s.heap.get? := funext h
  rw [e] <;> rfl
/-! ### what is looked at -/
def dG (x nm : Str) (st : Stmt) : He.DefD := ⟨(x, none), nm, nm, defArgs st, defBody st, defScope st, [], []⟩
def dM (C m q : Str) (st : Stmt) : He.DefD := ⟨(C, some m), m, q, defArgs st, defBody st, defScope st, [], []⟩

def fa0 : List He.Fa := [.free (PySem.Str.ofString "range"), .free (PySem.Str.ofString "len"), .free (PySem.Str.ofString "abs"), .free (PySem.Str.ofString "int"), .free (PySem.Str.ofString "str"), .free (PySem.Str.ofString "tuple"), .free (PySem.Str.ofString "all"), .free (PySem.Str.ofString "enumerate"), .free (PySem.Str.ofString "zip"), .free (PySem.Str.ofString "max"), .free (PySem.Str.ofString "min"), .free (PySem.Str.ofString "isinstance"), .free (PySem.Str.ofString "dict"), .free (PySem.Str.ofString "list"), .free (PySem.Str.ofString "sorted"), .free (PySem.Str.ofString "set"), .free (PySem.Str.ofString "ValueError"), .int (PySem.Str.ofString "MOST_FIGURES_shapes") 12, .int (PySem.Str.ofString "PLUS_HALF") 12, .int (PySem.Str.ofString "MINUS_HALF") 13]
def fa1 : List He.Fa := [.int (PySem.Str.ofString "ZONE_HALF") 15, .int (PySem.Str.ofString "MOST_LETTERS") 12, .int (PySem.Str.ofString "MOST_FIGURES_desk") 12, .str (PySem.Str.ofString "SIGNS_OF_HALVES") (PySem.Str.ofString "0123456789ABCDEF"), .str (PySem.Str.ofString "LETTERS") (PySem.Str.ofString "abcdefghijklmnopqrstuvwxyz"), .str (PySem.Str.ofString "FIGURES_desk") (PySem.Str.ofString "0123456789"), .glo (PySem.Str.ofString "KINDS"), .glo (PySem.Str.ofString "SIGNS"), .glo (PySem.Str.ofString "MINUS_HALVES"), .glo (PySem.Str.ofString "FORMS"), .glo (PySem.Str.ofString "READERS"), .glo (PySem.Str.ofString "Desk"), .glo (PySem.Str.ofString "LoftError"), .glo (PySem.Str.ofString "NoShape"), .glo (PySem.Str.ofString "NoFit"), .glo (PySem.Str.ofString "Wrong"), .glo (PySem.Str.ofString "NoTable"), .glo (PySem.Str.ofString "NoRow"), .glo (PySem.Str.ofString "BadLine"), .glo (PySem.Str.ofString "TooLong")]
def fa2 : List He.Fa := [.glo (PySem.Str.ofString "NoRule"), .glo (PySem.Str.ofString "NoDeed"), .glo (PySem.Str.ofString "NoName"), .glo (PySem.Str.ofString "NoText"), .glo (PySem.Str.ofString "Nought"), .glo (PySem.Str.ofString "Unlike"), .glo (PySem.Str.ofString "NoLine"), .glo (PySem.Str.ofString "NothingDone"), .glo (PySem.Str.ofString "halves_of"), .glo (PySem.Str.ofString "power"), .glo (PySem.Str.ofString "figures_of"), .glo (PySem.Str.ofString "number_by"), .glo (PySem.Str.ofString "shape"), .glo (PySem.Str.ofString "least_of"), .glo (PySem.Str.ofString "most_of"), .glo (PySem.Str.ofString "folded"), .glo (PySem.Str.ofString "fits"), .glo (PySem.Str.ofString "sign_half"), .glo (PySem.Str.ofString "kept_halves"), .glo (PySem.Str.ofString "kept")]
def fa3 : List He.Fa := [.glo (PySem.Str.ofString "halves_in"), .glo (PySem.Str.ofString "duties"), .glo (PySem.Str.ofString "half_right"), .glo (PySem.Str.ofString "caught"), .glo (PySem.Str.ofString "number_of"), .glo (PySem.Str.ofString "written"), .glo (PySem.Str.ofString "hexed"), .glo (PySem.Str.ofString "byte_told"), .glo (PySem.Str.ofString "unhexed"), .glo (PySem.Str.ofString "order_word"), .glo (PySem.Str.ofString "mark_of"), .glo (PySem.Str.ofString "answer_kept"), .glo (PySem.Str.ofString "read_name"), .glo (PySem.Str.ofString "read_whole"), .glo (PySem.Str.ofString "read_shape"), .glo (PySem.Str.ofString "only"), .glo (PySem.Str.ofString "read_part"), .glo (PySem.Str.ofString "parts_of_desk"), .glo (PySem.Str.ofString "hold_like"), .glo (PySem.Str.ofString "_law_cell")]
def fa4 : List He.Fa := [.glo (PySem.Str.ofString "_law_mixed"), .glo (PySem.Str.ofString "_law_draws"), .glo (PySem.Str.ofString "_law_power"), .glo (PySem.Str.ofString "_law_form"), .glo (PySem.Str.ofString "_law_ends"), .glo (PySem.Str.ofString "_law_wrap"), .glo (PySem.Str.ofString "_law_fits"), .glo (PySem.Str.ofString "_law_figures"), .glo (PySem.Str.ofString "_law_by_halves"), .glo (PySem.Str.ofString "_law_row_with"), .glo (PySem.Str.ofString "_law_laid"), .glo (PySem.Str.ofString "_law_dressed"), .glo (PySem.Str.ofString "_law_number"), .glo (PySem.Str.ofString "_law_sorts"), .glo (PySem.Str.ofString "_law_read_row"), .glo (PySem.Str.ofString "_law_hexed"), .glo (PySem.Str.ofString "_law_written"), .glo (PySem.Str.ofString "_law_words"), .glo (PySem.Str.ofString "_law_name"), .glo (PySem.Str.ofString "_law_names")]
def fa5 : List He.Fa := [.glo (PySem.Str.ofString "_law_pointed"), .glo (PySem.Str.ofString "_law_tell"), .glo (PySem.Str.ofString "_law_answered"), .glo (PySem.Str.ofString "_law_kept_of"), .glo (PySem.Str.ofString "_law_mark"), .glo (PySem.Str.ofString "_law_thing_by"), .glo (PySem.Str.ofString "_law_missing"), .glo (PySem.Str.ofString "_law_with"), .glo (PySem.Str.ofString "_law_sum_due"), .glo (PySem.Str.ofString "_law_due"), .glo (PySem.Str.ofString "_law_deed"), .glo (PySem.Str.ofString "_law_all_told"), .glo (PySem.Str.ofString "law"), .cls (PySem.Str.ofString "Desk"), .noat (PySem.Str.ofString "Desk") (PySem.Str.ofString "names"), .noat (PySem.Str.ofString "Desk") (PySem.Str.ofString "past"), .noat (PySem.Str.ofString "Desk") (PySem.Str.ofString "undone"), .mkr (PySem.Str.ofString "Desk"), .meth (PySem.Str.ofString "Desk") (PySem.Str.ofString "done"), .meth (PySem.Str.ofString "Desk") (PySem.Str.ofString "moved")]
def fa6 : List He.Fa := [.meth (PySem.Str.ofString "Desk") (PySem.Str.ofString "laid"), .meth (PySem.Str.ofString "Desk") (PySem.Str.ofString "of_two"), .meth (PySem.Str.ofString "Desk") (PySem.Str.ofString "asked"), .meth (PySem.Str.ofString "Desk") (PySem.Str.ofString "tell"), .meth (PySem.Str.ofString "NoName") (PySem.Str.ofString "__init__"), .exc (PySem.Str.ofString "Unlike"), .noat (PySem.Str.ofString "NoName") (PySem.Str.ofString "name"), .exm (PySem.Str.ofString "Unlike") (PySem.Str.ofString "NoName") false, .exm (PySem.Str.ofString "Unlike") (PySem.Str.ofString "NoShape") false, .exm (PySem.Str.ofString "Unlike") (PySem.Str.ofString "Wrong") false, .exm (PySem.Str.ofString "Unlike") (PySem.Str.ofString "LoftError") true, .exm (PySem.Str.ofString "NoName") (PySem.Str.ofString "NoName") true]
def fa : List He.Fa := fa0 ++ fa1 ++ fa2 ++ fa3 ++ fa4 ++ fa5 ++ fa6
def fn0 : List He.DefD := [dG (PySem.Str.ofString "halves_of") (PySem.Str.ofString "halves_of") (Tl.topS 18), dG (PySem.Str.ofString "power") (PySem.Str.ofString "power") (Tl.topS 20), dG (PySem.Str.ofString "figures_of") (PySem.Str.ofString "figures_of") (Tl.topS 21), dG (PySem.Str.ofString "number_by") (PySem.Str.ofString "number_by") (Tl.topS 22), dG (PySem.Str.ofString "shape") (PySem.Str.ofString "shape") (Tl.topS 28), dG (PySem.Str.ofString "least_of") (PySem.Str.ofString "least_of") (Tl.topS 29), dG (PySem.Str.ofString "most_of") (PySem.Str.ofString "most_of") (Tl.topS 30), dG (PySem.Str.ofString "folded") (PySem.Str.ofString "folded") (Tl.topS 31), dG (PySem.Str.ofString "fits") (PySem.Str.ofString "fits") (Tl.topS 32), dG (PySem.Str.ofString "sign_half") (PySem.Str.ofString "sign_half") (Tl.topS 38), dG (PySem.Str.ofString "kept_halves") (PySem.Str.ofString "kept_halves") (Tl.topS 39), dG (PySem.Str.ofString "kept") (PySem.Str.ofString "kept") (Tl.topS 40), dG (PySem.Str.ofString "halves_in") (PySem.Str.ofString "halves_in") (Tl.topS 41), dG (PySem.Str.ofString "duties") (PySem.Str.ofString "duties") (Tl.topS 42), dG (PySem.Str.ofString "half_right") (PySem.Str.ofString "half_right") (Tl.topS 43), dG (PySem.Str.ofString "caught") (PySem.Str.ofString "caught") (Tl.topS 44), dG (PySem.Str.ofString "number_of") (PySem.Str.ofString "number_of") (Tl.topS 45), dG (PySem.Str.ofString "written") (PySem.Str.ofString "written") (Tl.topS 56), dG (PySem.Str.ofString "hexed") (PySem.Str.ofString "hexed") (Tl.topS 61), dG (PySem.Str.ofString "byte_told") (PySem.Str.ofString "byte_told") (Tl.topS 62)]
def fn1 : List He.DefD := [dG (PySem.Str.ofString "unhexed") (PySem.Str.ofString "unhexed") (Tl.topS 63), dG (PySem.Str.ofString "order_word") (PySem.Str.ofString "order_word") (Tl.topS 94), dG (PySem.Str.ofString "mark_of") (PySem.Str.ofString "mark_of") (Tl.topS 91), dG (PySem.Str.ofString "answer_kept") (PySem.Str.ofString "answer_kept") (Tl.topS 92), dG (PySem.Str.ofString "read_name") (PySem.Str.ofString "read_name") (Tl.topS 80), dG (PySem.Str.ofString "read_whole") (PySem.Str.ofString "read_whole") (Tl.topS 81), dG (PySem.Str.ofString "read_shape") (PySem.Str.ofString "read_shape") (Tl.topS 85), dG (PySem.Str.ofString "only") (PySem.Str.ofString "only") (Tl.topS 90), dG (PySem.Str.ofString "read_part") (PySem.Str.ofString "read_part") (Tl.topS 87), dG (PySem.Str.ofString "parts_of_desk") (PySem.Str.ofString "parts_of") (Tl.topS 88), dG (PySem.Str.ofString "hold_like") (PySem.Str.ofString "hold_like") (Tl.topS 93), dG (PySem.Str.ofString "_law_cell") (PySem.Str.ofString "_law_cell") (Tl.topS 97), dG (PySem.Str.ofString "_law_mixed") (PySem.Str.ofString "_law_mixed") (Tl.topS 98), dG (PySem.Str.ofString "_law_draws") (PySem.Str.ofString "_law_draws") (Tl.topS 99), dG (PySem.Str.ofString "_law_power") (PySem.Str.ofString "_law_power") (Tl.topS 100), dG (PySem.Str.ofString "_law_form") (PySem.Str.ofString "_law_form") (Tl.topS 101), dG (PySem.Str.ofString "_law_ends") (PySem.Str.ofString "_law_ends") (Tl.topS 102), dG (PySem.Str.ofString "_law_wrap") (PySem.Str.ofString "_law_wrap") (Tl.topS 103), dG (PySem.Str.ofString "_law_fits") (PySem.Str.ofString "_law_fits") (Tl.topS 104), dG (PySem.Str.ofString "_law_figures") (PySem.Str.ofString "_law_figures") (Tl.topS 105)]
def fn2 : List He.DefD := [dG (PySem.Str.ofString "_law_by_halves") (PySem.Str.ofString "_law_by_halves") (Tl.topS 106), dG (PySem.Str.ofString "_law_row_with") (PySem.Str.ofString "_law_row_with") (Tl.topS 107), dG (PySem.Str.ofString "_law_laid") (PySem.Str.ofString "_law_laid") (Tl.topS 108), dG (PySem.Str.ofString "_law_dressed") (PySem.Str.ofString "_law_dressed") (Tl.topS 109), dG (PySem.Str.ofString "_law_number") (PySem.Str.ofString "_law_number") (Tl.topS 110), dG (PySem.Str.ofString "_law_sorts") (PySem.Str.ofString "_law_sorts") (Tl.topS 111), dG (PySem.Str.ofString "_law_read_row") (PySem.Str.ofString "_law_read_row") (Tl.topS 112), dG (PySem.Str.ofString "_law_hexed") (PySem.Str.ofString "_law_hexed") (Tl.topS 113), dG (PySem.Str.ofString "_law_written") (PySem.Str.ofString "_law_written") (Tl.topS 114), dG (PySem.Str.ofString "_law_words") (PySem.Str.ofString "_law_words") (Tl.topS 115), dG (PySem.Str.ofString "_law_name") (PySem.Str.ofString "_law_name") (Tl.topS 116), dG (PySem.Str.ofString "_law_names") (PySem.Str.ofString "_law_names") (Tl.topS 117), dG (PySem.Str.ofString "_law_pointed") (PySem.Str.ofString "_law_pointed") (Tl.topS 118), dG (PySem.Str.ofString "_law_tell") (PySem.Str.ofString "_law_tell") (Tl.topS 119), dG (PySem.Str.ofString "_law_answered") (PySem.Str.ofString "_law_answered") (Tl.topS 120), dG (PySem.Str.ofString "_law_kept_of") (PySem.Str.ofString "_law_kept_of") (Tl.topS 121), dG (PySem.Str.ofString "_law_mark") (PySem.Str.ofString "_law_mark") (Tl.topS 122), dG (PySem.Str.ofString "_law_thing_by") (PySem.Str.ofString "_law_thing_by") (Tl.topS 123), dG (PySem.Str.ofString "_law_missing") (PySem.Str.ofString "_law_missing") (Tl.topS 124), dG (PySem.Str.ofString "_law_with") (PySem.Str.ofString "_law_with") (Tl.topS 125)]
def fn3 : List He.DefD := [dG (PySem.Str.ofString "_law_sum_due") (PySem.Str.ofString "_law_sum_due") (Tl.topS 126), dG (PySem.Str.ofString "_law_due") (PySem.Str.ofString "_law_due") (Tl.topS 127), dG (PySem.Str.ofString "_law_deed") (PySem.Str.ofString "_law_deed") (Tl.topS 128), dG (PySem.Str.ofString "_law_all_told") (PySem.Str.ofString "_law_all_told") (Tl.topS 129), dG (PySem.Str.ofString "law") (PySem.Str.ofString "law") (Tl.topS 130), dM (PySem.Str.ofString "Desk") (PySem.Str.ofString "__init__") (PySem.Str.ofString "Desk.__init__") (inClass (Tl.topS 95) 0), dM (PySem.Str.ofString "Desk") (PySem.Str.ofString "done") (PySem.Str.ofString "Desk.done") (inClass (Tl.topS 95) 2), dM (PySem.Str.ofString "Desk") (PySem.Str.ofString "moved") (PySem.Str.ofString "Desk.moved") (inClass (Tl.topS 95) 3), dM (PySem.Str.ofString "Desk") (PySem.Str.ofString "laid") (PySem.Str.ofString "Desk.laid") (inClass (Tl.topS 95) 4), dM (PySem.Str.ofString "Desk") (PySem.Str.ofString "of_two") (PySem.Str.ofString "Desk.of_two") (inClass (Tl.topS 95) 5), dM (PySem.Str.ofString "Desk") (PySem.Str.ofString "asked") (PySem.Str.ofString "Desk.asked") (inClass (Tl.topS 95) 7), dM (PySem.Str.ofString "Desk") (PySem.Str.ofString "tell") (PySem.Str.ofString "Desk.tell") (inClass (Tl.topS 95) 1), dM (PySem.Str.ofString "NoName") (PySem.Str.ofString "__init__") (PySem.Str.ofString "NoName.__init__") (inClass (Tl.topS 11) 0)]
def fn : List He.DefD := fn0 ++ fn1 ++ fn2 ++ fn3
def ex0 : List (PySem.W.Frag → Bool) := [(fun K => He.tupB K (PySem.Str.ofString "KINDS") [.str (PySem.Str.ofString "packed"), .str (PySem.Str.ofString "spread")]), (fun K => He.tupB K (PySem.Str.ofString "SIGNS") [.str (PySem.Str.ofString "none"), .str (PySem.Str.ofString "end"), .str (PySem.Str.ofString "tens")]), (fun K => He.tupB K (PySem.Str.ofString "MINUS_HALVES") [.int 11, .int 13]), formsB, readersB, (fun K => oexB K (He.ga K (PySem.Str.ofString "NoName"))), (fun K => decide (PySem.W.exmAny K (.ref (He.ga K (PySem.Str.ofString "Unlike"))) [.ref (He.ga K (PySem.Str.ofString "TooLong")), .ref (He.ga K (PySem.Str.ofString "NoFit"))] = some false)), (fun K => L2.xfB K (He.ga K (PySem.Str.ofString "NoName"))), (fun K => sortB K (PySem.Str.ofString "Unlike")), (fun K => sortB K (PySem.Str.ofString "NoName")), (fun K => ownB K (He.ga K (PySem.Str.ofString "LoftError")))]
def ex : List (PySem.W.Frag → Bool) := ex0
def ts : List He.Tab := [((fun K => He.ga K (PySem.Str.ofString "FORMS")), [(PySem.Str.ofString "keep"), (PySem.Str.ofString "lay"), (PySem.Str.ofString "sum"), (PySem.Str.ofString "less"), (PySem.Str.ofString "times"), (PySem.Str.ofString "over"), (PySem.Str.ofString "move"), (PySem.Str.ofString "turn"), (PySem.Str.ofString "drop"), (PySem.Str.ofString "undo"), (PySem.Str.ofString "again"), (PySem.Str.ofString "names"), (PySem.Str.ofString "show"), (PySem.Str.ofString "bytes"), (PySem.Str.ofString "shape"), (PySem.Str.ofString "order"), (PySem.Str.ofString "look"), (PySem.Str.ofString "twos")]), ((fun K => He.ga K (PySem.Str.ofString "READERS")), [(PySem.Str.ofString "name"), (PySem.Str.ofString "one"), (PySem.Str.ofString "by"), (PySem.Str.ofString "many"), (PySem.Str.ofString "rule")])]
def names0 : List Str := [(PySem.Str.ofString "LoftError"), (PySem.Str.ofString "NoShape"), (PySem.Str.ofString "NoFit"), (PySem.Str.ofString "Wrong"), (PySem.Str.ofString "NoTable"), (PySem.Str.ofString "NoRow"), (PySem.Str.ofString "BadLine"), (PySem.Str.ofString "TooLong"), (PySem.Str.ofString "NoRule"), (PySem.Str.ofString "NoDeed"), (PySem.Str.ofString "NoName"), (PySem.Str.ofString "NoText"), (PySem.Str.ofString "Nought"), (PySem.Str.ofString "Unlike"), (PySem.Str.ofString "NoLine"), (PySem.Str.ofString "NothingDone"), (PySem.Str.ofString "halves_of"), (PySem.Str.ofString "power"), (PySem.Str.ofString "figures_of"), (PySem.Str.ofString "number_by"), (PySem.Str.ofString "digits_by"), (PySem.Str.ofString "KINDS"), (PySem.Str.ofString "SIGNS"), (PySem.Str.ofString "MOST_FIGURES_shapes"), (PySem.Str.ofString "shape"), (PySem.Str.ofString "least_of"), (PySem.Str.ofString "most_of"), (PySem.Str.ofString "folded"), (PySem.Str.ofString "fits"), (PySem.Str.ofString "PLUS_HALF"), (PySem.Str.ofString "MINUS_HALF"), (PySem.Str.ofString "ZONE_HALF"), (PySem.Str.ofString "MINUS_HALVES"), (PySem.Str.ofString "sign_half"), (PySem.Str.ofString "kept_halves"), (PySem.Str.ofString "kept"), (PySem.Str.ofString "halves_in"), (PySem.Str.ofString "duties"), (PySem.Str.ofString "half_right"), (PySem.Str.ofString "caught")]
def names1 : List Str := [(PySem.Str.ofString "number_of"), (PySem.Str.ofString "RULES"), (PySem.Str.ofString "one_more"), (PySem.Str.ofString "rounded"), (PySem.Str.ofString "parted"), (PySem.Str.ofString "FIGURES_texts"), (PySem.Str.ofString "SIGNS_OF_HALVES"), (PySem.Str.ofString "MOST_READ"), (PySem.Str.ofString "written"), (PySem.Str.ofString "is_figures"), (PySem.Str.ofString "parts_of"), (PySem.Str.ofString "parts_of_texts"), (PySem.Str.ofString "told"), (PySem.Str.ofString "hexed"), (PySem.Str.ofString "byte_told"), (PySem.Str.ofString "unhexed"), (PySem.Str.ofString "BYTES"), (PySem.Str.ofString "MOST_BYTES"), (PySem.Str.ofString "hold_many"), (PySem.Str.ofString "signed"), (PySem.Str.ofString "by_twos"), (PySem.Str.ofString "fits_twos"), (PySem.Str.ofString "LETTERS"), (PySem.Str.ofString "FIGURES_desk"), (PySem.Str.ofString "MOST_LETTERS"), (PySem.Str.ofString "MOST_FIGURES_desk"), (PySem.Str.ofString "MOST_DIVIDEND"), (PySem.Str.ofString "MOST_DIVISOR"), (PySem.Str.ofString "FURTHEST"), (PySem.Str.ofString "FORMS"), (PySem.Str.ofString "read_name"), (PySem.Str.ofString "read_whole"), (PySem.Str.ofString "read_by"), (PySem.Str.ofString "read_many"), (PySem.Str.ofString "read_rule"), (PySem.Str.ofString "read_shape"), (PySem.Str.ofString "READERS"), (PySem.Str.ofString "read_part"), (PySem.Str.ofString "parts_of_desk"), (PySem.Str.ofString "only")]
def names2 : List Str := [(PySem.Str.ofString "mark_of"), (PySem.Str.ofString "answer_kept"), (PySem.Str.ofString "hold_like"), (PySem.Str.ofString "order_word"), (PySem.Str.ofString "Desk"), (PySem.Str.ofString "_law_cell"), (PySem.Str.ofString "_law_mixed"), (PySem.Str.ofString "_law_draws"), (PySem.Str.ofString "_law_power"), (PySem.Str.ofString "_law_form"), (PySem.Str.ofString "_law_ends"), (PySem.Str.ofString "_law_wrap"), (PySem.Str.ofString "_law_fits"), (PySem.Str.ofString "_law_figures"), (PySem.Str.ofString "_law_by_halves"), (PySem.Str.ofString "_law_row_with"), (PySem.Str.ofString "_law_laid"), (PySem.Str.ofString "_law_dressed"), (PySem.Str.ofString "_law_number"), (PySem.Str.ofString "_law_sorts"), (PySem.Str.ofString "_law_read_row"), (PySem.Str.ofString "_law_hexed"), (PySem.Str.ofString "_law_written"), (PySem.Str.ofString "_law_words"), (PySem.Str.ofString "_law_name"), (PySem.Str.ofString "_law_names"), (PySem.Str.ofString "_law_pointed"), (PySem.Str.ofString "_law_tell"), (PySem.Str.ofString "_law_answered"), (PySem.Str.ofString "_law_kept_of"), (PySem.Str.ofString "_law_mark"), (PySem.Str.ofString "_law_thing_by"), (PySem.Str.ofString "_law_missing"), (PySem.Str.ofString "_law_with"), (PySem.Str.ofString "_law_sum_due"), (PySem.Str.ofString "_law_due"), (PySem.Str.ofString "_law_deed"), (PySem.Str.ofString "_law_all_told")]
def names : List Str := names0 ++ names1 ++ names2
abbrev R : PySem.W.OpenRow := PySem.W.OpenLaw.row PySem.Challenge.rw_tensloft_k94_whole_desk_as_it_stands
abbrev qv : Program := PySem.W.view R.prog [130]
abbrev hk : PySem.W.Hook := hookY fa fn ts ex
def ob (s : PySem.W.SharedT) : AlY := obsY fa fn ts ex (HandSHeadRun.getT s)
theorem ob_eq (s : PySem.W.SharedT) : ob s = hk.obs s.abs := obsY_eq (HandSHeadRun.getT_eq s)
/-! the run, in two parts: the facts; the defs (less memory at a time) -/
abbrev hk1 : PySem.W.Hook := hookY fa [] ts ex
abbrev hk2 : PySem.W.Hook := hookY [] fn [] []
def ob1 (s : PySem.W.SharedT) : AlY := obsY fa [] ts ex (HandSHeadRun.getT s)
def ob2 (s : PySem.W.SharedT) : AlY := obsY [] fn [] [] (HandSHeadRun.getT s)
theorem run1F (w : World) : HandSHeadRun.RunEq R qv hk1 ob1 20000 names (w.withFollow "special-get-raises" false) := by intro os; kernel_rfl
theorem run1T (w : World) : HandSHeadRun.RunEq R qv hk1 ob1 20000 names (w.withFollow "special-get-raises" true) := by intro os; kernel_rfl
theorem run2F (w : World) : HandSHeadRun.RunEq R qv hk2 ob2 20000 names (w.withFollow "special-get-raises" false) := by intro os; kernel_rfl
theorem run2T (w : World) : HandSHeadRun.RunEq R qv hk2 ob2 20000 names (w.withFollow "special-get-raises" true) := by intro os; kernel_rfl
theorem run1 (w : World) : HandSHeadRun.RunEq R qv hk1 ob1 20000 names w := PySem.W.byRow2 "special-get-raises" (P := fun w => HandSHeadRun.RunEq R qv hk1 ob1 20000 names w) run1F run1T w
theorem run2 (w : World) : HandSHeadRun.RunEq R qv hk2 ob2 20000 names w := PySem.W.byRow2 "special-get-raises" (P := fun w => HandSHeadRun.RunEq R qv hk2 ob2 20000 names w) run2F run2T w
theorem obs_join {fa : List He.Fa} {fn : List He.DefD} {ts : List He.Tab} {ex : List (PySem.W.Frag → Bool)} {w : World} {K : PySem.W.Frag} (h1 : obsK fa [] ts ex K = valY [] ts w) (h2 : obsK [] fn [] [] K = valY fn [] w) : obsK fa fn ts ex K = valY fn ts w := by
  have a1 : ((fa.all fun f => f.ok K) && true) = true := congrArg (fun z : AlY => z.1.1.1) h1
  have a2 : (ts.map fun t => He.dicW K (t.1 K)) = ts.map fun t => some (He.keysIn w.params t.2) := congrArg (fun z : AlY => z.1.2) h1
  have a3 : (ex.all fun f => f K) = true := congrArg (fun z : AlY => z.2) h1
  have a4 : (true && fn.all fun d => d.ok K) = true := congrArg (fun z : AlY => z.1.1.1) h2
  have a5 : (fn.map fun d => He.fnW K d.at_) = fn.map He.DefD.val := congrArg (fun z : AlY => z.1.1.2) h2
  rw [Bool.and_true] at a1
  rw [Bool.true_and] at a4
  have e : ((((fa.all fun f => f.ok K) && fn.all fun d => d.ok K, fn.map fun d => He.fnW K d.at_), ts.map fun t => He.dicW K (t.1 K)), ex.all fun f => f K) = (((true, fn.map He.DefD.val), ts.map fun t => some (He.keysIn w.params t.2)), true) := by
    rw [a1, a2, a3, a4, a5, Bool.and_true]
  exact e
theorem opt_join2 {α β δ γ : Type} {o : Option α} {f : α → β} {f2 : α → δ} {g1 g2 g : α → γ} {b : β} {b2 : δ} {c1 c2 c : γ} (h1 : o.map (fun s => (f s, f2 s, g1 s)) = some (b, b2, c1)) (h2 : o.map (fun s => (f s, f2 s, g2 s)) = some (b, b2, c2)) (h : ∀ s, g1 s = c1 → g2 s = c2 → g s = c) : o.map (fun s => (f s, f2 s, g s)) = some (b, b2, c) := by
  cases o with
  | none => cases h1
  | some s =>
    have e1 := Option.some.inj h1
    have e2 := Option.some.inj h2
    have e3 := Prod.mk.inj e1
    have e4 := Prod.mk.inj e2
    have e5 := Prod.mk.inj e3.2
    have e6 := Prod.mk.inj e4.2
    show some (f s, f2 s, g s) = some (b, b2, c)
    rw [e3.1, e5.1, h s e5.2 e6.2]
theorem run (w : World) : HandSHeadRun.RunEq R qv hk ob 20000 names w := fun os => opt_join2 (run1 w os) (run2 w os) fun s h1 h2 => obs_join (fa := fa) (fn := fn) (ts := ts) (ex := ex) (K := He.frG (HandSHeadRun.getT s) (asY (HandSHeadRun.getT s))) h1 h2
end Hd
set_option maxHeartbeats 200000
/-! T3a: data, what stands for data, states. -/
namespace T3
open PySem L2

inductive D where
  | non | bl (b : Bool) | int (i : Int) | str (x : Str)
  | tup (ds : List D) | lst (ds : List D) | ro (ds : List D) | dct (ks : List Str) (ds : List D)

mutual
inductive Rep (K : PySem.W.Frag) (H : Hp) : D → V → Prop
  | non : Rep K H .non .non
  | bl (b : Bool) : Rep K H (.bl b) (.bl b)
  | int (i : Int) : Rep K H (.int i) (.int i)
  | str (x : Str) : Rep K H (.str x) (.str x)
  | tup {a : Addr} {xs : List V} {ds : List D} : SqT K H a xs → Reps K H ds xs → Rep K H (.tup ds) (.ref a)
  | lst {a : Addr} {xs : List V} {ds : List D} : H a = some (.lst xs) → Reps K H ds xs → Rep K H (.lst ds) (.ref a)
  | ro {a : Addr} {xs : List V} {ds : List D} : SqL K H a xs → Reps K H ds xs → Rep K H (.ro ds) (.ref a)
  | dct {a : Addr} {ws : List (Key × V)} {ks : List Str} {ds : List D} : Rd H a (.dK ws) → ws.map (·.1) = ks.map Sum.inr → Reps K H ds (ws.map (·.2)) → Rep K H (.dct ks ds) (.ref a)
inductive Reps (K : PySem.W.Frag) (H : Hp) : List D → List V → Prop
  | nil : Reps K H [] []
  | cons {d : D} {v : V} {ds : List D} {vs : List V} : Rep K H d v → Reps K H ds vs → Reps K H (d :: ds) (v :: vs)
end

def Ex (H H' : Hp) : Prop := ∀ a o, H a = some o → H' a = some o
theorem Ex.refl (H : Hp) : Ex H H := fun _ _ h => h
theorem Ex.trans {H H1 H2 : Hp} (a : Ex H H1) (b : Ex H1 H2) : Ex H H2 := fun x o h => b x o (a x o h)
theorem Ex.new {H : Hp} {p : Addr} {o : HO} (h : H p = none) : Ex H (upd H p o) := fun a u e => by
  rw [upd_ne (ne_of_none e h)]
  exact e
theorem Ex.back {H H' : Hp} {p : Addr} (e : Ex H H') (h : H' p = none) : H p = none := by
  cases h1 : H p with
  | none => rfl
  | some o =>
    rw [e p o h1] at h
    cases h
theorem Ex.rd {H H' : Hp} {a : Addr} {u : HO} (e : Ex H H') (h : Rd H a u) : Rd H' a u := by
  rcases h with h | ⟨o, h⟩
  · exact Or.inl (e a _ h)
  · exact Or.inr ⟨o, e a _ h⟩
theorem Ex.sl {K : PySem.W.Frag} {H H' : Hp} {a : Addr} {xs : List V} (e : Ex H H') (h : SqL K H a xs) : SqL K H' a xs := by
  rcases h with h | h
  · exact Or.inl (e.rd h)
  · exact Or.inr h
theorem Ex.st {K : PySem.W.Frag} {H H' : Hp} {a : Addr} {xs : List V} (e : Ex H H') (h : SqT K H a xs) : SqT K H' a xs := by
  rcases h with h | h
  · exact Or.inl (e.rd h)
  · exact Or.inr h
mutual
theorem Rep.mono {K : PySem.W.Frag} {H H' : Hp} (e : Ex H H') : ∀ {d : D} {v : V}, Rep K H d v → Rep K H' d v
  | _, _, .non => .non
  | _, _, .bl b => .bl b
  | _, _, .int i => .int i
  | _, _, .str x => .str x
  | _, _, .tup h r => .tup (e.st h) (Reps.mono e r)
  | _, _, .lst h r => .lst (e _ _ h) (Reps.mono e r)
  | _, _, .ro h r => .ro (e.sl h) (Reps.mono e r)
  | _, _, .dct h k r => .dct (e.rd h) k (Reps.mono e r)
theorem Reps.mono {K : PySem.W.Frag} {H H' : Hp} (e : Ex H H') : ∀ {ds : List D} {vs : List V}, Reps K H ds vs → Reps K H' ds vs
  | _, _, .nil => .nil
  | _, _, .cons a b => .cons (Rep.mono e a) (Reps.mono e b)
end
/-- data without objects -/
def flat : D → Bool
  | .non => true | .bl _ => true | .int _ => true | .str _ => true | _ => false
theorem Rep.flat {K : PySem.W.Frag} {H H' : Hp} {d : D} {v : V} (f : flat d = true) (h : Rep K H d v) : Rep K H' d v := by
  cases h with
  | non => exact .non
  | bl b => exact .bl b
  | int i => exact .int i
  | str x => exact .str x
  | _ => exact absurd f (by simp [T3.flat])
theorem Reps.flat {K : PySem.W.Frag} {H H' : Hp} : ∀ {ds : List D} {vs : List V}, ds.all T3.flat = true → Reps K H ds vs → Reps K H' ds vs
  | _, _, _, .nil => .nil
  | _, _, f, .cons a b => by
    rw [List.all_cons, Bool.and_eq_true] at f
    exact .cons (a.flat f.1) (Reps.flat f.2 b)
section
variable {K : PySem.W.Frag} {H : Hp}
theorem Reps.length : ∀ {ds : List D} {vs : List V}, Reps K H ds vs → vs.length = ds.length
  | _, _, .nil => rfl
  | _, _, .cons _ b => by rw [List.length_cons, List.length_cons, b.length]
theorem Reps.get : ∀ {ds : List D} {vs : List V} {i : Nat} {d : D}, Reps K H ds vs → ds[i]? = some d → ∃ v, vs[i]? = some v ∧ Rep K H d v
  | _, _, _, _, .nil, e => by simp at e
  | _, _, 0, _, .cons a _, e => by simp at e; subst e; exact ⟨_, rfl, a⟩
  | _, _, i + 1, _, .cons _ b, e => by
    obtain ⟨v, h1, h2⟩ := b.get (i := i) (by simpa using e)
    exact ⟨v, by simpa using h1, h2⟩
theorem Reps.get' : ∀ {ds : List D} {vs : List V} {i : Nat} {v : V}, Reps K H ds vs → vs[i]? = some v → ∃ d, ds[i]? = some d ∧ Rep K H d v
  | _, _, _, _, .nil, e => by simp at e
  | _, _, 0, _, .cons a _, e => by simp at e; subst e; exact ⟨_, rfl, a⟩
  | _, _, i + 1, _, .cons _ b, e => by
    obtain ⟨v, h1, h2⟩ := b.get' (i := i) (by simpa using e)
    exact ⟨v, by simpa using h1, h2⟩
theorem Reps.append : ∀ {ds es : List D} {vs us : List V}, Reps K H ds vs → Reps K H es us → Reps K H (ds ++ es) (vs ++ us)
  | _, _, _, _, .nil, s => s
  | _, _, _, _, .cons a b, s => .cons a (b.append s)
theorem Reps.one {d : D} {v : V} (h : Rep K H d v) : Reps K H [d] [v] := .cons h .nil
theorem Reps.take : ∀ {ds : List D} {vs : List V} (n : Nat), Reps K H ds vs → Reps K H (ds.take n) (vs.take n)
  | _, _, 0, _ => .nil
  | _, _, _ + 1, .nil => .nil
  | _, _, n + 1, .cons a b => .cons a (Reps.take n b)
theorem Reps.drop : ∀ {ds : List D} {vs : List V} (n : Nat), Reps K H ds vs → Reps K H (ds.drop n) (vs.drop n)
  | _, _, 0, h => h
  | _, _, _ + 1, .nil => .nil
  | _, _, n + 1, .cons _ b => Reps.drop n b
theorem Reps.reverse : ∀ {ds : List D} {vs : List V}, Reps K H ds vs → Reps K H ds.reverse vs.reverse
  | _, _, .nil => .nil
  | _, _, .cons a b => by
    rw [List.reverse_cons, List.reverse_cons]
    exact b.reverse.append (.one a)
theorem Reps.set : ∀ {ds : List D} {vs : List V} (i : Nat) {d : D} {v : V}, Reps K H ds vs → Rep K H d v → Reps K H (ds.set i d) (vs.set i v)
  | _, _, _, _, _, .nil, _ => .nil
  | _, _, 0, _, _, .cons _ b, r => .cons r b
  | _, _, i + 1, _, _, .cons a b, r => .cons a (b.set i r)
theorem Reps.rep {d : D} {v : V} (h : Rep K H d v) : ∀ n : Nat, Reps K H (List.replicate n d) (List.replicate n v)
  | 0 => .nil
  | n + 1 => .cons h (Reps.rep h n)
/-- a function of place by place -/
theorem Reps.ofFn {α : Type} {f : α → D} {g : α → V} (h : ∀ a, Rep K H (f a) (g a)) : ∀ l : List α, Reps K H (l.map f) (l.map g)
  | [] => .nil
  | a :: l => .cons (h a) (Reps.ofFn h l)
theorem Reps.ints (l : List Int) : Reps K H (l.map D.int) (l.map V.int) := Reps.ofFn (fun a => .int a) l
theorem Reps.strs (l : List Str) : Reps K H (l.map D.str) (l.map V.str) := Reps.ofFn (fun a => .str a) l
theorem Reps.ints' : ∀ {l : List Int} {vs : List V}, Reps K H (l.map D.int) vs → vs = l.map V.int
  | [], _, .nil => rfl
  | _ :: _, _, .cons (.int i) b => by rw [Reps.ints' b]; rfl
theorem Reps.strs' : ∀ {l : List Str} {vs : List V}, Reps K H (l.map D.str) vs → vs = l.map V.str
  | [], _, .nil => rfl
  | _ :: _, _, .cons (.str i) b => by rw [Reps.strs' b]; rfl
theorem Reps.bls' : ∀ {l : List Bool} {vs : List V}, Reps K H (l.map D.bl) vs → vs = l.map V.bl
  | [], _, .nil => rfl
  | _ :: _, _, .cons (.bl i) b => by rw [Reps.bls' b]; rfl
end

/-! ### steps of the heap: Hs the part that all may share, H all -/
structure Step (Hs H Hs' H' : Hp) : Prop where
  s : Ex Hs Hs'
  h : Ex H H'
  i : Ex Hs' H'
  n : ∀ a, H a ≠ none → Hs a = none → Hs' a = none
theorem Step.refl {Hs H : Hp} (e : Ex Hs H) : Step Hs H Hs H := ⟨.refl _, .refl _, e, fun _ _ h => h⟩
theorem ne_none_of {H H' : Hp} {a : Addr} (e : Ex H H') (h : H a ≠ none) : H' a ≠ none := fun z => h (e.back z)
theorem Step.trans {Hs H Hs1 H1 Hs2 H2 : Hp} (a : Step Hs H Hs1 H1) (b : Step Hs1 H1 Hs2 H2) : Step Hs H Hs2 H2 :=
  ⟨a.s.trans b.s, a.h.trans b.h, b.i, fun x h1 h2 => b.n x (ne_none_of a.h h1) (a.n x h1 h2)⟩
/-- a new shared object -/
theorem Step.new {Hs H : Hp} {p : Addr} {o : HO} (e : Ex Hs H) (h : H p = none) : Step Hs H (upd Hs p o) (upd H p o) := by
  refine ⟨.new (e.back h), .new h, fun a u ha => ?_, fun a h1 h2 => ?_⟩
  · by_cases q : a = p
    · subst q; rw [upd_same] at ha ⊢; exact ha
    · rw [upd_ne q] at ha ⊢; exact e a u ha
  · have q : a ≠ p := fun z => h1 (z ▸ h)
    rw [upd_ne q]; exact h2
/-- a new object of one's own -/
theorem Step.own {Hs H : Hp} {p : Addr} {o : HO} (e : Ex Hs H) (h : H p = none) : Step Hs H Hs (upd H p o) :=
  ⟨.refl _, .new h, e.trans (.new h), fun _ _ h2 => h2⟩

/-! ### cells of one's own, slots, states -/
structure DeskSt where
  now : D
  past : List D
  undone : List D
inductive Cell where
  | lst (ds : List D) | dct (ks : List Str) (ds : List D) | desk (C : Addr) (s : DeskSt) | gone
inductive Slot where
  | sh (d : D) | cell (j : Nat) | raw (v : V)
abbrev Env3 := List (Option Slot)
abbrev nNames : Str := "names"
abbrev nPast : Str := "past"
abbrev nUndone : Str := "undone"
def CellOk (K : PySem.W.Frag) (Hs H : Hp) : List Addr → Cell → Prop
  | [a], .lst ds => ∃ xs, H a = some (.lst xs) ∧ Reps K Hs ds xs
  | [a], .dct ks ds => ∃ ws, H a = some (.dK ws) ∧ ws.map (·.1) = ks.map Sum.inr ∧ Reps K Hs ds (ws.map (·.2))
  | [x, l1, l2], .desk C s => ∃ (dx : Addr) (vn : V) (xs1 xs2 : List V), H x = some (.ins C dx [(nNames, vn), (nPast, .ref l1), (nUndone, .ref l2)]) ∧ Rep K Hs s.now vn ∧
      H l1 = some (.lst xs1) ∧ Reps K Hs s.past xs1 ∧ H l2 = some (.lst xs2) ∧ Reps K Hs s.undone xs2
  | [], .gone => True
  | _, _ => False
def Cells (K : PySem.W.Frag) (Hs H : Hp) : List (List Addr) → List Cell → Prop
  | [], [] => True
  | f :: fs, c :: cs => CellOk K Hs H f c ∧ Cells K Hs H fs cs
  | _, _ => False
def SlotOk (K : PySem.W.Frag) (Hs : Hp) (fps : List (List Addr)) : Slot → V → Prop
  | .sh d, v => Rep K Hs d v
  | .cell j, v => ∃ a r, fps[j]? = some (a :: r) ∧ v = .ref a
  | .raw u, v => v = u
def Slots (K : PySem.W.Frag) (Hs : Hp) (fps : List (List Addr)) : Env3 → L2.St → Prop
  | [], [] => True
  | none :: ρ, _ :: σ => Slots K Hs fps ρ σ
  | some s :: ρ, some v :: σ => SlotOk K Hs fps s v ∧ Slots K Hs fps ρ σ
  | _, _ => False
structure St (K : PySem.W.Frag) (M : List Cell) (ρ : Env3) (fps : List (List Addr)) (σ : L2.St) (Hs H : Hp) : Prop where
  e : Ex Hs H
  nd : fps.flatten.Nodup
  own : ∀ a ∈ fps.flatten, Hs a = none ∧ H a ≠ none
  cells : Cells K Hs H fps M
  slots : Slots K Hs fps ρ σ
section
variable {K : PySem.W.Frag} {Hs H Hs' H' : Hp}
theorem CellOk.mono (es : Ex Hs Hs') {f : List Addr} {c : Cell} (e : ∀ a ∈ f, H' a = H a) (h : CellOk K Hs H f c) : CellOk K Hs' H' f c := by
  match f, c, h with
  | [a], .lst ds, ⟨xs, h1, h2⟩ => exact ⟨xs, by rw [e a (by simp)]; exact h1, h2.mono es⟩
  | [a], .dct ks ds, ⟨ws, h1, h2, h3⟩ => exact ⟨ws, by rw [e a (by simp)]; exact h1, h2, h3.mono es⟩
  | [x, l1, l2], .desk C s, ⟨dx, vn, xs1, xs2, h1, h2, h3, h4, h5, h6⟩ =>
    exact ⟨dx, vn, xs1, xs2, by rw [e x (by simp)]; exact h1, h2.mono es, by rw [e l1 (by simp)]; exact h3, h4.mono es, by rw [e l2 (by simp)]; exact h5, h6.mono es⟩
  | [], .gone, _ => exact trivial
theorem Cells.mono (es : Ex Hs Hs') : ∀ {fps : List (List Addr)} {M : List Cell}, (∀ a ∈ fps.flatten, H' a = H a) → Cells K Hs H fps M → Cells K Hs' H' fps M
  | [], [], _, _ => trivial
  | f :: fs, c :: cs, e, ⟨h1, h2⟩ => ⟨h1.mono es (fun a ha => e a (by simp [ha])), Cells.mono es (fun a ha => e a (by rw [List.flatten_cons]; exact List.mem_append_right _ ha)) h2⟩
  | [], _ :: _, _, h => h.elim
  | _ :: _, [], _, h => h.elim
theorem SlotOk.mono (es : Ex Hs Hs') {fps : List (List Addr)} : ∀ {s : Slot} {v : V}, SlotOk K Hs fps s v → SlotOk K Hs' fps s v
  | .sh _, _, h => Rep.mono es h
  | .cell _, _, h => h
  | .raw _, _, h => h
theorem Slots.mono (es : Ex Hs Hs') {fps : List (List Addr)} : ∀ {ρ : Env3} {σ : L2.St}, Slots K Hs fps ρ σ → Slots K Hs' fps ρ σ
  | [], [], _ => trivial
  | none :: ρ, _ :: σ, h => Slots.mono (ρ := ρ) (σ := σ) es h
  | some _ :: _, some _ :: _, ⟨h1, h2⟩ => ⟨h1.mono es, Slots.mono es h2⟩
  | [], _ :: _, h => h.elim
  | none :: _, [], h => h.elim
  | some _ :: _, [], h => h.elim
  | some _ :: _, none :: _, h => h.elim
theorem ex_eq {a : Addr} (e : Ex H H') (h : H a ≠ none) : H' a = H a := by
  cases q : H a with
  | none => exact absurd q h
  | some o => exact e a o q
theorem St.step {M : List Cell} {ρ : Env3} {fps : List (List Addr)} {σ : L2.St} (h : St K M ρ fps σ Hs H) (s : Step Hs H Hs' H') : St K M ρ fps σ Hs' H' :=
  ⟨s.i, h.nd, fun a ha => ⟨s.n a (h.own a ha).2 (h.own a ha).1, ne_none_of s.h (h.own a ha).2⟩, h.cells.mono s.s fun a ha => ex_eq s.h (h.own a ha).2, h.slots.mono s.s⟩
theorem Slots.length : ∀ {fps : List (List Addr)} {ρ : Env3} {σ : L2.St}, Slots K Hs fps ρ σ → σ.length = ρ.length
  | _, [], [], _ => rfl
  | _, none :: ρ, _ :: σ, h => by
    rw [List.length_cons, List.length_cons, Slots.length (ρ := ρ) (σ := σ) h]
  | _, some _ :: _, some _ :: _, ⟨_, h2⟩ => by rw [List.length_cons, List.length_cons, h2.length]
  | _, [], _ :: _, h => h.elim
  | _, none :: _, [], h => h.elim
  | _, some _ :: _, [], h => h.elim
  | _, some _ :: _, none :: _, h => h.elim
theorem Slots.get {fps : List (List Addr)} : ∀ {ρ : Env3} {σ : L2.St} {i : Nat} {s : Slot}, Slots K Hs fps ρ σ → ρ[i]? = some (some s) → ∃ v, σ[i]? = some (some v) ∧ SlotOk K Hs fps s v
  | [], [], _, _, _, e => by simp at e
  | none :: _, _ :: _, 0, _, _, e => by simp at e
  | none :: ρ, _ :: σ, i + 1, _, h, e => by
    obtain ⟨v, h1, h2⟩ := Slots.get (i := i) (ρ := ρ) (σ := σ) h (by simpa using e)
    exact ⟨v, by simpa using h1, h2⟩
  | some _ :: _, some v :: _, 0, _, ⟨h1, _⟩, e => by simp at e; subst e; exact ⟨v, rfl, h1⟩
  | some _ :: ρ, some _ :: σ, i + 1, _, ⟨_, h⟩, e => by
    obtain ⟨v, h1, h2⟩ := Slots.get (i := i) (ρ := ρ) (σ := σ) h (by simpa using e)
    exact ⟨v, by simpa using h1, h2⟩
  | [], _ :: _, _, _, h, _ => h.elim
  | none :: _, [], _, _, h, _ => h.elim
  | some _ :: _, [], _, _, h, _ => h.elim
  | some _ :: _, none :: _, _, _, h, _ => h.elim
theorem Slots.set {fps : List (List Addr)} : ∀ {ρ : Env3} {σ : L2.St} (i : Nat) {s : Slot} {v : V}, Slots K Hs fps ρ σ → SlotOk K Hs fps s v → Slots K Hs fps (ρ.set i (some s)) (σ.set i (some v))
  | [], [], _, _, _, _, _ => trivial
  | none :: _, _ :: _, 0, _, _, h, r => ⟨r, h⟩
  | none :: ρ, _ :: σ, i + 1, _, _, h, r => Slots.set i (ρ := ρ) (σ := σ) h r
  | some _ :: _, some _ :: _, 0, _, _, ⟨_, h⟩, r => ⟨r, h⟩
  | some _ :: _, some _ :: _, i + 1, _, _, ⟨h1, h⟩, r => ⟨h1, Slots.set i h r⟩
  | [], _ :: _, _, _, _, h, _ => h.elim
  | none :: _, [], _, _, _, h, _ => h.elim
  | some _ :: _, [], _, _, _, h, _ => h.elim
  | some _ :: _, none :: _, _, _, _, h, _ => h.elim
/-- ρ' knows what ρ knows (and perhaps less) -/
def Wk : Env3 → Env3 → Prop
  | [], [] => True
  | none :: ρ', _ :: ρ => Wk ρ' ρ
  | some s' :: ρ', some s :: ρ => s' = s ∧ Wk ρ' ρ
  | _, _ => False
theorem Wk.refl : ∀ ρ : Env3, Wk ρ ρ
  | [] => trivial
  | none :: ρ => show Wk ρ ρ from Wk.refl ρ
  | some _ :: ρ => ⟨rfl, Wk.refl ρ⟩
theorem Slots.weak {fps : List (List Addr)} : ∀ {ρ' ρ : Env3} {σ : L2.St}, Wk ρ' ρ → Slots K Hs fps ρ σ → Slots K Hs fps ρ' σ
  | [], [], [], _, _ => trivial
  | none :: ρ', none :: ρ, _ :: σ, w, h => Slots.weak (ρ' := ρ') (ρ := ρ) (σ := σ) w h
  | none :: ρ', some _ :: ρ, some _ :: σ, w, ⟨_, h⟩ => Slots.weak (ρ' := ρ') (ρ := ρ) (σ := σ) w h
  | some _ :: _, some _ :: _, some _ :: _, ⟨e, w⟩, ⟨h1, h⟩ => by
    subst e
    exact ⟨h1, Slots.weak w h⟩
  | [], _ :: _, _, w, _ => w.elim
  | none :: _, [], _, w, _ => w.elim
  | some _ :: _, [], _, w, _ => w.elim
  | some _ :: _, none :: _, _, w, _ => w.elim
  | [], [], _ :: _, _, h => h.elim
  | none :: _, none :: _, [], _, h => h.elim
  | none :: _, some _ :: _, [], _, h => h.elim
  | none :: _, some _ :: _, none :: _, _, h => h.elim
  | some _ :: _, some _ :: _, [], _, h => h.elim
  | some _ :: _, some _ :: _, none :: _, _, h => h.elim
end
end T3
/-! T3b: the judgements; expressions. -/
namespace T3
open PySem L2

/-! ### the widest readings -/
def wE (X : Cx) (e : Expr) : TE := fun σ H Q => ∀ pins s, Inv X pins σ H s → wpAny (model X.prog X.w) X.A (eval e X.env) (EP X pins σ Q) X.xe s
def wT (X : Cx) (e : Expr) : TT := fun σ H Q => ∀ pins s, Inv X pins σ H s → wpAny (model X.prog X.w) X.A (isTrue e X.env (eval e X.env)) (TP X pins σ Q) X.xe s
def wA (X : Cx) (es : List Expr) : TA := fun σ H Q => ∀ pos pins s, Inv X pins σ H s → wpAny (model X.prog X.w) X.A (spliced (backTo pos (starEach es X.env))) (AP X pins σ Q) X.xe s
def wS (X : Cx) (st : Stmt) : TS := fun D σ H => ∀ pins s, Inv X pins σ H s → wpAny (model X.prog X.w) X.A (exec st X.env) (SP X pins D) X.xe s
def wSs (X : Cx) (sts : List Stmt) : TS := fun D σ H => ∀ pins s, Inv X pins σ H s → wpAny (model X.prog X.w) X.A (execs sts X.env) (SP X pins D) X.xe s
section
variable {X : Cx} {e : Expr} {es : List Expr} {st : Stmt} {sts : List Stmt} {σ : L2.St} {H : Hp}
theorem pe_w : PE X e (wE X e) := ⟨fun pins s σ H Q I h => h pins s I⟩
theorem pt_w : PT X e (wT X e) := ⟨fun pins s σ H Q I h => h pins s I⟩
theorem pa_w : PA X es (wA X es) := ⟨fun pos pins s σ H Q I h => h pos pins s I⟩
theorem ps_w : PS X st (wS X st) := ⟨fun pins s σ H D I h => h pins s I⟩
theorem pss_w : PSs X sts (wSs X sts) := ⟨fun pins s σ H D I h => h pins s I⟩
theorem wE_of {t : TE} {Q : VK} (h : PE X e t) (q : t σ H Q) : wE X e σ H Q := fun pins s I => h.run pins s σ H Q I q
theorem wT_of {t : TT} {Q : Bool → Hp → Prop} (h : PT X e t) (q : t σ H Q) : wT X e σ H Q := fun pins s I => h.run pins s σ H Q I q
theorem wA_of {t : TA} {Q : List V → Hp → Prop} (h : PA X es t) (q : t σ H Q) : wA X es σ H Q := fun pos pins s I => h.run pos pins s σ H Q I q
theorem wS_of {t : TS} {D : Ends} (h : PS X st t) (q : t D σ H) : wS X st D σ H := fun pins s I => h.run pins s σ H D I q
theorem wSs_of {t : TS} {D : Ends} (h : PSs X sts t) (q : t D σ H) : wSs X sts D σ H := fun pins s I => h.run pins s σ H D I q
theorem wE_mono {Q Q' : VK} (h : wE X e σ H Q) (k : ∀ v H', Q v H' → Q' v H') : wE X e σ H Q' := fun pins s I =>
  thn (h pins s I) fun u s' ⟨v, H', I', r, q⟩ => ⟨v, H', I', r, k v H' q⟩
theorem wT_mono {Q Q' : Bool → Hp → Prop} (h : wT X e σ H Q) (k : ∀ v H', Q v H' → Q' v H') : wT X e σ H Q' := fun pins s I =>
  thn (h pins s I) fun u s' ⟨H', I', q⟩ => ⟨H', I', k u H' q⟩
theorem wA_mono {Q Q' : List V → Hp → Prop} (h : wA X es σ H Q) (k : ∀ v H', Q v H' → Q' v H') : wA X es σ H Q' := fun pos pins s I =>
  thn (h pos pins s I) fun u s' ⟨v, H', I', r, q⟩ => ⟨v, H', I', r, k v H' q⟩
theorem SP_mono {pins : List (Addr × Obj)} {D D' : Ends} (h1 : ∀ σ H, D.nx σ H → D'.nx σ H) (h2 : ∀ v H, D.rt v H → D'.rt v H) (h3 : ∀ σ H, D.bk σ H → D'.bk σ H) (h4 : ∀ σ H, D.ct σ H → D'.ct σ H) :
    ∀ f s, SP X pins D f s → SP X pins D' f s := by
  intro f s h
  cases f with
  | next => obtain ⟨σ', H', I, q⟩ := h; exact ⟨σ', H', I, h1 _ _ q⟩
  | brk => obtain ⟨σ', H', I, q⟩ := h; exact ⟨σ', H', I, h3 _ _ q⟩
  | cont => obtain ⟨σ', H', I, q⟩ := h; exact ⟨σ', H', I, h4 _ _ q⟩
  | ret u => obtain ⟨v, σ', H', I, r, q⟩ := h; exact ⟨v, σ', H', I, r, h2 _ _ q⟩
theorem wS_mono {D D' : Ends} (h : wS X st D σ H) (h1 : ∀ σ H, D.nx σ H → D'.nx σ H) (h2 : ∀ v H, D.rt v H → D'.rt v H) (h3 : ∀ σ H, D.bk σ H → D'.bk σ H) (h4 : ∀ σ H, D.ct σ H → D'.ct σ H) : wS X st D' σ H :=
  fun pins s I => thn (h pins s I) (SP_mono h1 h2 h3 h4)
theorem wSs_mono {D D' : Ends} (h : wSs X sts D σ H) (h1 : ∀ σ H, D.nx σ H → D'.nx σ H) (h2 : ∀ v H, D.rt v H → D'.rt v H) (h3 : ∀ σ H, D.bk σ H → D'.bk σ H) (h4 : ∀ σ H, D.ct σ H → D'.ct σ H) : wSs X sts D' σ H :=
  fun pins s I => thn (h pins s I) (SP_mono h1 h2 h3 h4)
end

/-! ### the anchor: the def's entry -/
structure Anc where
  fps : List (List Addr)
  Hs : Hp
  H : Hp
structure StepA (A : Anc) (fps : List (List Addr)) (Hs H : Hp) : Prop where
  s : Ex A.Hs Hs
  f : ∀ a o, A.H a = some o → a ∉ A.fps.flatten → H a = some o
  n : ∀ a, A.H a ≠ none → a ∉ A.fps.flatten → A.Hs a = none → Hs a = none
  w : ∀ a ∈ fps.flatten, a ∈ A.fps.flatten ∨ A.H a = none
  hd : ∀ (j : Nat) (f : List Addr), A.fps[j]? = some f → ∃ f', fps[j]? = some f' ∧ (f' = [] ∨ (f ≠ [] ∧ f'.head? = f.head?))
theorem StepA.step {A : Anc} {fps : List (List Addr)} {Hs H Hs' H' : Hp} (h : StepA A fps Hs H) (s : Step Hs H Hs' H') : StepA A fps Hs' H' :=
  ⟨h.s.trans s.s, fun a o h1 h2 => s.h a o (h.f a o h1 h2), fun a h1 h2 h3 => s.n a (fun z => by
    cases q : A.H a with
    | none => exact h1 q
    | some o => rw [h.f a o q h2] at z; cases z) (h.n a h1 h2 h3), h.w, h.hd⟩
structure StA (K : PySem.W.Frag) (A : Anc) (M : List Cell) (ρ : Env3) (fps : List (List Addr)) (σ : L2.St) (Hs H : Hp) : Prop where
  st : St K M ρ fps σ Hs H
  an : StepA A fps Hs H
section
variable {K : PySem.W.Frag} {A : Anc} {M : List Cell} {ρ ρ' : Env3} {fps : List (List Addr)} {σ σ' : L2.St} {Hs H Hs' H' : Hp}
theorem StA.step (h : StA K A M ρ fps σ Hs H) (s : Step Hs H Hs' H') : StA K A M ρ fps σ Hs' H' := ⟨h.st.step s, h.an.step s⟩
theorem StA.slots (h : StA K A M ρ fps σ Hs H) (q : Slots K Hs fps ρ' σ') : StA K A M ρ' fps σ' Hs H := ⟨⟨h.st.e, h.st.nd, h.st.own, h.st.cells, q⟩, h.an⟩
theorem StA.bare (h : StA K A M ρ fps σ Hs H) : StA K A M [] fps [] Hs H := h.slots trivial
end

/-! ### facts of the context -/
structure XF (X : Cx) (N : List Str) (sc : Scope) (P : Program) (w : World) (K : PySem.W.Frag) (mg : Str → Option Value) (base : Heap) (k : Nat) : Prop where
  eN : X.N = N
  eS : X.env.scope = sc
  eP : X.prog = P
  ew : X.w = w
  eK : X.K = K
  em : X.mg = mg
  eb : X.base = base
  calm : X.calm = true
  rm : Room k X.A
  nd : N.Nodup

/-! a call's arguments, none starred -/
def isStar : Expr → Bool
  | .Starred .. => true
  | _ => false
theorem star_cons {e : Expr} {es : List Expr} {env : Env} (h : isStar e = false) : starEach (e :: es) env = (false, eval e env) :: starEach es env := by
  cases e <;> first | rfl | cases h
theorem star_plain {pos : Pos} {env : Env} : ∀ {es : List Expr}, (es.all fun e => !isStar e) = true → (backTo pos (starEach es env)).any (·.1) = false
  | [], _ => rfl
  | e :: es, h => by
    rw [List.all_cons, Bool.and_eq_true] at h
    rw [star_cons (by simpa using h.1)]
    show (false || (backTo pos (starEach es env)).any (·.1)) = false
    rw [star_plain h.2]; rfl
theorem star_few {pos : Pos} {env : Env} {e : Expr} (h : isStar e = false) : ((backTo pos (starEach [e] env)).all (fun x => !x.1) && (backToKw pos (keywordEach [] env)).all (fun x => x.1.isSome) && decide (([e] : List Expr).length + ([] : List Keyword).length + (if ([] : List Keyword).isEmpty then 0 else 1) < 30)) = true := by
  rw [star_cons h]; rfl
/-! ### the judgements -/
structure ED (X : Cx) (K : PySem.W.Frag) (A : Anc) (M : List Cell) (ρ : Env3) (e : Expr) (d : D) : Prop where
  mk ::
  run : ∀ fps σ Hs H, StA K A M ρ fps σ Hs H → wE X e σ H fun v H' => ∃ Hs', Step Hs H Hs' H' ∧ Rep K Hs' d v
instance {X : Cx} {K : PySem.W.Frag} {A : Anc} {M : List Cell} {ρ : Env3} {e : Expr} {d : D} : CoeFun (ED X K A M ρ e d) (fun _ => ∀ fps σ Hs H, StA K A M ρ fps σ Hs H → wE X e σ H fun v H' => ∃ Hs', Step Hs H Hs' H' ∧ Rep K Hs' d v) := ⟨ED.run⟩
structure ET (X : Cx) (K : PySem.W.Frag) (A : Anc) (M : List Cell) (ρ : Env3) (e : Expr) (b : Bool) : Prop where
  mk ::
  run : ∀ fps σ Hs H, StA K A M ρ fps σ Hs H → wT X e σ H fun c H' => c = b ∧ ∃ Hs', Step Hs H Hs' H'
instance {X : Cx} {K : PySem.W.Frag} {A : Anc} {M : List Cell} {ρ : Env3} {e : Expr} {b : Bool} : CoeFun (ET X K A M ρ e b) (fun _ => ∀ fps σ Hs H, StA K A M ρ fps σ Hs H → wT X e σ H fun c H' => c = b ∧ ∃ Hs', Step Hs H Hs' H') := ⟨ET.run⟩
/-- a test of and, or, whatever its whole is -/
def wW (X : Cx) (e : Expr) : TT := fun σ H Q => ∀ whole pins s, Inv X pins σ H s → wpAny (model X.prog X.w) X.A (isTrue e X.env whole) (TP X pins σ Q) X.xe s
theorem pw_w {X : Cx} {e : Expr} : PW X e (wW X e) := ⟨fun wh pins s σ H Q I h => h wh pins s I⟩
theorem wW_of {X : Cx} {e : Expr} {σ : L2.St} {H : Hp} {t : TT} {Q : Bool → Hp → Prop} (h : PW X e t) (q : t σ H Q) : wW X e σ H Q := fun wh pins s I => h.run wh pins s σ H Q I q
structure EW (X : Cx) (K : PySem.W.Frag) (A : Anc) (M : List Cell) (ρ : Env3) (e : Expr) (b : Bool) : Prop where
  mk ::
  run : ∀ fps σ Hs H, StA K A M ρ fps σ Hs H → wW X e σ H fun c H' => c = b ∧ ∃ Hs', Step Hs H Hs' H'
instance {X : Cx} {K : PySem.W.Frag} {A : Anc} {M : List Cell} {ρ : Env3} {e : Expr} {b : Bool} : CoeFun (EW X K A M ρ e b) (fun _ => ∀ fps σ Hs H, StA K A M ρ fps σ Hs H → wW X e σ H fun c H' => c = b ∧ ∃ Hs', Step Hs H Hs' H') := ⟨EW.run⟩
structure EDs (X : Cx) (K : PySem.W.Frag) (A : Anc) (M : List Cell) (ρ : Env3) (es : List Expr) (ds : List D) : Prop where
  mk ::
  run : ∀ fps σ Hs H, StA K A M ρ fps σ Hs H → wA X es σ H fun vs H' => ∃ Hs', Step Hs H Hs' H' ∧ Reps K Hs' ds vs
instance {X : Cx} {K : PySem.W.Frag} {A : Anc} {M : List Cell} {ρ : Env3} {es : List Expr} {ds : List D} : CoeFun (EDs X K A M ρ es ds) (fun _ => ∀ fps σ Hs H, StA K A M ρ fps σ Hs H → wA X es σ H fun vs H' => ∃ Hs', Step Hs H Hs' H' ∧ Reps K Hs' ds vs) := ⟨EDs.run⟩
/-- the same with the data told by all that stands: for what isn't kept -/
structure EDT (X : Cx) (K : PySem.W.Frag) (A : Anc) (M : List Cell) (ρ : Env3) (e : Expr) (d : D) : Prop where
  mk ::
  run : ∀ fps σ Hs H, StA K A M ρ fps σ Hs H → wE X e σ H fun v H' => ∃ Hs', Step Hs H Hs' H' ∧ Rep K H' d v
instance {X : Cx} {K : PySem.W.Frag} {A : Anc} {M : List Cell} {ρ : Env3} {e : Expr} {d : D} : CoeFun (EDT X K A M ρ e d) (fun _ => ∀ fps σ Hs H, StA K A M ρ fps σ Hs H → wE X e σ H fun v H' => ∃ Hs', Step Hs H Hs' H' ∧ Rep K H' d v) := ⟨EDT.run⟩
structure EDTs (X : Cx) (K : PySem.W.Frag) (A : Anc) (M : List Cell) (ρ : Env3) (es : List Expr) (ds : List D) : Prop where
  mk ::
  run : ∀ fps σ Hs H, StA K A M ρ fps σ Hs H → wA X es σ H fun vs H' => ∃ Hs', Step Hs H Hs' H' ∧ Reps K H' ds vs
instance {X : Cx} {K : PySem.W.Frag} {A : Anc} {M : List Cell} {ρ : Env3} {es : List Expr} {ds : List D} : CoeFun (EDTs X K A M ρ es ds) (fun _ => ∀ fps σ Hs H, StA K A M ρ fps σ Hs H → wA X es σ H fun vs H' => ∃ Hs', Step Hs H Hs' H' ∧ Reps K H' ds vs) := ⟨EDTs.run⟩
/-- a cell of one's own by its name -/
structure EC (X : Cx) (K : PySem.W.Frag) (A : Anc) (M : List Cell) (ρ : Env3) (e : Expr) (j : Nat) : Prop where
  mk ::
  run : ∀ fps σ Hs H, StA K A M ρ fps σ Hs H → wE X e σ H fun v H' => H' = H ∧ ∃ a r, fps[j]? = some (a :: r) ∧ v = .ref a
instance {X : Cx} {K : PySem.W.Frag} {A : Anc} {M : List Cell} {ρ : Env3} {e : Expr} {j : Nat} : CoeFun (EC X K A M ρ e j) (fun _ => ∀ fps σ Hs H, StA K A M ρ fps σ Hs H → wE X e σ H fun v H' => H' = H ∧ ∃ a r, fps[j]? = some (a :: r) ∧ v = .ref a) := ⟨EC.run⟩
/-- a new list of one's own -/
structure EF (X : Cx) (K : PySem.W.Frag) (A : Anc) (M : List Cell) (ρ : Env3) (e : Expr) (ds : List D) : Prop where
  mk ::
  run : ∀ fps σ Hs H, StA K A M ρ fps σ Hs H → wE X e σ H fun v H' => ∃ Hs' p xs, Step Hs H Hs' H' ∧ v = .ref p ∧ H p = none ∧ Hs' p = none ∧ H' p = some (.lst xs) ∧ Reps K Hs' ds xs
instance {X : Cx} {K : PySem.W.Frag} {A : Anc} {M : List Cell} {ρ : Env3} {e : Expr} {ds : List D} : CoeFun (EF X K A M ρ e ds) (fun _ => ∀ fps σ Hs H, StA K A M ρ fps σ Hs H → wE X e σ H fun v H' => ∃ Hs' p xs, Step Hs H Hs' H' ∧ v = .ref p ∧ H p = none ∧ Hs' p = none ∧ H' p = some (.lst xs) ∧ Reps K Hs' ds xs) := ⟨EF.run⟩

/-- a two-place operation on data -/
def OpS (f : Value → Value → Sem Value) (K : PySem.W.Frag) (k : Nat) (d1 d2 d : D) : Prop :=
  ∀ X : Cx, X.K = K → X.calm = true → Room k X.A → ∃ r : R2, OpR X f r ∧ ∀ (Hs H : Hp) (v1 v2 : V) (Q : VK), Ex Hs H → Rep K Hs d1 v1 → Rep K Hs d2 v2 →
    (∀ v Hs' H', Step Hs H Hs' H' → Rep K Hs' d v → Q v H') → r v1 v2 H Q
def IxS (K : PySem.W.Frag) (d1 d2 d : D) : Prop :=
  ∀ X : Cx, X.K = K → ∃ r : R2, IxR X r ∧ ∀ (Hs H : Hp) (v1 v2 : V) (Q : VK), Ex Hs H → Rep K Hs d1 v1 → Rep K Hs d2 v2 →
    (∀ v Hs' H', Step Hs H Hs' H' → Rep K Hs' d v → Q v H') → r v1 v2 H Q
/-- a one-place operation -/
def UnS (f : Value → Sem Value) (d1 d : D) : Prop :=
  ∀ X : Cx, ∃ r : V → Hp → VK → Prop, UnR X f r ∧ ∀ (K : PySem.W.Frag) (Hs H : Hp) (v1 : V) (Q : VK), Ex Hs H → Rep K Hs d1 v1 → (∀ v Hs' H', Step Hs H Hs' H' → Rep K Hs' d v → Q v H') → r v1 H Q
/-- a call of a value that is known -/
def CallS (f : Value) (K : PySem.W.Frag) (k : Nat) (ds : List D) (d : D) : Prop :=
  ∀ X : Cx, X.K = K → X.calm = true → Room k X.A → ∃ r : List V → Hp → VK → Prop, CallR X f r ∧ ∀ (Hs H : Hp) (vs : List V) (Q : VK), Ex Hs H → Reps K Hs ds vs →
    (∀ v Hs' H', Step Hs H Hs' H' → Rep K Hs' d v → Q v H') → r vs H Q

section
variable {X : Cx} {N : List Str} {sc : Scope} {P : Program} {w : World} {K : PySem.W.Frag} {mg : Str → Option Value} {base : Heap} {k : Nat}
variable {A : Anc} {M : List Cell} {ρ : Env3} {a b c e : Expr} {es : List Expr} {d d1 d2 d3 : D} {ds : List D} {pos p p2 : Pos}

theorem XF.vis (hX : XF X N sc P w K mg base k) {x : Str} (h : Vis sc x) : Vis X.env.scope x := by rw [hX.eS]; exact h
theorem XF.loc (hX : XF X N sc P w K mg base k) {x : Str} (h : Loc sc x) : Loc X.env.scope x := by rw [hX.eS]; exact h
def GlS (sc : Scope) (x : Str) : Prop := sc.names.lookup x = some .globalImplicit
theorem XF.gl (hX : XF X N sc P w K mg base k) {x : Str} (h : GlS sc x) : Gl X x := by
  show X.env.scope.names.lookup x = _
  rw [hX.eS]; exact h
theorem XF.sto (hX : XF X N sc P w K mg base k) (hF : ∀ x, X.fn x = true) {x : Str} (h : Loc sc x) : X.fn x = true ∨ X.env.scope.names.lookup x = some .local := .inl (hF x)

/-! names, constants -/
theorem ed_var (hX : XF X N sc P w K mg base k) (i : Nat) {x : Str} (hN : N[i]? = some x) (hr : ρ[i]? = some (some (.sh d))) (hv : Vis sc x := by first | exact Or.inl rfl | exact Or.inr (Or.inl rfl) | exact Or.inr (Or.inr rfl))
    (hd : (x == ("__debug__" : Str)) = false := by decide +kernel) (hcd : (x == ("__classdict__" : Str)) = false := by decide +kernel) : ED X K A M ρ (.Name x pos) d := .mk fun fps σ Hs H h => by
  obtain ⟨v, h1, h2⟩ := h.st.slots.get hr
  refine wE_of (pe_var (i := i) (by rw [hX.eN]; exact hN) (hX.vis hv) hd hcd) ⟨v, h1, Hs, .refl h.st.e, h2⟩
theorem ec_var (hX : XF X N sc P w K mg base k) (i : Nat) {x : Str} {j : Nat} (hN : N[i]? = some x) (hr : ρ[i]? = some (some (.cell j))) (hv : Vis sc x := by first | exact Or.inl rfl | exact Or.inr (Or.inl rfl) | exact Or.inr (Or.inr rfl))
    (hd : (x == ("__debug__" : Str)) = false := by decide +kernel) (hcd : (x == ("__classdict__" : Str)) = false := by decide +kernel) : EC X K A M ρ (.Name x pos) j := .mk fun fps σ Hs H h => by
  obtain ⟨v, h1, h2⟩ := h.st.slots.get hr
  exact wE_of (pe_var (i := i) (by rw [hX.eN]; exact hN) (hX.vis hv) hd hcd) ⟨v, h1, rfl, h2⟩
theorem ed_int {i : Int} {j : Nat} : ED X K A M ρ (.Constant (.int i) j pos) (.int i) := .mk fun fps σ Hs H h => wE_of pe_int ⟨Hs, .refl h.st.e, .int i⟩
theorem ed_bl {i : Bool} {j : Nat} : ED X K A M ρ (.Constant (.bool i) j pos) (.bl i) := .mk fun fps σ Hs H h => wE_of pe_bl ⟨Hs, .refl h.st.e, .bl i⟩
theorem ed_non {j : Nat} : ED X K A M ρ (.Constant .none j pos) .non := .mk fun fps σ Hs H h => wE_of pe_non ⟨Hs, .refl h.st.e, .non⟩
theorem ed_str {i : Str} {j : Nat} : ED X K A M ρ (.Constant (.str i) j pos) (.str i) := .mk fun fps σ Hs H h => wE_of pe_str ⟨Hs, .refl h.st.e, .str i⟩
/-- a constant of the module -/
def GC (K : PySem.W.Frag) (mg : Str → Option Value) (x : Str) (d : D) : Prop := ∃ u v, mg x = some u ∧ RelV v u ∧ ∀ H, Rep K H d v
theorem ed_glob (hX : XF X N sc P w K mg base k) {x : Str} (g : GC K mg x d) (hg : GlS sc x := by rfl) (hd : (x == ("__debug__" : Str)) = false := by decide +kernel) : ED X K A M ρ (.Name x pos) d := .mk fun fps σ Hs H h => by
  obtain ⟨u, v, h1, h2, h3⟩ := g
  exact wE_of (pe_glob (hX.gl hg) (by rw [hX.em]; exact h1) h2 hd) ⟨Hs, .refl h.st.e, h3 Hs⟩

/-! operators -/
theorem ed_bin (hX : XF X N sc P w K mg base k) {op : Operator} (ha : ED X K A M ρ a d1) (hb : ED X K A M ρ b d2) (ho : OpS (binaryOp op) K k d1 d2 d) : ED X K A M ρ (.BinOp a op b pos) d := .mk fun fps σ Hs H h => by
  obtain ⟨r, hr, q⟩ := ho X hX.eK hX.calm hX.rm
  refine wE_of (pe_op hr pe_w pe_w) ?_
  refine wE_mono (ha _ _ _ _ h) fun x H1 ⟨Hs1, s1, r1⟩ => ?_
  refine wE_mono (hb _ _ _ _ (h.step s1)) fun y H2 ⟨Hs2, s2, r2⟩ => ?_
  exact q Hs2 H2 x y _ s2.i (r1.mono s2.s) r2 fun v Hs' H' s3 r3 => ⟨Hs', (s1.trans s2).trans s3, r3⟩
theorem ed_un (hX : XF X N sc P w K mg base k) {op : UnaryOp} (ha : ED X K A M ρ a d1) (ho : UnS (unaryOp op) d1 d) : ED X K A M ρ (.UnaryOp op a pos) d := .mk fun fps σ Hs H h => by
  obtain ⟨r, hr, q⟩ := ho X
  refine wE_of (pe_un hr pe_w) ?_
  refine wE_mono (ha _ _ _ _ h) fun x H1 ⟨Hs1, s1, r1⟩ => ?_
  exact q K Hs1 H1 x _ s1.i r1 fun v Hs' H' s3 r3 => ⟨Hs', s1.trans s3, r3⟩
theorem ed_cmp (hX : XF X N sc P w K mg base k) {op : CmpOp} (ha : ED X K A M ρ a d1) (hb : ED X K A M ρ b d2) (ho : OpS (compareOp op) K k d1 d2 d) (hm : behindInMarks op b = false := by first | rfl | exact nomark _) : ED X K A M ρ (.Compare a [op] [b] pos) d := .mk fun fps σ Hs H h => by
  obtain ⟨r, hr, q⟩ := ho X hX.eK hX.calm hX.rm
  refine wE_of (pe_cmpR hr pe_w pe_w hm) ?_
  refine wE_mono (ha _ _ _ _ h) fun x H1 ⟨Hs1, s1, r1⟩ => ?_
  refine wE_mono (hb _ _ _ _ (h.step s1)) fun y H2 ⟨Hs2, s2, r2⟩ => ?_
  exact q Hs2 H2 x y _ s2.i (r1.mono s2.s) r2 fun v Hs' H' s3 r3 => ⟨Hs', (s1.trans s2).trans s3, r3⟩
theorem et_cmp (hX : XF X N sc P w K mg base k) {op : CmpOp} {t : Bool} (ha : ED X K A M ρ a d1) (hb : ED X K A M ρ b d2) (ho : OpS (compareOp op) K k d1 d2 (.bl t)) (hm : behindInMarks op b = false := by first | rfl | exact nomark _) : ET X K A M ρ (.Compare a [op] [b] pos) t := .mk fun fps σ Hs H h => by
  obtain ⟨r, hr, q⟩ := ho X hX.eK hX.calm hX.rm
  refine wT_of (pt_cmpR hr pe_w pe_w hm) ?_
  refine wE_mono (ha _ _ _ _ h) fun x H1 ⟨Hs1, s1, r1⟩ => ?_
  refine wE_mono (hb _ _ _ _ (h.step s1)) fun y H2 ⟨Hs2, s2, r2⟩ => ?_
  refine q Hs2 H2 x y _ s2.i (r1.mono s2.s) r2 fun v Hs' H' s3 r3 => ?_
  cases r3
  exact ⟨_, rfl, rfl, Hs', (s1.trans s2).trans s3⟩
/-- a op b op' c; the second comparison where the first holds -/
theorem et_chain (hX : XF X N sc P w K mg base k) {op op' : CmpOp} {t u : Bool} (ha : ED X K A M ρ a d1) (hb : ED X K A M ρ b d2) (hc : ED X K A M ρ c d3) (ho : OpS (compareOp op) K k d1 d2 (.bl t)) (ho' : OpS (compareOp op') K k d2 d3 (.bl u))
    (hm : lastMarks [op, op'] [b, c] = false := by with_unfolding_all rfl) : ET X K A M ρ (.Compare a [op, op'] [b, c] pos) (t && u) := .mk fun fps σ Hs H h => by
  obtain ⟨r, hr, q⟩ := ho X hX.eK hX.calm hX.rm
  obtain ⟨r', hr', q'⟩ := ho' X hX.eK hX.calm hX.rm
  refine wT_of (pt_chain hr hr' pe_w pe_w pe_w hm) ?_
  refine wE_mono (ha _ _ _ _ h) fun x H1 ⟨Hs1, s1, r1⟩ => ?_
  refine wE_mono (hb _ _ _ _ (h.step s1)) fun y H2 ⟨Hs2, s2, r2⟩ => ?_
  refine q Hs2 H2 x y _ s2.i (r1.mono s2.s) r2 fun v Hs3 H3 s3 r3 => ?_
  cases r3
  refine ⟨t, rfl, ?_⟩
  cases t with
  | false =>
    rw [if_neg Bool.false_ne_true]
    exact ⟨false, rfl, rfl, Hs3, (s1.trans s2).trans s3⟩
  | true =>
    rw [if_pos rfl]
    refine wE_mono (hc _ _ _ _ (h.step ((s1.trans s2).trans s3))) fun z H4 ⟨Hs4, s4, r4⟩ => ?_
    refine q' Hs4 H4 y z _ s4.i (r2.mono (s3.s.trans s4.s)) r4 fun v Hs5 H5 s5 r5 => ?_
    cases r5
    exact ⟨u, rfl, (Bool.true_and u).symm, Hs5, (((s1.trans s2).trans s3).trans s4).trans s5⟩
theorem ed_chain (hX : XF X N sc P w K mg base k) {op op' : CmpOp} {t u : Bool} (ha : ED X K A M ρ a d1) (hb : ED X K A M ρ b d2) (hc : ED X K A M ρ c d3) (ho : OpS (compareOp op) K k d1 d2 (.bl t)) (ho' : OpS (compareOp op') K k d2 d3 (.bl u))
    (hm : lastMarks [op, op'] [b, c] = false := by with_unfolding_all rfl) : ED X K A M ρ (.Compare a [op, op'] [b, c] pos) (.bl (t && u)) := .mk fun fps σ Hs H h => by
  obtain ⟨r, hr, q⟩ := ho X hX.eK hX.calm hX.rm
  obtain ⟨r', hr', q'⟩ := ho' X hX.eK hX.calm hX.rm
  refine wE_of (pe_chain hr hr' pe_w pe_w pe_w hm) ?_
  refine wE_mono (ha _ _ _ _ h) fun x H1 ⟨Hs1, s1, r1⟩ => ?_
  refine wE_mono (hb _ _ _ _ (h.step s1)) fun y H2 ⟨Hs2, s2, r2⟩ => ?_
  refine q Hs2 H2 x y _ s2.i (r1.mono s2.s) r2 fun v Hs3 H3 s3 r3 => ?_
  cases r3
  refine ⟨t, rfl, ?_⟩
  cases t with
  | false =>
    rw [if_neg Bool.false_ne_true]
    exact ⟨Hs3, (s1.trans s2).trans s3, .bl _⟩
  | true =>
    rw [if_pos rfl]
    refine wE_mono (hc _ _ _ _ (h.step ((s1.trans s2).trans s3))) fun z H4 ⟨Hs4, s4, r4⟩ => ?_
    refine q' Hs4 H4 y z _ s4.i (r2.mono (s3.s.trans s4.s)) r4 fun v Hs5 H5 s5 r5 => ?_
    rw [Bool.true_and]
    exact ⟨Hs5, (((s1.trans s2).trans s3).trans s4).trans s5, r5⟩

/-! tests -/
theorem et_val {t : Bool} (h : ED X K A M ρ e (.bl t)) (he : ∀ whole, isTrue e X.env whole = (do let v ← whole; standAt e.pos; holding [v] (truthy v)) := by intro _; rfl) : ET X K A M ρ e t := .mk fun fps σ Hs H hs => by
  refine wT_of (pt_val pe_w he) ?_
  refine wE_mono (h _ _ _ _ hs) fun x H1 ⟨Hs1, s1, r1⟩ => ?_
  cases r1
  exact ⟨t, rfl, rfl, Hs1, s1⟩
theorem et_not {t : Bool} (h : ET X K A M ρ e t) : ET X K A M ρ (.UnaryOp .Not e pos) (!t) := .mk fun fps σ Hs H hs => by
  refine wT_of (pt_not pt_w) ?_
  exact wT_mono (h _ _ _ _ hs) fun c H1 ⟨e1, q⟩ => ⟨by rw [e1], q⟩
theorem ew_and1 {t : Bool} (h : ET X K A M ρ e t) : EW X K A M ρ (.BoolOp .And [e] pos) t := .mk fun fps σ Hs H hs => wW_of (pw_and1 pt_w) (h _ _ _ _ hs)
theorem ew_or1 {t : Bool} (h : ET X K A M ρ e t) : EW X K A M ρ (.BoolOp .Or [e] pos) t := .mk fun fps σ Hs H hs => wW_of (pw_or1 pt_w) (h _ _ _ _ hs)
theorem ew_and {t u : Bool} (h : ET X K A M ρ a t) (h2 : t = true → EW X K A M ρ (.BoolOp .And (b :: es) pos) u) : EW X K A M ρ (.BoolOp .And (a :: b :: es) pos) (t && u) := .mk fun fps σ Hs H hs => by
  refine wW_of (pw_and pt_w pw_w) ?_
  refine wT_mono (h _ _ _ _ hs) fun c H1 ⟨e1, Hs1, s1⟩ => ?_
  subst e1
  cases c with
  | false =>
    rw [if_neg Bool.false_ne_true]
    exact ⟨rfl, Hs1, s1⟩
  | true =>
    rw [if_pos rfl]
    intro wh pins s I
    refine thn (h2 rfl _ _ _ _ (hs.step s1) wh pins s I) fun c s' ⟨H2, I2, e2, Hs2, s2⟩ => ⟨H2, I2, by rw [e2, Bool.true_and], Hs2, s1.trans s2⟩
theorem ew_or {t u : Bool} (h : ET X K A M ρ a t) (h2 : t = false → EW X K A M ρ (.BoolOp .Or (b :: es) pos) u) : EW X K A M ρ (.BoolOp .Or (a :: b :: es) pos) (t || u) := .mk fun fps σ Hs H hs => by
  refine wW_of (pw_or pt_w pw_w) ?_
  refine wT_mono (h _ _ _ _ hs) fun c H1 ⟨e1, Hs1, s1⟩ => ?_
  subst e1
  cases c with
  | true =>
    rw [if_pos rfl]
    exact ⟨rfl, Hs1, s1⟩
  | false =>
    rw [if_neg Bool.false_ne_true]
    intro wh pins s I
    refine thn (h2 rfl _ _ _ _ (hs.step s1) wh pins s I) fun c s' ⟨H2, I2, e2, Hs2, s2⟩ => ⟨H2, I2, by rw [e2, Bool.false_or], Hs2, s1.trans s2⟩
theorem et_w {t : Bool} (h : EW X K A M ρ e t) : ET X K A M ρ e t := .mk fun fps σ Hs H hs => wT_of pw_w.pt (h _ _ _ _ hs)
/-- and, or as values, of truths -/
theorem ed_one {op : BoolOp} (h : ED X K A M ρ e d) : ED X K A M ρ (.BoolOp op [e] pos) d := .mk fun fps σ Hs H hs => wE_of (pe_one pe_w) (h _ _ _ _ hs)
theorem ed_and {t u : Bool} (h : ED X K A M ρ a (.bl t)) (h2 : t = true → ED X K A M ρ (.BoolOp .And (b :: es) pos) (.bl u)) : ED X K A M ρ (.BoolOp .And (a :: b :: es) pos) (.bl (t && u)) := .mk fun fps σ Hs H hs => by
  refine wE_of (pe_and pe_w pe_w) ?_
  refine wE_mono (h _ _ _ _ hs) fun x H1 ⟨Hs1, s1, r1⟩ => ?_
  cases r1
  refine ⟨t, rfl, ?_⟩
  cases t with
  | false =>
    rw [if_neg Bool.false_ne_true]
    exact ⟨Hs1, s1, .bl _⟩
  | true =>
    rw [if_pos rfl]
    exact wE_mono (h2 rfl _ _ _ _ (hs.step s1)) fun y H2 ⟨Hs2, s2, r2⟩ => ⟨Hs2, s1.trans s2, by rw [Bool.true_and]; exact r2⟩
theorem ed_ifE {t : Bool} (h : ET X K A M ρ c t) (h1 : t = true → ED X K A M ρ a d) (h2 : t = false → ED X K A M ρ b d) : ED X K A M ρ (.IfExp c a b pos) d := .mk fun fps σ Hs H hs => by
  refine wE_of (pe_ifExp pt_w pe_w pe_w) ?_
  refine wT_mono (h _ _ _ _ hs) fun c H1 ⟨e1, Hs1, s1⟩ => ?_
  subst e1
  cases c with
  | true =>
    rw [if_pos rfl]
    exact wE_mono (h1 rfl _ _ _ _ (hs.step s1)) fun y H2 ⟨Hs2, s2, r2⟩ => ⟨Hs2, s1.trans s2, r2⟩
  | false =>
    rw [if_neg Bool.false_ne_true]
    exact wE_mono (h2 rfl _ _ _ _ (hs.step s1)) fun y H2 ⟨Hs2, s2, r2⟩ => ⟨Hs2, s1.trans s2, r2⟩

/-! argument lists, displays -/
theorem eds_nil : EDs X K A M ρ [] [] := .mk fun fps σ Hs H h => wA_of pa_nil ⟨Hs, .refl h.st.e, .nil⟩
theorem eds_cons (h1 : ED X K A M ρ e d) (h2 : EDs X K A M ρ es ds) (hs : starEach (e :: es) X.env = (false, eval e X.env) :: starEach es X.env := by exact star_cons rfl) : EDs X K A M ρ (e :: es) (d :: ds) := .mk fun fps σ Hs H h => by
  refine wA_of (pa_cons pe_w pa_w hs) ?_
  refine wE_mono (h1 _ _ _ _ h) fun x H1 ⟨Hs1, s1, r1⟩ => ?_
  exact wA_mono (h2 _ _ _ _ (h.step s1)) fun xs H2 ⟨Hs2, s2, r2⟩ => ⟨Hs2, s1.trans s2, .cons (r1.mono s2.s) r2⟩
theorem ed_tup {x1 : Nat} (h : EDs X K A M ρ es ds) (hl : ds.length ≤ 100000) : ED X K A M ρ (.Tuple es x1 pos) (.tup ds) := .mk fun fps σ Hs H hs => by
  refine wE_of (pe_tup (x1 := x1) pa_w) ?_
  refine wA_mono (h _ _ _ _ hs) fun xs H1 ⟨Hs1, s1, r1⟩ => ⟨by rw [r1.length]; exact Nat.le_trans hl (by decide), fun p hp => ?_⟩
  have s2 : Step Hs1 H1 (upd Hs1 p (.tup xs)) (upd H1 p (.tup xs)) := .new s1.i hp
  exact ⟨_, s1.trans s2, .tup (SqT.of upd_same) (r1.mono s2.s)⟩
theorem ed_lst (h : EDs X K A M ρ es ds) (hl : ds.length ≤ 100000) : ED X K A M ρ (.List es pos) (.lst ds) := .mk fun fps σ Hs H hs => by
  refine wE_of (pe_lst pa_w) ?_
  refine wA_mono (h _ _ _ _ hs) fun xs H1 ⟨Hs1, s1, r1⟩ => ⟨by rw [r1.length]; exact Nat.le_trans hl (by decide), fun p hp => ?_⟩
  have s2 : Step Hs1 H1 (upd Hs1 p (.lst xs)) (upd H1 p (.lst xs)) := .new s1.i hp
  exact ⟨_, s1.trans s2, .lst upd_same (r1.mono s2.s)⟩
theorem ef_lst (h : EDs X K A M ρ es ds) (hl : ds.length ≤ 100000) : EF X K A M ρ (.List es pos) ds := .mk fun fps σ Hs H hs => by
  refine wE_of (pe_lst pa_w) ?_
  refine wA_mono (h _ _ _ _ hs) fun xs H1 ⟨Hs1, s1, r1⟩ => ⟨by rw [r1.length]; exact Nat.le_trans hl (by decide), fun p hp => ?_⟩
  exact ⟨Hs1, p, xs, s1.trans (.own s1.i hp), rfl, s1.h.back hp, s1.i.back hp, upd_same, r1⟩

/-! subscripts -/
theorem ed_ix (hX : XF X N sc P w K mg base k) (ha : ED X K A M ρ a d1) (hb : ED X K A M ρ b d2) (ho : IxS K d1 d2 d) (hs : PlainIx b := by intro _ _; rfl) : ED X K A M ρ (.Subscript a b pos) d := .mk fun fps σ Hs H h => by
  obtain ⟨r, hr, q⟩ := ho X hX.eK
  refine wE_of (pe_ix hr pe_w pe_w hs) ?_
  refine wE_mono (ha _ _ _ _ h) fun x H1 ⟨Hs1, s1, r1⟩ => ?_
  refine wE_mono (hb _ _ _ _ (h.step s1)) fun y H2 ⟨Hs2, s2, r2⟩ => ?_
  exact q Hs2 H2 x y _ s2.i (r1.mono s2.s) r2 fun v Hs' H' s3 r3 => ⟨Hs', (s1.trans s2).trans s3, r3⟩

/-! calls of what is built in -/
theorem ed_callB (hX : XF X N sc P w K mg base k) {x : Str} {id : String} (hm : mg x = none) (hv : bootBuiltins x = some (.builtin id)) (ha : EDs X K A M ρ (e :: es) ds) (hc : CallS (.builtin id) K k ds d) (hg : GlS sc x := by rfl) (hn : x ≠ "__name__" := by decide +kernel) (hdb : (x == ("__debug__" : Str)) = false := by decide +kernel)
    (he : starEach (e :: es) X.env = (false, eval e X.env) :: starEach es X.env := by exact star_cons rfl) (hpl : (backTo pos (starEach es X.env)).any (·.1) = false := by exact star_plain rfl) : ED X K A M ρ (.Call (.Name x p) (e :: es) [] pos) d := .mk fun fps σ Hs H h => by
  obtain ⟨r, hr, q⟩ := hc X hX.eK hX.calm hX.rm
  refine wE_of (pe_callB hr (hX.gl hg) (by rw [hX.em]; exact hm) hv pa_w hn hdb he hpl) ?_
  refine wA_mono (ha _ _ _ _ h) fun xs H1 ⟨Hs1, s1, r1⟩ => ?_
  exact q Hs1 H1 xs _ s1.i r1 fun v Hs' H' s3 r3 => ⟨Hs', s1.trans s3, r3⟩
theorem ed_callTy (hX : XF X N sc P w K mg base k) {x : Str} {T : String} (hm : mg x = none) (hv : bootBuiltins x = some (.type T)) (ha : EDs X K A M ρ (e :: es) ds) (hc : CallS (.type T) K k ds d) (hg : GlS sc x := by rfl) (hn : x ≠ "__name__" := by decide +kernel) (hdb : (x == ("__debug__" : Str)) = false := by decide +kernel)
    (he : starEach (e :: es) X.env = (false, eval e X.env) :: starEach es X.env := by exact star_cons rfl) (hpl : (backTo pos (starEach es X.env)).any (·.1) = false := by exact star_plain rfl) : ED X K A M ρ (.Call (.Name x p) (e :: es) [] pos) d := .mk fun fps σ Hs H h => by
  obtain ⟨r, hr, q⟩ := hc X hX.eK hX.calm hX.rm
  refine wE_of (pe_callTy hr (hX.gl hg) (by rw [hX.em]; exact hm) hv pa_w hn hdb he hpl) ?_
  refine wA_mono (ha _ _ _ _ h) fun xs H1 ⟨Hs1, s1, r1⟩ => ?_
  exact q Hs1 H1 xs _ s1.i r1 fun v Hs' H' s3 r3 => ⟨Hs', s1.trans s3, r3⟩

/-! calls of the program's own defs that raise nothing and keep what stands -/
/-- the promise by a relation of the data handed in and the data given back -/
def spG (K : PySem.W.Frag) (G : List D → D → Prop) : Sp := fun vs H Q _ => ∃ Hs ds d, Ex Hs H ∧ Reps K Hs ds vs ∧ G ds d ∧ ∀ v Hs' H', Step Hs H Hs' H' → Rep K Hs' d v → Q v H'
structure Dfn (P : Program) (w : World) (K : PySem.W.Frag) (mg : Str → Option Value) (base : Heap) (x : Str) (j : Nat) (G : List D → D → Prop) : Prop where
  ex : ∃ f fd ps, FnOk P w K mg base CX0 j f fd ps (spG K G) ∧ mg x = some (.ref f) ∧ PySem.W.keepIn K (.ref f) = true ∧ Binds K fd ps []
theorem ed_call (hX : XF X N sc P w K mg base k) {x : Str} {j : Nat} {G : List D → D → Prop} (F : Dfn P w K mg base x j G) (hj : j ≤ k) (ha : EDs X K A M ρ (e :: es) ds) (hG : G ds d) (hg : GlS sc x := by rfl) (hdb : (x == ("__debug__" : Str)) = false := by decide +kernel)
    (he : starEach (e :: es) X.env = (false, eval e X.env) :: starEach es X.env := by exact star_cons rfl) (hpl : (backTo pos (starEach es X.env)).any (·.1) = false := by exact star_plain rfl) : ED X K A M ρ (.Call (.Name x p) (e :: es) [] pos) d := .mk fun fps σ Hs H h => by
  obtain ⟨f, fd, ps, h1, h2, h3, h4⟩ := F.ex
  obtain ⟨_, _, rfl, rfl, rfl, rfl, rfl, _, rm, _⟩ := id hX
  refine wE_of (pe_call (E := E0) h1 (rm.mono hj) (hX.gl hg) h2 h3 h4 .nil pass0 pa_w hdb he hpl) ?_
  refine wA_mono (ha _ _ _ _ h) fun xs H1 ⟨Hs1, s1, r1⟩ => ?_
  refine ⟨Hs1, ds, d, s1.i, by rw [List.append_nil]; exact r1, hG, fun v Hs' H' s3 r3 => ⟨Hs', s1.trans s3, r3⟩⟩
/-- .. with arguments told by all that stands; the answer without objects -/
theorem ed_callT (hX : XF X N sc P w K mg base k) {x : Str} {j : Nat} {G : List D → D → Prop} (F : Dfn P w K mg base x j G) (hj : j ≤ k) (ha : EDTs X K A M ρ (e :: es) ds) (hG : G ds d) (hf : flat d = true) (hg : GlS sc x := by rfl) (hdb : (x == ("__debug__" : Str)) = false := by decide +kernel)
    (he : starEach (e :: es) X.env = (false, eval e X.env) :: starEach es X.env := by exact star_cons rfl) (hpl : (backTo pos (starEach es X.env)).any (·.1) = false := by exact star_plain rfl) : ED X K A M ρ (.Call (.Name x p) (e :: es) [] pos) d := .mk fun fps σ Hs H h => by
  obtain ⟨f, fd, ps, h1, h2, h3, h4⟩ := F.ex
  obtain ⟨_, _, rfl, rfl, rfl, rfl, rfl, _, rm, _⟩ := id hX
  refine wE_of (pe_call (E := E0) h1 (rm.mono hj) (hX.gl hg) h2 h3 h4 .nil pass0 pa_w hdb he hpl) ?_
  refine wA_mono (ha _ _ _ _ h) fun xs H1 ⟨Hs1, s1, r1⟩ => ?_
  refine ⟨H1, ds, d, .refl _, by rw [List.append_nil]; exact r1, hG, fun v Hs' H' s3 r3 => ⟨Hs1, s1.trans ⟨.refl _, s3.h, s1.i.trans s3.h, fun _ _ q => q⟩, r3.flat hf⟩⟩
theorem edt_of (h : ED X K A M ρ e d) : EDT X K A M ρ e d := .mk fun fps σ Hs H hs => wE_mono (h _ _ _ _ hs) fun v H' ⟨Hs', s, r⟩ => ⟨Hs', s, r.mono s.i⟩
theorem edts_nil : EDTs X K A M ρ [] [] := .mk fun fps σ Hs H h => wA_of pa_nil ⟨Hs, .refl h.st.e, .nil⟩
theorem edts_cons (h1 : EDT X K A M ρ e d) (h2 : EDTs X K A M ρ es ds) (hs : starEach (e :: es) X.env = (false, eval e X.env) :: starEach es X.env := by exact star_cons rfl) : EDTs X K A M ρ (e :: es) (d :: ds) := .mk fun fps σ Hs H h => by
  refine wA_of (pa_cons pe_w pa_w hs) ?_
  refine wE_mono (h1 _ _ _ _ h) fun x H1 ⟨Hs1, s1, r1⟩ => ?_
  exact wA_mono (h2 _ _ _ _ (h.step s1)) fun xs H2 ⟨Hs2, s2, r2⟩ => ⟨Hs2, s1.trans s2, .cons (r1.mono s2.h) r2⟩
theorem Cells.get {Hs H : Hp} : ∀ {fps : List (List Addr)} {M : List Cell} {j : Nat} {f : List Addr} {c : Cell}, Cells K Hs H fps M → fps[j]? = some f → M[j]? = some c → CellOk K Hs H f c
  | [], [], _, _, _, _, e, _ => by simp at e
  | f :: fs, c :: cs, 0, _, _, h, e1, e2 => by simp at e1 e2; subst e1; subst e2; exact h.1
  | f :: fs, c :: cs, j + 1, _, _, h, e1, e2 => Cells.get (j := j) h.2 (by simpa using e1) (by simpa using e2)
  | [], _ :: _, _, _, _, h, _, _ => h.elim
  | _ :: _, [], _, _, _, h, _, _ => h.elim
theorem CellOk.lst_at {Hs H : Hp} {f : List Addr} {a : Addr} {r : List Addr} (h : CellOk K Hs H (a :: r) (.lst ds)) : r = [] ∧ ∃ xs, H a = some (.lst xs) ∧ Reps K Hs ds xs := by
  cases r with
  | nil => exact ⟨rfl, h⟩
  | cons b r =>
    cases r with
    | nil => exact h.elim
    | cons b2 r =>
      cases r with
      | nil => exact h.elim
      | cons _ _ => exact h.elim
theorem CellOk.dct_at {Hs H : Hp} {ks : List Str} {a : Addr} {r : List Addr} (h : CellOk K Hs H (a :: r) (.dct ks ds)) : r = [] ∧ ∃ ws, H a = some (.dK ws) ∧ ws.map (·.1) = ks.map Sum.inr ∧ Reps K Hs ds (ws.map (·.2)) := by
  cases r with
  | nil => exact ⟨rfl, h⟩
  | cons b r =>
    cases r with
    | nil => exact h.elim
    | cons b2 r =>
      cases r with
      | nil => exact h.elim
      | cons _ _ => exact h.elim
theorem edt_cell {j : Nat} (h : EC X K A M ρ e j) (hM : M[j]? = some (.lst ds)) : EDT X K A M ρ e (.lst ds) := .mk fun fps σ Hs H hs => by
  refine wE_mono (h _ _ _ _ hs) fun v H' ⟨e1, a, r, h1, h2⟩ => ?_
  subst e1; subst h2
  obtain ⟨_, xs, q1, q2⟩ := (hs.st.cells.get h1 hM).lst_at (f := [])
  exact ⟨Hs, .refl hs.st.e, .lst q1 (q2.mono hs.st.e)⟩
end
end T3
/-! T3c: statements, loops, comprehensions. -/
namespace T3
open PySem L2

structure Post where
  nx : List Cell → Env3 → Prop
  rt : List Cell → D → Prop
  bk : List Cell → Env3 → Prop := fun _ _ => False
  ct : List Cell → Env3 → Prop := fun _ _ => False
def endsOf (K : PySem.W.Frag) (A : Anc) (P : Post) : Ends where
  nx := fun σ H => ∃ M ρ fps Hs, StA K A M ρ fps σ Hs H ∧ P.nx M ρ
  rt := fun v H => ∃ M d fps Hs, StA K A M [] fps [] Hs H ∧ Rep K Hs d v ∧ P.rt M d
  bk := fun σ H => ∃ M ρ fps Hs, StA K A M ρ fps σ Hs H ∧ P.bk M ρ
  ct := fun σ H => ∃ M ρ fps Hs, StA K A M ρ fps σ Hs H ∧ P.ct M ρ
structure SD (X : Cx) (K : PySem.W.Frag) (A : Anc) (M : List Cell) (ρ : Env3) (sts : List Stmt) (P : Post) : Prop where
  mk ::
  run : ∀ fps σ Hs H, StA K A M ρ fps σ Hs H → wSs X sts (endsOf K A P) σ H
instance {X : Cx} {K : PySem.W.Frag} {A : Anc} {M : List Cell} {ρ : Env3} {sts : List Stmt} {P : Post} : CoeFun (SD X K A M ρ sts P) (fun _ => ∀ fps σ Hs H, StA K A M ρ fps σ Hs H → wSs X sts (endsOf K A P) σ H) := ⟨SD.run⟩
structure S1 (X : Cx) (K : PySem.W.Frag) (A : Anc) (M : List Cell) (ρ : Env3) (st : Stmt) (P : Post) : Prop where
  mk ::
  run : ∀ fps σ Hs H, StA K A M ρ fps σ Hs H → wS X st (endsOf K A P) σ H
instance {X : Cx} {K : PySem.W.Frag} {A : Anc} {M : List Cell} {ρ : Env3} {st : Stmt} {P : Post} : CoeFun (S1 X K A M ρ st P) (fun _ => ∀ fps σ Hs H, StA K A M ρ fps σ Hs H → wS X st (endsOf K A P) σ H) := ⟨S1.run⟩
/-- what follows -/
abbrev Post.then (P : Post) (X : Cx) (K : PySem.W.Frag) (A : Anc) (rest : List Stmt) : Post := ⟨fun M ρ => SD X K A M ρ rest P, P.rt, P.bk, P.ct⟩

section
variable {X : Cx} {N : List Str} {sc : Scope} {P : Program} {w : World} {K : PySem.W.Frag} {mg : Str → Option Value} {base : Heap} {k : Nat}
variable {A : Anc} {M : List Cell} {ρ ρ' : Env3} {a b c e tg : Expr} {es : List Expr} {d d1 d2 d3 : D} {ds : List D} {pos p p2 : Pos} {st : Stmt} {sts rest : List Stmt} {R : Post}

theorem sd_nil (h : R.nx M ρ) : SD X K A M ρ [] R := .mk fun fps σ Hs H hs => wSs_of pss_nil ⟨M, ρ, fps, Hs, hs, h⟩
theorem sd_cons (h : S1 X K A M ρ st (R.then X K A rest)) : SD X K A M ρ (st :: rest) R := .mk fun fps σ Hs H hs => by
  refine wSs_of (pss_cons ps_w pss_w) ?_
  exact wS_mono (h _ _ _ _ hs) (fun σ' H' ⟨M', ρ', fps', Hs', h1, h2⟩ => h2 _ _ _ _ h1) (fun _ _ q => q) (fun _ _ q => q) fun _ _ q => q
theorem sd_weak (h : SD X K A M ρ' sts R) (w : Wk ρ' ρ) : SD X K A M ρ sts R := .mk fun fps σ Hs H hs => h _ _ _ _ (hs.slots (hs.st.slots.weak w))
theorem sd_imp {R' : Post} (h : SD X K A M ρ sts R') (h1 : ∀ M ρ, R'.nx M ρ → R.nx M ρ) (h2 : ∀ M d, R'.rt M d → R.rt M d) (h3 : ∀ M ρ, R'.bk M ρ → R.bk M ρ) (h4 : ∀ M ρ, R'.ct M ρ → R.ct M ρ) : SD X K A M ρ sts R := .mk fun fps σ Hs H hs =>
  wSs_mono (h _ _ _ _ hs) (fun σ' H' ⟨M', ρ', fps', Hs', q1, q2⟩ => ⟨M', ρ', fps', Hs', q1, h1 _ _ q2⟩) (fun v H' ⟨M', ρ', fps', Hs', q1, q2, q3⟩ => ⟨M', ρ', fps', Hs', q1, q2, h2 _ _ q3⟩)
    (fun σ' H' ⟨M', ρ', fps', Hs', q1, q2⟩ => ⟨M', ρ', fps', Hs', q1, h3 _ _ q2⟩) (fun σ' H' ⟨M', ρ', fps', Hs', q1, q2⟩ => ⟨M', ρ', fps', Hs', q1, h4 _ _ q2⟩)

/-! ### names, targets -/
theorem s1_set (hX : XF X N sc P w K mg base k) (i : Nat) {x : Str} {pos' : Pos} (hN : N[i]? = some x) (h : ED X K A M ρ e d) (q : R.nx M (ρ.set i (some (.sh d)))) (hl : Loc sc x := by first | exact .inl rfl | exact .inr rfl)
    (hs : swapsWith e (some (.Name x pos')) pos.line X.env = pure false := by rfl) (hF : ∀ x, X.fn x = true := by assumption) : S1 X K A M ρ (.Assign [.Name x pos'] e pos) R := .mk fun fps σ Hs H hh => by
  refine wS_of (ps_set (i := i) (by rw [hX.eN]; exact hX.nd) (by rw [hX.eN]; exact hN) (hX.loc hl) pe_w hs (hX.sto hF hl)) ?_
  refine wE_mono (h _ _ _ _ hh) fun v H' ⟨Hs', s, r⟩ => ?_
  exact ⟨M, _, fps, Hs', (hh.step s).slots ((hh.step s).st.slots.set i (s := .sh d) r), q⟩
theorem sd_set (hX : XF X N sc P w K mg base k) (i : Nat) {x : Str} {pos' : Pos} (hN : N[i]? = some x) (h : ED X K A M ρ e d) (q : SD X K A M (ρ.set i (some (.sh d))) rest R) (hl : Loc sc x := by first | exact .inl rfl | exact .inr rfl)
    (hs : swapsWith e (some (.Name x pos')) pos.line X.env = pure false := by rfl) (hF : ∀ x, X.fn x = true := by assumption) : SD X K A M ρ (.Assign [.Name x pos'] e pos :: rest) R := sd_cons (s1_set hX i hN h q hl hs hF)
/-- what an assignment of data to a target does to the slots -/
def wG (X : Cx) (tg : Expr) : TG := fun v σ H Q => ∀ pins s u, Inv X pins σ H s → RelV v u → wpAny (model X.prog X.w) X.A (assign tg X.env u) (fun _ s' => ∃ σ' H', Inv X pins σ' H' s' ∧ Q σ' H') X.xe s
theorem pg_w : PG X tg (wG X tg) := ⟨fun pins s σ H v u Q I r h => h pins s u I r⟩
theorem wG_of {t : TG} {v : V} {σ : L2.St} {H : Hp} {Q : L2.St → Hp → Prop} (h : PG X tg t) (q : t v σ H Q) : wG X tg v σ H Q := fun pins s u I r => h.run pins s σ H v u Q I r q
structure TGt (X : Cx) (K : PySem.W.Frag) (tg : Expr) (d : D) (pl : List Nat) (ρ ρ' : Env3) : Prop where
  mk ::
  run : ∀ fps σ Hs H v, Ex Hs H → Slots K Hs fps ρ σ → Rep K Hs d v → wG X tg v σ H fun σ' H' => H' = H ∧ Slots K Hs fps ρ' σ' ∧ σ'.length = σ.length ∧ ∀ i, i ∉ pl → σ'[i]? = σ[i]?
instance {X : Cx} {K : PySem.W.Frag} {tg : Expr} {d : D} {pl : List Nat} {ρ ρ' : Env3} : CoeFun (TGt X K tg d pl ρ ρ') (fun _ => ∀ fps σ Hs H v, Ex Hs H → Slots K Hs fps ρ σ → Rep K Hs d v → wG X tg v σ H fun σ' H' => H' = H ∧ Slots K Hs fps ρ' σ' ∧ σ'.length = σ.length ∧ ∀ i, i ∉ pl → σ'[i]? = σ[i]?) := ⟨TGt.run⟩
def TGs (X : Cx) (K : PySem.W.Frag) (tgs : List Expr) (ds : List D) (pl : List Nat) (ρ ρ' : Env3) : Prop :=
  ∃ t : L2.TGs, PGs X tgs t ∧ ∀ fps σ Hs H vs (Q : L2.St → Hp → Prop), Ex Hs H → Slots K Hs fps ρ σ → Reps K Hs ds vs → (∀ σ', Slots K Hs fps ρ' σ' → σ'.length = σ.length → (∀ i, i ∉ pl → σ'[i]? = σ[i]?) → Q σ' H) → t vs σ H Q
theorem wG_mono {v : V} {σ : L2.St} {H : Hp} {Q Q' : L2.St → Hp → Prop} (h : wG X tg v σ H Q) (k : ∀ σ H, Q σ H → Q' σ H) : wG X tg v σ H Q' := fun pins s u I r =>
  thn (h pins s u I r) fun _ s' ⟨σ', H', I', q⟩ => ⟨σ', H', I', k _ _ q⟩
theorem tg_of_name {i : Nat} {x : Str} (h : PG X (.Name x pos) (gName i)) : TGt X K (.Name x pos) d [i] ρ (ρ.set i (some (.sh d))) := .mk fun fps σ Hs H v _ hs r => by
  refine wG_of h ?_
  refine ⟨rfl, hs.set i (s := .sh d) r, List.length_set, fun j hj => ?_⟩
  exact List.getElem?_set_ne fun z => hj (by simp [z])
theorem tg_name (hX : XF X N sc P w K mg base k) (i : Nat) {x : Str} (hN : N[i]? = some x) (hl : Loc sc x := by first | exact .inl rfl | exact .inr rfl) (hF : ∀ x, X.fn x = true := by assumption) : TGt X K (.Name x pos) d [i] ρ (ρ.set i (some (.sh d))) :=
  tg_of_name (pg_name (i := i) (by rw [hX.eN]; exact hX.nd) (by rw [hX.eN]; exact hN) (hX.loc hl) (hX.sto hF hl))
/-- a comprehension's own name -/
theorem tg_nameL (hX : XF X N sc P w K mg base k) (i : Nat) {x : Str} (hN : N[i]? = some x) (hl : sc.names.lookup x = some .local := by rfl) : TGt X K (.Name x pos) d [i] ρ (ρ.set i (some (.sh d))) :=
  tg_of_name (pg_name (i := i) (by rw [hX.eN]; exact hX.nd) (by rw [hX.eN]; exact hN) (hX.loc (.inl hl)) (.inr (by rw [hX.eS]; exact hl)))
theorem tgs_nil : TGs X K [] [] [] ρ ρ := ⟨_, pgs_nil, fun fps σ Hs H vs Q _ hs r q => by cases r; exact ⟨rfl, q _ hs rfl fun _ _ => rfl⟩⟩
theorem tgs_cons {ρ'' : Env3} {p1 p2 : List Nat} (h1 : TGt X K e d p1 ρ ρ') (h2 : TGs X K es ds p2 ρ' ρ'') (hs : (assignEach (e :: es) X.env).map (·.2) = assign e X.env :: (assignEach es X.env).map (·.2) := by rfl) : TGs X K (e :: es) (d :: ds) (p1 ++ p2) ρ ρ'' := by
  obtain ⟨t, ht, q⟩ := h2
  refine ⟨_, pgs_cons pg_w ht hs, fun fps σ Hs H vs Q e0 h r k => ?_⟩
  cases r with
  | cons r rs =>
    refine ⟨_, _, rfl, ?_⟩
    refine wG_mono (h1 fps σ Hs H _ e0 h r) fun σ' H' ⟨e1, h', l', o'⟩ => ?_
    subst e1
    exact q fps σ' Hs H' _ Q e0 h' rs fun σ2 h2 l2 o2 => k σ2 h2 (l2.trans l') fun i hi => (o2 i fun z => hi (List.mem_append_right _ z)).trans (o' i fun z => hi (List.mem_append_left _ z))
theorem tg_tup (hX : XF X N sc P w K mg base k) {n : Nat} {kk : Nat} {pl : List Nat} (h : TGs X K es ds pl ρ ρ') (hl : ds.length = n) (hn : (assignEach es X.env).length = n := by rfl) (hst : (assignEach es X.env).findIdx? (·.1) = none := by rfl) : TGt X K (.Tuple es kk pos) (.tup ds) pl ρ ρ' := .mk fun fps σ Hs H v e0 hs r => by
  obtain ⟨t, ht, q⟩ := h
  refine wG_of (pg_tup hX.calm ht hn hst) ?_
  cases r with
  | tup h1 h2 =>
    refine ⟨_, _, rfl, by rw [hX.eK]; exact e0.st h1, by rw [h2.length, hl], ?_⟩
    exact q fps σ Hs H _ _ e0 hs h2 fun σ' h' l' o' => ⟨rfl, h', l', o'⟩
theorem tg_lst (hX : XF X N sc P w K mg base k) {n : Nat} {kk : Nat} {pl : List Nat} (h : TGs X K es ds pl ρ ρ') (hl : ds.length = n) (hn : (assignEach es X.env).length = n := by rfl) (hst : (assignEach es X.env).findIdx? (·.1) = none := by rfl) : TGt X K (.Tuple es kk pos) (.lst ds) pl ρ ρ' := .mk fun fps σ Hs H v e0 hs r => by
  obtain ⟨t, ht, q⟩ := h
  refine wG_of (pg_unl hX.calm ht hn hst) ?_
  cases r with
  | lst h1 h2 =>
    refine ⟨_, _, rfl, SqL.of (e0 _ _ h1), by rw [h2.length, hl], ?_⟩
    exact q fps σ Hs H _ _ e0 hs h2 fun σ' h' l' o' => ⟨rfl, h', l', o'⟩
theorem s1_asg (h : ED X K A M ρ e d) {pl : List Nat} (t : TGt X K tg d pl ρ ρ') (q : R.nx M ρ') (hs : swapsWithSole [tg] e pos.line X.env = pure false := by rfl) (hw : swappedStores [tg] e X.env = pure none := by rfl)
    (h1 : (assignEach [tg] X.env).map (·.2) = [assign tg X.env] := by rfl) : S1 X K A M ρ (.Assign [tg] e pos) R := .mk fun fps σ Hs H hh => by
  refine wS_of (ps_asg pe_w pg_w hs hw h1) ?_
  refine wE_mono (h _ _ _ _ hh) fun v H' ⟨Hs', s, r⟩ => ?_
  have h' := hh.step s
  exact wG_mono (t fps σ Hs' H' v s.i h'.st.slots r) fun σ' H2 ⟨e2, q2, _⟩ => by
    subst e2
    exact ⟨M, _, fps, Hs', h'.slots q2, q⟩
theorem sd_asg (h : ED X K A M ρ e d) {pl : List Nat} (t : TGt X K tg d pl ρ ρ') (q : SD X K A M ρ' rest R) (hs : swapsWithSole [tg] e pos.line X.env = pure false := by rfl) (hw : swappedStores [tg] e X.env = pure none := by rfl)
    (h1 : (assignEach [tg] X.env).map (·.2) = [assign tg X.env] := by rfl) : SD X K A M ρ (.Assign [tg] e pos :: rest) R := sd_cons (s1_asg h t q hs hw h1)
theorem sd_aug (hX : XF X N sc P w K mg base k) (i : Nat) {x : Str} {op : Operator} {pos' : Pos} (hN : N[i]? = some x) (hr : ρ[i]? = some (some (.sh d1))) (h : ED X K A M ρ e d2) (ho : OpS (inplaceOp op) K k d1 d2 d) (q : SD X K A M (ρ.set i (some (.sh d))) rest R)
    (hl : Loc sc x := by first | exact .inl rfl | exact .inr rfl) (hF : ∀ x, X.fn x = true := by assumption) : SD X K A M ρ (.AugAssign (.Name x pos') op e pos :: rest) R := sd_cons <| .mk fun fps σ Hs H hh => by
  obtain ⟨r, hop, qq⟩ := ho X hX.eK hX.calm hX.rm
  refine wS_of (ps_aug (i := i) (ti := r) (by rw [hX.eN]; exact hX.nd) (by rw [hX.eN]; exact hN) (hX.loc hl) pe_w (fun pins s σ H x y v u Q I rx ry q => hop pins s σ H x y v u Q I rx ry q) (hX.sto hF hl)) ?_
  obtain ⟨v, h1, h2⟩ := hh.st.slots.get hr
  refine ⟨v, h1, ?_⟩
  refine wE_mono (h _ _ _ _ hh) fun y H1 ⟨Hs1, s1, r1⟩ => ?_
  refine qq Hs1 H1 v y _ s1.i (h2.mono s1.s) r1 fun z Hs2 H2 s2 r2 => ?_
  have h' := hh.step (s1.trans s2)
  exact ⟨M, _, fps, Hs2, h'.slots (h'.st.slots.set i (s := .sh d) r2), q⟩

/-! ### plain statements -/
theorem sd_if {t : Bool} {sa sb : List Stmt} (h : ET X K A M ρ c t) (h1 : t = true → SD X K A M ρ sa (R.then X K A rest)) (h2 : t = false → SD X K A M ρ sb (R.then X K A rest)) : SD X K A M ρ (.If c sa sb pos :: rest) R := sd_cons <| .mk fun fps σ Hs H hh => by
  refine wS_of (ps_if pt_w pss_w pss_w) ?_
  refine wT_mono (h _ _ _ _ hh) fun t' H' ⟨e1, Hs', s⟩ => ?_
  subst e1
  cases t' with
  | true => rw [if_pos rfl]; exact h1 rfl _ _ _ _ (hh.step s)
  | false => rw [if_neg Bool.false_ne_true]; exact h2 rfl _ _ _ _ (hh.step s)
theorem sd_ifT {sa sb : List Stmt} (h : ET X K A M ρ c true) (h1 : SD X K A M ρ sa (R.then X K A rest)) : SD X K A M ρ (.If c sa sb pos :: rest) R := sd_if h (fun _ => h1) (fun q => nomatch q)
theorem sd_ifF {sa sb : List Stmt} (h : ET X K A M ρ c false) (h1 : SD X K A M ρ sb (R.then X K A rest)) : SD X K A M ρ (.If c sa sb pos :: rest) R := sd_if h (fun q => nomatch q) (fun _ => h1)
/-- an if without else that isn't gone into -/
theorem sd_skip {sa : List Stmt} (h : ET X K A M ρ c false) (h1 : SD X K A M ρ rest R) : SD X K A M ρ (.If c sa [] pos :: rest) R := sd_ifF h (sd_nil h1)
theorem sd_ret (h : ED X K A M ρ e d) (q : R.rt M d) : SD X K A M ρ (.Return (some e) pos :: rest) R := sd_cons <| .mk fun fps σ Hs H hh => by
  refine wS_of (ps_ret pe_w) ?_
  refine wE_mono (h _ _ _ _ hh) fun v H' ⟨Hs', s, r⟩ => ⟨M, d, fps, Hs', (hh.step s).bare, r, q⟩
theorem sd_retT {e : Expr} (h : EDT X K A M ρ e d) (hf : flat d = true) (q : R.rt M d) : SD X K A M ρ (.Return (some e) pos :: rest) R := sd_cons <| .mk fun fps σ Hs H hh => by
  refine wS_of (ps_ret pe_w) ?_
  refine wE_mono (h _ _ _ _ hh) fun v H' ⟨Hs', s, r⟩ => ⟨M, d, fps, Hs', (hh.step s).bare, r.flat hf, q⟩
theorem sd_pass (q : SD X K A M ρ rest R) : SD X K A M ρ (.Pass pos :: rest) R := sd_cons <| .mk fun fps σ Hs H hh => wS_of ps_pass ⟨M, ρ, fps, Hs, hh, q⟩
theorem sd_expr (h : ED X K A M ρ e d) (q : SD X K A M ρ rest R) (hs : swapsWith e none pos.line X.env = pure false := by rfl) : SD X K A M ρ (.Expr e pos :: rest) R := sd_cons <| .mk fun fps σ Hs H hh => by
  refine wS_of (ps_expr pe_w hs) ?_
  exact wE_mono (h _ _ _ _ hh) fun v H' ⟨Hs', s, r⟩ => ⟨M, ρ, fps, Hs', hh.step s, q⟩

/-! ### walks -/
/-- from Hs0 on the iterator J goes over the data ds -/
def Walk (K : PySem.W.Frag) (J : It) (ds : List D) (Hs0 : Hp) : Prop :=
  ∀ (i : Nat) (Hs H : Hp), Ex Hs0 Hs → Ex Hs H → (i < ds.length → J.go i H) ∧ (ds.length ≤ i → J.stop i H) ∧
    ∀ x H', i < ds.length → J.yld i H x H' → ∃ Hs' d, Step Hs H Hs' H' ∧ ds[i]? = some d ∧ Rep K Hs' d x
def EI (X : Cx) (K : PySem.W.Frag) (A : Anc) (M : List Cell) (ρ : Env3) (tg e : Expr) (ds : List D) : Prop :=
  ∃ wi : TI, PI X tg e wi ∧ ∀ fps σ Hs H (R : It → Hp → Prop), StA K A M ρ fps σ Hs H → (∀ J Hs' H', Step Hs H Hs' H' → Walk K J ds Hs' → R J H') → wi σ H R
theorem walk_lst {a : Addr} {xs : List V} {Hs0 : Hp} (h : SqL K Hs0 a xs) (r : Reps K Hs0 ds xs) : Walk K (Itl K a) ds Hs0 := fun i Hs H e0 e1 => by
  have hl := r.length
  have hq := (e0.trans e1).sl h
  refine ⟨fun hi => ⟨xs, xs[i]'(by omega), hq, by simp [hl, hi]⟩, fun hi => ⟨xs, hq, by omega⟩, fun x H' hi ⟨e2, y⟩ => ?_⟩
  subst e2
  obtain ⟨d, h1, h2⟩ := r.get' (y xs hq)
  exact ⟨Hs, d, .refl e1, h1, h2.mono e0⟩
theorem walk_tup {a : Addr} {xs : List V} {Hs0 : Hp} (h : SqT K Hs0 a xs) (r : Reps K Hs0 ds xs) : Walk K (Itt K a) ds Hs0 := fun i Hs H e0 e1 => by
  have hl := r.length
  have hq := (e0.trans e1).st h
  refine ⟨fun hi => ⟨xs, xs[i]'(by omega), hq, by simp [hl, hi]⟩, fun hi => ⟨xs, hq, by omega⟩, fun x H' hi ⟨e2, y⟩ => ?_⟩
  subst e2
  obtain ⟨d, h1, h2⟩ := r.get' (y xs hq)
  exact ⟨Hs, d, .refl e1, h1, h2.mono e0⟩
def rngD (lo c : Int) (n : Nat) : List D := (List.range n).map fun i => .int (lo + (i : Nat) * c)
theorem rngD_length (lo c : Int) (n : Nat) : (rngD lo c n).length = n := by simp [rngD]
theorem rngD_get {lo c : Int} {n i : Nat} (h : i < n) : (rngD lo c n)[i]? = some (.int (lo + (i : Nat) * c)) := by simp [rngD, h]
theorem walk_rng {lo : Int} {n : Nat} {Hs0 : Hp} : Walk K (Itr lo n) (rngD lo 1 n) Hs0 := fun i Hs H e0 e1 => by
  rw [rngD_length]
  refine ⟨fun hi => hi, fun hi => hi, fun x H' hi ⟨e2, y⟩ => ?_⟩
  subst e2; subst y
  exact ⟨Hs, _, .refl e1, rngD_get hi, by rw [Int.mul_one]; exact .int _⟩
theorem walk_rngC {lo c : Int} {n : Nat} {Hs0 : Hp} : Walk K (Itc lo c n) (rngD lo c n) Hs0 := fun i Hs H e0 e1 => by
  rw [rngD_length]
  refine ⟨fun hi => hi, fun hi => hi, fun x H' hi ⟨e2, y⟩ => ?_⟩
  subst e2; subst y
  exact ⟨Hs, _, .refl e1, rngD_get hi, .int _⟩
def sgnD (x : Str) : List D := x.cps.toList.map fun c => .str ⟨#[c]⟩
theorem walk_str {x : Str} {Hs0 : Hp} : Walk K (Its x) (sgnD x) Hs0 := fun i Hs H e0 e1 => by
  have hl : (sgnD x).length = x.cps.size := by simp [sgnD]
  rw [hl]
  refine ⟨fun hi => hi, fun hi => hi, fun v H' hi ⟨e2, c, hc, y⟩ => ?_⟩
  subst e2; subst y
  refine ⟨Hs, .str ⟨#[c]⟩, .refl e1, ?_, .str _⟩
  have : x.cps.toList[i]? = some c := by simpa using hc
  simp [sgnD, this]
def enumD (ds : List D) : List D := (List.range ds.length).map fun i => .tup [.int (i : Nat), ds.getD i .non]
theorem enumD_length : (enumD ds).length = ds.length := by simp [enumD]
theorem enumD_get {i : Nat} (h : ds[i]? = some d) : (enumD ds)[i]? = some (.tup [.int (i : Nat), d]) := by
  have hi : i < ds.length := (List.getElem?_eq_some_iff.mp h).1
  simp [enumD, hi]
  rw [List.getElem?_eq_getElem hi] at h
  exact Option.some.inj h
theorem walk_enum {a : Addr} {xs : List V} {Hs0 : Hp} (h : SqL K Hs0 a xs) (r : Reps K Hs0 ds xs) : Walk K (Ite K a) (enumD ds) Hs0 := fun i Hs H e0 e1 => by
  have hl := r.length
  have hq := (e0.trans e1).sl h
  rw [enumD_length]
  refine ⟨fun hi => ⟨xs, xs[i]'(by omega), hq, by simp [hl, hi]⟩, fun hi => ⟨xs, hq, by omega⟩, fun x H' hi ⟨T, y, e2, hT, e3, hy⟩ => ?_⟩
  subst e2; subst e3
  obtain ⟨d, h1, h2⟩ := r.get' (hy xs hq)
  have s : Step Hs H (upd Hs T (.tup [.int (i : Nat), y])) (upd H T (.tup [.int (i : Nat), y])) := .new e1 hT
  exact ⟨_, _, s, enumD_get h1, .tup (SqT.of upd_same) (.cons (.int _) (.one (h2.mono (e0.trans s.s))))⟩
def zipD (ds es : List D) : List D := (List.range (min ds.length es.length)).map fun i => .tup [ds.getD i .non, es.getD i .non]
theorem zipD_length {es : List D} : (zipD ds es).length = min ds.length es.length := by simp [zipD]
theorem zipD_get {es : List D} {i : Nat} (h : ds[i]? = some d1) (h' : es[i]? = some d2) : (zipD ds es)[i]? = some (.tup [d1, d2]) := by
  have hi : i < ds.length := (List.getElem?_eq_some_iff.mp h).1
  have hi' : i < es.length := (List.getElem?_eq_some_iff.mp h').1
  have e1 : ds.getD i .non = d1 := by rw [List.getD_eq_getElem?_getD, h]; rfl
  have e2 : es.getD i .non = d2 := by rw [List.getD_eq_getElem?_getD, h']; rfl
  unfold zipD
  rw [List.getElem?_map, List.getElem?_range (by omega)]
  show some (D.tup [ds.getD i .non, es.getD i .non]) = _
  rw [e1, e2]
theorem walk_zip {a b : Addr} {xs ys : List V} {es : List D} {Hs0 : Hp} (h : SqL K Hs0 a xs) (r : Reps K Hs0 ds xs) (h' : SqL K Hs0 b ys) (r' : Reps K Hs0 es ys) : Walk K (Itz K a b) (zipD ds es) Hs0 := fun i Hs H e0 e1 => by
  have hl := r.length
  have hl' := r'.length
  have hq := (e0.trans e1).sl h
  have hq' := (e0.trans e1).sl h'
  rw [zipD_length]
  refine ⟨fun hi => ⟨xs, ys, xs[i]'(by omega), ys[i]'(by omega), hq, hq', by simp, by simp⟩, fun hi => ⟨xs, ys, hq, hq', by omega⟩, fun x H' hi ⟨T, y, z, e2, hT, e3, hy, hz⟩ => ?_⟩
  subst e2; subst e3
  obtain ⟨d, h1, h2⟩ := r.get' (hy xs hq)
  obtain ⟨d', h1', h2'⟩ := r'.get' (hz ys hq')
  have s : Step Hs H (upd Hs T (.tup [y, z])) (upd H T (.tup [y, z])) := .new e1 hT
  exact ⟨_, _, s, zipD_get h1 h1', .tup (SqT.of upd_same) (.cons (h2.mono (e0.trans s.s)) (.one (h2'.mono (e0.trans s.s))))⟩

theorem ei_lst (hX : XF X N sc P w K mg base k) (h : ED X K A M ρ e (.lst ds)) : EI X K A M ρ tg e ds := ⟨_, pi_list pe_w, fun fps σ Hs H R hh q => by
  refine wE_mono (h _ _ _ _ hh) fun v H' ⟨Hs', s, r⟩ => ?_
  cases r with
  | lst h1 h2 => exact ⟨_, rfl, ⟨_, by rw [hX.eK]; exact SqL.of (s.i _ _ h1)⟩, by rw [hX.eK]; exact q _ Hs' H' s (walk_lst (SqL.of h1) h2)⟩⟩
theorem ei_tup (hX : XF X N sc P w K mg base k) (h : ED X K A M ρ e (.tup ds)) : EI X K A M ρ tg e ds := ⟨_, pi_tup pe_w, fun fps σ Hs H R hh q => by
  refine wE_mono (h _ _ _ _ hh) fun v H' ⟨Hs', s, r⟩ => ?_
  cases r with
  | tup h1 h2 => exact ⟨_, rfl, ⟨_, by rw [hX.eK]; exact s.i.st h1⟩, by rw [hX.eK]; exact q _ Hs' H' s (walk_tup h1 h2)⟩⟩
theorem ei_str {x : Str} (h : ED X K A M ρ e (.str x)) : EI X K A M ρ tg e (sgnD x) := ⟨_, pi_str pe_w, fun fps σ Hs H R hh q => by
  refine wE_mono (h _ _ _ _ hh) fun v H' ⟨Hs', s, r⟩ => ?_
  cases r
  exact ⟨_, rfl, q _ Hs' H' s walk_str⟩⟩
theorem ei_rng1 (hX : XF X N sc P w K mg base k) (hm : mg "range" = none) {j : Int} (h : EDs X K A M ρ [e] [.int j]) (h1 : -(2 ^ 62) ≤ j) (h2 : j < 2 ^ 62) (hg : GlS sc "range" := by rfl) (hs : starEach [e] X.env = [(false, eval e X.env)] := by exact star_cons rfl) :
    EI X K A M ρ tg (.Call (.Name "range" p) [e] [] pos) (rngD 0 1 j.toNat) := ⟨_, pi_range1 (hX.gl hg) (by rw [hX.em]; exact hm) pa_w hs, fun fps σ Hs H R hh q => by
  refine wA_mono (h _ _ _ _ hh) fun vs H' ⟨Hs', s, r⟩ => ?_
  cases r with
  | cons r r2 =>
    cases r; cases r2
    exact ⟨j, rfl, h1, h2, q _ Hs' H' s walk_rng⟩⟩
theorem ei_rng3 (hX : XF X N sc P w K mg base k) (hm : mg "range" = none) {i j c' : Int} {n : Nat} (h : EDs X K A M ρ [a, b, c] [.int i, .int j, .int c']) (hr : RgC i j c' n) (hg : GlS sc "range" := by rfl) (hs : starEach [a, b, c] X.env = (false, eval a X.env) :: starEach [b, c] X.env := by exact star_cons rfl) (hpl : (backTo pos (starEach [b, c] X.env)).any (·.1) = false := by exact star_plain rfl) :
    EI X K A M ρ tg (.Call (.Name "range" p) [a, b, c] [] pos) (rngD i c' n) := ⟨_, pi_range3 (hX.gl hg) (by rw [hX.em]; exact hm) pa_w hs hpl, fun fps σ Hs H R hh q => by
  refine wA_mono (h _ _ _ _ hh) fun vs H' ⟨Hs', s, r⟩ => ?_
  cases r with
  | cons r r2 =>
    cases r
    cases r2 with
    | cons r r2 =>
      cases r
      cases r2 with
      | cons r r2 =>
        cases r; cases r2
        exact ⟨i, j, c', n, rfl, hr, q _ Hs' H' s walk_rngC⟩⟩
theorem ei_enum (hX : XF X N sc P w K mg base k) (hm : mg "enumerate" = none) {kk : Nat} {tpos : Pos} (h : EDs X K A M ρ [e] [.lst ds]) (hg : GlS sc "enumerate" := by rfl) (hs : starEach [e] X.env = [(false, eval e X.env)] := by exact star_cons rfl) :
    EI X K A M ρ (.Tuple es kk tpos) (.Call (.Name "enumerate" p) [e] [] pos) (enumD ds) := ⟨_, pi_enum (hX.gl hg) (by rw [hX.em]; exact hm) pa_w hs, fun fps σ Hs H R hh q => by
  refine wA_mono (h _ _ _ _ hh) fun vs H' ⟨Hs', s, r⟩ => ?_
  cases r with
  | cons r r2 =>
    cases r2
    cases r with
    | lst h1 h2 => exact ⟨_, _, rfl, by rw [hX.eK]; exact SqL.of (s.i _ _ h1), by rw [hX.eK]; exact q _ Hs' H' s (walk_enum (SqL.of h1) h2)⟩⟩
theorem ei_zip (hX : XF X N sc P w K mg base k) (hm : mg "zip" = none) {kk : Nat} {tpos : Pos} {fs : List D} (h : EDs X K A M ρ [a, b] [.lst ds, .lst fs]) (hg : GlS sc "zip" := by rfl) (hs : starEach [a, b] X.env = (false, eval a X.env) :: starEach [b] X.env := by exact star_cons rfl) (hpl : (backTo pos (starEach [b] X.env)).any (·.1) = false := by exact star_plain rfl) :
    EI X K A M ρ (.Tuple es kk tpos) (.Call (.Name "zip" p) [a, b] [] pos) (zipD ds fs) := ⟨_, pi_zip (hX.gl hg) (by rw [hX.em]; exact hm) pa_w hs hpl, fun fps σ Hs H R hh q => by
  refine wA_mono (h _ _ _ _ hh) fun vs H' ⟨Hs', s, r⟩ => ?_
  cases r with
  | cons r r2 =>
    cases r2 with
    | cons r' r2 =>
      cases r2
      cases r with
      | lst h1 h2 =>
        cases r' with
        | lst h1' h2' => exact ⟨_, _, _, _, rfl, by rw [hX.eK]; exact SqL.of (s.i _ _ h1), by rw [hX.eK]; exact SqL.of (s.i _ _ h1'), by rw [hX.eK]; exact q _ Hs' H' s (walk_zip (SqL.of h1) h2 (SqL.of h1') h2')⟩⟩

/-! ### for -/
theorem StepA.trans {A : Anc} {fps fps' : List (List Addr)} {Hs H Hs' H' : Hp} (h : StepA A fps Hs H) (s : StepA ⟨fps, Hs, H⟩ fps' Hs' H') : StepA A fps' Hs' H' := by
  have nw : ∀ x, A.H x ≠ none → x ∉ A.fps.flatten → x ∉ fps.flatten := fun x h1 h2 z => by
    rcases h.w x z with q | q
    · exact h2 q
    · exact h1 q
  have th : ∀ x, A.H x ≠ none → x ∉ A.fps.flatten → H x ≠ none := fun x h1 h2 z => by
    cases q : A.H x with
    | none => exact h1 q
    | some o => rw [h.f x o q h2] at z; cases z
  refine ⟨h.s.trans s.s, fun x o h1 h2 => s.f x o (h.f x o h1 h2) (nw x (by rw [h1]; exact fun z => nomatch z) h2), fun x h1 h2 h3 => s.n x (th x h1 h2) (nw x h1 h2) (h.n x h1 h2 h3), fun x hx => ?_, fun j f hj => ?_⟩
  rotate_left
  · obtain ⟨f1, e1, q1⟩ := h.hd j f hj
    obtain ⟨f2, e2, q2⟩ := s.hd j f1 e1
    refine ⟨f2, e2, ?_⟩
    rcases q2 with q2 | ⟨q2, q3⟩
    · exact .inl q2
    · rcases q1 with q1 | ⟨q1, q4⟩
      · exact absurd q1 q2
      · exact .inr ⟨q1, q3.trans q4⟩
  rcases s.w x hx with q | q
  · exact h.w x q
  · by_cases hA : A.H x = none
    · exact .inr hA
    · by_cases hf : x ∈ A.fps.flatten
      · exact .inl hf
      · exact absurd q (th x hA hf)
theorem StepA.self {fps : List (List Addr)} {Hs H : Hp} : StepA ⟨fps, Hs, H⟩ fps Hs H := ⟨.refl _, fun _ _ h _ => h, fun _ _ _ h => h, fun _ h => .inl h, fun j f hj => ⟨f, hj, by cases f with | nil => exact .inl rfl | cons a r => exact .inr ⟨by simp, rfl⟩⟩⟩
/-- a later anchor -/
def Anc.le (A A' : Anc) : Prop := StepA A A'.fps A'.Hs A'.H
theorem StA.up {A A' : Anc} {fps : List (List Addr)} {σ : L2.St} {Hs H : Hp} (h : StA K A' M ρ fps σ Hs H) (l : Anc.le A A') : StA K A M ρ fps σ Hs H := ⟨h.st, l.trans h.an⟩
/-- for over any walk: I by the turns done -/
theorem sd_for (hX : XF X N sc P w K mg base k) {body : List Stmt} (hi : EI X K A M ρ tg e ds) (I : Nat → List Cell → Env3 → Prop) (h0 : I 0 M ρ)
    (hs : ∀ A', Anc.le A A' → ∀ i d M ρ, ds[i]? = some d → I i M ρ → ∃ pl ρ', TGt X K tg d pl ρ ρ' ∧ SD X K A' M ρ' body ⟨I (i + 1), R.rt, fun M ρ => SD X K A M ρ rest R, I (i + 1)⟩)
    (hd : ∀ M ρ, I ds.length M ρ → SD X K A M ρ rest R) (hp : PassesOwn (model X.prog X.w) X.A X.env X.xe)
    (hf : ∀ x, foldedSetIterable e X.env x = pure x := by intro _; rfl) : SD X K A M ρ (.For tg e body [] pos :: rest) R := sd_cons <| .mk fun fps0 σ0 Hs0 H0 hh => by
  obtain ⟨wi, hpi, hw⟩ := hi
  refine wS_of (ps_for hp hX.calm hpi pg_w pss_w hf) ?_
  refine hw _ _ _ _ _ hh fun J Hs1 H1 s1 wk => ?_
  have h1 := hh.step s1
  refine ⟨fun i m σ H => m = ds.length - i ∧ i ≤ ds.length ∧ ∃ M ρ fps Hs, StA K ⟨fps0, Hs1, H1⟩ M ρ fps σ Hs H ∧ I i M ρ, ⟨ds.length, by simp, Nat.zero_le _, M, ρ, fps0, Hs1, ⟨h1.st, .self⟩, h0⟩, ?_⟩
  have le : Anc.le A ⟨fps0, Hs1, H1⟩ := h1.an
  rintro i m σ H ⟨rfl, hil, M2, ρ2, fps2, Hs2, h2, hI⟩
  obtain ⟨wgo, wstop, wy⟩ := wk i Hs2 H h2.an.s h2.st.e
  by_cases hlt : i < ds.length
  · refine .inr ⟨wgo hlt, fun σ' H' => ∃ M ρ fps Hs, StA K ⟨fps0, Hs1, H1⟩ M ρ fps σ' Hs H' ∧ I (i + 1) M ρ, fun σ' H' q => ⟨ds.length - (i + 1), by omega, rfl, hlt, q⟩, fun x H' y => ?_⟩
    obtain ⟨Hs3, d, s3, hd', r3⟩ := wy x H' hlt y
    obtain ⟨pl, ρ', tgt, body'⟩ := hs ⟨fps0, Hs1, H1⟩ le i d M2 ρ2 hd' hI
    have h3 := h2.step s3
    refine wG_mono (tgt _ _ _ _ x s3.i h3.st.slots r3) fun σ4 H4 ⟨e4, sl4, _⟩ => ?_
    subst e4
    refine wSs_mono (body' _ _ _ _ (h3.slots sl4)) (fun _ _ q => q) ?_ ?_ (fun _ _ q => q)
    · rintro v H5 ⟨M5, d5, fps5, Hs5, q1, q2, q3⟩
      exact ⟨M5, d5, fps5, Hs5, q1.up le, q2, q3⟩
    · rintro σ5 H5 ⟨M5, ρ5, fps5, Hs5, q1, q2⟩
      exact ⟨M5, ρ5, fps5, Hs5, q1.up le, q2⟩
  · refine .inl ⟨wstop (by omega), M2, ρ2, fps2, Hs2, h2.up le, hd M2 ρ2 ?_⟩
    have : i = ds.length := by omega
    rw [← this]; exact hI
end
end T3
/-! T3d: cells of one's own, while, comprehensions, a def's promise. -/
namespace T3
open PySem L2

section
variable {K : PySem.W.Frag} {Hs H Hs' H' : Hp} {A : Anc} {M : List Cell} {ρ ρ' : Env3} {fps : List (List Addr)} {σ σ' : L2.St}
theorem Cells.length : ∀ {fps : List (List Addr)} {M : List Cell}, Cells K Hs H fps M → fps.length = M.length
  | [], [], _ => rfl
  | _ :: _, _ :: _, h => by rw [List.length_cons, List.length_cons, Cells.length h.2]
  | [], _ :: _, h => h.elim
  | _ :: _, [], h => h.elim
theorem Cells.snoc {f : List Addr} {c : Cell} : ∀ {fps : List (List Addr)} {M : List Cell}, Cells K Hs H fps M → CellOk K Hs H f c → Cells K Hs H (fps ++ [f]) (M ++ [c])
  | [], [], _, r => ⟨r, trivial⟩
  | _ :: _, _ :: _, h, r => ⟨h.1, Cells.snoc h.2 r⟩
  | [], _ :: _, h, _ => h.elim
  | _ :: _, [], h, _ => h.elim
/-- the cell at place j changes at its one address -/
theorem Cells.set_at {a : Addr} {o : HO} {c' : Cell} : ∀ {fps : List (List Addr)} {M : List Cell} {j : Nat}, Cells K Hs H fps M → fps.flatten.Nodup → fps[j]? = some [a] → CellOk K Hs (upd H a o) [a] c' → Cells K Hs (upd H a o) fps (M.set j c')
  | [], [], _, _, _, e, _ => by simp at e
  | f :: fs, c :: cs, 0, h, nd, e, r => by
    simp at e; subst e
    refine ⟨r, h.2.mono (.refl _) fun b hb => upd_ne ?_⟩
    rw [List.flatten_cons] at nd
    have := (List.nodup_append.mp nd).2.2 a (by simp) b hb
    exact fun z => this z.symm
  | f :: fs, c :: cs, j + 1, h, nd, e, r => by
    rw [List.flatten_cons] at nd
    have e' : fs[j]? = some [a] := by simpa using e
    have ha : a ∈ fs.flatten := List.mem_flatten.mpr ⟨[a], List.mem_of_getElem? e', by simp⟩
    exact ⟨h.1.mono (.refl _) fun b hb => upd_ne ((List.nodup_append.mp nd).2.2 b hb a ha), Cells.set_at h.2 (List.nodup_append.mp nd).2.1 e' r⟩
  | [], _ :: _, _, h, _, _, _ => h.elim
  | _ :: _, [], _, h, _, _, _ => h.elim
theorem mem_flat {j : Nat} {a : Addr} (h : fps[j]? = some [a]) : a ∈ fps.flatten := List.mem_flatten.mpr ⟨[a], List.mem_of_getElem? h, by simp⟩
theorem StA.write (h : StA K A M ρ fps σ Hs H) {j : Nat} {a : Addr} {o : HO} {c' : Cell} (hj : fps[j]? = some [a]) (r : CellOk K Hs (upd H a o) [a] c') : StA K A (M.set j c') ρ fps σ Hs (upd H a o) := by
  have ha := mem_flat hj
  have hna := (h.st.own a ha).1
  refine ⟨⟨fun b u hb => ?_, h.st.nd, fun b hb => ⟨(h.st.own b hb).1, ?_⟩, h.st.cells.set_at h.st.nd hj r, h.st.slots⟩, h.an.s, fun b u h1 h2 => ?_, h.an.n, h.an.w, h.an.hd⟩
  · rw [upd_ne (fun z => by rw [z, hna] at hb; cases hb)]
    exact h.st.e b u hb
  · by_cases z : b = a
    · subst z; rw [upd_same]; exact fun q => nomatch q
    · rw [upd_ne z]; exact (h.st.own b hb).2
  · have z : b ≠ a := fun z => by
      rcases h.an.w a ha with q | q
      · exact h2 (z ▸ q)
      · rw [← z, h1] at q; cases q
    rw [upd_ne z]
    exact h.an.f b u h1 h2
theorem SlotOk.snoc {f : List Addr} : ∀ {s : Slot} {v : V}, SlotOk K Hs fps s v → SlotOk K Hs (fps ++ [f]) s v
  | .sh _, _, h => h
  | .raw _, _, h => h
  | .cell j, _, ⟨a, r, h1, h2⟩ => ⟨a, r, by
      have hl : j < fps.length := (List.getElem?_eq_some_iff.mp h1).1
      rw [List.getElem?_append_left hl]; exact h1, h2⟩
theorem Slots.snoc {f : List Addr} : ∀ {ρ : Env3} {σ : L2.St}, Slots K Hs fps ρ σ → Slots K Hs (fps ++ [f]) ρ σ
  | [], [], _ => trivial
  | none :: ρ, _ :: σ, h => show Slots K Hs (fps ++ [f]) ρ σ from Slots.snoc (ρ := ρ) (σ := σ) h
  | some _ :: _, some _ :: _, ⟨h1, h2⟩ => ⟨h1.snoc, Slots.snoc h2⟩
  | [], _ :: _, h => h.elim
  | none :: _, [], h => h.elim
  | some _ :: _, [], h => h.elim
  | some _ :: _, none :: _, h => h.elim
/-- a new object of one's own joins the cells -/
theorem StA.push (h : StA K A M ρ fps σ Hs H) (s : Step Hs H Hs' H') {p : Addr} {c : Cell} (hp : H p = none) (hp' : Hs' p = none) (hq : H' p ≠ none) (r : CellOk K Hs' H' [p] c) : StA K A (M ++ [c]) ρ (fps ++ [[p]]) σ Hs' H' := by
  have h' := h.step s
  have np : p ∉ fps.flatten := fun z => (h.st.own p z).2 hp
  have ef : (fps ++ [[p]]).flatten = fps.flatten ++ [p] := by simp
  refine ⟨⟨h'.st.e, ?_, fun a ha => ?_, h'.st.cells.snoc r, h'.st.slots.snoc⟩, h'.an.s, h'.an.f, h'.an.n, fun a ha => ?_, fun j f hj => ?_⟩
  rotate_right
  · obtain ⟨f', e1, q1⟩ := h.an.hd j f hj
    refine ⟨f', ?_, q1⟩
    rw [List.getElem?_append_left (List.getElem?_eq_some_iff.mp e1).1]
    exact e1
  · rw [ef]
    refine List.nodup_append.mpr ⟨h.st.nd, by simp, fun a ha b hb z => ?_⟩
    have : b = p := by simpa using hb
    subst this; subst z; exact np ha
  · rw [ef] at ha
    rcases List.mem_append.mp ha with q | q
    · exact h'.st.own a q
    · have : a = p := by simpa using q
      subst this
      exact ⟨hp', hq⟩
  · rw [ef] at ha
    rcases List.mem_append.mp ha with q | q
    · exact h'.an.w a q
    · have e : a = p := by simpa using q
      rw [e]
      by_cases hA : A.H p = none
      · exact .inr hA
      · by_cases hf : p ∈ A.fps.flatten
        · exact .inl hf
        · exfalso
          cases q2 : A.H p with
          | none => exact hA q2
          | some o => rw [h.an.f p o q2 hf] at hp; cases hp
theorem Slots.forget : ∀ {ρ : Env3} {σ : L2.St} (i : Nat), Slots K Hs fps ρ σ → Slots K Hs fps (ρ.set i Option.none) σ
  | [], [], _, _ => trivial
  | none :: _, _ :: _, 0, h => h
  | none :: ρ, _ :: σ, i + 1, h => show Slots K Hs fps (ρ.set i Option.none) σ from Slots.forget (ρ := ρ) (σ := σ) i h
  | some _ :: ρ, some _ :: σ, 0, ⟨_, h⟩ => show Slots K Hs fps ρ σ from h
  | some _ :: _, some _ :: _, i + 1, ⟨h1, h⟩ => ⟨h1, Slots.forget i h⟩
  | [], _ :: _, _, h => h.elim
  | none :: _, [], _, h => h.elim
  | some _ :: _, [], _, h => h.elim
  | some _ :: _, none :: _, _, h => h.elim
theorem list_set_self {α : Type} {l : List α} {i : Nat} {a : α} (h : l[i]? = some a) : l.set i a = l := by
  obtain ⟨h1, h2⟩ := List.getElem?_eq_some_iff.mp h
  rw [← h2]
  exact List.set_getElem_self h1
/-- a cell becomes what all may share -/
def notCell (j : Nat) : Option Slot → Bool
  | some (.cell i) => i != j
  | _ => true
theorem Cells.gone : ∀ {fps : List (List Addr)} {M : List Cell} {j : Nat}, Cells K Hs H fps M → Cells K Hs H (fps.set j []) (M.set j .gone)
  | [], [], _, _ => trivial
  | _ :: _, _ :: _, 0, h => ⟨trivial, h.2⟩
  | _ :: _, _ :: _, j + 1, h => ⟨h.1, Cells.gone h.2⟩
  | [], _ :: _, _, h => h.elim
  | _ :: _, [], _, h => h.elim
theorem Slots.gone {j : Nat} : ∀ {ρ : Env3} {σ : L2.St}, ρ.all (notCell j) = true → Slots K Hs fps ρ σ → Slots K Hs (fps.set j []) ρ σ
  | [], [], _, _ => trivial
  | none :: ρ, _ :: σ, w, h => show Slots K Hs (fps.set j []) ρ σ from Slots.gone (ρ := ρ) (σ := σ) (by simpa [notCell] using w) h
  | some (.sh _) :: _, some _ :: _, w, ⟨h1, h2⟩ => ⟨h1, Slots.gone (by simpa [notCell] using w) h2⟩
  | some (.raw _) :: _, some _ :: _, w, ⟨h1, h2⟩ => ⟨h1, Slots.gone (by simpa [notCell] using w) h2⟩
  | some (.cell i) :: _, some _ :: _, w, ⟨⟨a, r, q1, q2⟩, h2⟩ => by
    rw [List.all_cons, Bool.and_eq_true] at w
    refine ⟨⟨a, r, ?_, q2⟩, Slots.gone w.2 h2⟩
    rw [List.getElem?_set_ne (fun z => by have := w.1; simp [notCell, z] at this)]
    exact q1
  | [], _ :: _, _, h => h.elim
  | none :: _, [], _, h => h.elim
  | some _ :: _, [], _, h => h.elim
  | some _ :: _, none :: _, _, h => h.elim
theorem flat_gone : ∀ {fps : List (List Addr)} {j : Nat}, (fps.set j []).flatten.Sublist fps.flatten
  | [], _ => by simp
  | f :: fs, 0 => by simp
  | f :: fs, j + 1 => by
    rw [List.set_cons_succ, List.flatten_cons, List.flatten_cons]
    exact (List.Sublist.refl f).append flat_gone
theorem StA.freeze (h : StA K A M ρ fps σ Hs H) {j : Nat} {a : Addr} {o : HO} (hj : fps[j]? = some [a]) (ho : H a = some o) {i : Nat} {d : D} (hi : ρ[i]? = some (some (.cell j))) (hn : (ρ.set i none).all (notCell j) = true)
    (r : Rep K (upd Hs a o) d (.ref a)) : StA K A (M.set j .gone) (ρ.set i (some (.sh d))) (fps.set j []) σ (upd Hs a o) H := by
  have ha := mem_flat hj
  have hna := (h.st.own a ha).1
  have nid : ∀ b, b ∈ (fps.set j []).flatten → b ≠ a ∧ b ∈ fps.flatten := by
    have : ∀ {fps : List (List Addr)} {j : Nat}, fps.flatten.Nodup → fps[j]? = some [a] → ∀ b, b ∈ (fps.set j []).flatten → b ≠ a := by
      intro fps
      induction fps with
      | nil => intro j _ e; simp at e
      | cons f fs ih =>
        intro j nd e b hb z
        subst z
        rw [List.flatten_cons] at nd
        cases j with
        | zero =>
          simp at e; subst e
          rw [List.set_cons_zero, List.flatten_cons] at hb
          have hb' : b ∈ fs.flatten := by simpa using hb
          exact (List.nodup_append.mp nd).2.2 b (by simp) b hb' rfl
        | succ j =>
          have e' : fs[j]? = some [b] := by simpa using e
          rw [List.set_cons_succ, List.flatten_cons] at hb
          rcases List.mem_append.mp hb with q | q
          · exact (List.nodup_append.mp nd).2.2 b q b (mem_flat e') rfl
          · exact ih (List.nodup_append.mp nd).2.1 e' b q rfl
    exact fun b hb => ⟨this h.st.nd hj b hb, flat_gone.subset hb⟩
  have ex : Ex Hs (upd Hs a o) := .new hna
  refine ⟨⟨fun b u hb => ?_, h.st.nd.sublist flat_gone, fun b hb => ?_, ?_, ?_⟩, h.an.s.trans ex, h.an.f, fun b h1 h2 h3 => ?_, fun b hb => h.an.w b (nid b hb).2, fun j' f hj' => ?_⟩
  rotate_right
  · obtain ⟨f', e1, q1⟩ := h.an.hd j' f hj'
    by_cases z : j = j'
    · subst z
      exact ⟨[], List.getElem?_set_self (List.getElem?_eq_some_iff.mp e1).1, .inl rfl⟩
    · exact ⟨f', by rw [List.getElem?_set_ne z]; exact e1, q1⟩
  · by_cases z : b = a
    · subst z; rw [upd_same] at hb; cases hb; exact ho
    · rw [upd_ne z] at hb; exact h.st.e b u hb
  · obtain ⟨n1, n2⟩ := nid b hb
    rw [upd_ne n1]
    exact h.st.own b n2
  · exact (h.st.cells.mono ex (fun _ _ => rfl)).gone
  · obtain ⟨v, q1, a', r', q2, q3⟩ := h.st.slots.get hi
    rw [hj] at q2; cases q2
    subst q3
    have w1 := ((h.st.slots.forget i).gone hn).mono ex
    have w2 := w1.set i (s := .sh d) (v := .ref a) r
    rw [List.set_set] at w2
    rw [list_set_self q1] at w2
    exact w2
  · have z : b ≠ a := fun z => by
      rcases h.an.w a ha with q | q
      · exact h2 (z ▸ q)
      · exact h1 (z ▸ q)
    rw [upd_ne z]
    exact h.an.n b h1 h2 h3
end

section
variable {X : Cx} {N : List Str} {sc : Scope} {P : Program} {w : World} {K : PySem.W.Frag} {mg : Str → Option Value} {base : Heap} {k : Nat}
variable {A : Anc} {M : List Cell} {ρ ρ' : Env3} {a b c e tg : Expr} {es : List Expr} {d d1 d2 d3 : D} {ds fs : List D} {pos p p2 : Pos} {st : Stmt} {sts rest : List Stmt} {R : Post}

/-- x = [..], the list one's own -/
theorem sd_setF (hX : XF X N sc P w K mg base k) (i : Nat) {x : Str} {pos' : Pos} (hN : N[i]? = some x) (h : EF X K A M ρ e ds) (q : SD X K A (M ++ [.lst ds]) (ρ.set i (some (.cell M.length))) rest R) (hl : Loc sc x := by first | exact .inl rfl | exact .inr rfl)
    (hs : swapsWith e (some (.Name x pos')) pos.line X.env = pure false := by rfl) (hF : ∀ x, X.fn x = true := by assumption) : SD X K A M ρ (.Assign [.Name x pos'] e pos :: rest) R := sd_cons <| .mk fun fps σ Hs H hh => by
  refine wS_of (ps_set (i := i) (by rw [hX.eN]; exact hX.nd) (by rw [hX.eN]; exact hN) (hX.loc hl) pe_w hs (hX.sto hF hl)) ?_
  refine wE_mono (h _ _ _ _ hh) fun v H' ⟨Hs', p, xs, s, ev, h1, h2, h3, h4⟩ => ?_
  subst ev
  have h' := hh.push s (c := .lst ds) h1 h2 (by rw [h3]; exact fun z => nomatch z) ⟨xs, h3, h4⟩
  refine ⟨_, _, _, Hs', h'.slots (h'.st.slots.set i (s := .cell M.length) ⟨p, [], ?_, rfl⟩), q⟩
  rw [← hh.st.cells.length, List.getElem?_append_right (Nat.le_refl _), Nat.sub_self]
  rfl
theorem sd_freeze (i j : Nat) (hi : ρ[i]? = some (some (.cell j))) (hM : M[j]? = some (.lst ds)) (hn : (ρ.set i none).all (notCell j) = true) (q : SD X K A (M.set j .gone) (ρ.set i (some (.sh (.lst ds)))) sts R) : SD X K A M ρ sts R := .mk fun fps σ Hs H hh => by
  obtain ⟨v, q1, a, r, q2, q3⟩ := hh.st.slots.get hi
  obtain ⟨hr, xs, h1, h2⟩ := (hh.st.cells.get q2 hM).lst_at (f := [])
  subst hr
  exact q _ _ _ _ (hh.freeze q2 h1 hi hn (.lst upd_same (h2.mono (.new (hh.st.own a (mem_flat q2)).1))))
theorem sd_freezeD {ks : List Str} (i j : Nat) (hi : ρ[i]? = some (some (.cell j))) (hM : M[j]? = some (.dct ks ds)) (hn : (ρ.set i none).all (notCell j) = true) (q : SD X K A (M.set j .gone) (ρ.set i (some (.sh (.dct ks ds)))) sts R) : SD X K A M ρ sts R := .mk fun fps σ Hs H hh => by
  obtain ⟨v, q1, a, r, q2, q3⟩ := hh.st.slots.get hi
  obtain ⟨hr, ws, h1, h2, h3⟩ := (hh.st.cells.get q2 hM).dct_at
  subst hr
  exact q _ _ _ _ (hh.freeze q2 h1 hi hn (.dct (Rd.of upd_same) h2 (h3.mono (.new (hh.st.own a (mem_flat q2)).1))))
theorem Cells.lst1 {Hs H : Hp} {fps : List (List Addr)} {j : Nat} {a : Addr} {r : List Addr} (h : Cells K Hs H fps M) (h1 : fps[j]? = some (a :: r)) (h2 : M[j]? = some (.lst ds)) : fps[j]? = some [a] ∧ ∃ xs, H a = some (.lst xs) ∧ Reps K Hs ds xs := by
  obtain ⟨hr, q⟩ := (h.get h1 h2).lst_at (f := [])
  subst hr
  exact ⟨h1, q⟩
theorem Cells.dct1 {Hs H : Hp} {ks : List Str} {fps : List (List Addr)} {j : Nat} {a : Addr} {r : List Addr} (h : Cells K Hs H fps M) (h1 : fps[j]? = some (a :: r)) (h2 : M[j]? = some (.dct ks ds)) : fps[j]? = some [a] ∧ ∃ ws, H a = some (.dK ws) ∧ ws.map (·.1) = ks.map Sum.inr ∧ Reps K Hs ds (ws.map (·.2)) := by
  obtain ⟨hr, q⟩ := (h.get h1 h2).dct_at
  subst hr
  exact ⟨h1, q⟩
/-- xs.append(e) -/
theorem sd_append (hX : XF X N sc P w K mg base k) {j : Nat} {apos cpos : Pos} (hc : EC X K A M ρ a j) (hM : M[j]? = some (.lst ds)) (h : EDs X K A M ρ [e] [d]) (hl : ds.length < 100000) (q : SD X K A (M.set j (.lst (ds ++ [d]))) ρ rest R)
    (hs : swapsWith (.Call (.Attribute a "append" apos) [e] [] cpos) none pos.line X.env = pure false := by rfl) (hbase : attributeBase a "append" X.env (eval a X.env) = eval a X.env := by rfl)
    (hfew : ((backTo cpos (starEach [e] X.env)).all (fun x => !x.1) && (backToKw cpos (keywordEach [] X.env)).all (fun x => x.1.isSome) && decide (([e] : List Expr).length + ([] : List Keyword).length + (if ([] : List Keyword).isEmpty then 0 else 1) < 30)) = true := by exact star_few rfl)
    (hline : (apos.endLine == cpos.line) = true := by rfl) (hst : starEach [e] X.env = (false, eval e X.env) :: starEach [] X.env := by exact star_cons rfl) (hplain : (backTo cpos (starEach [] X.env)).any (·.1) = false := by exact star_plain rfl) :
    SD X K A M ρ (.Expr (.Call (.Attribute a "append" apos) [e] [] cpos) pos :: rest) R := sd_cons <| .mk fun fps σ Hs H hh => by
  refine wS_of (ps_expr (pe_bm PySem.F.plainAttrs_list PySem.F.slot_list_append PySem.F.type_list_append mt_append pe_w pa_w hbase hfew hline hst hplain) hs) ?_
  refine wE_mono (hc _ _ _ _ hh) fun v H' ⟨e1, x, r, h1, h2⟩ => ?_
  subst e1; subst h2
  obtain ⟨hj, xs, hx, rx⟩ := hh.st.cells.lst1 h1 hM
  refine ⟨.inl ⟨rfl, xs, SqL.of hx⟩, ?_⟩
  refine wA_mono (h _ _ _ _ hh) fun vs H1 ⟨Hs1, s1, r1⟩ => ?_
  cases r1 with
  | cons r1 r2 =>
    cases r2
    have h' := hh.step s1
    refine ⟨x, xs, _, rfl, rfl, s1.h _ _ hx, by rw [rx.length]; exact Nat.lt_of_lt_of_le hl (by decide), ?_⟩
    exact ⟨_, ρ, fps, Hs1, h'.write (c' := .lst (ds ++ [d])) hj ⟨_, upd_same, (rx.mono s1.s).append (.one r1)⟩, q⟩
/-- xs.extend([..]) -/
theorem sd_extend (hX : XF X N sc P w K mg base k) {j : Nat} {apos cpos : Pos} (hc : EC X K A M ρ a j) (hM : M[j]? = some (.lst ds)) (h : EF X K A M ρ e fs) (hl : ds.length + fs.length ≤ 100000) (q : SD X K A (M.set j (.lst (ds ++ fs))) ρ rest R)
    (hs : swapsWith (.Call (.Attribute a "extend" apos) [e] [] cpos) none pos.line X.env = pure false := by rfl) (hbase : attributeBase a "extend" X.env (eval a X.env) = eval a X.env := by rfl)
    (hfew : ((backTo cpos (starEach [e] X.env)).all (fun x => !x.1) && (backToKw cpos (keywordEach [] X.env)).all (fun x => x.1.isSome) && decide (([e] : List Expr).length + ([] : List Keyword).length + (if ([] : List Keyword).isEmpty then 0 else 1) < 30)) = true := by exact star_few rfl)
    (hline : (apos.endLine == cpos.line) = true := by rfl) (hst : starEach [e] X.env = (false, eval e X.env) :: starEach [] X.env := by exact star_cons rfl) (hplain : (backTo cpos (starEach [] X.env)).any (·.1) = false := by exact star_plain rfl) :
    SD X K A M ρ (.Expr (.Call (.Attribute a "extend" apos) [e] [] cpos) pos :: rest) R := sd_cons <| .mk fun fps σ Hs H hh => by
  refine wS_of (ps_expr (pe_bm PySem.F.plainAttrs_list PySem.F.slot_list_extend PySem.F.type_list_extend mt_extend pe_w (pa_cons pe_w pa_nil hst) hbase hfew hline hst hplain) hs) ?_
  refine wE_mono (hc _ _ _ _ hh) fun v H' ⟨e1, x, r, h1, h2⟩ => ?_
  subst e1; subst h2
  obtain ⟨hj, xs, hx, rx⟩ := hh.st.cells.lst1 h1 hM
  refine ⟨.inl ⟨rfl, xs, SqL.of hx⟩, ?_⟩
  refine wE_mono (h _ _ _ _ hh) fun v H1 ⟨Hs1, p, ys, s1, ev, p1, p2, p3, p4⟩ => ?_
  subst ev
  have h' := hh.step s1
  refine ⟨x, p, xs, ys, rfl, rfl, s1.h _ _ hx, p3, by rw [rx.length, p4.length]; exact Nat.le_trans hl (by decide), ?_⟩
  exact ⟨_, ρ, fps, Hs1, h'.write (c' := .lst (ds ++ fs)) hj ⟨_, upd_same, (rx.mono s1.s).append p4⟩, q⟩
/-- xs[i] = e -/
theorem sd_setIx (hX : XF X N sc P w K mg base k) {j n : Nat} {i : Int} (h : ED X K A M ρ e d) (hc : EC X K A M ρ a j) (hb : ED X K A M ρ b (.int i)) (hM : M[j]? = some (.lst ds)) (hn : ixN ds.length i = some n) (q : SD X K A (M.set j (.lst (ds.set n d))) ρ rest R)
    (ha : ∀ v, assign (.Subscript a b p) X.env v = (do
      let ov ← holding [v] (eval a X.env)
      let iv ← holding [v, ov] (eval b X.env)
      standAt p
      holding [v, ov, iv] (setItem ov iv v)
      release [v, ov, iv] []) := by intro _; rfl) (hs : swapsWithSole [.Subscript a b p] e pos.line X.env = pure false := by rfl) (hw : swappedStores [.Subscript a b p] e X.env = pure none := by rfl)
    (h1 : (assignEach [.Subscript a b p] X.env).map (·.2) = [assign (.Subscript a b p) X.env] := by rfl) : SD X K A M ρ (.Assign [.Subscript a b p] e pos :: rest) R := sd_cons <| .mk fun fps σ Hs H hh => by
  refine wS_of (ps_asg pe_w (pg_sub pe_w pe_w set_list ha) hs hw h1) ?_
  refine wE_mono (h _ _ _ _ hh) fun v H1 ⟨Hs1, s1, r1⟩ => ?_
  have hh1 := hh.step s1
  refine wE_mono (hc _ _ _ _ hh1) fun v2 H2 ⟨e2, x, r, q1, q2⟩ => ?_
  subst e2; subst q2
  refine wE_mono (hb _ _ _ _ hh1) fun v3 H3 ⟨Hs3, s3, r3⟩ => ?_
  cases r3
  have hh3 := hh1.step s3
  obtain ⟨hj, xs, hx, rx⟩ := hh3.st.cells.lst1 q1 hM
  refine ⟨x, xs, i, n, rfl, rfl, hx, by rw [rx.length]; exact hn, ?_⟩
  exact ⟨_, ρ, fps, Hs3, hh3.write (c' := .lst (ds.set n d)) hj ⟨_, upd_same, rx.set n (r1.mono s3.s)⟩, q⟩
theorem sd_while (hX : XF X N sc P w K mg base k) {body : List Stmt} (I : Nat → List Cell → Env3 → Prop) (m0 : Nat) (h0 : I m0 M ρ)
    (hs : ∀ m M ρ, I m M ρ → ∃ t, ET X K A M ρ c t ∧ (t = true → SD X K A M ρ body ⟨fun M ρ => ∃ m', m' < m ∧ I m' M ρ, R.rt, fun M ρ => SD X K A M ρ rest R, fun M ρ => ∃ m', m' < m ∧ I m' M ρ⟩) ∧ (t = false → SD X K A M ρ rest R))
    (hp : PassesOwn (model X.prog X.w) X.A X.env X.xe) : SD X K A M ρ (.While c body [] pos :: rest) R := sd_cons <| .mk fun fps0 σ0 Hs0 H0 hh => by
  refine wS_of (ps_while hp pt_w pss_w) ?_
  refine ⟨fun m σ H => ∃ M ρ fps Hs, StA K A M ρ fps σ Hs H ∧ I m M ρ, ⟨m0, M, ρ, fps0, Hs0, hh, h0⟩, ?_⟩
  rintro m σ H ⟨M1, ρ1, fps1, Hs1, h1, hI⟩
  obtain ⟨t, ht, hT, hF⟩ := hs m M1 ρ1 hI
  refine wT_mono (ht _ _ _ _ h1) fun c' H' ⟨e1, Hs', s⟩ => ?_
  subst e1
  cases c' with
  | false =>
    rw [if_neg Bool.false_ne_true]
    exact ⟨M1, ρ1, fps1, Hs', h1.step s, hF rfl⟩
  | true =>
    rw [if_pos rfl]
    refine ⟨fun σ H => ∃ M ρ fps Hs, StA K A M ρ fps σ Hs H ∧ ∃ m', m' < m ∧ I m' M ρ, ?_, ?_⟩
    · rintro σ2 H2 ⟨M2, ρ2, fps2, Hs2, q1, m', q2, q3⟩
      exact ⟨m', q2, M2, ρ2, fps2, Hs2, q1, q3⟩
    · exact hT rfl _ _ _ _ (h1.step s)

/-! ### comprehensions -/
def wipeE (ρ : Env3) : List Nat → Env3
  | [] => ρ
  | v :: vs => (wipeE ρ vs).set v none
theorem Slots.setNone {Hs : Hp} {fps : List (List Addr)} : ∀ {ρ : Env3} {σ : L2.St} (i : Nat), Slots K Hs fps ρ σ → Slots K Hs fps (ρ.set i Option.none) (σ.set i Option.none)
  | [], [], _, _ => trivial
  | none :: _, _ :: _, 0, h => h
  | none :: ρ, _ :: σ, i + 1, h => show Slots K Hs fps (ρ.set i Option.none) (σ.set i Option.none) from Slots.setNone (ρ := ρ) (σ := σ) i h
  | some _ :: ρ, some _ :: σ, 0, ⟨_, h⟩ => show Slots K Hs fps ρ σ from h
  | some _ :: _, some _ :: _, i + 1, ⟨h1, h⟩ => ⟨h1, Slots.setNone i h⟩
  | [], _ :: _, _, h => h.elim
  | none :: _, [], _, h => h.elim
  | some _ :: _, [], _, h => h.elim
  | some _ :: _, none :: _, _, h => h.elim
theorem Slots.wipe {Hs : Hp} {fps : List (List Addr)} {σ : L2.St} (h : Slots K Hs fps ρ σ) : ∀ vs : List Nat, Slots K Hs fps (wipeE ρ vs) (L2.wipe σ vs)
  | [] => h
  | v :: vs => (Slots.wipe h vs).setNone v
theorem wipe_get {σ : L2.St} : ∀ (vs : List Nat) (i : Nat), (L2.wipe σ vs)[i]? = if i ∈ vs then (σ[i]?).map (fun _ => none) else σ[i]?
  | [], i => by simp [L2.wipe]
  | v :: vs, i => by
    show ((L2.wipe σ vs).set v none)[i]? = _
    rw [List.getElem?_set]
    by_cases h : v = i
    · subst h
      rw [if_pos rfl, if_pos List.mem_cons_self, L2.wipe_length]
      by_cases hv : v < σ.length
      · rw [if_pos hv, List.getElem?_eq_getElem hv]; rfl
      · rw [if_neg hv, List.getElem?_eq_none (by omega)]; rfl
    · rw [if_neg h, wipe_get vs i]
      by_cases h2 : i ∈ vs
      · rw [if_pos h2, if_pos (List.mem_cons_of_mem _ h2)]
      · rw [if_neg h2, if_neg (fun z => by rcases List.mem_cons.mp z with q | q; exact h q.symm; exact h2 q)]
theorem wipe_back {σ σ' : L2.St} {vs pl : List Nat} (hl : σ'.length = (L2.wipe σ vs).length) (ho : ∀ i, i ∉ pl → σ'[i]? = (L2.wipe σ vs)[i]?) (hp : ∀ i ∈ pl, i ∈ vs) : L2.wipe σ' vs = L2.wipe σ vs := by
  refine List.ext_getElem? fun i => ?_
  rw [wipe_get]
  by_cases h : i ∈ vs
  · rw [if_pos h, wipe_get, if_pos h]
    rw [L2.wipe_length] at hl
    by_cases hi : i < σ.length
    · rw [List.getElem?_eq_getElem hi, List.getElem?_eq_getElem (by omega)]; rfl
    · rw [List.getElem?_eq_none (by omega), List.getElem?_eq_none (by omega)]
  · rw [if_neg h]
    exact ho i fun z => h (hp i z)
/-- the context of a comprehension's block -/
theorem XF.blk (hX : XF X N sc P w K mg base k) (s : Shared) (H : Hp) (scope : Scope) (cl : List (Str × Addr)) (C : Addr) (fp : List Addr) : XF (X.blk s H scope (compEnvC scope cl C X.env) fp) N (relS scope sc) P w K mg base k :=
  ⟨hX.eN, by rw [← hX.eS]; rfl, hX.eP, hX.ew, hX.eK, hX.em, hX.eb, hX.calm, hX.rm, hX.nd⟩
/-- the tests of a clause: none, or one -/
def ttOf (X : Cx) (scope : Scope) : List Expr → TT
  | [] => tYes
  | c :: _ => fun σ H Q => ∀ s H0 C cl fp, wT (X.blk s H0 scope (compEnvC scope cl C X.env) fp) c σ H Q
def wGb (X : Cx) (scope : Scope) (tg : Expr) : TG := fun v σ H Q => ∀ s H0 C cl fp, wG (X.blk s H0 scope (compEnvC scope cl C X.env) fp) tg v σ H Q
def wEb (X : Cx) (scope : Scope) (elt : Expr) : TE := fun σ H Q => ∀ s H0 C cl fp, wE (X.blk s H0 scope (compEnvC scope cl C X.env) fp) elt σ H Q
theorem pg_wb {scope : Scope} (s : Shared) (H : Hp) (C : Addr) (cl : List (Str × Addr)) (fp : List Addr) : PG (X.blk s H scope (compEnvC scope cl C X.env) fp) tg (wGb X scope tg) := ⟨fun pins s' σ H' v u Q I r h => h s H C cl fp pins s' u I r⟩
theorem pe_wb {scope : Scope} (s : Shared) (H : Hp) (C : Addr) (cl : List (Str × Addr)) (fp : List Addr) : PE (X.blk s H scope (compEnvC scope cl C X.env) fp) e (wEb X scope e) := ⟨fun pins s' σ H' Q I h => h s H C cl fp pins s' I⟩
theorem pts_w {scope : Scope} {ifs : List Expr} (hl : ifs.length ≤ 1) (s : Shared) (H : Hp) (C : Addr) (cl : List (Str × Addr)) (fp : List Addr) : PTs (X.blk s H scope (compEnvC scope cl C X.env) fp) ifs (ttOf X scope ifs) := by
  match ifs, hl with
  | [], _ => exact pts_nil
  | [c], _ => exact pts_one ⟨fun pins s' σ H' Q I h => h s H C cl fp pins s' I⟩
def ifOk (X : Cx) (K : PySem.W.Frag) (A : Anc) (M : List Cell) (ρ : Env3) (ifs : List Expr) (b : Bool) : Prop := match ifs with
  | [] => b = true
  | c :: _ => ET X K A M ρ c b
/-- what a comprehension makes of the data ds: g of each, where the test holds -/
theorem lc_read (hX : XF X N sc P w K mg base k) {scope : Scope} {own : List (Str × Nat)} {elt : Expr} {ifs : List Expr} {wi : TI} {fps : List (List Addr)} {σ : L2.St} {Hs H : Hp} {Q : VK} (pl : List Nat) (ρf : D → Env3) (g : D → Option D) (hQ : ∀ v H', (∃ Hs', Step Hs H Hs' H' ∧ Rep K Hs' (.lst (ds.filterMap g)) v) → Q v H')
    (hw : ∀ (R : It → Hp → Prop), (∀ J Hs' H', Step Hs H Hs' H' → Walk K J ds Hs' → R J H') → wi σ H R) (hh : StA K A M ρ fps σ Hs H) (hlen : ds.length ≤ 100000) (hpl : ∀ x ∈ pl, x ∈ own.map (·.2))
    (hs : ∀ X', XF X' N (relS scope sc) P w K mg base k → ∀ d, d ∈ ds → TGt X' K tg d pl (wipeE ρ (own.map (·.2))) (ρf d) ∧ (∀ x, g d = some x → ED X' K A M (ρf d) elt x) ∧ ifOk X' K A M (ρf d) ifs (g d).isSome) :
    tLc wi (wGb X scope tg) (ttOf X scope ifs) (wEb X scope elt) (own.map (·.2)) σ H Q := by
  refine hw _ fun J Hs1 H1 s1 wk => fun Dl hD => ?_
  have hh1 := hh.step s1
  refine ⟨fun i m H' => m = ds.length - i ∧ i ≤ ds.length ∧ ∃ Hs', Step Hs1 H1 Hs' H' ∧ Hs' Dl = none ∧ ∃ acc, H' Dl = some (.lst acc) ∧ Reps K Hs' ((ds.take i).filterMap g) acc,
    ⟨ds.length, by simp, Nat.zero_le _, Hs1, .own s1.i hD, s1.i.back hD, [], upd_same, .nil⟩, ?_⟩
  rintro i m H' ⟨rfl, hil, Hs2, s2, n2, acc, ha, ra⟩
  obtain ⟨wgo, wstop, wy⟩ := wk i Hs2 H' s2.s s2.i
  by_cases hlt : i < ds.length
  · refine .inr ⟨wgo hlt, fun H' => ∃ Hs', Step Hs1 H1 Hs' H' ∧ Hs' Dl = none ∧ ∃ acc, H' Dl = some (.lst acc) ∧ Reps K Hs' ((ds.take (i + 1)).filterMap g) acc, fun H'' q => ⟨ds.length - (i + 1), by omega, rfl, hlt, q⟩, fun x H3 y => ?_⟩
    obtain ⟨Hs3, d, s3, hd, r3⟩ := wy x H3 hlt y
    have hmem : d ∈ ds := List.mem_of_getElem? hd
    have hout : (ds.take (i + 1)).filterMap g = (ds.take i).filterMap g ++ (g d).toList := by
      rw [List.take_succ, hd, List.filterMap_append]
      cases ez : g d with
      | none => simp [ez]
      | some z => simp [ez]
    have hh3 := (hh1.step s2).step s3
    have n3 : Hs3 Dl = none := s3.n Dl (by rw [ha]; exact fun z => nomatch z) n2
    have a3 := s3.h _ _ ha
    intro s0 H0 C cl fp
    obtain ⟨tgt, _, _⟩ := hs _ (hX.blk s0 H0 scope cl C fp) d hmem
    refine wG_mono (tgt _ _ _ _ x s3.i (hh3.st.slots.wipe _) r3) fun σ4 H4 ⟨e4, sl4, l4, o4⟩ => ?_
    subst e4
    refine ⟨wipe_back l4 o4 hpl, ?_⟩
    have hh4 := hh3.slots sl4
    have fin : ∀ z, g d = some z → ∀ Hs5 H5, Step Hs3 H4 Hs5 H5 → ∀ s H0 C cl fp, wE (X.blk s H0 scope (compEnvC scope cl C X.env) fp) elt σ4 H5 fun y H6 => ∃ acc, H6 Dl = some (.lst acc) ∧ acc.length < sizeLine ∧ ∃ Hs', Step Hs1 H1 Hs' (upd H6 Dl (.lst (acc ++ [y]))) ∧ Hs' Dl = none ∧ ∃ acc', (upd H6 Dl (.lst (acc ++ [y]))) Dl = some (.lst acc') ∧ Reps K Hs' ((ds.take (i + 1)).filterMap g) acc' := by
      intro z ez Hs5 H5 s5 s' H0' C' cl' fp'
      obtain ⟨_, hz, _⟩ := hs _ (hX.blk s' H0' scope cl' C' fp') d hmem
      refine wE_mono (hz z ez _ _ _ _ (hh4.step s5)) fun y H6 ⟨Hs6, s6, r6⟩ => ?_
      have s56 := s5.trans s6
      have n6 : Hs6 Dl = none := s56.n Dl (by rw [a3]; exact fun z => nomatch z) n3
      have nl : acc.length ≤ i := by
        rw [ra.length]
        exact Nat.le_trans (List.length_filterMap_le _ _) (by rw [List.length_take]; omega)
      refine ⟨acc, s56.h _ _ a3, Nat.lt_of_le_of_lt nl (Nat.lt_of_lt_of_le (by omega : i < 100001) (by decide)), Hs6, ?_, n6, _, upd_same, ?_⟩
      · have s16 := (s2.trans s3).trans s56
        refine ⟨s16.s, fun b u hb => ?_, fun b u hb => ?_, s16.n⟩
        · rw [upd_ne (ne_of_none hb hD)]; exact s16.h b u hb
        · rw [upd_ne (ne_of_none hb n6)]; exact s16.i b u hb
      · rw [hout, ez]; exact (ra.mono (s3.s.trans s56.s)).append (.one r6)
    have fin0 : g d = none → ∀ Hs5 H5, Step Hs3 H4 Hs5 H5 → ∃ Hs', Step Hs1 H1 Hs' H5 ∧ Hs' Dl = none ∧ ∃ acc, H5 Dl = some (.lst acc) ∧ Reps K Hs' ((ds.take (i + 1)).filterMap g) acc := by
      intro ez Hs5 H5 s5
      refine ⟨Hs5, (s2.trans s3).trans s5, s5.n Dl (by rw [a3]; exact fun z => nomatch z) n3, acc, s5.h _ _ a3, ?_⟩
      rw [hout, ez]
      simpa using ra.mono (s3.s.trans s5.s)
    match ifs, hs, fin, fin0 with
    | [], hs, fin, fin0 =>
      obtain ⟨_, _, hb⟩ := hs _ (hX.blk s0 H0 scope cl C fp) d hmem
      have hb : (g d).isSome = true := hb
      obtain ⟨z, ez⟩ := Option.isSome_iff_exists.mp hb
      exact fin z ez Hs3 H4 (.refl s3.i)
    | c :: r, hs, fin, fin0 =>
      intro s' H0' C' cl' fp'
      obtain ⟨_, _, hb⟩ := hs _ (hX.blk s' H0' scope cl' C' fp') d hmem
      refine wT_mono ((show ET _ _ _ _ _ _ _ from hb) _ _ _ _ hh4) fun b H5 ⟨eb, Hs5, s5⟩ => ?_
      cases ez : g d with
      | none =>
        rw [ez] at eb
        subst eb
        exact fin0 ez Hs5 H5 s5
      | some z =>
        rw [ez] at eb
        subst eb
        exact fin z ez Hs5 H5 s5
  · have e : i = ds.length := by omega
    subst e
    rw [List.take_length] at ra
    refine .inl ⟨wstop (Nat.le_refl _), hQ _ _ ⟨upd Hs2 Dl (.lst acc), s1.trans ⟨s2.s.trans (.new n2), s2.h, fun b u hb => ?_, fun b h1 h2 => ?_⟩, .lst upd_same (ra.mono (.new n2))⟩⟩
    · by_cases z : b = Dl
      · subst z; rw [upd_same] at hb; cases hb; exact ha
      · rw [upd_ne z] at hb; exact s2.i b u hb
    · rw [upd_ne (fun z => h1 (by rw [z]; exact hD))]; exact s2.n b h1 h2
/-- [elt for tg in iter (if c)] -/
theorem ed_lc (hX : XF X N sc P w K mg base k) (own : List (Str × Nat)) {scope : Scope} {elt : Expr} {ifs : List Expr} (hi : EI X K A M ρ tg e ds) (ok : BlkOk N sc scope own) (pl : List Nat) (ρf : D → Env3) (g : D → Option D) (hlen : ds.length ≤ 100000)
    (hs : ∀ X', XF X' N (relS scope sc) P w K mg base k → ∀ d, d ∈ ds → TGt X' K tg d pl (wipeE ρ (own.map (·.2))) (ρf d) ∧ (∀ x, g d = some x → ED X' K A M (ρf d) elt x) ∧ ifOk X' K A M (ρf d) ifs (g d).isSome)
    (hpl : ∀ x ∈ pl, x ∈ own.map (·.2) := by decide) (hif : ifs.length ≤ 1 := by decide) (hf : ∀ x, foldedSetIterable e X.env x = pure x := by intro _; rfl) :
    ED X K A M ρ (.ListComp elt [⟨tg, e, ifs, 0⟩] scope pos) (.lst (ds.filterMap g)) := .mk fun fps σ Hs H hh => by
  obtain ⟨wi, hpi, hw⟩ := hi
  refine wE_of (pe_lc (own := own) hX.calm (by rw [hX.eN]; exact hX.nd) hpi (by rw [hX.eN, hX.eS]; exact ok) pg_wb (pts_w hif) pe_wb hf) ?_
  exact lc_read hX pl ρf g (fun v H' q => q) (fun R => hw fps σ Hs H R hh) hh hlen hpl hs
/-- y = [elt for tg in iter (if c)] -/
theorem sd_setLc (hX : XF X N sc P w K mg base k) (own : List (Str × Nat)) (i : Nat) {y : Str} {py spos : Pos} {scope : Scope} {elt : Expr} {ifs : List Expr} (hN : N[i]? = some y) (hi : EI X K A M ρ tg e ds) (ok : BlkOk N sc scope own) (pl : List Nat) (ρf : D → Env3) (g : D → Option D) (hlen : ds.length ≤ 100000)
    (hs : ∀ X', XF X' N (relS scope sc) P w K mg base k → ∀ d, d ∈ ds → TGt X' K tg d pl (wipeE ρ (own.map (·.2))) (ρf d) ∧ (∀ x, g d = some x → ED X' K A M (ρf d) elt x) ∧ ifOk X' K A M (ρf d) ifs (g d).isSome)
    (q : SD X K A M (ρ.set i (some (.sh (.lst (ds.filterMap g))))) rest R) (hy : sc.names.lookup y = some .local)
    (hsw : swapsWith (.ListComp elt [⟨tg, e, ifs, 0⟩] scope pos) (some (.Name y py)) spos.line X.env = pure true)
    (hpl : ∀ x ∈ pl, x ∈ own.map (·.2) := by decide) (hif : ifs.length ≤ 1 := by decide) (hf : ∀ x, foldedSetIterable e X.env x = pure x := by intro _; rfl) :
    SD X K A M ρ (.Assign [.Name y py] (.ListComp elt [⟨tg, e, ifs, 0⟩] scope pos) spos :: rest) R := sd_cons <| .mk fun fps σ Hs H hh => by
  obtain ⟨wi, hpi, hw⟩ := hi
  refine wS_of (ps_setLc (own := own) (i := i) hX.calm (by rw [hX.eN]; exact hX.nd) (by rw [hX.eN]; exact hN) (by rw [hX.eS]; exact hy) hsw hpi (by rw [hX.eN, hX.eS]; exact ok) pg_wb (pts_w hif) pe_wb hf) ?_
  refine lc_read hX pl ρf g (fun v H' ⟨Hs', s, r⟩ => ?_) (fun R => hw fps σ Hs H R hh) hh hlen hpl hs
  have h' := hh.step s
  exact ⟨M, _, fps, Hs', h'.slots (h'.st.slots.set i (s := .sh _) r), q⟩

/-! ### a def's promise -/
theorem start_slots {Hs : Hp} : ∀ {ds : List D} {vs : List V} (n : Nat), Reps K Hs ds vs → Slots K Hs [] (ds.map (fun d => some (.sh d)) ++ List.replicate n none) (vs.map some ++ List.replicate n none)
  | _, _, 0, .nil => trivial
  | _, _, n + 1, .nil => show Slots K Hs [] (List.replicate n Option.none) (List.replicate n Option.none) from start_slots (ds := []) (vs := []) n .nil
  | _, _, n, .cons a b => ⟨a, start_slots n b⟩
theorem fnok_of {f : Addr} {fd : FuncData} {qual : Str} {N ps : List Str} {G : List D → D → Prop} (F : Fun K qual qual st f fd) (S : FnScope N ps (defScope st)) (len : ∀ ds d, G ds d → ds.length = ps.length)
    (body : ∀ (X : Cx) (A : Anc), XF X N (defScope st) P w K mg base k → (∀ x, X.fn x = true) → PassesOwn (model X.prog X.w) X.A X.env X.xe → ∀ ds d, G ds d →
      SD X K A [] (ds.map (fun d => some (.sh d)) ++ List.replicate (N.length - ps.length) none) (defBody st) ⟨fun _ _ => d = .non, fun _ d' => d' = d, fun _ _ => False, fun _ _ => False⟩) : FnOk P w K mg base CX0 (k + 1) f fd ps (spG K G) := by
  refine F.ok S (fun vs H Q E h => ?_) (fun cdv A outer s H vs Q E hr h => ?_)
  · obtain ⟨Hs, ds, d, _, r, g, _⟩ := h
    rw [r.length, len ds d g]
  · obtain ⟨Hs, ds, d, e, r, g, q⟩ := h
    refine ⟨_, pss_w, ?_⟩
    have hX : XF (cxOf CX0 P w K mg base N qual (defScope st) f cdv A outer s H E).nox N (defScope st) P w K mg base k := ⟨rfl, rfl, rfl, rfl, rfl, rfl, rfl, rfl, hr, S.nd⟩
    have hst : StA K ⟨[], Hs, H⟩ [] (ds.map (fun d => some (.sh d)) ++ List.replicate (N.length - ps.length) none) [] (L2.start N vs) Hs H := by
      refine ⟨⟨e, by simp, fun a ha => by simp at ha, trivial, ?_⟩, .self⟩
      have h1 := start_slots (N.length - ps.length) r
      have h2 : vs.length = ps.length := by rw [r.length, len ds d g]
      unfold L2.start
      rw [h2]
      exact h1
    have fin : ∀ fps Hs' H', StepA ⟨[], Hs, H⟩ fps Hs' H' → Ex Hs' H' → Step Hs H Hs' H' := fun fps Hs' H' h e' => ⟨h.s, fun a o ho => h.f a o ho (by simp), e', fun a h1 h2 => h.n a h1 (by simp) h2⟩
    refine wSs_mono (body _ ⟨[], Hs, H⟩ hX (fun _ => rfl) PassesOwn.never ds d g _ _ _ _ hst) ?_ ?_ (fun _ _ ⟨_, _, _, _, _, z⟩ => False.elim z) (fun _ _ ⟨_, _, _, _, _, z⟩ => False.elim z)
    · rintro σ' H' ⟨M', ρ', fps', Hs', h1, h2⟩
      refine q .non Hs' H' (fin _ _ _ h1.an h1.st.e) ?_
      have : d = .non := h2
      rw [this]; exact .non
    · rintro v H' ⟨M', d', fps', Hs', h1, h2, h3⟩
      have : d' = d := h3
      subst this
      exact q v Hs' H' (fin _ _ _ h1.an h1.st.e) h2
theorem dfn_of {f : Addr} {fd : FuncData} {x qual : Str} {N ps : List Str} {G : List D → D → Prop} (F : Fun K qual qual st f fd) (S : FnScope N ps (defScope st)) (hb : Binds K fd ps []) (hm : mg x = some (.ref f)) (len : ∀ ds d, G ds d → ds.length = ps.length)
    (body : ∀ (X : Cx) (A : Anc), XF X N (defScope st) P w K mg base k → (∀ x, X.fn x = true) → PassesOwn (model X.prog X.w) X.A X.env X.xe → ∀ ds d, G ds d →
      SD X K A [] (ds.map (fun d => some (.sh d)) ++ List.replicate (N.length - ps.length) none) (defBody st) ⟨fun _ _ => d = .non, fun _ d' => d' = d, fun _ _ => False, fun _ _ => False⟩) : Dfn P w K mg base x (k + 1) G := ⟨f, fd, ps, fnok_of F S len body, hm, F.kp, hb⟩
end
end T3
/-! T3e: operators and calls by data. -/
namespace T3
open PySem L2

section
variable {K : PySem.W.Frag} {k : Nat} {i j : Int} {x y : Str} {ds es : List D} {d d1 d2 : D}
theorem ops_of {f : Value → Value → Sem Value} (r : R2) (h1 : ∀ X : Cx, X.K = K → X.calm = true → Room k X.A → OpR X f r) (h2 : ∀ (Hs H : Hp) (v1 v2 : V) (Q : VK), Ex Hs H → Rep K Hs d1 v1 → Rep K Hs d2 v2 →
    (∀ v Hs' H', Step Hs H Hs' H' → Rep K Hs' d v → Q v H') → r v1 v2 H Q) : OpS f K k d1 d2 d := fun X a b c => ⟨r, h1 X a b c, h2⟩
theorem newL {Hs H : Hp} {Q : VK} {p : Addr} {xs : List V} (q : ∀ v Hs' H', Step Hs H Hs' H' → Rep K Hs' (.lst ds) v → Q v H') (e : Ex Hs H) (hp : H p = none) (r : Reps K Hs ds xs) : Q (.ref p) (upd H p (.lst xs)) :=
  q _ _ _ (Step.new e hp) (.lst upd_same (r.mono (Step.new (o := .lst xs) e hp).s))
theorem newT {Hs H : Hp} {Q : VK} {p : Addr} {xs : List V} (q : ∀ v Hs' H', Step Hs H Hs' H' → Rep K Hs' (.tup ds) v → Q v H') (e : Ex Hs H) (hp : H p = none) (r : Reps K Hs ds xs) : Q (.ref p) (upd H p (.tup xs)) :=
  q _ _ _ (Step.new e hp) (.tup (SqT.of upd_same) (r.mono (Step.new (o := .tup xs) e hp).s))
/-! ### whole numbers -/
theorem o_int0 {f : Value → Value → Sem Value} {g : Int → Int → V} {e : D} (h1 : ∀ X : Cx, OpR X f (rI0 g)) (h2 : ∀ H, Rep K H e (g i j)) : OpS f K k (.int i) (.int j) e :=
  ops_of _ (fun X _ _ _ => h1 X) fun Hs H v1 v2 Q e r1 r2 q => by
    cases r1; cases r2
    exact ⟨i, j, rfl, rfl, q _ _ _ (.refl e) (h2 _)⟩
theorem o_intC {f : Value → Value → Sem Value} {C : Int → Int → Prop} {g : Int → Int → V} {e : D} (h1 : ∀ X : Cx, OpR X f (rI C g)) (hc : C i j) (h2 : ∀ H, Rep K H e (g i j)) : OpS f K k (.int i) (.int j) e :=
  ops_of _ (fun X _ _ _ => h1 X) fun Hs H v1 v2 Q e r1 r2 q => by
    cases r1; cases r2
    exact ⟨i, j, rfl, rfl, hc, q _ _ _ (.refl e) (h2 _)⟩
theorem o_add : OpS (binaryOp .Add) K k (.int i) (.int j) (.int (i + j)) := o_int0 (fun _ => op_add) fun _ => .int _
theorem o_sub : OpS (binaryOp .Sub) K k (.int i) (.int j) (.int (i - j)) := o_int0 (fun _ => op_sub) fun _ => .int _
theorem o_mul (h : CMulW i j) : OpS (binaryOp .Mult) K k (.int i) (.int j) (.int (i * j)) := o_intC (fun _ => op_mulW) h fun _ => .int _
theorem o_div (h : CDivW i j) : OpS (binaryOp .FloorDiv) K k (.int i) (.int j) (.int (i / j)) := o_intC (fun _ => op_fdivW) h fun _ => .int _
theorem o_mod (h : 0 < j) : OpS (binaryOp .Mod) K k (.int i) (.int j) (.int (i % j)) := o_intC (fun _ => op_mod) h fun _ => .int _
theorem o_pow (h : CPow i j) : OpS (binaryOp .Pow) K k (.int i) (.int j) (.int (i ^ j.toNat)) := o_intC (fun _ => op_pow) h fun _ => .int _
theorem o_iadd : OpS (inplaceOp .Add) K k (.int i) (.int j) (.int (i + j)) := o_int0 (fun _ => iop_add) fun _ => .int _
theorem o_lt : OpS (compareOp .Lt) K k (.int i) (.int j) (.bl (decide (i < j))) := o_int0 (fun _ => op_lt) fun _ => .bl _
theorem o_le : OpS (compareOp .LtE) K k (.int i) (.int j) (.bl (decide (i ≤ j))) := o_int0 (fun _ => op_le) fun _ => .bl _
theorem o_gt : OpS (compareOp .Gt) K k (.int i) (.int j) (.bl (decide (j < i))) := o_int0 (fun _ => op_gt) fun _ => .bl _
theorem o_ge : OpS (compareOp .GtE) K k (.int i) (.int j) (.bl (decide (j ≤ i))) := o_int0 (fun _ => op_ge) fun _ => .bl _
/-! ### == of flat things -/
theorem o_eqF {v1 v2 : V} (h1 : ∀ H v, Rep K H d1 v → v = v1) (h2 : ∀ H v, Rep K H d2 v → v = v2) (hs : scal v1 v2 = true) : OpS (compareOp .Eq) K k d1 d2 (.bl (decide (v1 = v2))) :=
  ops_of _ (fun X _ _ _ => op_eq) fun Hs H u1 u2 Q e r1 r2 q => by
    rw [h1 _ _ r1, h2 _ _ r2]
    exact ⟨hs, q _ _ _ (.refl e) (.bl _)⟩
theorem o_neF {v1 v2 : V} (h1 : ∀ H v, Rep K H d1 v → v = v1) (h2 : ∀ H v, Rep K H d2 v → v = v2) (hs : scal v1 v2 = true) : OpS (compareOp .NotEq) K k d1 d2 (.bl (!decide (v1 = v2))) :=
  ops_of _ (fun X _ _ _ => op_ne) fun Hs H u1 u2 Q e r1 r2 q => by
    rw [h1 _ _ r1, h2 _ _ r2]
    exact ⟨hs, q _ _ _ (.refl e) (.bl _)⟩
theorem rint {H : Hp} {v : V} (h : Rep K H (.int i) v) : v = .int i := by cases h; rfl
theorem rstr {H : Hp} {v : V} (h : Rep K H (.str x) v) : v = .str x := by cases h; rfl
theorem rbl {H : Hp} {b : Bool} {v : V} (h : Rep K H (.bl b) v) : v = .bl b := by cases h; rfl
theorem di : decide (V.int i = V.int j) = decide (i = j) := by simp
theorem dstr : decide (V.str x = V.str y) = decide (x = y) := by simp
theorem o_eqI : OpS (compareOp .Eq) K k (.int i) (.int j) (.bl (decide (i = j))) := by
  rw [← di]; exact o_eqF (fun _ _ => rint) (fun _ _ => rint) rfl
theorem o_neI : OpS (compareOp .NotEq) K k (.int i) (.int j) (.bl (!decide (i = j))) := by
  rw [← di]; exact o_neF (fun _ _ => rint) (fun _ _ => rint) rfl
theorem o_eqS : OpS (compareOp .Eq) K k (.str x) (.str y) (.bl (decide (x = y))) := by
  rw [← dstr]; exact o_eqF (fun _ _ => rstr) (fun _ _ => rstr) rfl
theorem o_neS : OpS (compareOp .NotEq) K k (.str x) (.str y) (.bl (!decide (x = y))) := by
  rw [← dstr]; exact o_neF (fun _ _ => rstr) (fun _ _ => rstr) rfl
theorem o_eqB {a b : Bool} : OpS (compareOp .Eq) K k (.bl a) (.bl b) (.bl (decide (a = b))) := by
  have e : decide (V.bl a = V.bl b) = decide (a = b) := by simp
  rw [← e]; exact o_eqF (fun _ _ => rbl) (fun _ _ => rbl) rfl
theorem o_neB {a b : Bool} : OpS (compareOp .NotEq) K k (.bl a) (.bl b) (.bl (!decide (a = b))) := by
  have e : decide (V.bl a = V.bl b) = decide (a = b) := by simp
  rw [← e]; exact o_neF (fun _ _ => rbl) (fun _ _ => rbl) rfl
/-! ### is None -/
def isNon : D → Bool
  | .non => true
  | _ => false
theorem rep_non {H : Hp} {v : V} (h : Rep K H d v) : decide (v = .non) = isNon d := by cases h <;> rfl
theorem o_isN : OpS (compareOp .Is) K k d .non (.bl (isNon d)) := ops_of _ (fun X _ _ _ => op_isN) fun Hs H u1 u2 Q e r1 r2 q => by
  cases r2
  refine ⟨rfl, ?_⟩
  rw [rep_non r1]
  exact q _ _ _ (.refl e) (.bl _)
theorem o_notN : OpS (compareOp .IsNot) K k d .non (.bl (!isNon d)) := ops_of _ (fun X _ _ _ => op_notN) fun Hs H u1 u2 Q e r1 r2 q => by
  cases r2
  refine ⟨rfl, ?_⟩
  rw [rep_non r1]
  exact q _ _ _ (.refl e) (.bl _)
/-! ### in -/
theorem inV_str (l : List Str) : inV (.str x) (l.map V.str) = decide (x ∈ l) := by
  unfold inV
  rw [Bool.eq_iff_iff, decide_eq_true_iff, List.any_map, List.any_eq_true]
  constructor
  · rintro ⟨a, h1, h2⟩
    have : a = x := by simpa [eqV] using h2
    exact this ▸ h1
  · intro h
    exact ⟨x, h, by simp [eqV]⟩
theorem inV_int (l : List Int) : inV (.int i) (l.map V.int) = decide (i ∈ l) := by
  unfold inV
  rw [Bool.eq_iff_iff, decide_eq_true_iff, List.any_map, List.any_eq_true]
  constructor
  · rintro ⟨a, h1, h2⟩
    have : a = i := by simpa [eqV] using h2
    exact this ▸ h1
  · intro h
    exact ⟨i, h, by simp [eqV]⟩
theorem flatS (l : List Str) : (l.map V.str).all flatV = true := by simp [List.all_map, flatV]
theorem flatI (l : List Int) : (l.map V.int).all flatV = true := by simp [List.all_map, flatV]
theorem o_inTS (l : List Str) : OpS (compareOp .In) K k (.str x) (.tup (l.map D.str)) (.bl (decide (x ∈ l))) := ops_of (rIn K false) (fun X h _ _ => by subst h; exact op_in_seq) fun Hs H u1 u2 Q e r1 r2 q => by
  cases r1
  cases r2 with
  | tup h1 h2 =>
    have hv := h2.strs'
    subst hv
    refine ⟨_, _, rfl, .inr (e.st h1), rfl, flatS l, ?_⟩
    rw [inV_str]
    exact q _ _ _ (.refl e) (.bl _)
theorem o_niTS (l : List Str) : OpS (compareOp .NotIn) K k (.str x) (.tup (l.map D.str)) (.bl (!decide (x ∈ l))) := ops_of (rIn K true) (fun X h _ _ => by subst h; exact op_notIn_seq) fun Hs H u1 u2 Q e r1 r2 q => by
  cases r1
  cases r2 with
  | tup h1 h2 =>
    have hv := h2.strs'
    subst hv
    refine ⟨_, _, rfl, .inr (e.st h1), rfl, flatS l, ?_⟩
    rw [inV_str]
    exact q _ _ _ (.refl e) (.bl _)
theorem o_inTI (l : List Int) : OpS (compareOp .In) K k (.int i) (.tup (l.map D.int)) (.bl (decide (i ∈ l))) := ops_of (rIn K false) (fun X h _ _ => by subst h; exact op_in_seq) fun Hs H u1 u2 Q e r1 r2 q => by
  cases r1
  cases r2 with
  | tup h1 h2 =>
    have hv := h2.ints'
    subst hv
    refine ⟨_, _, rfl, .inr (e.st h1), rfl, flatI l, ?_⟩
    rw [inV_int]
    exact q _ _ _ (.refl e) (.bl _)
theorem o_inLS (l : List Str) : OpS (compareOp .In) K k (.str x) (.lst (l.map D.str)) (.bl (decide (x ∈ l))) := ops_of (rIn K false) (fun X h _ _ => by subst h; exact op_in_seq) fun Hs H u1 u2 Q e r1 r2 q => by
  cases r1
  cases r2 with
  | lst h1 h2 =>
    have hv := h2.strs'
    subst hv
    refine ⟨_, _, rfl, .inl (SqL.of (e _ _ h1)), rfl, flatS l, ?_⟩
    rw [inV_str]
    exact q _ _ _ (.refl e) (.bl _)
theorem o_niLS (l : List Str) : OpS (compareOp .NotIn) K k (.str x) (.lst (l.map D.str)) (.bl (!decide (x ∈ l))) := ops_of (rIn K true) (fun X h _ _ => by subst h; exact op_notIn_seq) fun Hs H u1 u2 Q e r1 r2 q => by
  cases r1
  cases r2 with
  | lst h1 h2 =>
    have hv := h2.strs'
    subst hv
    refine ⟨_, _, rfl, .inl (SqL.of (e _ _ h1)), rfl, flatS l, ?_⟩
    rw [inV_str]
    exact q _ _ _ (.refl e) (.bl _)
/-- one sign in a text -/
theorem o_inSign {c : Nat} : OpS (compareOp .In) K k (.str ⟨#[c]⟩) (.str y) (.bl (decide (c ∈ y.cps.toList))) := ops_of _ (fun X h _ _ => op_in_sign) fun Hs H u1 u2 Q e r1 r2 q => by
  cases r1; cases r2
  exact ⟨c, y, rfl, rfl, q _ _ _ (.refl e) (.bl _)⟩
/-! ### texts, lists, tuples put together -/
theorem o_addS (h : x.length + y.length ≤ 100000) : OpS (binaryOp .Add) K k (.str x) (.str y) (.str (x ++ y)) := ops_of _ (fun X _ _ _ => op_add_str) fun Hs H u1 u2 Q e r1 r2 q => by
  cases r1; cases r2
  exact ⟨x, y, rfl, rfl, Nat.le_trans h (by decide), q _ _ _ (.refl e) (.str _)⟩
theorem o_catL (h : ds.length + es.length ≤ 100000) : OpS (binaryOp .Add) K k (.lst ds) (.lst es) (.lst (ds ++ es)) := ops_of _ (fun X _ _ _ => op_cat) fun Hs H u1 u2 Q e r1 r2 q => by
  cases r1 with
  | lst h1 h2 =>
    cases r2 with
    | lst h3 h4 =>
      refine ⟨_, _, _, _, rfl, rfl, e _ _ h1, e _ _ h3, by rw [h2.length, h4.length]; exact Nat.le_trans h (by decide), fun p hp => ?_⟩
      exact newL q e hp (h2.append h4)
theorem Reps.flatrep {H : Hp} {vs : List V} (h : Reps K H ds vs) : ∀ n : Nat, Reps K H (List.replicate n ds).flatten (List.replicate n vs).flatten
  | 0 => .nil
  | n + 1 => by
    rw [List.replicate_succ, List.replicate_succ, List.flatten_cons, List.flatten_cons]
    exact h.append (Reps.flatrep h n)
theorem o_repL (h1 : -(2 ^ 63) ≤ j) (h2 : j < 2 ^ 63) (h : ds.length * j.toNat ≤ 100000) : OpS (binaryOp .Mult) K k (.lst ds) (.int j) (.lst (List.replicate j.toNat ds).flatten) := ops_of _ (fun X _ _ _ => op_rep) fun Hs H u1 u2 Q e r1 r2 q => by
  cases r2
  cases r1 with
  | lst h3 h4 =>
    refine ⟨_, _, _, rfl, rfl, e _ _ h3, h1, h2, by rw [h4.length]; exact Nat.le_trans h (by decide), fun p hp => ?_⟩
    exact newL q e hp (h4.flatrep _)
theorem o_catT (h0 : ds ≠ []) (h0' : es ≠ []) (h : ds.length + es.length ≤ 100000) : OpS (binaryOp .Add) K k (.tup ds) (.tup es) (.tup (ds ++ es)) := ops_of (rCatT K) (fun X h _ _ => by subst h; exact op_catT) fun Hs H u1 u2 Q e r1 r2 q => by
  cases r1 with
  | tup h1 h2 =>
    cases r2 with
    | tup h3 h4 =>
      refine ⟨_, _, _, _, rfl, rfl, e.st h1, e.st h3, fun z => h0 ?_, by rw [h2.length, h4.length]; exact Nat.le_trans h (by decide), fun z => (h0' ?_).elim, fun _ p hp => ?_⟩
      · subst z; cases h2; rfl
      · subst z; cases h4; rfl
      · exact newT q e hp (h2.append h4)
/-- a text times a number -/
def rMulS : R2 := fun x y H Q => ∃ z n, x = .str z ∧ y = .int n ∧ MulOk z n ∧ Q (.str (Txt.mul z n)) H
theorem op_mulS {X : Cx} : OpR X (binaryOp .Mult) rMulS := by
  intro pins s σ H x y v u Q I rx ry h
  obtain ⟨z, n, rfl, rfl, ok, q⟩ := h
  obtain ⟨t, rfl⟩ := rx
  obtain ⟨t', rfl⟩ := ry
  refine SB.mul ok fun t' k => ⟨.str _, H, I.tok _, ⟨_, rfl⟩, q⟩
theorem o_mulS (h : MulOk x j) : OpS (binaryOp .Mult) K k (.str x) (.int j) (.str (Txt.mul x j)) := ops_of _ (fun X _ _ _ => op_mulS) fun Hs H u1 u2 Q e r1 r2 q => by
  cases r1; cases r2
  exact ⟨x, j, rfl, rfl, h, q _ _ _ (.refl e) (.str _)⟩
theorem u_neg : UnS (unaryOp .USub) (.int i) (.int (-i)) := fun X => ⟨_, un_neg, fun K Hs H v1 Q e r q => by
  cases r
  exact ⟨i, rfl, q _ _ _ (.refl e) (.int _)⟩⟩

/-! ### subscripts -/
theorem Reps.atI {H : Hp} {vs : List V} (h : Reps K H ds vs) (e : L2.atI ds j = some d) : ∃ v, L2.atI vs j = some v ∧ Rep K H d v := by
  unfold L2.atI at e ⊢
  rw [h.length]
  cases q : ixN ds.length j with
  | none => rw [q] at e; cases e
  | some n =>
    rw [q] at e
    obtain ⟨v, h1, h2⟩ := h.get (i := n) (d := d) e
    exact ⟨v, h1, h2⟩
theorem i_tup (h : L2.atI ds j = some d) : IxS K (.tup ds) (.int j) d := fun X hK => ⟨_, ix_tup, fun Hs H u1 u2 Q e r1 r2 q => by
  cases r2
  cases r1 with
  | tup h1 h2 =>
    obtain ⟨v, hv, rv⟩ := h2.atI h
    exact ⟨_, _, _, v, rfl, rfl, by rw [hK]; exact e.st h1, hv, q _ _ _ (.refl e) rv⟩⟩
theorem i_lst (h : L2.atI ds j = some d) : IxS K (.lst ds) (.int j) d := fun X hK => ⟨_, ix_list, fun Hs H u1 u2 Q e r1 r2 q => by
  cases r2
  cases r1 with
  | lst h1 h2 =>
    obtain ⟨v, hv, rv⟩ := h2.atI h
    exact ⟨_, _, _, v, rfl, rfl, SqL.of (e _ _ h1), hv, q _ _ _ (.refl e) rv⟩⟩
theorem i_ro (h : L2.atI ds j = some d) : IxS K (.ro ds) (.int j) d := fun X hK => ⟨_, ix_list, fun Hs H u1 u2 Q e r1 r2 q => by
  cases r2
  cases r1 with
  | ro h1 h2 =>
    obtain ⟨v, hv, rv⟩ := h2.atI h
    exact ⟨_, _, _, v, rfl, rfl, by rw [hK]; exact e.sl h1, hv, q _ _ _ (.refl e) rv⟩⟩
theorem i_str {c : Nat} (hl : x.length ≤ 100000) (h : L2.atI x.cps.toList j = some c) : IxS K (.str x) (.int j) (.str ⟨#[c]⟩) := fun X hK => ⟨_, ix_str, fun Hs H u1 u2 Q e r1 r2 q => by
  cases r1; cases r2
  exact ⟨x, j, c, rfl, rfl, Nat.le_trans hl (by decide), h, q _ _ _ (.refl e) (.str _)⟩⟩

/-! ### slices -/
def SlS (K : PySem.W.Frag) (d1 : D) (lo hi : Option Int) (d : D) : Prop :=
  ∀ X : Cx, X.K = K → ∃ r : V → Option Int → Option Int → Hp → VK → Prop, SlR X r ∧ ∀ (Hs H : Hp) (v1 : V) (Q : VK), Ex Hs H → Rep K Hs d1 v1 → (∀ v Hs' H', Step Hs H Hs' H' → Rep K Hs' d v → Q v H') → r v1 lo hi H Q
def cutD (xs : List D) (lo hi : Option Int) : List D := (xs.drop (HT.sIx xs.length 0 lo)).take (HT.sIx xs.length xs.length hi - HT.sIx xs.length 0 lo)
theorem Reps.cut {H : Hp} {vs : List V} (h : Reps K H ds vs) (lo hi : Option Int) : Reps K H (cutD ds lo hi) (cutV vs lo hi) := by
  unfold cutD cutV
  rw [h.length]
  exact (h.drop _).take _
theorem l_lst {lo hi : Option Int} : SlS K (.lst ds) lo hi (.lst (cutD ds lo hi)) := fun X hK => ⟨_, sl_list, fun Hs H v1 Q e r q => by
  cases r with
  | lst h1 h2 =>
    refine ⟨_, _, rfl, SqL.of (e _ _ h1), fun p hp => ?_⟩
    exact newL q e hp (h2.cut lo hi)⟩
theorem l_tup {lo hi : Option Int} : SlS K (.tup ds) lo hi (.tup (cutD ds lo hi)) := fun X hK => ⟨_, sl_tupA, fun Hs H v1 Q e r q => by
  cases r with
  | @tup a xs _ h1 h2 =>
    refine ⟨a, xs, rfl, by rw [hK]; exact e.st h1, fun z => ?_, fun _ p hp => newT q e hp (h2.cut lo hi)⟩
    obtain ⟨z1, z2⟩ := z
    have : cutD ds lo hi = ds := by
      unfold cutD
      rw [h2.length] at z1 z2
      rw [z1, z2]
      simp
    rw [this] at q
    exact q _ _ _ (.refl e) (.tup h1 h2)⟩
theorem l_str {lo hi : Option Int} (hl : x.length ≤ 100000) : SlS K (.str x) lo hi (.str (cutS x lo hi)) := fun X hK => ⟨_, sl_str, fun Hs H v1 Q e r q => by
  cases r
  exact ⟨x, rfl, Nat.le_trans hl (by decide), q _ _ _ (.refl e) (.str _)⟩⟩
end

section
variable {X : Cx} {N : List Str} {sc : Scope} {P : Program} {w : World} {K : PySem.W.Frag} {mg : Str → Option Value} {base : Heap} {k : Nat}
variable {A : Anc} {M : List Cell} {ρ ρ' : Env3} {a b c e tg : Expr} {es : List Expr} {d d1 d2 d3 : D} {ds fs : List D} {pos p p2 : Pos} {i j : Int} {x y : Str}
def EO (X : Cx) (K : PySem.W.Frag) (A : Anc) (M : List Cell) (ρ : Env3) (p : Option Expr) (o : Option Int) : Prop :=
  ∃ t, PO X p t ∧ ∀ fps σ Hs H (Q : Option Int → Hp → Prop), StA K A M ρ fps σ Hs H → (∀ Hs' H', Step Hs H Hs' H' → Q o H') → t σ H Q
theorem eo_none : EO X K A M ρ none none := ⟨_, po_none, fun fps σ Hs H Q h q => q Hs H (.refl h.st.e)⟩
theorem eo_some (h : ED X K A M ρ e (.int i)) : EO X K A M ρ (some e) (some i) := ⟨_, po_some pe_w, fun fps σ Hs H Q hh q => by
  refine wE_mono (h _ _ _ _ hh) fun v H' ⟨Hs', s, r⟩ => ?_
  cases r
  exact ⟨i, rfl, q _ _ s⟩⟩
theorem ed_slice (hX : XF X N sc P w K mg base k) {lo hi : Option Expr} {l u : Option Int} (h : ED X K A M ρ e d1) (hl : EO X K A M ρ lo l) (hu : EO X K A M ρ hi u) (ho : SlS K d1 l u d) : ED X K A M ρ (.Subscript e (.Slice lo hi none p2) pos) d := .mk fun fps σ Hs H hh => by
  obtain ⟨r, hr, q⟩ := ho X hX.eK
  obtain ⟨tl, hl, ql⟩ := hl
  obtain ⟨tu, hu, qu⟩ := hu
  refine wE_of (pe_slice hr pe_w hl hu) ?_
  refine wE_mono (h _ _ _ _ hh) fun v H1 ⟨Hs1, s1, r1⟩ => ?_
  refine ql _ _ _ _ _ (hh.step s1) fun Hs2 H2 s2 => ?_
  refine qu _ _ _ _ _ (hh.step (s1.trans s2)) fun Hs3 H3 s3 => ?_
  exact q Hs3 H3 v _ s3.i (r1.mono (s2.s.trans s3.s)) fun v' Hs' H' s4 r4 => ⟨Hs', ((s1.trans s2).trans s3).trans s4, r4⟩
/-- xs[::-1] -/
theorem ed_rev (hX : XF X N sc P w K mg base k) {kk : Nat} {p1 p2 p3 : Pos} (h : ED X K A M ρ e (.lst ds)) : ED X K A M ρ (.Subscript e (.Slice none none (some (.UnaryOp .USub (.Constant (.int 1) kk p1) p2)) p3) pos) (.lst ds.reverse) := .mk fun fps σ Hs H hh => by
  refine wE_of (pe_revL pe_w) ?_
  refine wE_mono (h _ _ _ _ hh) fun v H1 ⟨Hs1, s1, r1⟩ => ?_
  cases r1 with
  | lst h1 h2 =>
    refine ⟨_, _, rfl, SqL.of (s1.i _ _ h1), fun p hp => ?_⟩
    exact newL (Q := fun v H' => ∃ Hs', Step Hs H Hs' H' ∧ Rep K Hs' (.lst ds.reverse) v) (fun v Hs' H' s r => ⟨Hs', s1.trans s, r⟩) s1.i hp h2.reverse

/-! ### calls of built-in names -/
theorem calls_of {f : Value} (r : List V → Hp → VK → Prop) (h1 : ∀ X : Cx, X.K = K → X.calm = true → Room k X.A → CallR X f r) (h2 : ∀ (Hs H : Hp) (vs : List V) (Q : VK), Ex Hs H → Reps K Hs ds vs →
    (∀ v Hs' H', Step Hs H Hs' H' → Rep K Hs' d v → Q v H') → r vs H Q) : CallS f K k ds d := fun X a b c => ⟨r, h1 X a b c, h2⟩
theorem c_lenL : CallS (.builtin "len") K k [.lst ds] (.int ds.length) := calls_of (fun xs H Q => ∃ p ys, xs = [.ref p] ∧ (SqL K H p ys ∨ SqT K H p ys) ∧ Q (.int ys.length) H) (fun X h _ _ => by subst h; exact call_len_seq) fun Hs H vs Q e r q => by
  cases r with
  | cons r1 r2 =>
    cases r2
    cases r1 with
    | lst h1 h2 => exact ⟨_, _, rfl, .inl (SqL.of (e _ _ h1)), by rw [h2.length]; exact q _ _ _ (.refl e) (.int _)⟩
theorem c_lenR : CallS (.builtin "len") K k [.ro ds] (.int ds.length) := calls_of (fun xs H Q => ∃ p ys, xs = [.ref p] ∧ (SqL K H p ys ∨ SqT K H p ys) ∧ Q (.int ys.length) H) (fun X h _ _ => by subst h; exact call_len_seq) fun Hs H vs Q e r q => by
  cases r with
  | cons r1 r2 =>
    cases r2
    cases r1 with
    | ro h1 h2 => exact ⟨_, _, rfl, .inl (e.sl h1), by rw [h2.length]; exact q _ _ _ (.refl e) (.int _)⟩
theorem c_lenS (hl : x.length ≤ 100000) : CallS (.builtin "len") K k [.str x] (.int x.length) := calls_of (fun xs H Q => ∃ x n, xs = [x] ∧ LenV K x H n ∧ Q (.int n) H) (fun X h _ _ => by subst h; exact call_len) fun Hs H vs Q e r q => by
  cases r with
  | cons r1 r2 =>
    cases r2; cases r1
    exact ⟨_, x.length, rfl, ⟨Nat.le_trans hl (by decide), rfl⟩, q _ _ _ (.refl e) (.int _)⟩
theorem c_abs : CallS (.builtin "abs") K k [.int i] (.int (if i < 0 then -i else i)) := calls_of _ (fun X h _ _ => call_abs) fun Hs H vs Q e r q => by
  cases r with
  | cons r1 r2 =>
    cases r2; cases r1
    exact ⟨_, rfl, q _ _ _ (.refl e) (.int _)⟩
theorem c_max : CallS (.builtin "max") K k [.int i, .int j] (.int (if j > i then j else i)) := calls_of _ (fun X h hc _ => call_max2 hc) fun Hs H vs Q e r q => by
  cases r with
  | cons r1 r2 =>
    cases r1
    cases r2 with
    | cons r1 r2 =>
      cases r2; cases r1
      exact ⟨_, _, rfl, q _ _ _ (.refl e) (.int _)⟩
theorem c_min : CallS (.builtin "min") K k [.int i, .int j] (.int (if j < i then j else i)) := calls_of _ (fun X h hc _ => call_min2 hc) fun Hs H vs Q e r q => by
  cases r with
  | cons r1 r2 =>
    cases r1
    cases r2 with
    | cons r1 r2 =>
      cases r2; cases r1
      exact ⟨_, _, rfl, q _ _ _ (.refl e) (.int _)⟩
theorem c_intB {t : Bool} : CallS (.type "int") K k [.bl t] (.int (if t then 1 else 0)) := calls_of _ (fun X h _ _ => call_int1) fun Hs H vs Q e r q => by
  cases r with
  | cons r1 r2 =>
    cases r2; cases r1
    exact .inr ⟨t, rfl, q _ _ _ (.refl e) (.int _)⟩
theorem c_intS {n : Int} (h : PySem.intText? x = some n) (hl : x.length ≤ 640) : CallS (.type "int") K k [.str x] (.int n) := calls_of _ (fun X h _ _ => call_int_str) fun Hs H vs Q e r q => by
  cases r with
  | cons r1 r2 =>
    cases r2; cases r1
    exact ⟨x, n, rfl, h, hl, q _ _ _ (.refl e) (.int _)⟩
theorem c_str (h : i.natAbs.log2 < 1920) : CallS (.type "str") K k [.int i] (.str (toString i)) := calls_of _ (fun X h _ _ => call_str_int) fun Hs H vs Q e r q => by
  cases r with
  | cons r1 r2 =>
    cases r2; cases r1
    exact ⟨i, rfl, h, q _ _ _ (.refl e) (.str _)⟩
theorem c_tuple : CallS (.type "tuple") K k [.lst ds] (.tup ds) := calls_of (fun xs H Q => ∃ p ys, xs = [.ref p] ∧ ((SqL K H p ys ∧ ∀ l, H l = none → Q (.ref l) (upd H l (.tup ys))) ∨ (SqT K H p ys ∧ Q (.ref p) H))) (fun X h _ _ => by subst h; exact call_tuple_of) fun Hs H vs Q e r q => by
  cases r with
  | cons r1 r2 =>
    cases r2
    cases r1 with
    | lst h1 h2 =>
      refine ⟨_, _, rfl, .inl ⟨SqL.of (e _ _ h1), fun p hp => ?_⟩⟩
      exact newT q e hp h2
theorem c_all {bs : List Bool} : CallS (.builtin "all") K k [.lst (bs.map D.bl)] (.bl (bs.all id)) := calls_of (rAll K) (fun X h hc _ => by subst h; exact cr_all hc) fun Hs H vs Q e r q => by
  cases r with
  | cons r1 r2 =>
    cases r2
    cases r1 with
    | lst h1 h2 =>
      have hv := h2.bls'
      subst hv
      exact ⟨_, bs, rfl, SqL.of (e _ _ h1), q _ _ _ (.refl e) (.bl _)⟩
theorem c_listD {ks : List Str} : CallS (.type "list") K k [.dct ks ds] (.lst (ks.map D.str)) := calls_of _ (fun X h hc _ => call_listD hc) fun Hs H vs Q e r q => by
  cases r with
  | cons r1 r2 =>
    cases r2
    cases r1 with
    | dct h1 h2 h3 =>
      rename_i ws
      refine ⟨_, ws, rfl, e.rd h1, fun p hp => ?_⟩
      refine newL q e hp ?_
      have : ws.map (fun kv => kV kv.1) = ks.map V.str := by
        have := congrArg (List.map kV) h2
        rw [List.map_map, List.map_map] at this
        exact this
      rw [this]
      exact Reps.strs ks
theorem c_sorted {l : List Str} (h64 : l.length < 64) {r : List Str} (hr : ∀ ys : List Str, ys.Perm l → PyProof.Rows.sortedS ys = true → ys = r) : CallS (.builtin "sorted") K k [.lst (l.map D.str)] (.lst (r.map D.str)) := calls_of (rSortedS K) (fun X h hc _ => by subst h; exact cr_sortedS) fun Hs H vs Q e r q => by
  cases r with
  | cons r1 r2 =>
    cases r2
    cases r1 with
    | lst h1 h2 =>
      have hv := h2.strs'
      subst hv
      refine ⟨_, l, rfl, SqL.of (e _ _ h1), h64, fun ys p hp hs hn => ?_⟩
      rw [hr ys hp hs]
      exact newL q e hn (Reps.strs _)
end
end T3
/-! T3f: loops with told states, short forms. -/
namespace T3
open PySem L2

section
variable {X : Cx} {N : List Str} {sc : Scope} {P : Program} {w : World} {K : PySem.W.Frag} {mg : Str → Option Value} {base : Heap} {k : Nat}
variable {A : Anc} {M : List Cell} {ρ ρ' : Env3} {a b c e tg : Expr} {es : List Expr} {d d1 d2 d3 : D} {ds fs : List D} {pos p p2 : Pos} {st : Stmt} {sts rest : List Stmt} {R : Post} {i j : Int}
theorem tg_weak {pl : List Nat} {ρ1 : Env3} (h : TGt X K tg d pl ρ1 ρ') (w : Wk ρ1 ρ) : TGt X K tg d pl ρ ρ' := .mk fun fps σ Hs H v e hs r => h fps σ Hs H v e (hs.weak w) r
/-- the states between the turns told: Mf, ρf -/
theorem sd_forE (hX : XF X N sc P w K mg base k) {body : List Stmt} (hi : EI X K A M ρ tg e ds) (Mf : Nat → List Cell) (ρf : Nat → Env3) (h0 : M = Mf 0 ∧ Wk (ρf 0) ρ)
    (hs : ∀ A', Anc.le A A' → ∀ i d, ds[i]? = some d → ∃ pl ρ', TGt X K tg d pl (ρf i) ρ' ∧ SD X K A' (Mf i) ρ' body ⟨fun M ρ => M = Mf (i + 1) ∧ Wk (ρf (i + 1)) ρ, R.rt, fun M ρ => SD X K A M ρ rest R, fun M ρ => M = Mf (i + 1) ∧ Wk (ρf (i + 1)) ρ⟩)
    (hd : SD X K A (Mf ds.length) (ρf ds.length) rest R) (hp : PassesOwn (model X.prog X.w) X.A X.env X.xe)
    (hf : ∀ x, foldedSetIterable e X.env x = pure x := by intro _; rfl) : SD X K A M ρ (.For tg e body [] pos :: rest) R := by
  refine sd_for hX hi (fun i M ρ => M = Mf i ∧ Wk (ρf i) ρ) h0 (fun A' le i d M ρ hd' ⟨e1, w1⟩ => ?_) (fun M ρ ⟨e1, w1⟩ => ?_) hp hf
  · subst e1
    obtain ⟨pl, ρ', t, b⟩ := hs A' le i d hd'
    exact ⟨pl, ρ', tg_weak t w1, b⟩
  · subst e1
    exact sd_weak hd w1
/-- for x in range(n) -/
theorem sd_forR (hX : XF X N sc P w K mg base k) {body : List Stmt} {x : Str} {px pr pr2 : Pos} (n : Nat) (j : Nat) (hm : mg "range" = none) (he : ED X K A M ρ e (.int (n : Nat))) (hn : n < 2 ^ 60) (Mf : Nat → List Cell) (ρf : Nat → Env3) (h0 : M = Mf 0 ∧ Wk (ρf 0) ρ) (hN : N[j]? = some x)
    (hs : ∀ A', Anc.le A A' → ∀ i, i < n → SD X K A' (Mf i) ((ρf i).set j (some (.sh (.int (i : Nat))))) body ⟨fun M ρ => M = Mf (i + 1) ∧ Wk (ρf (i + 1)) ρ, R.rt, fun M ρ => SD X K A M ρ rest R, fun M ρ => M = Mf (i + 1) ∧ Wk (ρf (i + 1)) ρ⟩)
    (hd : SD X K A (Mf n) (ρf n) rest R) (hp : PassesOwn (model X.prog X.w) X.A X.env X.xe) (hl : Loc sc x := by first | exact .inl rfl | exact .inr rfl) (hF : ∀ x, X.fn x = true := by assumption) (hg : GlS sc "range" := by rfl) (hst : starEach [e] X.env = [(false, eval e X.env)] := by exact star_cons rfl)
    (hf : ∀ x, foldedSetIterable (.Call (.Name "range" pr) [e] [] pr2) X.env x = pure x := by intro _; rfl) : SD X K A M ρ (.For (.Name x px) (.Call (.Name "range" pr) [e] [] pr2) body [] pos :: rest) R := by
  refine sd_forE hX (ei_rng1 hX hm (eds_cons he eds_nil (by rw [hst]; rfl)) (by omega) (by omega) hg hst) Mf ρf h0 (fun A' le i d hd' => ?_) ?_ hp hf
  · rw [Int.toNat_natCast] at hd'
    have hi : i < n := by
      have := (List.getElem?_eq_some_iff.mp hd').1
      rwa [rngD_length] at this
    rw [rngD_get hi] at hd'
    have e1 : (0 : Int) + (i : Nat) * 1 = (i : Nat) := by omega
    rw [e1] at hd'
    cases hd'
    exact ⟨_, _, tg_name hX j hN hl hF, hs A' le i hi⟩
  · rw [Int.toNat_natCast, rngD_length]
    exact hd
/-- for x in xs, xs a list -/
theorem sd_forL (hX : XF X N sc P w K mg base k) {body : List Stmt} {x : Str} {px : Pos} (j : Nat) (he : ED X K A M ρ e (.lst ds)) (Mf : Nat → List Cell) (ρf : Nat → Env3) (h0 : M = Mf 0 ∧ Wk (ρf 0) ρ) (hN : N[j]? = some x)
    (hs : ∀ A', Anc.le A A' → ∀ i d, ds[i]? = some d → SD X K A' (Mf i) ((ρf i).set j (some (.sh d))) body ⟨fun M ρ => M = Mf (i + 1) ∧ Wk (ρf (i + 1)) ρ, R.rt, fun M ρ => SD X K A M ρ rest R, fun M ρ => M = Mf (i + 1) ∧ Wk (ρf (i + 1)) ρ⟩)
    (hd : SD X K A (Mf ds.length) (ρf ds.length) rest R) (hp : PassesOwn (model X.prog X.w) X.A X.env X.xe) (hl : Loc sc x := by first | exact .inl rfl | exact .inr rfl) (hF : ∀ x, X.fn x = true := by assumption)
    (hf : ∀ x, foldedSetIterable e X.env x = pure x := by intro _; rfl) : SD X K A M ρ (.For (.Name x px) e body [] pos :: rest) R :=
  sd_forE hX (ei_lst hX he) Mf ρf h0 (fun A' le i d hd' => ⟨_, _, tg_name hX j hN hl hF, hs A' le i d hd'⟩) hd hp hf
/-- for x in t, t a tuple -/
theorem sd_forT (hX : XF X N sc P w K mg base k) {body : List Stmt} {x : Str} {px : Pos} (j : Nat) (he : ED X K A M ρ e (.tup ds)) (Mf : Nat → List Cell) (ρf : Nat → Env3) (h0 : M = Mf 0 ∧ Wk (ρf 0) ρ) (hN : N[j]? = some x)
    (hs : ∀ A', Anc.le A A' → ∀ i d, ds[i]? = some d → SD X K A' (Mf i) ((ρf i).set j (some (.sh d))) body ⟨fun M ρ => M = Mf (i + 1) ∧ Wk (ρf (i + 1)) ρ, R.rt, fun M ρ => SD X K A M ρ rest R, fun M ρ => M = Mf (i + 1) ∧ Wk (ρf (i + 1)) ρ⟩)
    (hd : SD X K A (Mf ds.length) (ρf ds.length) rest R) (hp : PassesOwn (model X.prog X.w) X.A X.env X.xe) (hl : Loc sc x := by first | exact .inl rfl | exact .inr rfl) (hF : ∀ x, X.fn x = true := by assumption)
    (hf : ∀ x, foldedSetIterable e X.env x = pure x := by intro _; rfl) : SD X K A M ρ (.For (.Name x px) e body [] pos :: rest) R :=
  sd_forE hX (ei_tup hX he) Mf ρf h0 (fun A' le i d hd' => ⟨_, _, tg_name hX j hN hl hF, hs A' le i d hd'⟩) hd hp hf
end
end T3
/-! M1: the mirror: shapes, numbers, rows of bytes. -/
namespace Tl
open PySem L2 T3

theorem mulOk {i j : Int} (hi : i.natAbs < 2 ^ 64) (hj : j.natAbs < 2 ^ 64) : CMulW i j := wide_mul hi hj (by decide) (by decide) (by decide)
theorem divOk {i j : Int} (h : 0 < j) (hj : j < 2 ^ 64) : CDivW i j := wide_div (b := 64) h (by omega) (by decide) (by decide)
theorem ten_pos (n : Nat) : (0 : Int) < 10 ^ n := Int.pow_pos (by decide)
theorem ten_le {a b : Nat} (h : a ≤ b) : (10 : Int) ^ a ≤ 10 ^ b := by
  have := Nat.pow_le_pow_right (n := 10) (by decide) h
  exact_mod_cast this
theorem ten_lt {n : Nat} (h : n ≤ 18) : (10 : Int) ^ n < 2 ^ 62 := Int.lt_of_le_of_lt (ten_le h) (by decide)
theorem ten_abs {n : Nat} (h : n ≤ 18) : ((10 : Int) ^ n).natAbs < 2 ^ 64 := by
  have h1 := ten_pos n
  have h2 := ten_lt h
  omega

inductive Sg | no | en | te
  deriving DecidableEq
structure Form where
  sp : Bool
  n : Nat
  sg : Sg
  pt : Nat
structure Form.Ok (f : Form) : Prop where
  n1 : 1 ≤ f.n
  n12 : f.n ≤ 12
  pt : f.pt ≤ f.n
def kindS : Bool → Str
  | false => "packed"
  | true => "spread"
def signS : Sg → Str
  | .no => "none"
  | .en => "end"
  | .te => "tens"
def formD (f : Form) : D := .tup [.str (kindS f.sp), .int f.n, .str (signS f.sg), .int f.pt]
def rowD (r : List Int) : D := .tup (r.map .int)
def isEn (f : Form) : Bool := decide (signS f.sg = "end")
def sgE : Sg → Nat
  | .en => 1
  | _ => 0
abbrev e01 (f : Form) : Nat := sgE f.sg
theorem sgE_eq : ∀ sg : Sg, (if decide (signS sg = "end") then (1 : Int) else 0) = (sgE sg : Nat)
  | .no => by decide +kernel
  | .en => by decide +kernel
  | .te => by decide +kernel
theorem isEn_eq (f : Form) : (if isEn f then (1 : Int) else 0) = (e01 f : Nat) := sgE_eq f.sg

def least (f : Form) : Int := match f.sg with
  | .no => 0
  | .en => 1 - 10 ^ f.n
  | .te => -5 * 10 ^ (f.n - 1)
def most (f : Form) : Int := match f.sg with
  | .te => 5 * 10 ^ (f.n - 1) - 1
  | _ => 10 ^ f.n - 1
def fold (f : Form) (x : Int) : Int := match f.sg with
  | .no => x % 10 ^ f.n
  | .te => (x - least f) % 10 ^ f.n + least f
  | .en => if x < 0 then -(-x % 10 ^ f.n) else x % 10 ^ f.n
def fitsB (f : Form) (x : Int) : Bool := decide (least f ≤ x) && decide (x ≤ most f)
def ahead (f : Form) : Nat := (f.n + e01 f) % 2
def lsd (x : Int) (k : Nat) : List Int := (List.range k).map fun j => x / 10 ^ j % 10
def digs (x : Int) (k : Nat) : List Int := (lsd x k).reverse
theorem lsd_length (x : Int) (k : Nat) : (lsd x k).length = k := by simp [lsd]
theorem digs_length (x : Int) (k : Nat) : (digs x k).length = k := by simp [digs, lsd_length]
theorem lsd_succ (x : Int) (k : Nat) : lsd x (k + 1) = lsd x k ++ [x / 10 ^ k % 10] := by simp [lsd, List.range_succ]
theorem digs_mem {x d : Int} {k : Nat} (h : d ∈ digs x k) : 0 ≤ d ∧ d ≤ 9 := by
  simp only [digs, lsd, List.mem_reverse, List.mem_map, List.mem_range] at h
  obtain ⟨j, _, rfl⟩ := h
  omega
def sgh (x : Int) : Int := if x < 0 then 13 else 12
def halvesP (f : Form) (ds : List Int) (h : Int) : List Int := List.replicate (ahead f) 0 ++ ds ++ List.replicate (e01 f) h
def zones (ds : List Int) : List Int := ds.flatMap fun d => [15, d]
def halvesS (f : Form) (ds : List Int) (h : Int) : List Int := match f.sg with
  | .en => (zones ds).set (2 * ds.length - 2) h
  | _ => zones ds
def halves (f : Form) (ds : List Int) (h : Int) : List Int := if f.sp then halvesS f ds h else halvesP f ds h
def size (f : Form) (x : Int) : Int := match f.sg with
  | .te => x % 10 ^ f.n
  | _ => if x < 0 then -x else x
def pairs : List Int → List Int
  | a :: b :: r => (16 * a + b) :: pairs r
  | _ => []
/-- a row of bytes: the figures ds, the sign's half h -/
def rowW (f : Form) (ds : List Int) (h : Int) : List Int := pairs (halves f ds h)
def rowK (f : Form) (x : Int) : List Int := rowW f (digs (size f x) f.n) (sgh x)
theorem zones_length (ds : List Int) : (zones ds).length = 2 * ds.length := by
  induction ds with
  | nil => rfl
  | cons d r ih => simp only [zones, List.flatMap_cons, List.length_append, List.length_cons, List.length_nil] at ih ⊢; omega
def hlen (f : Form) : Nat := if f.sp then 2 * f.n else ahead f + f.n + e01 f
theorem halves_length {f : Form} {ds : List Int} {h : Int} (hd : ds.length = f.n) : (halves f ds h).length = hlen f := by
  unfold halves hlen
  cases f.sp with
  | true =>
    simp only [if_true]
    unfold halvesS
    cases f.sg <;> simp [zones_length, hd]
  | false => simp [halvesP, hd]; omega
theorem hlen_even (f : Form) : hlen f % 2 = 0 := by
  unfold hlen ahead
  cases f.sp <;> simp <;> omega
theorem hlen_le {f : Form} (ok : f.Ok) : hlen f ≤ 24 := by
  have h1 := ok.n12
  have h2 : e01 f ≤ 1 := by show sgE f.sg ≤ 1; cases f.sg <;> decide
  unfold hlen ahead
  cases f.sp <;> simp <;> omega
theorem pairs_get : ∀ {l : List Int} {i : Nat}, 2 * i + 1 < l.length → (pairs l)[i]? = some (16 * l.getD (2 * i) 0 + l.getD (2 * i + 1) 0)
  | [], _, h => by simp at h
  | [_], i, h => by simp at h
  | a :: b :: r, 0, _ => rfl
  | a :: b :: r, i + 1, h => by
    have h' : 2 * i + 1 < r.length := by simp only [List.length_cons] at h; omega
    have e1 : 2 * (i + 1) = 2 * i + 1 + 1 := by omega
    have ih := pairs_get (l := r) (i := i) h'
    rw [e1]
    show (pairs r)[i]? = some (16 * r.getD (2 * i) 0 + r.getD (2 * i + 1) 0)
    exact ih
theorem pairs_length : ∀ (l : List Int), (pairs l).length = l.length / 2
  | [] => rfl
  | [_] => by simp [pairs]
  | a :: b :: r => by
    simp only [pairs, List.length_cons, pairs_length r]
    omega
theorem pairs_eq {l : List Int} {m : Nat} (h : l.length = 2 * m) : pairs l = (List.range m).map fun i => 16 * l.getD (2 * i) 0 + l.getD (2 * i + 1) 0 := by
  apply List.ext_getElem?
  intro i
  by_cases hi : i < m
  · rw [pairs_get (by omega)]
    simp [hi]
  · rw [List.getElem?_eq_none (by rw [pairs_length]; omega), List.getElem?_eq_none (by simp; omega)]
end Tl
/-! M2: the mirror: duties of halves, reading a row. -/
namespace Tl
open PySem L2 T3

inductive Du | ah | fi | zo | si
  deriving DecidableEq
def duS : Du → Str
  | .ah => "ahead"
  | .fi => "figure"
  | .zo => "zone"
  | .si => "sign"
def rightB (u : Du) (x : Int) : Bool := match u with
  | .ah => decide (x = 0)
  | .fi => decide (x < 10)
  | .zo => decide (x = 15)
  | .si => decide (9 < x)
/-- spread, the sign's half in the last zone -/
def zonE : List Int → Int → List (Du × Int)
  | [], _ => []
  | [d], h => [(.si, h), (.fi, d)]
  | d :: r, h => (.zo, 15) :: (.fi, d) :: zonE r h
def zonP (ds : List Int) : List (Du × Int) := ds.flatMap fun d => [(.zo, 15), (.fi, d)]
/-- each half with its duty -/
def dh (f : Form) (ds : List Int) (h : Int) : List (Du × Int) :=
  if f.sp then (match f.sg with
    | .en => zonE ds h
    | _ => zonP ds)
  else List.replicate (ahead f) (.ah, 0) ++ ds.map (fun d => (.fi, d)) ++ List.replicate (e01 f) (.si, h)
def zonDu (n : Nat) : List Du := (List.replicate n [Du.zo, .fi]).flatten
def duL (f : Form) : List Du :=
  if f.sp then (match f.sg with
    | .en => (zonDu f.n).set (2 * f.n - 2) .si
    | _ => zonDu f.n)
  else List.replicate (ahead f) .ah ++ List.replicate f.n .fi ++ List.replicate (e01 f) .si
theorem zonE_snd : ∀ (ds : List Int) (h : Int), (zonE ds h).map (·.2) = (zones ds).set (2 * ds.length - 2) h
  | [], _ => rfl
  | [d], h => rfl
  | d :: e :: r, h => by
    have ih := zonE_snd (e :: r) h
    have e1 : 2 * (d :: e :: r).length - 2 = (2 * (e :: r).length - 2) + 1 + 1 := by simp only [List.length_cons]; omega
    show (15 : Int) :: d :: (zonE (e :: r) h).map (·.2) = (zones (d :: e :: r)).set (2 * (d :: e :: r).length - 2) h
    rw [ih, e1]
    rfl
theorem zonE_fst : ∀ (ds : List Int) (h : Int), (zonE ds h).map (·.1) = (zonDu ds.length).set (2 * ds.length - 2) .si
  | [], _ => rfl
  | [d], h => rfl
  | d :: e :: r, h => by
    have ih := zonE_fst (e :: r) h
    have e1 : 2 * (d :: e :: r).length - 2 = (2 * (e :: r).length - 2) + 1 + 1 := by simp only [List.length_cons]; omega
    show Du.zo :: Du.fi :: (zonE (e :: r) h).map (·.1) = (zonDu (d :: e :: r).length).set (2 * (d :: e :: r).length - 2) .si
    rw [ih, e1]
    rfl
theorem zonP_snd (ds : List Int) : (zonP ds).map (·.2) = zones ds := by
  induction ds with
  | nil => rfl
  | cons d r ih => simp only [zonP, zones, List.flatMap_cons, List.map_append] at ih ⊢; rw [ih]; rfl
theorem zonP_fst (ds : List Int) : (zonP ds).map (·.1) = zonDu ds.length := by
  induction ds with
  | nil => rfl
  | cons d r ih =>
    simp only [zonP, List.flatMap_cons, List.map_append] at ih ⊢
    rw [ih, List.length_cons, zonDu, zonDu, List.replicate_succ]
    rfl
theorem dh_snd (f : Form) (ds : List Int) (h : Int) : (dh f ds h).map (·.2) = halves f ds h := by
  unfold dh halves
  cases f.sp with
  | true =>
    simp only [if_true]
    unfold halvesS
    cases f.sg with
    | en => exact zonE_snd ds h
    | no => exact zonP_snd ds
    | te => exact zonP_snd ds
  | false => simp [halvesP, Function.comp_def]
theorem dh_fst {f : Form} {ds : List Int} {h : Int} (hd : ds.length = f.n) : (dh f ds h).map (·.1) = duL f := by
  unfold dh duL
  rw [← hd]
  cases f.sp with
  | true =>
    simp only [if_true]
    cases f.sg with
    | en => exact zonE_fst ds h
    | no => exact zonP_fst ds
    | te => exact zonP_fst ds
  | false =>
    simp [Function.comp_def]
    exact List.map_const' ..
theorem dh_length {f : Form} {ds : List Int} {h : Int} (hd : ds.length = f.n) : (dh f ds h).length = hlen f := by
  rw [← halves_length (h := h) hd, ← dh_snd, List.length_map]
theorem duL_length (f : Form) : (duL f).length = hlen f := by
  have hd : (List.replicate f.n (0 : Int)).length = f.n := by simp
  rw [← dh_fst (h := 0) hd, List.length_map, dh_length hd]
theorem zonE_right {h : Int} (h1 : 10 ≤ h) : ∀ {ds : List Int}, (∀ x ∈ ds, 0 ≤ x ∧ x ≤ 9) → ∀ p ∈ zonE ds h, rightB p.1 p.2 = true
  | [], _, p, hp => by simp [zonE] at hp
  | [d], hd, p, hp => by
    have := hd d (by simp)
    simp only [zonE, List.mem_cons, List.not_mem_nil, or_false] at hp
    rcases hp with rfl | rfl
    · exact decide_eq_true (by omega)
    · exact decide_eq_true (by omega)
  | d :: e :: r, hd, p, hp => by
    have h2 := hd d (by simp)
    rcases List.mem_cons.mp hp with rfl | hp
    · rfl
    · rcases List.mem_cons.mp hp with rfl | hp
      · exact decide_eq_true (by show d < 10; omega)
      · exact zonE_right h1 (fun x hx => hd x (List.mem_cons_of_mem _ hx)) p hp
theorem dh_right {f : Form} {ds : List Int} {h : Int} (hd : ∀ x ∈ ds, 0 ≤ x ∧ x ≤ 9) (h1 : 10 ≤ h) : ∀ p ∈ dh f ds h, rightB p.1 p.2 = true := by
  intro p hp
  have zp : p ∈ zonP ds → rightB p.1 p.2 = true := fun hp => by
    simp only [zonP, List.mem_flatMap] at hp
    obtain ⟨d, hdm, hp⟩ := hp
    have := hd d hdm
    simp only [List.mem_cons, List.not_mem_nil, or_false] at hp
    rcases hp with rfl | rfl
    · rfl
    · exact decide_eq_true (by show d < 10; omega)
  unfold dh at hp
  cases hs : f.sp with
  | true =>
    rw [hs] at hp
    simp only [if_true] at hp
    cases hg : f.sg with
    | en => rw [hg] at hp; exact zonE_right h1 hd p hp
    | no => rw [hg] at hp; exact zp hp
    | te => rw [hg] at hp; exact zp hp
  | false =>
    rw [hs] at hp
    simp only [Bool.false_eq_true, if_false, List.mem_append, List.mem_map] at hp
    rcases hp with (hp | ⟨d, hdm, rfl⟩) | hp
    · rw [List.eq_of_mem_replicate hp]; rfl
    · have := hd d hdm
      exact decide_eq_true (by show d < 10; omega)
    · rw [List.eq_of_mem_replicate hp]
      exact decide_eq_true (by show 9 < h; omega)
def figOf (p : Du × Int) : Option Int := if p.1 = .fi then some p.2 else none
theorem zonE_fig : ∀ (ds : List Int) (h : Int), (zonE ds h).filterMap figOf = ds
  | [], _ => rfl
  | [d], h => rfl
  | d :: e :: r, h => by
    show d :: (zonE (e :: r) h).filterMap figOf = _
    rw [zonE_fig (e :: r) h]
theorem zonP_fig (ds : List Int) : (zonP ds).filterMap figOf = ds := by
  induction ds with
  | nil => rfl
  | cons d r ih =>
    show d :: (zonP r).filterMap figOf = _
    rw [ih]
theorem fm_none {α β : Type} {g : α → Option β} : ∀ {l : List α}, (∀ x ∈ l, g x = none) → l.filterMap g = []
  | [], _ => rfl
  | a :: l, h => by rw [List.filterMap_cons, h a (by simp)]; exact fm_none fun x hx => h x (List.mem_cons_of_mem _ hx)
theorem dh_fig (f : Form) (ds : List Int) (h : Int) : (dh f ds h).filterMap figOf = ds := by
  unfold dh
  cases f.sp with
  | true =>
    simp only [if_true]
    cases f.sg with
    | en => exact zonE_fig ds h
    | no => exact zonP_fig ds
    | te => exact zonP_fig ds
  | false =>
    simp only [Bool.false_eq_true, if_false, List.filterMap_append]
    rw [fm_none (l := List.replicate (ahead f) _) (fun x hx => by rw [List.eq_of_mem_replicate hx]; rfl), fm_none (l := List.replicate (e01 f) _) (fun x hx => by rw [List.eq_of_mem_replicate hx]; rfl)]
    rw [List.nil_append, List.append_nil, List.filterMap_map]
    have : (figOf ∘ fun d : Int => (Du.fi, d)) = some := by funext d; rfl
    rw [this, List.filterMap_some]
/-- the sign's place -/
theorem zonE_sign : ∀ {ds : List Int} (h : Int), ds ≠ [] → (zonE ds h)[2 * ds.length - 2]? = some (.si, h) ∧ ∀ m, m < 2 * ds.length - 2 → ∀ p, (zonE ds h)[m]? = some p → p.1 ≠ .si
  | [], _, h0 => absurd rfl h0
  | [d], h, _ => ⟨rfl, fun m hm => by simp at hm⟩
  | d :: e :: r, h, _ => by
    obtain ⟨i1, i2⟩ := zonE_sign (ds := e :: r) h (by simp)
    have e1 : 2 * (d :: e :: r).length - 2 = (2 * (e :: r).length - 2) + 1 + 1 := by simp only [List.length_cons]; omega
    rw [e1]
    refine ⟨i1, fun m hm p hp => ?_⟩
    match m, hp with
    | 0, hp => cases hp; decide
    | 1, hp => cases hp; exact fun z => nomatch z
    | m + 2, hp => exact i2 m (by omega) p hp
def signAt (f : Form) : Nat := if f.sp then 2 * f.n - 2 else ahead f + f.n
theorem dh_sign {f : Form} {ds : List Int} {h : Int} (hg : f.sg = .en) (hd : ds.length = f.n) (hn : 1 ≤ f.n) : (dh f ds h)[signAt f]? = some (.si, h) ∧ ∀ m, m < signAt f → ∀ p, (dh f ds h)[m]? = some p → p.1 ≠ .si := by
  unfold dh signAt
  have he : e01 f = 1 := by show sgE f.sg = 1; rw [hg]; rfl
  cases hs : f.sp with
  | true =>
    simp only [if_true, hg]
    rw [← hd]
    exact zonE_sign h (fun z => by rw [z] at hd; simp at hd; omega)
  | false =>
    simp only [Bool.false_eq_true, if_false, he]
    have hl : (List.replicate (ahead f) (Du.ah, (0 : Int)) ++ ds.map (fun d => (Du.fi, d))).length = ahead f + f.n := by simp [hd]
    refine ⟨?_, fun m hm p hp => ?_⟩
    · rw [List.getElem?_append_right (by omega), hl, Nat.sub_self]; rfl
    · rw [List.getElem?_append_left (by omega)] at hp
      have := List.mem_of_getElem? hp
      rcases List.mem_append.mp this with q | q
      · rw [List.eq_of_mem_replicate q]; decide
      · obtain ⟨d, _, rfl⟩ := List.mem_map.mp q
        exact fun z => nomatch z
theorem duS_fi : ∀ u : Du, decide (duS u = "figure") = decide (u = .fi)
  | .ah => by decide +kernel
  | .fi => by decide +kernel
  | .zo => by decide +kernel
  | .si => by decide +kernel
theorem duS_ah : ∀ u : Du, decide (duS u = "ahead") = decide (u = .ah)
  | .ah => by decide +kernel
  | .fi => by decide +kernel
  | .zo => by decide +kernel
  | .si => by decide +kernel
theorem duS_zo : ∀ u : Du, decide (duS u = "zone") = decide (u = .zo)
  | .ah => by decide +kernel
  | .fi => by decide +kernel
  | .zo => by decide +kernel
  | .si => by decide +kernel
theorem duS_si : ∀ u : Du, decide (duS u = "sign") = decide (u = .si)
  | .ah => by decide +kernel
  | .fi => by decide +kernel
  | .zo => by decide +kernel
  | .si => by decide +kernel
/-- the bytes' halves again -/
def unpair (l : List Int) : List Int := l.flatMap fun b => [b / 16, b % 16]
theorem unpair_pairs : ∀ {l : List Int}, l.length % 2 = 0 → (∀ x ∈ l, 0 ≤ x ∧ x ≤ 15) → unpair (pairs l) = l
  | [], _, _ => rfl
  | [_], h, _ => by simp at h
  | a :: b :: r, h, hx => by
    have ha := hx a (by simp)
    have hb := hx b (by simp)
    have ih := unpair_pairs (l := r) (by simp only [List.length_cons] at h; omega) fun x hr => hx x (List.mem_cons_of_mem _ (List.mem_cons_of_mem _ hr))
    show (16 * a + b) / 16 :: (16 * a + b) % 16 :: unpair (pairs r) = _
    rw [ih]
    have e1 : (16 * a + b) / 16 = a := by omega
    have e2 : (16 * a + b) % 16 = b := by omega
    rw [e1, e2]
theorem halves_mem {f : Form} {ds : List Int} {h : Int} (hd : ∀ x ∈ ds, 0 ≤ x ∧ x ≤ 9) (h1 : 10 ≤ h) (h2 : h ≤ 15) : ∀ x ∈ halves f ds h, 0 ≤ x ∧ x ≤ 15 := by
  have hz : ∀ x ∈ zones ds, 0 ≤ x ∧ x ≤ 15 := by
    intro x hx
    simp only [zones, List.mem_flatMap] at hx
    obtain ⟨d, hdm, hx⟩ := hx
    have := hd d hdm
    simp only [List.mem_cons, List.not_mem_nil, or_false] at hx
    omega
  intro x hx
  unfold halves at hx
  cases hs : f.sp with
  | true =>
    rw [hs] at hx
    simp only [if_true] at hx
    unfold halvesS at hx
    cases hg : f.sg with
    | en =>
      rw [hg] at hx
      rcases List.mem_or_eq_of_mem_set hx with q | q
      · exact hz x q
      · omega
    | no => rw [hg] at hx; exact hz x hx
    | te => rw [hg] at hx; exact hz x hx
  | false =>
    rw [hs] at hx
    simp only [Bool.false_eq_true, if_false, halvesP, List.mem_append] at hx
    rcases hx with (q | q) | q
    · rw [List.eq_of_mem_replicate q]; omega
    · have := hd x q; omega
    · rw [List.eq_of_mem_replicate q]; omega
/-- a good row: figures and a sign's half -/
structure Good (f : Form) (ds : List Int) (h : Int) : Prop where
  ok : f.Ok
  len : ds.length = f.n
  fig : ∀ x ∈ ds, 0 ≤ x ∧ x ≤ 9
  h10 : 10 ≤ h
  h15 : h ≤ 15
theorem Good.unpair {f : Form} {ds : List Int} {h : Int} (g : Good f ds h) : Tl.unpair (rowW f ds h) = halves f ds h :=
  unpair_pairs (by rw [halves_length g.len]; exact hlen_even f) (halves_mem g.fig g.h10 g.h15)
theorem rowW_length {f : Form} {ds : List Int} {h : Int} (hd : ds.length = f.n) : (rowW f ds h).length = hlen f / 2 := by
  unfold rowW
  rw [pairs_length, halves_length hd]
def nby (ds : List Int) : Int := ds.foldl (fun a d => a * 10 + d) 0
def val (f : Form) (ds : List Int) (h : Int) : Int := match f.sg with
  | .no => nby ds
  | .en => if h = 11 ∨ h = 13 then - nby ds else nby ds
  | .te => if 4 < ds.getD 0 0 then nby ds - 10 ^ f.n else nby ds
theorem nby_take {l : List Int} {i : Nat} {x : Int} (h : l[i]? = some x) : nby (l.take (i + 1)) = nby (l.take i) * 10 + x := by
  rw [List.take_succ, h]
  simp [nby, List.foldl_append]
theorem nby_go : ∀ (l : List Int) (a : Int), (∀ x ∈ l, 0 ≤ x ∧ x ≤ 9) → 0 ≤ a → a * 10 ^ l.length ≤ l.foldl (fun a d => a * 10 + d) a ∧ l.foldl (fun a d => a * 10 + d) a < (a + 1) * 10 ^ l.length := by
  intro l
  induction l with
  | nil => intro a _ ha; simp; omega
  | cons d r ih =>
    intro a hd ha
    have h1 := hd d List.mem_cons_self
    obtain ⟨q1, q2⟩ := ih (a * 10 + d) (fun x hx => hd x (List.mem_cons_of_mem _ hx)) (by omega)
    have e1 : ∀ b : Int, b * 10 ^ (d :: r).length = (b * 10) * 10 ^ r.length := fun b => by
      rw [List.length_cons, Int.pow_succ, Int.mul_comm ((10 : Int) ^ r.length) 10, ← Int.mul_assoc]
    refine ⟨Int.le_trans ?_ q1, Int.lt_of_lt_of_le q2 ?_⟩
    · rw [e1]
      exact Int.mul_le_mul_of_nonneg_right (by omega) (Int.le_of_lt (ten_pos _))
    · rw [e1]
      exact Int.mul_le_mul_of_nonneg_right (by omega) (Int.le_of_lt (ten_pos _))
theorem nby_range (l : List Int) (h : ∀ x ∈ l, 0 ≤ x ∧ x ≤ 9) : 0 ≤ nby l ∧ nby l < 10 ^ l.length := by
  have := nby_go l 0 h (by omega)
  simpa [nby] using this
end Tl
set_option maxHeartbeats 1000000
/-! P1: the program's defs on numbers and shapes. -/
namespace Tl
open PySem L2 T3
theorem b_len : bootBuiltins "len" = some (.builtin "len") := by decide +kernel
theorem b_abs : bootBuiltins "abs" = some (.builtin "abs") := by decide +kernel
theorem b_all : bootBuiltins "all" = some (.builtin "all") := by decide +kernel
theorem b_max : bootBuiltins "max" = some (.builtin "max") := by decide +kernel
theorem b_min : bootBuiltins "min" = some (.builtin "min") := by decide +kernel
theorem b_isinstance : bootBuiltins "isinstance" = some (.builtin "isinstance") := by decide +kernel
theorem b_sorted : bootBuiltins "sorted" = some (.builtin "sorted") := by decide +kernel
theorem b_int : bootBuiltins "int" = some (.type "int") := by decide +kernel
theorem b_str : bootBuiltins "str" = some (.type "str") := by decide +kernel
theorem b_tuple : bootBuiltins "tuple" = some (.type "tuple") := by decide +kernel
theorem b_dict : bootBuiltins "dict" = some (.type "dict") := by decide +kernel
theorem b_list : bootBuiltins "list" = some (.type "list") := by decide +kernel
theorem b_set : bootBuiltins "set" = some (.type "set") := by decide +kernel
theorem b_range : bootBuiltins "range" = some (.type "range") := by decide +kernel
theorem b_enumerate : bootBuiltins "enumerate" = some (.type "enumerate") := by decide +kernel
theorem b_zip : bootBuiltins "zip" = some (.type "zip") := by decide +kernel
/-- what the top binds -/
structure Tops (K : PySem.W.Frag) (mg : Str → Option Value) : Prop where
  range : mg "range" = none
  len : mg "len" = none
  abs : mg "abs" = none
  int : mg "int" = none
  str : mg "str" = none
  tuple : mg "tuple" = none
  all : mg "all" = none
  enumerate : mg "enumerate" = none
  zip : mg "zip" = none
  max : mg "max" = none
  min : mg "min" = none
  isinstance : mg "isinstance" = none
  dict : mg "dict" = none
  list : mg "list" = none
  sorted : mg "sorted" = none
  set : mg "set" = none
  KINDS : GC K mg "KINDS" (.tup (([("packed" : Str), "spread"] : List Str).map D.str))
  SIGNS : GC K mg "SIGNS" (.tup (([("none" : Str), "end", "tens"] : List Str).map D.str))
  MOST_FIGURES_shapes : GC K mg "MOST_FIGURES_shapes" (.int 12)
  PLUS_HALF : GC K mg "PLUS_HALF" (.int 12)
  MINUS_HALF : GC K mg "MINUS_HALF" (.int 13)
  ZONE_HALF : GC K mg "ZONE_HALF" (.int 15)
  MINUS_HALVES : GC K mg "MINUS_HALVES" (.tup (([11, 13] : List Int).map D.int))
  SIGNS_OF_HALVES : GC K mg "SIGNS_OF_HALVES" (.str "0123456789ABCDEF")
  LETTERS : GC K mg "LETTERS" (.str "abcdefghijklmnopqrstuvwxyz")
  FIGURES_desk : GC K mg "FIGURES_desk" (.str "0123456789")
  MOST_LETTERS : GC K mg "MOST_LETTERS" (.int 12)
  MOST_FIGURES_desk : GC K mg "MOST_FIGURES_desk" (.int 12)

section
variable {X : Cx} {N : List Str} {sc : Scope} {P : Program} {w : World} {K : PySem.W.Frag} {mg : Str → Option Value} {base : Heap} {k : Nat}
variable {A : Anc} {M : List Cell} {ρ : Env3} {e : Expr} {b b' : Bool} {d d' : D}
theorem et_is (h : ET X K A M ρ e b) (q : b = b') : ET X K A M ρ e b' := q ▸ h
theorem ed_is (h : ED X K A M ρ e d) (q : d = d') : ED X K A M ρ e d' := q ▸ h
theorem sg_no : ∀ sg : Sg, decide (signS sg = "none") = decide (sg = .no)
  | .no => by decide +kernel
  | .en => by decide +kernel
  | .te => by decide +kernel
theorem sg_en : ∀ sg : Sg, decide (signS sg = "end") = decide (sg = .en)
  | .no => by decide +kernel
  | .en => by decide +kernel
  | .te => by decide +kernel
theorem sg_te : ∀ sg : Sg, decide (signS sg = "tens") = decide (sg = .te)
  | .no => by decide +kernel
  | .en => by decide +kernel
  | .te => by decide +kernel
theorem kd_pk : ∀ b : Bool, decide (kindS b = "packed") = !b
  | true => by decide +kernel
  | false => by decide +kernel
theorem kd_sp : ∀ b : Bool, decide (kindS b = "spread") = b
  | true => by decide +kernel
  | false => by decide +kernel

/-! halves_of -/
def s_halves_of : Stmt := topS 18
theorem sc_halves_of : FnScope ["form", "many"] ["form"] (defScope s_halves_of) := ⟨rfl, rfl, rfl, by decide +kernel, rfl, by decide +kernel, by decide +kernel⟩
def G_halves_of (ds : List D) (d : D) : Prop := ∃ f : Form, ds = [formD f] ∧ d = .tup [.int ((f.n : Int) + (e01 f : Nat) + ((f.n : Int) + (e01 f : Nat)) % 2), .int (ahead f : Nat)]
theorem d_halves_of (T : Tops K mg) {f : Addr} {fd : FuncData} (F : Fun K "halves_of" "halves_of" s_halves_of f fd) (hb : Binds K fd ["form"] []) (hm : mg "halves_of" = some (.ref f)) : Dfn P w K mg base "halves_of" 1 G_halves_of := by
  refine dfn_of F sc_halves_of hb hm (fun ds d h => ?_) ?_
  · obtain ⟨f, rfl, _⟩ := h; rfl
  rintro X A hX hF hP ds d ⟨f, rfl, rfl⟩
  refine sd_set hX 1 rfl (ed_bin hX (ed_ix hX (ed_var hX 0 rfl rfl) ed_int (i_tup rfl)) (ed_callTy hX T.int b_int (eds_cons (ed_cmp hX (ed_ix hX (ed_var hX 0 rfl rfl) ed_int (i_tup rfl)) ed_str o_eqS) eds_nil) c_intB) o_add) ?_
  refine sd_ret (ed_tup (eds_cons (ed_bin hX (ed_var hX 1 rfl rfl) (ed_bin hX (ed_var hX 1 rfl rfl) ed_int (o_mod (by omega))) o_add) (eds_cons (ed_bin hX (ed_var hX 1 rfl rfl) ed_int (o_mod (by omega))) eds_nil)) (by simp)) ?_
  show D.tup _ = D.tup _
  rw [sgE_eq f.sg]
  congr 3

/-! power -/
def s_power : Stmt := topS 20
theorem sc_power : FnScope ["base", "many", "found", "k"] ["base", "many"] (defScope s_power) := ⟨rfl, rfl, rfl, by decide +kernel, rfl, by decide +kernel, by decide +kernel⟩
def G_power (ds : List D) (d : D) : Prop := ∃ n : Nat, n ≤ 18 ∧ ds = [.int 10, .int (n : Nat)] ∧ d = .int (10 ^ n)
theorem d_power (T : Tops K mg) {f : Addr} {fd : FuncData} (F : Fun K "power" "power" s_power f fd) (hb : Binds K fd ["base", "many"] []) (hm : mg "power" = some (.ref f)) : Dfn P w K mg base "power" 1 G_power := by
  refine dfn_of F sc_power hb hm (fun ds d h => ?_) ?_
  · obtain ⟨n, _, rfl, _⟩ := h; rfl
  rintro X A hX hF hP ds d ⟨n, hn, rfl, rfl⟩
  refine sd_set hX 2 rfl ed_int ?_
  refine sd_forR hX n 3 T.range (ed_var hX 1 rfl rfl) (by omega) (fun _ => []) (fun i => [some (.sh (.int 10)), some (.sh (.int (n : Nat))), some (.sh (.int (10 ^ i))), none]) ⟨rfl, rfl, rfl, rfl, trivial⟩ rfl ?_ ?_ hP
  · intro A' le i hi
    refine sd_set hX 2 rfl (ed_bin hX (ed_var hX 2 rfl rfl) (ed_var hX 0 rfl rfl) (o_mul (mulOk (ten_abs (by omega)) (by decide)))) ?_
    exact sd_nil ⟨rfl, rfl, rfl, by rw [Int.pow_succ], trivial⟩
  exact sd_ret (ed_var hX 2 rfl rfl) rfl

/-! figures_of -/
def s_figures_of : Stmt := topS 21
theorem sc_figures_of : FnScope ["number", "many", "found", "k"] ["number", "many"] (defScope s_figures_of) := ⟨rfl, rfl, rfl, by decide +kernel, rfl, by decide +kernel, by decide +kernel⟩
def G_figures_of (ds : List D) (d : D) : Prop := ∃ (x : Int) (n : Nat), n ≤ 18 ∧ ds = [.int x, .int (n : Nat)] ∧ d = .lst ((digs x n).map .int)
theorem d_figures_of (T : Tops K mg) {f : Addr} {fd : FuncData} (F : Fun K "figures_of" "figures_of" s_figures_of f fd) (hb : Binds K fd ["number", "many"] []) (hm : mg "figures_of" = some (.ref f)) : Dfn P w K mg base "figures_of" 1 G_figures_of := by
  refine dfn_of F sc_figures_of hb hm (fun ds d h => ?_) ?_
  · obtain ⟨x, n, _, rfl, _⟩ := h; rfl
  rintro X A hX hF hP ds d ⟨x, n, hn, rfl, rfl⟩
  refine sd_setF hX 2 rfl (ef_lst eds_nil (by simp)) ?_
  refine sd_forR hX n 3 T.range (ed_var hX 1 rfl rfl) (by omega) (fun i => [.lst ((lsd x i).map .int)]) (fun i => [some (.sh (.int (x / 10 ^ i))), some (.sh (.int (n : Nat))), some (.cell 0), none]) ⟨rfl, by rw [Int.pow_zero, Int.ediv_one], rfl, rfl, trivial⟩ rfl ?_ ?_ hP
  · intro A' le i hi
    refine sd_append hX (ec_var hX 2 rfl rfl) rfl (eds_cons (ed_bin hX (ed_var hX 0 rfl rfl) ed_int (o_mod (by omega))) eds_nil) (by simp [lsd_length]; omega) ?_
    refine sd_set hX 0 rfl (ed_bin hX (ed_var hX 0 rfl rfl) ed_int (o_div (divOk (by decide) (by decide)))) ?_
    refine sd_nil ⟨?_, ?_, rfl, rfl, trivial⟩
    · rw [lsd_succ, List.map_append]; rfl
    · rw [Int.pow_succ, Int.ediv_ediv_of_nonneg (Int.le_of_lt (ten_pos i))]
  refine sd_freeze 2 0 rfl rfl rfl ?_
  refine sd_ret (ed_rev hX (ed_var hX 2 rfl rfl)) ?_
  show D.lst _ = D.lst _
  rw [digs, List.map_reverse]

/-! number_by -/
def s_number_by : Stmt := topS 22
theorem sc_number_by : FnScope ["base", "digits", "found", "digit"] ["base", "digits"] (defScope s_number_by) := ⟨rfl, rfl, rfl, by decide +kernel, rfl, by decide +kernel, by decide +kernel⟩
def G_number_by (ds : List D) (d : D) : Prop := ∃ l : List Int, l.length ≤ 12 ∧ (∀ x ∈ l, 0 ≤ x ∧ x ≤ 9) ∧ ds = [.int 10, .lst (l.map .int)] ∧ d = .int (nby l)
theorem d_number_by (T : Tops K mg) {f : Addr} {fd : FuncData} (F : Fun K "number_by" "number_by" s_number_by f fd) (hb : Binds K fd ["base", "digits"] []) (hm : mg "number_by" = some (.ref f)) : Dfn P w K mg base "number_by" 1 G_number_by := by
  refine dfn_of F sc_number_by hb hm (fun ds d h => ?_) ?_
  · obtain ⟨l, _, _, rfl, _⟩ := h; rfl
  rintro X A hX hF hP ds d ⟨l, hl, hd, rfl, rfl⟩
  refine sd_set hX 2 rfl ed_int ?_
  refine sd_forL hX 3 (ed_var hX 1 rfl rfl) (fun i => []) (fun i => [some (.sh (.int 10)), some (.sh (.lst (l.map .int))), some (.sh (.int (nby (l.take i)))), none]) ⟨rfl, rfl, rfl, rfl, trivial⟩ rfl ?_ ?_ hP
  · intro A' le i z hi
    obtain ⟨x, hx, rfl⟩ : ∃ x, l[i]? = some x ∧ z = .int x := by
      rw [List.getElem?_map] at hi
      cases q : l[i]? with
      | none => rw [q] at hi; cases hi
      | some x => rw [q] at hi; exact ⟨x, rfl, (Option.some.inj hi).symm⟩
    have hr := nby_range (l.take i) fun y hy => hd y (List.mem_of_mem_take hy)
    have ht : (10 : Int) ^ (l.take i).length < 2 ^ 62 := ten_lt (by rw [List.length_take]; omega)
    refine sd_set hX 2 rfl (ed_bin hX (ed_bin hX (ed_var hX 2 rfl rfl) (ed_var hX 0 rfl rfl) (o_mul (mulOk (by omega) (by decide)))) (ed_var hX 3 rfl rfl) o_add) ?_
    exact sd_nil ⟨rfl, rfl, rfl, by rw [nby_take hx], trivial⟩
  refine sd_ret (ed_var hX 2 rfl rfl) ?_
  show D.int _ = D.int _
  rw [List.length_map, List.take_length]
end
end Tl
/-! P2: shapes, rows of bytes. -/
namespace Tl
open PySem L2 T3
local macro_rules | `(tactic| walk_at "len") => `(tactic| first | decide | (simp; done) | omega | (simp; omega))
section
variable {X : Cx} {N : List Str} {sc : Scope} {P : Program} {w : World} {K : PySem.W.Frag} {mg : Str → Option Value} {base : Heap} {k : Nat}
variable {A : Anc} {M : List Cell} {ρ : Env3}
theorem kind_mem (b : Bool) : decide (kindS b ∈ [("packed" : Str), "spread"]) = true := by cases b <;> decide +kernel
theorem sign_mem (s : Sg) : decide (signS s ∈ [("none" : Str), "end", "tens"]) = true := by cases s <;> decide +kernel
def s_shape : Stmt := topS 28
theorem sc_shape : FnScope ["kind", "figures", "sign", "point"] ["kind", "figures", "sign", "point"] (defScope s_shape) := ⟨rfl, rfl, rfl, by decide +kernel, rfl, by decide +kernel, by decide +kernel⟩
def G_shape (ds : List D) (d : D) : Prop := ∃ f : Form, f.Ok ∧ ds = [.str (kindS f.sp), .int f.n, .str (signS f.sg), .int f.pt] ∧ d = formD f
theorem d_shape (T : Tops K mg) {f : Addr} {fd : FuncData} (F : Fun K "shape" "shape" s_shape f fd) (hb : Binds K fd ["kind", "figures", "sign", "point"] []) (hm : mg "shape" = some (.ref f)) : Dfn P w K mg base "shape" 1 G_shape := by
  refine dfn_of F sc_shape hb hm (fun ds d h => ?_) ?_
  · obtain ⟨f, _, rfl, _⟩ := h; rfl
  rintro X A hX hF hP ds d ⟨f, ok, rfl, rfl⟩
  have h1 := ok.n1
  have h2 := ok.n12
  have h3 := ok.pt
  refine sd_skip (et_is (et_cmp hX (ed_var hX 0 rfl rfl) (ed_glob hX T.KINDS) (o_niTS _)) (by rw [kind_mem]; rfl)) ?_
  refine sd_skip (et_is (et_not (et_chain hX ed_int (ed_var hX 1 rfl rfl) (ed_glob hX T.MOST_FIGURES_shapes) o_lt o_le)) (by rw [decide_eq_true (by omega), decide_eq_true (by omega)]; rfl)) ?_
  refine sd_skip (et_is (et_cmp hX (ed_var hX 2 rfl rfl) (ed_glob hX T.SIGNS) (o_niTS _)) (by rw [sign_mem]; rfl)) ?_
  refine sd_skip (et_is (et_not (et_chain hX ed_int (ed_var hX 3 rfl rfl) (ed_var hX 1 rfl rfl) o_le o_le)) (by rw [decide_eq_true (by omega), decide_eq_true (by omega)]; rfl)) ?_
  exact sd_ret (ed_tup (eds_cons (ed_var hX 0 rfl rfl) (eds_cons (ed_var hX 1 rfl rfl) (eds_cons (ed_var hX 2 rfl rfl) (eds_cons (ed_var hX 3 rfl rfl) eds_nil)))) (by simp)) rfl

def s_least_of : Stmt := topS 29
theorem sc_least_of : FnScope ["form"] ["form"] (defScope s_least_of) := ⟨rfl, rfl, rfl, by decide +kernel, rfl, by decide +kernel, by decide +kernel⟩
def G_least_of (ds : List D) (d : D) : Prop := ∃ f : Form, f.Ok ∧ ds = [formD f] ∧ d = .int (least f)
theorem d_least_of (T : Tops K mg) (D_power : Dfn P w K mg base "power" 1 G_power) {f : Addr} {fd : FuncData} (F : Fun K "least_of" "least_of" s_least_of f fd) (hb : Binds K fd ["form"] []) (hm : mg "least_of" = some (.ref f)) : Dfn P w K mg base "least_of" 2 G_least_of := by
  refine dfn_of F sc_least_of hb hm (fun ds d h => ?_) ?_
  · obtain ⟨f, _, rfl, _⟩ := h; rfl
  rintro X A hX hF hP ds d ⟨⟨sp, n, sg, pt⟩, ok, rfl, rfl⟩
  have h1 : 1 ≤ n := ok.n1
  have h2 : n ≤ 12 := ok.n12
  cases sg with
  | no => exact sd_ifT (et_is (et_cmp hX (ed_ix hX (ed_var hX 0 rfl rfl) ed_int (i_tup rfl)) ed_str o_eqS) (sg_no _)) (sd_ret ed_int rfl)
  | en =>
    refine sd_skip (et_is (et_cmp hX (ed_ix hX (ed_var hX 0 rfl rfl) ed_int (i_tup rfl)) ed_str o_eqS) (sg_no _)) ?_
    refine sd_ifT (et_is (et_cmp hX (ed_ix hX (ed_var hX 0 rfl rfl) ed_int (i_tup rfl)) ed_str o_eqS) (sg_en _)) ?_
    exact sd_ret (ed_bin hX ed_int (ed_call hX D_power (by decide) (eds_cons ed_int (eds_cons (ed_ix hX (ed_var hX 0 rfl rfl) ed_int (i_tup rfl)) eds_nil)) (⟨n, by omega, rfl, rfl⟩)) o_sub) rfl
  | te =>
    refine sd_skip (et_is (et_cmp hX (ed_ix hX (ed_var hX 0 rfl rfl) ed_int (i_tup rfl)) ed_str o_eqS) (sg_no _)) ?_
    refine sd_skip (et_is (et_cmp hX (ed_ix hX (ed_var hX 0 rfl rfl) ed_int (i_tup rfl)) ed_str o_eqS) (sg_en _)) ?_
    have e1 : (n : Int) - 1 = ((n - 1 : Nat) : Int) := by omega
    exact sd_ret (ed_bin hX (ed_un hX ed_int u_neg) (ed_call hX D_power (by decide) (eds_cons ed_int (eds_cons (ed_bin hX (ed_ix hX (ed_var hX 0 rfl rfl) ed_int (i_tup rfl)) ed_int o_sub) eds_nil)) (⟨n - 1, by omega, by rw [← e1], rfl⟩)) (o_mul (mulOk (by decide) (ten_abs (by omega))))) rfl

def s_most_of : Stmt := topS 30
theorem sc_most_of : FnScope ["form"] ["form"] (defScope s_most_of) := ⟨rfl, rfl, rfl, by decide +kernel, rfl, by decide +kernel, by decide +kernel⟩
def G_most_of (ds : List D) (d : D) : Prop := ∃ f : Form, f.Ok ∧ ds = [formD f] ∧ d = .int (most f)
theorem d_most_of (T : Tops K mg) (D_power : Dfn P w K mg base "power" 1 G_power) {f : Addr} {fd : FuncData} (F : Fun K "most_of" "most_of" s_most_of f fd) (hb : Binds K fd ["form"] []) (hm : mg "most_of" = some (.ref f)) : Dfn P w K mg base "most_of" 2 G_most_of := by
  refine dfn_of F sc_most_of hb hm (fun ds d h => ?_) ?_
  · obtain ⟨f, _, rfl, _⟩ := h; rfl
  rintro X A hX hF hP ds d ⟨⟨sp, n, sg, pt⟩, ok, rfl, rfl⟩
  have h1 : 1 ≤ n := ok.n1
  have h2 : n ≤ 12 := ok.n12
  have e1 : (n : Int) - 1 = ((n - 1 : Nat) : Int) := by omega
  by_cases hg : sg = .te
  · subst hg
    refine sd_ifT (et_is (et_cmp hX (ed_ix hX (ed_var hX 0 rfl rfl) ed_int (i_tup rfl)) ed_str o_eqS) (sg_te _)) ?_
    exact sd_ret (ed_bin hX (ed_bin hX ed_int (ed_call hX D_power (by decide) (eds_cons ed_int (eds_cons (ed_bin hX (ed_ix hX (ed_var hX 0 rfl rfl) ed_int (i_tup rfl)) ed_int o_sub) eds_nil)) (⟨n - 1, by omega, by rw [← e1], rfl⟩)) (o_mul (mulOk (by decide) (ten_abs (by omega))))) ed_int o_sub) rfl
  · refine sd_skip (et_is (et_cmp hX (ed_ix hX (ed_var hX 0 rfl rfl) ed_int (i_tup rfl)) ed_str o_eqS) (by rw [sg_te, decide_eq_false hg])) ?_
    refine sd_ret (ed_bin hX (ed_call hX D_power (by decide) (eds_cons ed_int (eds_cons (ed_ix hX (ed_var hX 0 rfl rfl) ed_int (i_tup rfl)) eds_nil)) (⟨n, by omega, rfl, rfl⟩)) ed_int o_sub) ?_
    cases sg with
    | te => exact absurd rfl hg
    | no => rfl
    | en => rfl

def s_folded : Stmt := topS 31
theorem sc_folded : FnScope ["form", "number", "whole"] ["form", "number"] (defScope s_folded) := ⟨rfl, rfl, rfl, by decide +kernel, rfl, by decide +kernel, by decide +kernel⟩
def G_folded (ds : List D) (d : D) : Prop := ∃ (f : Form) (x : Int), f.Ok ∧ ds = [formD f, .int x] ∧ d = .int (fold f x)
theorem d_folded (T : Tops K mg) (D_power : Dfn P w K mg base "power" 1 G_power) (D_least_of : Dfn P w K mg base "least_of" 2 G_least_of) {f : Addr} {fd : FuncData} (F : Fun K "folded" "folded" s_folded f fd) (hb : Binds K fd ["form", "number"] []) (hm : mg "folded" = some (.ref f)) : Dfn P w K mg base "folded" 3 G_folded := by
  refine dfn_of F sc_folded hb hm (fun ds d h => ?_) ?_
  · obtain ⟨f, x, _, rfl, _⟩ := h; rfl
  rintro X A hX hF hP ds d ⟨⟨sp, n, sg, pt⟩, x, ok, rfl, rfl⟩
  have h1 : 1 ≤ n := ok.n1
  have h2 : n ≤ 12 := ok.n12
  have tp := ten_pos n
  refine sd_set hX 2 rfl (ed_call hX D_power (by decide) (eds_cons ed_int (eds_cons (ed_ix hX (ed_var hX 0 rfl rfl) ed_int (i_tup rfl)) eds_nil)) (⟨n, by omega, rfl, rfl⟩)) ?_
  cases sg with
  | no =>
    refine sd_ifT (et_is (et_cmp hX (ed_ix hX (ed_var hX 0 rfl rfl) ed_int (i_tup rfl)) ed_str o_eqS) (sg_no _)) ?_
    exact sd_ret (ed_bin hX (ed_var hX 1 rfl rfl) (ed_var hX 2 rfl rfl) (o_mod tp)) rfl
  | te =>
    refine sd_skip (et_is (et_cmp hX (ed_ix hX (ed_var hX 0 rfl rfl) ed_int (i_tup rfl)) ed_str o_eqS) (sg_no _)) ?_
    refine sd_ifT (et_is (et_cmp hX (ed_ix hX (ed_var hX 0 rfl rfl) ed_int (i_tup rfl)) ed_str o_eqS) (sg_te _)) ?_
    exact sd_ret (ed_bin hX (ed_bin hX (ed_bin hX (ed_var hX 1 rfl rfl) (ed_call hX D_least_of (by decide) (eds_cons (ed_var hX 0 rfl rfl) eds_nil) (⟨⟨sp, n, .te, pt⟩, ok, rfl, rfl⟩)) o_sub) (ed_var hX 2 rfl rfl) (o_mod (tp))) (ed_call hX D_least_of (by decide) (eds_cons (ed_var hX 0 rfl rfl) eds_nil) (⟨⟨sp, n, .te, pt⟩, ok, rfl, rfl⟩)) o_add) rfl
  | en =>
    refine sd_skip (et_is (et_cmp hX (ed_ix hX (ed_var hX 0 rfl rfl) ed_int (i_tup rfl)) ed_str o_eqS) (sg_no _)) ?_
    refine sd_skip (et_is (et_cmp hX (ed_ix hX (ed_var hX 0 rfl rfl) ed_int (i_tup rfl)) ed_str o_eqS) (sg_te _)) ?_
    refine sd_if (et_cmp hX (ed_var hX 1 rfl rfl) ed_int o_lt) (fun ht => ?_) (fun hf => ?_)
    · have hx : x < 0 := of_decide_eq_true ht
      refine sd_ret (ed_un hX (ed_bin hX (ed_un hX (ed_var hX 1 rfl rfl) u_neg) (ed_var hX 2 rfl rfl) (o_mod tp)) u_neg) ?_
      show D.int _ = D.int _
      unfold fold
      rw [if_pos hx]
    · have hx : ¬ x < 0 := of_decide_eq_false hf
      refine sd_nil (sd_ret (ed_bin hX (ed_var hX 1 rfl rfl) (ed_var hX 2 rfl rfl) (o_mod tp)) ?_)
      show D.int _ = D.int _
      unfold fold
      rw [if_neg hx]
end
end Tl
set_option maxHeartbeats 200000
/-! M3: the mirror: small lemmas for the walk. -/
namespace Tl
open PySem L2 T3
theorem range_fm {α β : Type} (g : α → Option β) (l : List α) : (List.range l.length).filterMap (fun i => (l[i]?).bind g) = l.filterMap g := by
  induction l with
  | nil => rfl
  | cons a r ih =>
    rw [List.length_cons, List.range_succ_eq_map, List.filterMap_cons, List.filterMap_map, List.filterMap_cons]
    show (match g a with | none => _ | some b => _) = (match g a with | none => _ | some b => _)
    rw [show ((fun i => ((a :: r)[i]?).bind g) ∘ Nat.succ) = fun i => (r[i]?).bind g from rfl, ih]
theorem rng_fm {β : Type} (h : D → Option β) (n : Nat) : (rngD 0 1 n).filterMap h = (List.range n).filterMap fun i => h (.int (i : Nat)) := by
  unfold rngD
  rw [List.filterMap_map]
  congr 1
  funext i
  show h (.int (0 + (i : Nat) * 1)) = _
  rw [show (0 : Int) + (i : Nat) * 1 = (i : Nat) by omega]
theorem fm_some {α β : Type} {g : α → Option β} {h : α → β} : ∀ {l : List α}, (∀ x ∈ l, g x = some (h x)) → l.filterMap g = l.map h
  | [], _ => rfl
  | a :: r, e => by rw [List.filterMap_cons, e a (by simp), List.map_cons, fm_some fun x hx => e x (List.mem_cons_of_mem _ hx)]
theorem rng_mem {lo c : Int} {n : Nat} {d : D} (h : d ∈ rngD lo c n) : ∃ i, i < n ∧ d = .int (lo + (i : Nat) * c) := by
  simp only [rngD, List.mem_map, List.mem_range] at h
  obtain ⟨i, h1, h2⟩ := h
  exact ⟨i, h1, h2.symm⟩
theorem atI_nat {α : Type} {l : List α} {i : Nat} {a : α} (h : l[i]? = some a) : L2.atI l (i : Int) = some a := by
  have hi : i < l.length := (List.getElem?_eq_some_iff.mp h).1
  unfold L2.atI ixN
  rw [if_pos (by omega), if_pos (by omega)]
  exact h
theorem atI_neg {α : Type} {l : List α} {n i : Nat} {a : α} (hn : n = l.length) (h0 : 0 < i) (hi : i ≤ n) (h : l[n - i]? = some a) : L2.atI l (-(i : Int)) = some a := by
  unfold L2.atI ixN
  rw [if_neg (by omega), if_pos (by omega)]
  have : (-(i : Int) + (l.length : Nat)).toNat = n - i := by omega
  show l[(-(i : Int) + (l.length : Nat)).toNat]? = _
  rw [this]; exact h
theorem ixN_neg {n i : Nat} (h0 : 0 < i) (hi : i ≤ n) : ixN n (-(i : Int)) = some (n - i) := by
  unfold ixN
  rw [if_neg (by omega), if_pos (by omega)]
  congr 1
  omega
theorem map_get {α β : Type} {f : α → β} {l : List α} {i : Nat} {a : α} (h : l[i]? = some a) : (l.map f)[i]? = some (f a) := by rw [List.getElem?_map, h]; rfl
theorem map_get' {α β : Type} {f : α → β} {l : List α} {i : Nat} {b : β} (h : (l.map f)[i]? = some b) : ∃ a, l[i]? = some a ∧ b = f a := by
  rw [List.getElem?_map] at h
  cases q : l[i]? with
  | none => rw [q] at h; cases h
  | some a => rw [q] at h; exact ⟨a, rfl, (Option.some.inj h).symm⟩
theorem rep_one {α : Type} (n : Nat) (a : α) : (List.replicate n [a]).flatten = List.replicate n a := List.flatten_replicate_singleton
/-- the number that stands in the halves -/
def yOf (f : Form) (x : Int) : Int := if f.sg = .te then x % 10 ^ f.n else x
theorem yOf_size (f : Form) (x : Int) : (if yOf f x < 0 then - yOf f x else yOf f x) = size f x := by
  unfold yOf size
  have tp := ten_pos f.n
  cases h : f.sg with
  | te =>
    simp only [if_true]
    rw [if_neg (by have := Int.emod_nonneg x (Int.ne_of_gt tp); omega)]
  | no => simp
  | en => simp
theorem yOf_en {f : Form} {x : Int} (h : f.sg ≠ .te) : yOf f x = x := by unfold yOf; rw [if_neg h]
theorem sgE_en {s : Sg} (h : s = .en) : sgE s = 1 := by rw [h]; rfl
theorem sgE_ne {s : Sg} (h : s ≠ .en) : sgE s = 0 := by cases s <;> first | rfl | exact absurd rfl h
theorem halvesS_ne {f : Form} {ds : List Int} {h : Int} (hs : f.sg ≠ .en) : halvesS f ds h = zones ds := by
  unfold halvesS
  cases q : f.sg with
  | en => exact absurd q hs
  | no => rfl
  | te => rfl
theorem halvesS_en {f : Form} {ds : List Int} {h : Int} (hs : f.sg = .en) : halvesS f ds h = (zones ds).set (2 * ds.length - 2) h := by
  unfold halvesS
  rw [hs]
theorem zones_take {l : List Int} {i : Nat} {x : Int} (h : l[i]? = some x) : zones (l.take (i + 1)) = zones (l.take i) ++ [15, x] := by
  rw [List.take_succ, h, zones, zones, List.flatMap_append]
  rfl
theorem sgh_10 (x : Int) : 10 ≤ sgh x ∧ sgh x ≤ 15 := by unfold sgh; split <;> omega
theorem size_nonneg (f : Form) (x : Int) : 0 ≤ size f x := by
  unfold size
  have tp := ten_pos f.n
  cases f.sg with
  | te => exact Int.emod_nonneg x (Int.ne_of_gt tp)
  | no => show 0 ≤ (if x < 0 then -x else x); split <;> omega
  | en => show 0 ≤ (if x < 0 then -x else x); split <;> omega
theorem unpair_take {l : List Int} {i : Nat} {x : Int} (h : l[i]? = some x) : unpair (l.take (i + 1)) = unpair (l.take i) ++ [x / 16, x % 16] := by
  rw [List.take_succ, h, unpair, unpair, List.flatMap_append]
  rfl
theorem unpair_length (l : List Int) : (unpair l).length = 2 * l.length := by
  induction l with
  | nil => rfl
  | cons d r ih => simp only [unpair, List.flatMap_cons, List.length_append, List.length_cons, List.length_nil] at ih ⊢; omega
theorem good_kept {f : Form} (ok : f.Ok) (x : Int) : Good f (digs (size f x) f.n) (sgh x) := ⟨ok, digs_length _ _, fun _ h => digs_mem h, (sgh_10 x).1, (sgh_10 x).2⟩
theorem dl_get (i : Nat) (l : List D) {d : D} (h : l[i]? = some d) : l.getD i .non = d := by rw [List.getD_eq_getElem?_getD, h]; rfl
end Tl
/-! T3g: methods of texts and lists, dicts, joins of ways. -/
namespace T3
open PySem L2

section
variable {X : Cx} {N : List Str} {sc : Scope} {P : Program} {w : World} {K : PySem.W.Frag} {mg : Str → Option Value} {base : Heap} {k : Nat}
variable {A : Anc} {M : List Cell} {ρ ρ' : Env3} {a b c e f tg : Expr} {es : List Expr} {d d1 d2 d3 : D} {ds fs : List D} {pos p p2 apos : Pos} {st : Stmt} {sts rest : List Stmt} {R : Post} {i j : Int} {x y : Str}
/-- two ways that meet again -/
theorem sd_join {t : Bool} {sa sb : List Stmt} (Mid : List Cell → Env3 → Prop) (h : ET X K A M ρ c t) (h1 : t = true → SD X K A M ρ sa ⟨Mid, R.rt, R.bk, R.ct⟩) (h2 : t = false → SD X K A M ρ sb ⟨Mid, R.rt, R.bk, R.ct⟩)
    (h3 : ∀ M ρ, Mid M ρ → SD X K A M ρ rest R) : SD X K A M ρ (.If c sa sb pos :: rest) R :=
  sd_if h (fun q => sd_imp (h1 q) h3 (fun _ _ z => z) (fun _ _ z => z) fun _ _ z => z) (fun q => sd_imp (h2 q) h3 (fun _ _ z => z) (fun _ _ z => z) fun _ _ z => z)
theorem ed_not {t : Bool} (h : ED X K A M ρ e (.bl t)) : ED X K A M ρ (.UnaryOp .Not e pos) (.bl (!t)) := .mk fun fps σ Hs H hs => by
  refine wE_of (pe_not pe_w) ?_
  refine wE_mono (h _ _ _ _ hs) fun v H1 ⟨Hs1, s1, r1⟩ => ?_
  cases r1
  exact ⟨t, rfl, Hs1, s1, .bl _⟩
/-- not x, x a text or a list, as a test: by its truth -/
theorem ed_orS (h : ED X K A M ρ a (.str x)) (hl : x.length ≤ 100000) (h2 : (x.length != 0) = false → ED X K A M ρ (.BoolOp .Or (b :: es) pos) d) (hd : (x.length != 0) = true → d = .str x) : ED X K A M ρ (.BoolOp .Or (a :: b :: es) pos) d := .mk fun fps σ Hs H hs => by
  refine wE_of (pe_orT pe_w pe_w) ?_
  refine wE_mono (h _ _ _ _ hs) fun v H1 ⟨Hs1, s1, r1⟩ => ?_
  cases r1
  refine ⟨x.length != 0, ⟨Nat.le_trans hl (by decide), ?_⟩, ?_⟩
  · cases q : x.length with
    | zero => rfl
    | succ n =>
      have : ((n + 1 : Nat) : Int) ≠ 0 := by omega
      simp [bne, this]
      omega
  cases q : (x.length != 0) with
  | true => rw [if_pos rfl, hd q]; exact ⟨Hs1, s1, .str _⟩
  | false =>
    rw [if_neg Bool.false_ne_true]
    exact wE_mono (h2 q _ _ _ _ (hs.step s1)) fun y H2 ⟨Hs2, s2, r2⟩ => ⟨Hs2, s1.trans s2, r2⟩

/-! ### methods of texts -/
theorem ed_split (h : ED X K A M ρ a (.str x)) (h2 : ED X K A M ρ b (.str y)) (hy : (y.length == 0) = false) (hx : x.length ≤ 100000) (hs : starEach [b] X.env = [(false, eval b X.env)] := by exact star_cons rfl) (hbase : attributeBase a "split" X.env (eval a X.env) = eval a X.env := by rfl) (hline : (apos.endLine == pos.line) = true := by rfl) :
    ED X K A M ρ (.Call (.Attribute a "split" apos) [b] [] pos) (.lst ((Txt.split x y).map D.str)) := .mk fun fps σ Hs H hh => by
  refine wE_of (pe_split pe_w pe_w hs hbase hline) ?_
  refine wE_mono (h _ _ _ _ hh) fun v H1 ⟨Hs1, s1, r1⟩ => ?_
  cases r1
  refine ⟨⟨x, rfl⟩, ?_⟩
  refine wE_mono (h2 _ _ _ _ (hh.step s1)) fun v2 H2 ⟨Hs2, s2, r2⟩ => ?_
  cases r2
  have hz : x.length + 2 ≤ sizeLine := Nat.le_trans (Nat.add_le_add_right hx 2) (by decide)
  refine ⟨x, y, rfl, rfl, hy, hz, fun p hp => ?_⟩
  exact newL (Q := fun v H' => ∃ Hs', Step Hs H Hs' H' ∧ Rep K Hs' (.lst ((Txt.split x y).map D.str)) v) (fun v Hs' H' s r => ⟨Hs', (s1.trans s2).trans s, r⟩) s2.i hp (Reps.strs _)
theorem ed_join {ys : List Str} (h : ED X K A M ρ a (.str x)) (h2 : ED X K A M ρ b (.lst (ys.map D.str))) (hl : (ys.map (·.length)).sum + ys.length * x.length ≤ 100000) (hs : starEach [b] X.env = [(false, eval b X.env)] := by exact star_cons rfl) (hbase : attributeBase a "join" X.env (eval a X.env) = eval a X.env := by rfl) (hline : (apos.endLine == pos.line) = true := by rfl) :
    ED X K A M ρ (.Call (.Attribute a "join" apos) [b] [] pos) (.str (Txt.join x ys)) := .mk fun fps σ Hs H hh => by
  refine wE_of (pe_join pe_w pe_w hs hbase hline) ?_
  refine wE_mono (h _ _ _ _ hh) fun v H1 ⟨Hs1, s1, r1⟩ => ?_
  cases r1
  refine ⟨⟨x, rfl⟩, ?_⟩
  refine wE_mono (h2 _ _ _ _ (hh.step s1)) fun v2 H2 ⟨Hs2, s2, r2⟩ => ?_
  cases r2 with
  | lst q1 q2 =>
    have hv := q2.strs'
    subst hv
    exact ⟨x, _, ys, rfl, rfl, .inl (SqL.of (s2.i _ _ q1)), Nat.le_trans hl (by decide), Hs2, s1.trans s2, .str _⟩
theorem ed_zfill (h : ED X K A M ρ a (.str x)) (h2 : ED X K A M ρ b (.int i)) (hp : PadOk i = true) (hbase : attributeBase a "zfill" X.env (eval a X.env) = eval a X.env := by rfl)
    (hfew : ((backTo pos (starEach [b] X.env)).all (fun x => !x.1) && (backToKw pos (keywordEach [] X.env)).all (fun x => x.1.isSome) && decide (([b] : List Expr).length + ([] : List Keyword).length + (if ([] : List Keyword).isEmpty then 0 else 1) < 30)) = true := by exact star_few rfl)
    (hline : (apos.endLine == pos.line) = true := by rfl) (hst : starEach [b] X.env = (false, eval b X.env) :: starEach [] X.env := by exact star_cons rfl) (hplain : (backTo pos (starEach [] X.env)).any (·.1) = false := by exact star_plain rfl) :
    ED X K A M ρ (.Call (.Attribute a "zfill" apos) [b] [] pos) (.str (Txt.zfill x i)) := .mk fun fps σ Hs H hh => by
  refine wE_of (pe_bm PySem.F.plainAttrs_str PySem.F.slot_str_zfill PySem.F.type_str_zfill mt_zfill pe_w (pa_cons pe_w pa_nil hst) hbase hfew hline hst hplain) ?_
  refine wE_mono (h _ _ _ _ hh) fun v H1 ⟨Hs1, s1, r1⟩ => ?_
  cases r1
  refine ⟨rfl, ?_⟩
  refine wE_mono (h2 _ _ _ _ (hh.step s1)) fun v2 H2 ⟨Hs2, s2, r2⟩ => ?_
  cases r2
  exact ⟨x, i, rfl, rfl, hp, Hs2, s1.trans s2, .str _⟩
theorem ed_sindex {n : Nat} (hX : XF X N sc P w K mg base k) (h : ED X K A M ρ a (.str x)) (h2 : ED X K A M ρ b (.str y)) (hi : Txt.index0 x y = some n) (hbase : attributeBase a "index" X.env (eval a X.env) = eval a X.env := by rfl)
    (hfew : ((backTo pos (starEach [b] X.env)).all (fun x => !x.1) && (backToKw pos (keywordEach [] X.env)).all (fun x => x.1.isSome) && decide (([b] : List Expr).length + ([] : List Keyword).length + (if ([] : List Keyword).isEmpty then 0 else 1) < 30)) = true := by exact star_few rfl)
    (hline : (apos.endLine == pos.line) = true := by rfl) (hst : starEach [b] X.env = (false, eval b X.env) :: starEach [] X.env := by exact star_cons rfl) (hplain : (backTo pos (starEach [] X.env)).any (·.1) = false := by exact star_plain rfl) :
    ED X K A M ρ (.Call (.Attribute a "index" apos) [b] [] pos) (.int n) := .mk fun fps σ Hs H hh => by
  refine wE_of (pe_bmS (r := rIndexX fun _ _ _ _ => False) PySem.F.plainAttrs_str PySem.F.slot_str_index PySem.F.type_str_index (mt_indexX hX.calm takes_none5) pe_w (pa_cons pe_w pa_nil hst) hbase hfew hline hst hplain) ?_
  refine wE_mono (h _ _ _ _ hh) fun v H1 ⟨Hs1, s1, r1⟩ => ?_
  cases r1
  refine ⟨rfl, ?_⟩
  refine wE_mono (h2 _ _ _ _ (hh.step s1)) fun v2 H2 ⟨Hs2, s2, r2⟩ => ?_
  cases r2
  refine ⟨x, y, rfl, rfl, fun k hk => ?_, fun z => ?_⟩
  · rw [hi] at hk; cases hk
    exact ⟨Hs2, s1.trans s2, .int _⟩
  · rw [hi] at z; cases z
theorem ed_lindex {n : Nat} (l : List Str) (h : ED X K A M ρ a (.lst (l.map D.str))) (h2 : ED X K A M ρ b (.str x)) (hi : l[n]? = some x) (hno : ∀ m, m < n → l[m]? ≠ some x) (hbase : attributeBase a "index" X.env (eval a X.env) = eval a X.env := by rfl)
    (hfew : ((backTo pos (starEach [b] X.env)).all (fun x => !x.1) && (backToKw pos (keywordEach [] X.env)).all (fun x => x.1.isSome) && decide (([b] : List Expr).length + ([] : List Keyword).length + (if ([] : List Keyword).isEmpty then 0 else 1) < 30)) = true := by exact star_few rfl)
    (hline : (apos.endLine == pos.line) = true := by rfl) (hst : starEach [b] X.env = (false, eval b X.env) :: starEach [] X.env := by exact star_cons rfl) (hplain : (backTo pos (starEach [] X.env)).any (·.1) = false := by exact star_plain rfl) :
    ED X K A M ρ (.Call (.Attribute a "index" apos) [b] [] pos) (.int n) := .mk fun fps σ Hs H hh => by
  refine wE_of (pe_bm PySem.F.plainAttrs_list PySem.F.slot_list_index PySem.F.type_list_index mt_index pe_w (pa_cons pe_w pa_nil hst) hbase hfew hline hst hplain) ?_
  refine wE_mono (h _ _ _ _ hh) fun v H1 ⟨Hs1, s1, r1⟩ => ?_
  cases r1 with
  | lst q1 q2 =>
    have hv := q2.strs'
    subst hv
    refine ⟨.inl ⟨rfl, _, SqL.of (s1.i _ _ q1)⟩, ?_⟩
    refine wE_mono (h2 _ _ _ _ (hh.step s1)) fun v2 H2 ⟨Hs2, s2, r2⟩ => ?_
    cases r2
    refine ⟨_, l.map V.str, .str x, n, .str x, rfl, rfl, SqL.of (s2.i _ _ (s2.s _ _ q1)), rfl, flatS l, by rw [List.getElem?_map, hi]; rfl, by simp [eqV], fun m z hm hz => ?_, Hs2, s1.trans s2, .int _⟩
    rw [List.getElem?_map] at hz
    cases q : l[m]? with
    | none => rw [q] at hz; cases hz
    | some u =>
      rw [q] at hz
      cases hz
      have : u ≠ x := fun e => hno m hm (by rw [q, e])
      simp [eqV, this]

/-! ### f-strings of texts and numbers -/
/-- {e} -/
def fmtD : D → Option Str
  | .str x => some x
  | .int i => some (toString i)
  | _ => none
theorem ed_fmt {s : Str} (h : ED X K A M ρ e d) (hd : fmtD d = some s) (hi : ∀ i, d = .int i → i.natAbs.log2 < 1920) (hl : s.length ≤ 100000) : ED X K A M ρ (.FormattedValue e (-1) none pos) (.str s) := .mk fun fps σ Hs H hh => by
  refine wE_of (pe_fmt pe_w) ?_
  refine wE_mono (h _ _ _ _ hh) fun v H1 ⟨Hs1, s1, r1⟩ => ?_
  cases r1 with
  | str z => cases hd; exact .inl ⟨_, rfl, Nat.le_trans hl (by decide), Hs1, s1, .str _⟩
  | int j => cases hd; exact .inr ⟨j, rfl, hi j rfl, Hs1, s1, .str _⟩
  | _ => cases hd
/-- the parts of an f-string -/
inductive EJ (X : Cx) (K : PySem.W.Frag) (A : Anc) (M : List Cell) (ρ : Env3) : List Expr → List Str → Prop
  | nil : EJ X K A M ρ [] []
  | cons {e : Expr} {x : Str} {es : List Expr} {xs : List Str} : ED X K A M ρ e (.str x) → EJ X K A M ρ es xs → EJ X K A M ρ (e :: es) (x :: xs)
def wJs (X : Cx) (es : List Expr) : List TE := es.map (wE X)
theorem pj_w : ∀ {es : List Expr}, PJ X es (wJs X es)
  | [] => .nil
  | _ :: _ => .cons pe_w pj_w
theorem foldl_app (acc : Str) : ∀ (xs : List Str), acc.length ≤ (xs.foldl (· ++ ·) acc).length
  | [] => Nat.le_refl _
  | x :: xs => by
    have h1 : acc.length ≤ (acc ++ x).length := by
      show acc.cps.size ≤ (acc.cps ++ x.cps).size
      rw [Array.size_append]; omega
    exact Nat.le_trans h1 (foldl_app1 (acc ++ x) xs)
where
  foldl_app1 (acc : Str) (xs : List Str) : acc.length ≤ (xs.foldl (· ++ ·) acc).length := foldl_app acc xs
theorem ej_run {Hs0 H0 : Hp} {fps : List (List Addr)} {σ : L2.St} {Q : Str → Hp → Prop} : ∀ {es : List Expr} {xs : List Str} (acc : Str) (Hs H : Hp), EJ X K A M ρ es xs → StA K A M ρ fps σ Hs H → Step Hs0 H0 Hs H → (xs.foldl (· ++ ·) acc).length ≤ 100000 →
    (∀ Hs' H', Step Hs0 H0 Hs' H' → Q (xs.foldl (· ++ ·) acc) H') → tJs (wJs X es) acc σ H Q
  | [], [], acc, Hs, H, _, _, s, _, q => q _ _ s
  | e :: es, x :: xs, acc, Hs, H, .cons h r, hh, s, hl, q => by
    refine wE_mono (h _ _ _ _ hh) fun v H1 ⟨Hs1, s1, r1⟩ => ?_
    cases r1
    exact ⟨x, rfl, Nat.le_trans (foldl_app (acc ++ x) xs) (Nat.le_trans hl (by decide)), ej_run (acc ++ x) Hs1 H1 r (hh.step s1) (s.trans s1) hl q⟩
theorem ed_joined {xs : List Str} (h : EJ X K A M ρ (a :: b :: es) xs) (hl : (xs.foldl (· ++ ·) Str.empty).length ≤ 100000) : ED X K A M ρ (.JoinedStr (a :: b :: es) pos) (.str (xs.foldl (· ++ ·) Str.empty)) := .mk fun fps σ Hs H hh => by
  refine wE_of (pe_joined pj_w) ?_
  exact ej_run Str.empty Hs H h hh (.refl hh.st.e) hl fun Hs' H' s => ⟨Hs', s, .str _⟩

/-! ### isinstance(x, str) -/
def isStr : D → Bool
  | .str _ => true
  | _ => false
theorem ed_isStr (hX : XF X N sc P w K mg base k) (h1 : mg "isinstance" = none) (h2 : mg "str" = none) (v1 : bootBuiltins "isinstance" = some (.builtin "isinstance")) (v2 : bootBuiltins "str" = some (.type "str")) (h : ED X K A M ρ e d) (hd : d = .str x ∨ d = .int i) (hg : GlS sc "isinstance" := by rfl) (hg2 : GlS sc "str" := by rfl)
    (hst : starEach [e, .Name "str" p2] X.env = (false, eval e X.env) :: starEach [.Name "str" p2] X.env := by exact star_cons rfl) (hst2 : starEach [.Name "str" p2] X.env = (false, eval (.Name "str" p2) X.env) :: starEach [] X.env := by rfl) (hpl : (backTo pos (starEach [.Name "str" p2] X.env)).any (·.1) = false := by exact star_plain rfl) :
    ED X K A M ρ (.Call (.Name "isinstance" p) [e, .Name "str" p2] [] pos) (.bl (isStr d)) := .mk fun fps σ Hs H hh => by
  refine wE_of (pe_callB call_isi (hX.gl hg) (by rw [hX.em]; exact h1) v1 (pa_cons pe_w (pa_cons (pe_bltn (v := .ty "str") (hX.gl hg2) (by rw [hX.em]; exact h2) v2 rfl) pa_nil hst2) hst) (by decide) (by decide) hst hpl) ?_
  refine wE_mono (h _ _ _ _ hh) fun v H1 ⟨Hs1, s1, r1⟩ => ?_
  rcases hd with rfl | rfl
  · cases r1
    exact ⟨.str x, .ty "str", .type "str", .type "str", true, rfl, .ty "str", .base (.str x), kit_ty (by decide +kernel), Hs1, s1, .bl _⟩
  · cases r1
    exact ⟨.int i, .ty "str", .type "int", .type "str", false, rfl, .ty "str", .base (.int i), kit_ty (by decide +kernel), Hs1, s1, .bl _⟩

/-! ### dicts that stand, keys texts -/
def dgetD (ks : List Str) (ds : List D) (x : Str) : Option D := ((ks.zip ds).find? fun p => decide (p.1 = x)).map (·.2)
theorem dget_rep (x : Str) {H : Hp} : ∀ {ks : List Str} {ds : List D} {ws : List (Key × V)}, ws.map (·.1) = ks.map Sum.inr → Reps K H ds (ws.map (·.2)) → (∀ d, dgetD ks ds x = some d → ∃ v, valV ws (Sum.inr x) = some v ∧ Rep K H d v) ∧ (dgetD ks ds x = none → valV ws (Sum.inr x) = none)
  | [], _, [], _, _ => ⟨fun d h => by simp [dgetD] at h, fun _ => rfl⟩
  | [], _, _ :: _, h, _ => by simp at h
  | _ :: _, _, [], h, _ => by simp at h
  | k :: ks, ds, (k', v) :: ws, h, r => by
    simp only [List.map_cons, List.cons.injEq] at h
    obtain ⟨h1, h2⟩ := h
    subst h1
    cases r with
    | cons r1 r2 =>
      rename_i d0 ds0
      have ih := dget_rep x h2 r2
      by_cases e : k = x
      · subst e
        have e1 : dgetD (k :: ks) (d0 :: ds0) k = some d0 := by simp [dgetD]
        rw [e1, valV_pos rfl]
        exact ⟨fun d hd => by cases hd; exact ⟨v, rfl, r1⟩, fun z => by cases z⟩
      · have e1 : dgetD (k :: ks) (d0 :: ds0) x = dgetD ks ds0 x := by simp [dgetD, e]
        rw [e1, valV_neg (fun z => e (Sum.inr.inj z))]
        exact ih
theorem ed_dget (hX : XF X N sc P w K mg base k) {ks : List Str} (ha : ED X K A M ρ a (.dct ks ds)) (hb : ED X K A M ρ b (.str x)) (hg : dgetD ks ds x = some d) (hs : NoSl b := by intro _ _; rfl) : ED X K A M ρ (.Subscript a b pos) d := .mk fun fps σ Hs H hh => by
  refine wE_of (pe_dget (hu_of hX.rm) pe_w pe_w hs) ?_
  refine wE_mono (ha _ _ _ _ hh) fun v H1 ⟨Hs1, s1, r1⟩ => ?_
  refine wE_mono (hb _ _ _ _ (hh.step s1)) fun v2 H2 ⟨Hs2, s2, r2⟩ => ?_
  cases r2
  cases r1 with
  | dct q1 q2 q3 =>
    obtain ⟨u, hu, ru⟩ := (dget_rep x q2 q3).1 d hg
    exact ⟨_, u, rfl, .inl ⟨_, .inr x, s2.i |>.rd (s2.s.rd q1), rfl, hu.symm⟩, Hs2, s1.trans s2, ru.mono s2.s⟩
theorem dget_some {ks : List Str} {ds : List D} (hl : ds.length = ks.length) : (dgetD ks ds x).isSome = decide (x ∈ ks) := by
  induction ks generalizing ds with
  | nil => simp [dgetD]
  | cons k ks ih =>
    cases ds with
    | nil => simp at hl
    | cons d ds =>
      by_cases e : k = x
      · subst e; simp [dgetD]
      · have := ih (ds := ds) (by simpa using hl)
        have e1 : dgetD (k :: ks) (d :: ds) x = dgetD ks ds x := by simp [dgetD, e]
        rw [e1, this]
        have : (x ∈ k :: ks) ↔ x ∈ ks := by simp [Ne.symm e]
        simp [this]
theorem dct_len {H : Hp} {ks : List Str} {v : V} (h : Rep K H (.dct ks ds) v) : ds.length = ks.length := by
  cases h with
  | dct h1 h2 h3 =>
    have e1 := h3.length
    have e2 := congrArg List.length h2
    simp only [List.length_map] at e1 e2
    omega
theorem et_din (hX : XF X N sc P w K mg base k) {ks : List Str} (hb : ED X K A M ρ b (.str x)) (ha : ED X K A M ρ a (.dct ks ds)) (hm : behindInMarks .In a = false := by rfl) : ET X K A M ρ (.Compare b [.In] [a] pos) (decide (x ∈ ks)) := .mk fun fps σ Hs H hh => by
  refine wT_of (pt_cmp (pc_din (hu_of hX.rm) pe_w pe_w) hm) ?_
  refine wE_mono (hb _ _ _ _ hh) fun v H1 ⟨Hs1, s1, r1⟩ => ?_
  refine wE_mono (ha _ _ _ _ (hh.step s1)) fun v2 H2 ⟨Hs2, s2, r2⟩ => ?_
  cases r1
  have hl := dct_len r2
  cases r2 with
  | @dct q0 ws _ _ q1 q2 q3 =>
    have g := dget_rep x q2 q3
    refine ⟨_, valV ws (.inr x), rfl, .inl ⟨_, .inr x, s2.i.rd q1, rfl, rfl⟩, _, rfl, ?_, Hs2, s1.trans s2⟩
    rw [← dget_some hl]
    cases q : dgetD ks ds x with
    | none => rw [g.2 q]; rfl
    | some d => obtain ⟨u, hu, _⟩ := g.1 d q; rw [hu]; rfl
theorem et_dni (hX : XF X N sc P w K mg base k) {ks : List Str} (hb : ED X K A M ρ b (.str x)) (ha : ED X K A M ρ a (.dct ks ds)) (hm : behindInMarks .NotIn a = false := by rfl) : ET X K A M ρ (.Compare b [.NotIn] [a] pos) (!decide (x ∈ ks)) := .mk fun fps σ Hs H hh => by
  refine wT_of (pt_cmp (pc_dnotin (hu_of hX.rm) pe_w pe_w) hm) ?_
  refine wE_mono (hb _ _ _ _ hh) fun v H1 ⟨Hs1, s1, r1⟩ => ?_
  refine wE_mono (ha _ _ _ _ (hh.step s1)) fun v2 H2 ⟨Hs2, s2, r2⟩ => ?_
  cases r1
  have hl := dct_len r2
  cases r2 with
  | @dct q0 ws _ _ q1 q2 q3 =>
    have g := dget_rep x q2 q3
    refine ⟨_, valV ws (.inr x), rfl, .inl ⟨_, .inr x, s2.i.rd q1, rfl, rfl⟩, _, rfl, ?_, Hs2, s1.trans s2⟩
    rw [← dget_some hl]
    cases q : dgetD ks ds x with
    | none => rw [g.2 q]; rfl
    | some d => obtain ⟨u, hu, _⟩ := g.1 d q; rw [hu]; rfl
/-- {} -/
theorem ed_dnew : ED X K A M ρ (.Dict [] [] pos) (.dct [] []) := .mk fun fps σ Hs H hh => by
  refine wE_of pe_dnewK fun p hp => ?_
  exact ⟨_, Step.new hh.st.e hp, .dct (Rd.of upd_same) rfl .nil⟩
end
end T3
/-! T3h: more rules: own lists by repetition, every second item, dicts of one's own, forms compared. -/
namespace T3
open PySem L2 PySem.Spec PyProof.Rows
section
variable {X : Cx} {N : List Str} {sc : Scope} {P : Program} {w : World} {K : PySem.W.Frag} {mg : Str → Option Value} {base : Heap} {k : Nat}
variable {A : Anc} {M : List Cell} {ρ ρ' : Env3} {a b c e tg : Expr} {es : List Expr} {d d1 d2 d3 : D} {ds fs : List D} {pos p p2 p3 apos : Pos} {st : Stmt} {sts rest : List Stmt} {R : Post} {i j : Int} {x y : Str}

/-- [..] * n, one's own -/
theorem ef_rep (ha : ED X K A M ρ a (.lst ds)) (hb : ED X K A M ρ b (.int j)) (h1 : -(2 ^ 63) ≤ j) (h2 : j < 2 ^ 63) (hl : ds.length * j.toNat ≤ 100000) : EF X K A M ρ (.BinOp a .Mult b pos) (List.replicate j.toNat ds).flatten := .mk fun fps σ Hs H h => by
  refine wE_of (pe_op op_rep pe_w pe_w) ?_
  refine wE_mono (ha _ _ _ _ h) fun v H1 ⟨Hs1, s1, r1⟩ => ?_
  refine wE_mono (hb _ _ _ _ (h.step s1)) fun v2 H2 ⟨Hs2, s2, r2⟩ => ?_
  cases r2
  have r1 := r1.mono s2.s
  cases r1 with
  | lst h3 h4 =>
    have s12 := s1.trans s2
    refine ⟨_, _, _, rfl, rfl, s12.i _ _ h3, h1, h2, by rw [h4.length]; exact Nat.le_trans hl (by decide), fun p hp => ?_⟩
    exact ⟨Hs2, p, _, s12.trans (.own s12.i hp), rfl, s12.h.back hp, s12.i.back hp, upd_same, h4.flatrep _⟩

/-! every second item, from the second -/
def odds {α : Type} : List α → List α
  | _ :: b :: r => b :: odds r
  | _ => []
theorem odds_get {α : Type} : ∀ (l : List α) (i : Nat), (odds l)[i]? = l[2 * i + 1]?
  | [], i => by simp [odds]
  | [_], i => by simp [odds]
  | a :: b :: r, 0 => rfl
  | a :: b :: r, i + 1 => by
    have e1 : 2 * (i + 1) + 1 = 2 * i + 1 + 1 + 1 := by omega
    rw [e1]
    exact odds_get r i
theorem odds_fm {α : Type} : ∀ (l : List α), (List.range (l.length / 2)).filterMap (fun i => l[2 * i + 1]?) = odds l
  | [] => by simp [odds]
  | [a] => by simp [odds]
  | a :: b :: r => by
    have e : (a :: b :: r).length / 2 = r.length / 2 + 1 := by simp only [List.length_cons]; omega
    rw [e, List.range_succ_eq_map, List.filterMap_cons]
    show b :: _ = b :: odds r
    rw [List.filterMap_map]
    congr 1
    exact odds_fm r
theorem odds_le {α : Type} : ∀ l : List α, (odds l).length ≤ l.length
  | [] => Nat.le_refl _
  | [_] => Nat.zero_le _
  | a :: b :: r => by
    have := odds_le r
    simp only [odds, List.length_cons]
    omega
theorem vals_odds : ∀ {xs : List V} {its : List Value}, Vals xs its → Vals (odds xs) (odds its)
  | _, _, .nil => .nil
  | _, _, .cons _ .nil => .nil
  | _, _, .cons _ (.cons b r) => .cons b (vals_odds r)
theorem Reps.odds {H : Hp} : ∀ {ds : List D} {vs : List V}, Reps K H ds vs → Reps K H (T3.odds ds) (T3.odds vs)
  | _, _, .nil => .nil
  | _, _, .cons _ .nil => .nil
  | _, _, .cons _ (.cons b r) => .cons b (Reps.odds r)
theorem fm_pick {α : Type} (xs : List α) : ∀ m, (((List.range m).map fun (k : Nat) => ((1 : Int) + 2 * (k : Int)).toNat).filterMap fun i => xs[i]?) = (List.range m).filterMap fun i => xs[2 * i + 1]? := fun m => by
  rw [List.filterMap_map]
  congr 1
  funext i
  show xs[((1 : Int) + 2 * (i : Int)).toNat]? = xs[2 * i + 1]?
  have e : ((1 : Int) + 2 * (i : Int)).toNat = 2 * i + 1 := by omega
  rw [e]
theorem pick_odds (xs : List Value) : slicePick xs.toArray (some 1) none (some 2) = (odds xs).toArray := by
  unfold slicePick
  have h1 : (sliceBounds (some 1) none (some 2) xs.toArray.size) = (max 0 (min 1 (xs.length : Int)), (xs.length : Int), 2) := by
    simp [sliceBounds]
  rw [h1]
  congr 1
  unfold sliceRange
  simp only [show (2 : Int) > 0 by decide, if_true]
  by_cases h : 1 < xs.length
  · have e1 : max 0 (min 1 (xs.length : Int)) = 1 := by omega
    rw [e1, if_pos (by omega)]
    have e2 : (((xs.length : Int) - 1 + 2 - 1) / 2).toNat = xs.length / 2 := by omega
    rw [e2, ← odds_fm, ← fm_pick]
    congr 1
    funext i
    exact List.getElem?_toArray ..
  · rw [if_neg (by omega)]
    match xs, h with
    | [], _ => rfl
    | [_], _ => rfl
    | _ :: _ :: _, h => simp at h
/-- xs[1::2] -/
theorem ed_odd (hX : XF X N sc P w K mg base k) {k1 k2 : Nat} (he : ED X K A M ρ e (.lst ds)) : ED X K A M ρ (.Subscript e (.Slice (some (.Constant (.int 1) k1 p)) none (some (.Constant (.int 2) k2 p2)) p3) pos) (.lst (odds ds)) := .mk fun fps σ Hs H hh => by
  refine wE_of (t := fun σ H Q => wE X e σ H fun x H1 => ∃ a xs, x = .ref a ∧ SqL X.K H1 a xs ∧ ∀ p, H1 p = none → Q (.ref p) (upd H1 p (.lst (odds xs)))) ⟨fun pins s σ H Q I h => ?_⟩ ?_
  · refine Subscript_ (thn (pe_w.run pins s σ H _ I h) fun v s1 ⟨x, H1, I1, r1, q1⟩ => ?_)
    obtain ⟨a, xs, ex, hx, q⟩ := q1
    subst ex
    cases r1
    have hst : PO X (some (.Constant (.int 2) k2 p2)) (tPart (tC (.int 2))) := po_some pe_int
    have hlo : PO X (some (.Constant (.int 1) k1 p)) (tPart (tC (.int 1))) := po_some pe_int
    refine wpAny_Slice (thn (hlo.run pins s1 σ H1 (fun o H2 => o = some 1 ∧ H2 = H1) I1 ⟨1, rfl, rfl, rfl⟩) fun vl s2 ⟨l, H2, I2, pl, el, e2⟩ => ?_)
    subst el e2
    refine thn (po_none.run pins s2 σ H2 (fun o H3 => o = none ∧ H3 = H2) I2 ⟨rfl, rfl⟩) fun vu s3 ⟨u, H3, I3, pu, eu, e3⟩ => ?_
    subst eu e3
    refine thn (hst.run pins s3 σ H3 (fun o H4 => o = some 2 ∧ H4 = H3) I3 ⟨2, rfl, rfl, rfl⟩) fun vs s4 ⟨o, H4, I4, ps, eo, e4⟩ => ?_
    subst eo e4
    have I5 : Inv X pins σ H4 { s4 with heap := s4.heap.push { cls := .type "slice", data := .fields #[vl, vu, vs] } } := I4.kept (t' := s4.toks) fun b ob q => Heap.get?_push_of_some _ q
    obtain ⟨its, r, ht, hz⟩ := I5.list hx
    have hlen := r.length
    show wpAny (model X.prog X.w) X.A (subscriptTail e (.Slice (some (.Constant (.int 1) k1 p)) none (some (.Constant (.int 2) k2 p2)) p3) (.ref a) (.ref s4.heap.objs.size)) (EP X pins σ Q) X.xe { s4 with heap := s4.heap.push { cls := .type "slice", data := .fields #[vl, vu, vs] } }
    refine tail_any (ops := [.ref a, .ref s4.heap.objs.size]) ht.isList.typeIs (PySem.slot_list_getitem.lookup) ?_ (by with_unfolding_all rfl)
    refine wpAny_getItem_list_slice ht.isList (Heap.IsSliceOf.new _ vl vu vs) pl pu ps (by decide) ?_ (by rw [List.size_toArray]; omega)
    rw [pick_odds]
    refine ⟨.ref _, _, I5.laid (t' := s4.toks) (o := .lst (odds xs)) (fun b ob q => Heap.get?_push_of_some _ q) (Nat.le_refl _) ?_, rfl, q _ (I5.hok.fresh (Nat.le_refl _))⟩
    exact ⟨Nat.le_trans (odds_le xs) hz, _, 0, vals_odds r, Heap.get?_push_size _ rfl⟩
  · refine wE_mono (he _ _ _ _ hh) fun v H1 ⟨Hs1, s1, r1⟩ => ?_
    rw [hX.eK]
    cases r1 with
    | lst h1 h2 =>
      refine ⟨_, _, rfl, SqL.of (s1.i _ _ h1), fun p hp => ?_⟩
      exact newL (Q := fun v H' => ∃ Hs', Step Hs H Hs' H' ∧ Rep K Hs' (.lst (odds ds)) v) (fun v Hs' H' s r => ⟨Hs', s1.trans s, r⟩) s1.i hp h2.odds

/-! ### dicts of one's own -/
/-- x = dict(y), one's own -/
theorem sd_setDc (hX : XF X N sc P w K mg base k) (i : Nat) {x : Str} {pos' pd pd2 : Pos} {ks : List Str} (hN : N[i]? = some x) (hm : mg "dict" = none) (hv : bootBuiltins "dict" = some (.type "dict")) (h : ED X K A M ρ e (.dct ks ds)) (q : SD X K A (M ++ [.dct ks ds]) (ρ.set i (some (.cell M.length))) rest R) (hl : Loc sc x := by first | exact .inl rfl | exact .inr rfl)
    (hg : GlS sc "dict" := by rfl) (hs : swapsWith (.Call (.Name "dict" pd) [e] [] pd2) (some (.Name x pos')) pos.line X.env = pure false := by rfl) (hF : ∀ x, X.fn x = true := by assumption)
    (he : starEach [e] X.env = (false, eval e X.env) :: starEach [] X.env := by exact star_cons rfl) (hpl : (backTo pd2 (starEach [] X.env)).any (·.1) = false := by exact star_plain rfl) : SD X K A M ρ (.Assign [.Name x pos'] (.Call (.Name "dict" pd) [e] [] pd2) pos :: rest) R := sd_cons <| .mk fun fps σ Hs H hh => by
  refine wS_of (ps_set (i := i) (by rw [hX.eN]; exact hX.nd) (by rw [hX.eN]; exact hN) (hX.loc hl) pe_w hs (hX.sto hF hl)) ?_
  refine wE_of (pe_callTy call_dictD (hX.gl hg) (by rw [hX.em]; exact hm) hv (pa_cons pe_w pa_nil he) (by decide) (by decide) he hpl) ?_
  refine wE_mono (h _ _ _ _ hh) fun v H1 ⟨Hs1, s1, r1⟩ => ?_
  cases r1 with
  | @dct a ws _ _ q1 q2 q3 =>
    refine ⟨a, ws, rfl, s1.i.rd q1, fun p hp => ?_⟩
    have h1 := hh.step s1
    have s2 : Step Hs1 H1 Hs1 (upd H1 p (.dK ws)) := .own s1.i hp
    have h' := h1.push s2 (c := .dct ks ds) hp (s1.i.back hp) (by rw [upd_same]; exact fun z => nomatch z) ⟨ws, upd_same, q2, q3⟩
    refine ⟨_, _, _, Hs1, h'.slots (h'.st.slots.set i (s := .cell M.length) ⟨p, [], ?_, rfl⟩), q⟩
    rw [← hh.st.cells.length, List.getElem?_append_right (Nat.le_refl _), Nat.sub_self]
    rfl
def putD (ks : List Str) (ds : List D) (x : Str) (d : D) : List Str × List D := if x ∈ ks then (ks, (ks.zip ds).map fun p => if p.1 = x then d else p.2) else (ks ++ [x], ds ++ [d])
def dropD (ks : List Str) (ds : List D) (x : Str) : List Str × List D := (ks.filter fun y => decide (y ≠ x), ((ks.zip ds).filter fun p => decide (p.1 ≠ x)).map (·.2))
theorem map_put {H : Hp} {v : V} (x : Str) (r : Rep K H d v) : ∀ {ks : List Str} {ds : List D} {ws : List (Key × V)}, ws.map (·.1) = ks.map Sum.inr → Reps K H ds (ws.map (·.2)) →
    (ws.map fun kv => if kv.1 = Sum.inr x then (kv.1, v) else kv).map (·.1) = ks.map Sum.inr ∧ Reps K H ((ks.zip ds).map fun p => if p.1 = x then d else p.2) ((ws.map fun kv => if kv.1 = Sum.inr x then (kv.1, v) else kv).map (·.2))
  | [], _, [], _, _ => ⟨rfl, .nil⟩
  | [], _, _ :: _, h, _ => by simp at h
  | _ :: _, _, [], h, _ => by simp at h
  | k :: ks, ds, (k', u) :: ws, h, rr => by
    simp only [List.map_cons, List.cons.injEq] at h
    obtain ⟨h1, h2⟩ := h
    subst h1
    cases rr with
    | cons r1 r2 =>
      obtain ⟨i1, i2⟩ := map_put x r h2 r2
      by_cases e : k = x
      · subst e
        simp only [List.map_cons, if_true, List.zip_cons_cons]
        exact ⟨by rw [i1], .cons r i2⟩
      · have e' : ¬ (Sum.inr k : Key) = Sum.inr x := fun z => e (Sum.inr.inj z)
        simp only [List.map_cons, if_neg e', List.zip_cons_cons, if_neg e]
        exact ⟨by rw [i1], .cons r1 i2⟩
theorem any_key (x : Str) : ∀ {ks : List Str} {ws : List (Key × V)}, ws.map (·.1) = ks.map Sum.inr → (ws.any fun kv => decide (kv.1 = Sum.inr x)) = decide (x ∈ ks)
  | [], [], _ => rfl
  | [], _ :: _, h => by simp at h
  | _ :: _, [], h => by simp at h
  | k :: ks, (k', u) :: ws, h => by
    simp only [List.map_cons, List.cons.injEq] at h
    obtain ⟨h1, h2⟩ := h
    subst h1
    rw [List.any_cons, any_key x h2]
    by_cases e : k = x
    · subst e; simp
    · have e' : ¬ (Sum.inr k : Key) = Sum.inr x := fun z => e (Sum.inr.inj z)
      simp [e', Ne.symm e]
theorem put_rep {H : Hp} {v : V} {ks : List Str} {ws : List (Key × V)} (x : Str) (r : Rep K H d v) (h1 : ws.map (·.1) = ks.map Sum.inr) (h2 : Reps K H ds (ws.map (·.2))) :
    (putK ws (Sum.inr x) v).map (·.1) = (putD ks ds x d).1.map Sum.inr ∧ Reps K H (putD ks ds x d).2 ((putK ws (Sum.inr x) v).map (·.2)) := by
  unfold putK putD
  rw [any_key x h1]
  by_cases e : x ∈ ks
  · rw [if_pos (decide_eq_true e), if_pos e]
    exact map_put x r h1 h2
  · rw [if_neg (by rw [decide_eq_false e]; exact Bool.false_ne_true), if_neg e]
    refine ⟨by rw [List.map_append, h1, List.map_append]; rfl, ?_⟩
    rw [List.map_append]
    exact h2.append (.one r)
theorem drop_rep {H : Hp} (x : Str) : ∀ {ks : List Str} {ds : List D} {ws : List (Key × V)}, ws.map (·.1) = ks.map Sum.inr → Reps K H ds (ws.map (·.2)) →
    (dropK ws (Sum.inr x)).map (·.1) = (dropD ks ds x).1.map Sum.inr ∧ Reps K H (dropD ks ds x).2 ((dropK ws (Sum.inr x)).map (·.2))
  | [], _, [], _, _ => ⟨rfl, .nil⟩
  | [], _, _ :: _, h, _ => by simp at h
  | _ :: _, _, [], h, _ => by simp at h
  | k :: ks, ds, (k', u) :: ws, h, rr => by
    simp only [List.map_cons, List.cons.injEq] at h
    obtain ⟨h1, h2⟩ := h
    subst h1
    cases rr with
    | cons r1 r2 =>
      obtain ⟨i1, i2⟩ := drop_rep x h2 r2
      unfold dropK dropD at i1 i2 ⊢
      by_cases e : k = x
      · subst e
        simp only [List.zip_cons_cons, List.filter_cons, ne_eq, not_true_eq_false, decide_false, Bool.false_eq_true, if_false]
        exact ⟨i1, i2⟩
      · have e' : ¬ (Sum.inr k : Key) = Sum.inr x := fun z => e (Sum.inr.inj z)
        simp only [List.zip_cons_cons, List.filter_cons, ne_eq, e, e', not_false_eq_true, decide_true, if_true, List.map_cons]
        exact ⟨by rw [← i1], .cons r1 i2⟩
theorem get_rep {H : Hp} {ks : List Str} {ws : List (Key × V)} (x : Str) (h1 : ws.map (·.1) = ks.map Sum.inr) (h : x ∈ ks) : ∃ v, valV ws (Sum.inr x) = some v := by
  have := valV_any (Sum.inr x : Key) ws
  rw [any_key x h1, decide_eq_true h] at this
  exact Option.isSome_iff_exists.mp this.symm
/-- x[k] = v, x one's own dict -/
theorem sd_dput (hX : XF X N sc P w K mg base k) {n : Nat} {ks : List Str} (hv : ED X K A M ρ e d) (hc : EC X K A M ρ a n) (hb : ED X K A M ρ b (.str x)) (hM : M[n]? = some (.dct ks ds)) (hl : ks.length ≤ 100000) (q : SD X K A (M.set n (.dct (putD ks ds x d).1 (putD ks ds x d).2)) ρ rest R)
    (hs : swapsWith e (some (.Subscript a b p)) pos.line X.env = pure false := by rfl) : SD X K A M ρ (.Assign [.Subscript a b p] e pos :: rest) R := sd_cons <| .mk fun fps σ Hs H hh => by
  refine wS_of (ps_dput (hu_of hX.rm) pe_w pe_w pe_w hs) ?_
  refine wE_mono (hv _ _ _ _ hh) fun v H1 ⟨Hs1, s1, r1⟩ => ?_
  have hh1 := hh.step s1
  refine wE_mono (hc _ _ _ _ hh1) fun v2 H2 ⟨e2, z, r, q1, q2⟩ => ?_
  subst e2; subst q2
  refine wE_mono (hb _ _ _ _ hh1) fun v3 H3 ⟨Hs3, s3, r3⟩ => ?_
  cases r3
  have hh3 := hh1.step s3
  obtain ⟨hj, ws, hx, rx, rd⟩ := hh3.st.cells.dct1 q1 hM
  obtain ⟨p1, p2⟩ := put_rep x (r1.mono s3.s) rx rd
  have hlen : ws.length = ks.length := by have := congrArg List.length rx; simpa using this
  refine ⟨z, _, rfl, .k (k := .inr x) hx (by rw [hlen]; exact Nat.lt_of_le_of_lt hl (by decide)), ?_⟩
  exact ⟨_, ρ, fps, Hs3, hh3.write (c' := .dct _ _) hj ⟨_, upd_same, p1, p2⟩, q⟩
/-- x.pop(k), k there -/
theorem sd_dpop (hX : XF X N sc P w K mg base k) {n : Nat} {ks : List Str} {cpos : Pos} (hc : EC X K A M ρ a n) (hb : ED X K A M ρ b (.str x)) (hM : M[n]? = some (.dct ks ds)) (hx : x ∈ ks) (q : SD X K A (M.set n (.dct (dropD ks ds x).1 (dropD ks ds x).2)) ρ rest R)
    (hs : swapsWith (.Call (.Attribute a "pop" apos) [b] [] cpos) none pos.line X.env = pure false := by rfl) (m : M1 X a "pop" apos b cpos := by exact ⟨rfl, rfl, rfl, rfl⟩) :
    SD X K A M ρ (.Expr (.Call (.Attribute a "pop" apos) [b] [] cpos) pos :: rest) R := sd_cons <| .mk fun fps σ Hs H hh => by
  refine wS_of (ps_expr (pe_dpop1 pe_w pe_w m) hs) ?_
  refine wE_mono (hc _ _ _ _ hh) fun v2 H2 ⟨e2, z, r, q1, q2⟩ => ?_
  subst e2; subst q2
  obtain ⟨hj, ws, hx0, rx, rd⟩ := hh.st.cells.dct1 q1 hM
  refine ⟨z, rfl, .inl ⟨ws, Rd.of hx0⟩, ?_⟩
  refine wE_mono (hb _ _ _ _ hh) fun v3 H3 ⟨Hs3, s3, r3⟩ => ?_
  cases r3
  have hh3 := hh.step s3
  obtain ⟨hj, ws, hx1, rx, rd⟩ := hh3.st.cells.dct1 q1 hM
  obtain ⟨u, hu⟩ := get_rep (H := H3) x rx hx
  obtain ⟨p1, p2⟩ := drop_rep x rx rd
  refine ⟨ws, .inr x, u, hx1, rfl, hu, ?_⟩
  exact ⟨_, ρ, fps, Hs3, hh3.write (c' := .dct _ _) hj ⟨_, upd_same, p1, p2⟩, q⟩

/-! ### == of rows of flat things -/
def pyOf : D → PyData
  | .bl b => .bool b
  | .int i => .int i
  | .str x => .str x
  | _ => .none
theorem dp_of {H : Hp} {v : V} (f : flat d = true) (r : Rep K H d v) : Dp K H v (pyOf d) := by
  cases r with
  | non => exact .non
  | bl b => exact .bl b
  | int i => exact .int i
  | str x => exact .str x
  | _ => cases f
theorem dps_of {H : Hp} : ∀ {ds : List D} {vs : List V}, ds.all flat = true → Reps K H ds vs → DpAll K H vs (ds.map pyOf)
  | _, _, _, .nil => .nil
  | _, _, f, .cons a b => by
    rw [List.all_cons, Bool.and_eq_true] at f
    exact .cons (dp_of f.1 a) (dps_of f.2 b)
def eqvs (ds fs : List D) : Bool := PyData.eqvAll (ds.map pyOf) (fs.map pyOf)
theorem o_eqT (h1 : ds.all flat = true) (h2 : fs.all flat = true) (l1 : SeqAt.shaped (.tuple (ds.map pyOf)) = true) (l2 : SeqAt.shaped (.tuple (fs.map pyOf)) = true) : OpS (compareOp .Eq) K k (.tup ds) (.tup fs) (.bl (eqvs ds fs)) := ops_of (rEqD K) (fun X h _ rm => by subst h; exact op_eqD (rm.units)) fun Hs H u1 u2 Q e r1 r2 q => by
  cases r1 with
  | tup a1 a2 =>
    cases r2 with
    | tup b1 b2 => exact ⟨.tuple (ds.map pyOf), .tuple (fs.map pyOf), .tup (e.st a1) (dps_of h1 (a2.mono e)), .tup (e.st b1) (dps_of h2 (b2.mono e)), l1, l2, q _ _ _ (.refl e) (.bl _)⟩
theorem o_neT (h1 : ds.all flat = true) (h2 : fs.all flat = true) (l1 : SeqAt.shaped (.tuple (ds.map pyOf)) = true) (l2 : SeqAt.shaped (.tuple (fs.map pyOf)) = true) : OpS (compareOp .NotEq) K k (.tup ds) (.tup fs) (.bl (!eqvs ds fs)) := ops_of (rNeD K) (fun X h _ rm => by subst h; exact op_neD (rm.units)) fun Hs H u1 u2 Q e r1 r2 q => by
  cases r1 with
  | tup a1 a2 =>
    cases r2 with
    | tup b1 b2 => exact ⟨.tuple (ds.map pyOf), .tuple (fs.map pyOf), .tup (e.st a1) (dps_of h1 (a2.mono e)), .tup (e.st b1) (dps_of h2 (b2.mono e)), l1, l2, q _ _ _ (.refl e) (.bl _)⟩
end
end T3
set_option maxHeartbeats 1000000
/-! P3: rows of bytes made and read. -/
namespace Tl
open PySem L2 T3
local macro_rules | `(tactic| walk_at "len") => `(tactic| first | decide | (simp; done) | omega | (simp; omega))
section
variable {X : Cx} {N : List Str} {sc : Scope} {P : Program} {w : World} {K : PySem.W.Frag} {mg : Str → Option Value} {base : Heap} {k : Nat}
variable {A : Anc} {M : List Cell} {ρ : Env3}
theorem rgC2 : ∀ m : Nat, m ≤ 12 → RgC 0 ((2 * m : Nat) : Int) 2 m := by
  unfold RgC
  decide +kernel
def s_fits : Stmt := topS 32
theorem sc_fits : FnScope ["form", "number"] ["form", "number"] (defScope s_fits) := ⟨rfl, rfl, rfl, by decide +kernel, rfl, by decide +kernel, by decide +kernel⟩
def G_fits (ds : List D) (d : D) : Prop := ∃ (f : Form) (x : Int), f.Ok ∧ ds = [formD f, .int x] ∧ d = .bl (fitsB f x)
theorem d_fits (T : Tops K mg) (D_least_of : Dfn P w K mg base "least_of" 2 G_least_of) (D_most_of : Dfn P w K mg base "most_of" 2 G_most_of) {f : Addr} {fd : FuncData} (F : Fun K "fits" "fits" s_fits f fd) (hb : Binds K fd ["form", "number"] []) (hm : mg "fits" = some (.ref f)) : Dfn P w K mg base "fits" 3 G_fits := by
  refine dfn_of F sc_fits hb hm (fun ds d h => ?_) ?_
  · obtain ⟨f, x, _, rfl, _⟩ := h; rfl
  rintro X A hX hF hP ds d ⟨f, x, ok, rfl, rfl⟩
  exact sd_ret (ed_chain hX (ed_call hX D_least_of (by decide) (eds_cons (ed_var hX 0 rfl rfl) eds_nil) (⟨f, ok, rfl, rfl⟩)) (ed_var hX 1 rfl rfl) (ed_call hX D_most_of (by decide) (eds_cons (ed_var hX 0 rfl rfl) eds_nil) (⟨f, ok, rfl, rfl⟩)) o_le o_le) rfl

def s_sign_half : Stmt := topS 38
theorem sc_sign_half : FnScope ["number"] ["number"] (defScope s_sign_half) := ⟨rfl, rfl, rfl, by decide +kernel, rfl, by decide +kernel, by decide +kernel⟩
def G_sign_half (ds : List D) (d : D) : Prop := ∃ x : Int, ds = [.int x] ∧ d = .int (sgh x)
theorem d_sign_half (T : Tops K mg) {f : Addr} {fd : FuncData} (F : Fun K "sign_half" "sign_half" s_sign_half f fd) (hb : Binds K fd ["number"] []) (hm : mg "sign_half" = some (.ref f)) : Dfn P w K mg base "sign_half" 1 G_sign_half := by
  refine dfn_of F sc_sign_half hb hm (fun ds d h => ?_) ?_
  · obtain ⟨x, rfl, _⟩ := h; rfl
  rintro X A hX hF hP ds d ⟨x, rfl, rfl⟩
  refine sd_if (et_cmp hX (ed_var hX 0 rfl rfl) ed_int o_lt) (fun ht => ?_) (fun hf => ?_)
  · have h1 : x < 0 := of_decide_eq_true ht
    refine sd_ret (ed_glob hX T.MINUS_HALF) ?_
    show D.int _ = D.int _
    rw [sgh, if_pos h1]
  · have h1 : ¬ x < 0 := of_decide_eq_false hf
    refine sd_nil (sd_ret (ed_glob hX T.PLUS_HALF) ?_)
    show D.int _ = D.int _
    rw [sgh, if_neg h1]

def s_kept_halves : Stmt := topS 39
theorem sc_kept_halves : FnScope ["form", "number", "figures", "found", "figure", "last"] ["form", "number"] (defScope s_kept_halves) := ⟨rfl, rfl, rfl, by decide +kernel, rfl, by decide +kernel, by decide +kernel⟩
def G_kept_halves (ds : List D) (d : D) : Prop := ∃ (f : Form) (x : Int), f.Ok ∧ ds = [formD f, .int x] ∧ d = .lst ((halves f (digs (size f x) f.n) (sgh x)).map .int)
theorem d_kept_halves (T : Tops K mg) (D_power : Dfn P w K mg base "power" 1 G_power) (D_figures_of : Dfn P w K mg base "figures_of" 1 G_figures_of) (D_sign_half : Dfn P w K mg base "sign_half" 1 G_sign_half) (D_halves_of : Dfn P w K mg base "halves_of" 1 G_halves_of) {f : Addr} {fd : FuncData} (F : Fun K "kept_halves" "kept_halves" s_kept_halves f fd) (hb : Binds K fd ["form", "number"] []) (hm : mg "kept_halves" = some (.ref f)) : Dfn P w K mg base "kept_halves" 2 G_kept_halves := by
  refine dfn_of F sc_kept_halves hb hm (fun ds d h => ?_) ?_
  · obtain ⟨f, x, _, rfl, _⟩ := h; rfl
  rintro X A hX hF hP ds d ⟨f, x, ok, rfl, rfl⟩
  have h1 := ok.n1
  have h2 := ok.n12
  have tp := ten_pos f.n
  have hl : (digs (size f x) f.n).length = f.n := digs_length _ _
  have he : e01 f ≤ 1 := by show sgE f.sg ≤ 1; cases f.sg <;> decide
  have he' : sgE f.sg ≤ 1 := he
  have ha : ahead f ≤ 1 := by unfold ahead; omega
  refine sd_join (fun M ρ => M = [] ∧ ρ = [some (.sh (formD f)), some (.sh (.int (yOf f x))), none, none, none, none]) (et_is (et_cmp hX (ed_ix hX (ed_var hX 0 rfl rfl) ed_int (i_tup rfl)) ed_str o_eqS) (sg_te _)) (fun ht => ?_) (fun hf => ?_) ?_
  · have hg : f.sg = .te := of_decide_eq_true ht
    exact sd_set hX 1 rfl (ed_bin hX (ed_var hX 1 rfl rfl) (ed_call hX D_power (by decide) (eds_cons ed_int (eds_cons (ed_ix hX (ed_var hX 0 rfl rfl) ed_int (i_tup rfl)) eds_nil)) (⟨f.n, by omega, rfl, rfl⟩)) (o_mod (tp))) (sd_nil ⟨rfl, by rw [yOf, if_pos hg]; rfl⟩)
  · have hg : ¬ f.sg = .te := of_decide_eq_false hf
    exact sd_nil ⟨rfl, by rw [yOf, if_neg hg]; rfl⟩
  rintro M ρ ⟨rfl, rfl⟩
  refine sd_set hX 2 rfl (ed_call hX D_figures_of (by decide) (eds_cons (ed_callB hX T.abs b_abs (eds_cons (ed_var hX 1 rfl rfl) eds_nil) c_abs) (eds_cons (ed_ix hX (ed_var hX 0 rfl rfl) ed_int (i_tup rfl)) eds_nil)) (⟨size f x, f.n, by omega, by rw [yOf_size], rfl⟩)) ?_
  refine sd_if (et_is (et_cmp hX (ed_ix hX (ed_var hX 0 rfl rfl) ed_int (i_tup rfl)) ed_str o_eqS) (kd_pk _)) (fun ht => ?_) (fun hf => ?_)
  · have hs : f.sp = false := by simpa using ht
    refine sd_set hX 5 rfl (d := .lst ((List.replicate (e01 f) (sgh x)).map .int)) (ed_is (ed_bin hX (ed_lst (eds_cons (ed_call hX D_sign_half (by decide) (eds_cons (ed_var hX 1 rfl rfl) eds_nil) (⟨yOf f x, rfl, rfl⟩)) eds_nil) (by simp)) (ed_callTy hX T.int b_int (eds_cons (ed_cmp hX (ed_ix hX (ed_var hX 0 rfl rfl) ed_int (i_tup rfl)) ed_str o_eqS) eds_nil) c_intB) (o_repL ((by rw [sgE_eq]; omega)) ((by rw [sgE_eq]; omega)) ((by rw [sgE_eq]; simp; omega)))) ?_) ?_
    · rw [sgE_eq, Int.toNat_natCast, rep_one, List.map_replicate]
      by_cases hg : f.sg = .en
      · rw [yOf_en (by rw [hg]; decide)]
      · show D.lst (List.replicate (sgE f.sg) _) = D.lst (List.replicate (sgE f.sg) _)
        rw [sgE_ne hg]; rfl
    refine sd_ret (ed_bin hX (ed_bin hX (ed_bin hX (ed_lst (eds_cons ed_int eds_nil) (by simp)) (ed_ix hX (ed_call hX D_halves_of (by decide) (eds_cons (ed_var hX 0 rfl rfl) eds_nil) (⟨f, rfl, rfl⟩)) ed_int (i_tup rfl)) (o_repL ((by omega)) ((by omega)) ((by simp; omega)))) (ed_var hX 2 rfl rfl) (o_catL ((by simp; omega)))) (ed_var hX 5 rfl rfl) (o_catL ((by simp; omega)))) ?_
    show D.lst _ = D.lst _
    rw [Int.toNat_natCast, rep_one, halves, if_neg (by rw [hs]; decide), halvesP, List.map_append, List.map_append, List.map_replicate, List.map_replicate]
  · have hs : f.sp = true := by simpa using hf
    refine sd_nil (sd_setF hX 3 rfl (ef_lst eds_nil (by simp)) ?_)
    refine sd_forL hX 4 (ed_var hX 2 rfl rfl) (fun i => [.lst ((zones ((digs (size f x) f.n).take i)).map .int)]) (fun i => [some (.sh (formD f)), some (.sh (.int (yOf f x))), some (.sh (.lst ((digs (size f x) f.n).map .int))), some (.cell 0), none, none]) ⟨rfl, rfl, rfl, rfl, rfl, trivial⟩ rfl ?_ ?_ hP
    · intro A' le i z hi
      obtain ⟨y, hy, rfl⟩ := map_get' hi
      have hil : i < f.n := by rw [← hl]; exact (List.getElem?_eq_some_iff.mp hy).1
      refine sd_extend hX (ec_var hX 3 rfl rfl) rfl (ef_lst (eds_cons (ed_glob hX T.ZONE_HALF) (eds_cons (ed_var hX 4 rfl rfl) eds_nil)) (by simp)) (by rw [List.length_map, zones_length, List.length_take]; simp; omega) ?_
      refine sd_nil ⟨?_, rfl, rfl, rfl, rfl, trivial⟩
      rw [zones_take hy, List.map_append]; rfl
    rw [List.length_map, hl]
    rw [show (digs (size f x) f.n).take f.n = digs (size f x) f.n from List.take_of_length_le (by omega)]
    refine sd_join (fun M ρ => M = [.lst ((halvesS f (digs (size f x) f.n) (sgh x)).map .int)] ∧ ρ = [some (.sh (formD f)), some (.sh (.int (yOf f x))), some (.sh (.lst ((digs (size f x) f.n).map .int))), some (.cell 0), none, none]) (et_is (et_cmp hX (ed_ix hX (ed_var hX 0 rfl rfl) ed_int (i_tup rfl)) ed_str o_eqS) (sg_en _)) (fun ht => ?_) (fun hf => ?_) ?_
    · have hg : f.sg = .en := of_decide_eq_true ht
      refine sd_setIx hX (n := 2 * f.n - 2) (ed_call hX D_sign_half (by decide) (eds_cons (ed_var hX 1 rfl rfl) eds_nil) (⟨yOf f x, rfl, rfl⟩)) (ec_var hX 3 rfl rfl) (ed_un hX ed_int u_neg) rfl (by rw [List.length_map, zones_length, hl]; exact ixN_neg (i := 2) (by omega) (by omega)) ?_
      refine sd_nil ⟨?_, rfl⟩
      rw [halvesS_en hg, hl, List.map_set, yOf_en (by rw [hg]; decide)]
      rfl
    · have hg : ¬ f.sg = .en := of_decide_eq_false hf
      exact sd_nil ⟨by rw [halvesS_ne hg], rfl⟩
    rintro M ρ ⟨rfl, rfl⟩
    refine sd_freeze 3 0 rfl rfl rfl ?_
    refine sd_ret (ed_var hX 3 rfl rfl) ?_
    show D.lst _ = D.lst _
    rw [halves, if_pos hs]

def s_kept : Stmt := topS 40
theorem sc_kept : FnScope ["form", "number", "halves", "k"] ["form", "number"] (defScope s_kept) := ⟨rfl, rfl, rfl, by decide +kernel, rfl, by decide +kernel, by decide +kernel⟩
def G_kept (ds : List D) (d : D) : Prop := ∃ (f : Form) (x : Int), f.Ok ∧ fitsB f x = true ∧ ds = [formD f, .int x] ∧ d = rowD (rowK f x)
theorem d_kept (T : Tops K mg) (D_fits : Dfn P w K mg base "fits" 3 G_fits) (D_kept_halves : Dfn P w K mg base "kept_halves" 2 G_kept_halves) {f : Addr} {fd : FuncData} (F : Fun K "kept" "kept" s_kept f fd) (hb : Binds K fd ["form", "number"] []) (hm : mg "kept" = some (.ref f)) : Dfn P w K mg base "kept" 4 G_kept := by
  refine dfn_of F sc_kept hb hm (fun ds d h => ?_) ?_
  · obtain ⟨f, x, _, _, rfl, _⟩ := h; rfl
  rintro X A hX hF hP ds d ⟨f, x, ok, hfit, rfl, rfl⟩
  have hl : (halves f (digs (size f x) f.n) (sgh x)).length = hlen f := halves_length (digs_length _ _)
  have h24 := hlen_le ok
  have hev := hlen_even f
  have gd := good_kept ok x
  refine sd_skip (et_is (et_not (et_val (ed_call hX D_fits (by decide) (eds_cons (ed_var hX 0 rfl rfl) (eds_cons (ed_var hX 1 rfl rfl) eds_nil)) (⟨f, x, ok, rfl, rfl⟩)))) (by rw [hfit]; rfl)) ?_
  refine sd_set hX 2 rfl (ed_call hX D_kept_halves (by decide) (eds_cons (ed_var hX 0 rfl rfl) (eds_cons (ed_var hX 1 rfl rfl) eds_nil)) (⟨f, x, ok, rfl, rfl⟩)) ?_
  have hm := halves_mem (f := f) (ds := digs (size f x) f.n) (h := sgh x) gd.fig gd.h10 gd.h15
  generalize hH : halves f (digs (size f x) f.n) (sgh x) = L at *
  have g2 : ∀ i, i < hlen f → L[i]? = some (L.getD i 0) := fun i hi => by rw [List.getD_eq_getElem?_getD, List.getElem?_eq_getElem (by omega)]; rfl
  have g3 : ∀ i, i < hlen f → 0 ≤ L.getD i 0 ∧ L.getD i 0 ≤ 15 := fun i hi => hm _ (List.mem_of_getElem? (g2 i hi))
  refine sd_ret (ed_callTy hX T.tuple b_tuple (eds_cons (ed_lc hX [("k", 3)] (ei_rng3 hX T.range (n := hlen f / 2) (eds_cons ed_int (eds_cons (ed_callB hX T.len b_len (eds_cons (ed_var hX 2 rfl rfl) eds_nil) c_lenL) (eds_cons ed_int eds_nil))) ?_) (blkOk_by (by decide +kernel)) [3] (fun d => [some (.sh (formD f)), some (.sh (.int x)), some (.sh (.lst (L.map .int))), some (.sh d)]) (fun d => match d with | .int j => some (.int (16 * L.getD j.toNat 0 + L.getD (j.toNat + 1) 0)) | _ => none) (by rw [rngD_length]; omega) (fun X' hX' d hd => ?_)) eds_nil) c_tuple) ?_
  · rw [List.length_map, hl]
    rw [show ((hlen f : Nat) : Int) = ((2 * (hlen f / 2) : Nat) : Int) by omega]
    exact rgC2 _ (by omega)
  · obtain ⟨i, hi, rfl⟩ := rng_mem hd
    have e1 : (0 + (i : Nat) * 2 : Int).toNat = 2 * i := by omega
    have e2 : (0 + (i : Nat) * 2 : Int) = ((2 * i : Nat) : Int) := by omega
    have e3 : (0 + (i : Nat) * 2 : Int) + 1 = ((2 * i + 1 : Nat) : Int) := by omega
    refine ⟨tg_nameL hX' 3 rfl, fun z hz => ?_, rfl⟩
    have q1 := g3 (2 * i) (by omega)
    cases hz
    rw [e1]
    exact ed_bin hX' (ed_bin hX' ed_int (ed_ix hX' (ed_var hX' 2 rfl rfl) (ed_var hX' 3 rfl rfl) (i_lst (by rw [e2]; exact atI_nat (map_get (g2 (2 * i) (by omega)))))) (o_mul (mulOk (by decide) (by omega)))) (ed_ix hX' (ed_var hX' 2 rfl rfl) (ed_bin hX' (ed_var hX' 3 rfl rfl) ed_int o_add) (i_lst (by rw [e3]; exact atI_nat (map_get (g2 (2 * i + 1) (by omega)))))) o_add
  · show D.tup _ = D.tup _
    rw [rowK, rowW, hH, pairs_eq (m := hlen f / 2) (by omega), List.map_map, rngD, List.filterMap_map]
    rw [fm_some (h := fun i : Nat => D.int (16 * L.getD (2 * i) 0 + L.getD (2 * i + 1) 0)) fun i _ => ?_]
    · rfl
    · show some (D.int (16 * L.getD ((0 : Int) + (i : Nat) * 2).toNat 0 + L.getD (((0 : Int) + (i : Nat) * 2).toNat + 1) 0)) = _
      rw [show ((0 : Int) + (i : Nat) * 2).toNat = 2 * i by omega]

def s_halves_in : Stmt := topS 41
theorem sc_halves_in : FnScope ["row", "found", "byte"] ["row"] (defScope s_halves_in) := ⟨rfl, rfl, rfl, by decide +kernel, rfl, by decide +kernel, by decide +kernel⟩
def G_halves_in (ds : List D) (d : D) : Prop := ∃ r : List Int, r.length ≤ 12 ∧ ds = [rowD r] ∧ d = .lst ((unpair r).map .int)
theorem d_halves_in (T : Tops K mg) {f : Addr} {fd : FuncData} (F : Fun K "halves_in" "halves_in" s_halves_in f fd) (hb : Binds K fd ["row"] []) (hm : mg "halves_in" = some (.ref f)) : Dfn P w K mg base "halves_in" 1 G_halves_in := by
  refine dfn_of F sc_halves_in hb hm (fun ds d h => ?_) ?_
  · obtain ⟨r, _, rfl, _⟩ := h; rfl
  rintro X A hX hF hP ds d ⟨r, hr, rfl, rfl⟩
  refine sd_setF hX 1 rfl (ef_lst eds_nil (by simp)) ?_
  refine sd_forT hX 2 (ed_var hX 0 rfl rfl) (fun i => [.lst ((unpair (r.take i)).map .int)]) (fun i => [some (.sh (rowD r)), some (.cell 0), none]) ⟨rfl, rfl, rfl, trivial⟩ rfl ?_ ?_ hP
  · intro A' le i z hi
    obtain ⟨y, hy, rfl⟩ := map_get' hi
    refine sd_extend hX (ec_var hX 1 rfl rfl) rfl (ef_lst (eds_cons (ed_bin hX (ed_var hX 2 rfl rfl) ed_int (o_div (divOk (by decide) (by decide)))) (eds_cons (ed_bin hX (ed_var hX 2 rfl rfl) ed_int (o_mod (by decide))) eds_nil)) (by simp)) (by rw [List.length_map, unpair_length, List.length_take]; simp; omega) ?_
    refine sd_nil ⟨?_, rfl, rfl, trivial⟩
    rw [unpair_take hy, List.map_append]; rfl
  rw [List.length_map, List.take_length]
  refine sd_freeze 1 0 rfl rfl rfl ?_
  exact sd_ret (ed_var hX 1 rfl rfl) rfl

def s_duties : Stmt := topS 42
theorem sc_duties : FnScope ["form", "found"] ["form"] (defScope s_duties) := ⟨rfl, rfl, rfl, by decide +kernel, rfl, by decide +kernel, by decide +kernel⟩
def G_duties (ds : List D) (d : D) : Prop := ∃ f : Form, f.Ok ∧ ds = [formD f] ∧ d = .lst ((duL f).map fun u => .str (duS u))
theorem d_duties (T : Tops K mg) (D_halves_of : Dfn P w K mg base "halves_of" 1 G_halves_of) {f : Addr} {fd : FuncData} (F : Fun K "duties" "duties" s_duties f fd) (hb : Binds K fd ["form"] []) (hm : mg "duties" = some (.ref f)) : Dfn P w K mg base "duties" 2 G_duties := by
  refine dfn_of F sc_duties hb hm (fun ds d h => ?_) ?_
  · obtain ⟨f, _, rfl, _⟩ := h; rfl
  rintro X A hX hF hP ds d ⟨f, ok, rfl, rfl⟩
  have h1 := ok.n1
  have h2 := ok.n12
  have he : e01 f ≤ 1 := by show sgE f.sg ≤ 1; cases f.sg <;> decide
  have he' : sgE f.sg ≤ 1 := he
  have ha : ahead f ≤ 1 := by unfold ahead; omega
  refine sd_if (et_is (et_cmp hX (ed_ix hX (ed_var hX 0 rfl rfl) ed_int (i_tup rfl)) ed_str o_eqS) (kd_pk _)) (fun ht => ?_) (fun hf => ?_)
  · have hs : f.sp = false := by simpa using ht
    refine sd_ret (ed_bin hX (ed_bin hX (ed_bin hX (ed_lst (eds_cons ed_str eds_nil) (by simp)) (ed_ix hX (ed_call hX D_halves_of (by decide) (eds_cons (ed_var hX 0 rfl rfl) eds_nil) (⟨f, rfl, rfl⟩)) ed_int (i_tup rfl)) (o_repL ((by omega)) ((by omega)) ((by simp; omega)))) (ed_bin hX (ed_lst (eds_cons ed_str eds_nil) (by simp)) (ed_ix hX (ed_var hX 0 rfl rfl) ed_int (i_tup rfl)) (o_repL ((by omega)) ((by omega)) ((by simp; omega)))) (o_catL ((by simp; omega)))) (ed_bin hX (ed_lst (eds_cons ed_str eds_nil) (by simp)) (ed_callTy hX T.int b_int (eds_cons (ed_cmp hX (ed_ix hX (ed_var hX 0 rfl rfl) ed_int (i_tup rfl)) ed_str o_eqS) eds_nil) c_intB) (o_repL ((by rw [sgE_eq]; omega)) ((by rw [sgE_eq]; omega)) ((by rw [sgE_eq]; simp; omega)))) (o_catL ((by rw [sgE_eq]; simp; omega)))) ?_
    show D.lst _ = D.lst _
    rw [sgE_eq, Int.toNat_natCast, Int.toNat_natCast, Int.toNat_natCast, rep_one, rep_one, rep_one, duL, hs]
    simp only [Bool.false_eq_true, if_false, List.map_append, List.map_replicate]
    rfl
  · have hs : f.sp = true := by simpa using hf
    refine sd_nil (sd_setF hX 1 rfl (ds := (zonDu f.n).map fun u => .str (duS u)) (show EF _ _ _ _ _ _ ((zonDu f.n).map fun u => D.str (duS u)) from ?_) ?_)
    · have e : (zonDu f.n).map (fun u => D.str (duS u)) = (List.replicate ((f.n : Int).toNat) [D.str "zone", D.str "figure"]).flatten := by
        rw [Int.toNat_natCast, zonDu, List.map_flatten, List.map_replicate]
        rfl
      rw [e]
      exact ef_rep (ed_lst (eds_cons ed_str (eds_cons ed_str eds_nil)) (by simp)) (ed_ix hX (ed_var hX 0 rfl rfl) ed_int (i_tup rfl)) (by omega) (by omega) (by simp; omega)
    have hz : (zonDu f.n).length = 2 * f.n := by rw [zonDu, List.length_flatten, List.map_replicate]; simp; omega
    refine sd_join (fun M ρ => M = [.lst ((duL f).map fun u => .str (duS u))] ∧ ρ = [some (.sh (formD f)), some (.cell 0)]) (et_is (et_cmp hX (ed_ix hX (ed_var hX 0 rfl rfl) ed_int (i_tup rfl)) ed_str o_eqS) (sg_en _)) (fun ht => ?_) (fun hf => ?_) ?_
    · have hg : f.sg = .en := of_decide_eq_true ht
      refine sd_setIx hX (n := 2 * f.n - 2) ed_str (ec_var hX 1 rfl rfl) (ed_un hX ed_int u_neg) rfl (by rw [List.length_map, hz]; exact ixN_neg (i := 2) (by omega) (by omega)) ?_
      refine sd_nil ⟨?_, rfl⟩
      rw [duL, if_pos hs, hg]
      show _ = [Cell.lst (List.map _ ((zonDu f.n).set (2 * f.n - 2) Du.si))]
      rw [List.map_set]
      rfl
    · have hg : ¬ f.sg = .en := of_decide_eq_false hf
      refine sd_nil ⟨?_, rfl⟩
      rw [duL, if_pos hs]
      cases q : f.sg with
      | en => exact absurd q hg
      | no => rfl
      | te => rfl
    rintro M ρ ⟨rfl, rfl⟩
    refine sd_freeze 1 0 rfl rfl rfl ?_
    exact sd_ret (ed_var hX 1 rfl rfl) rfl

def s_half_right : Stmt := topS 43
theorem sc_half_right : FnScope ["duty", "half"] ["duty", "half"] (defScope s_half_right) := ⟨rfl, rfl, rfl, by decide +kernel, rfl, by decide +kernel, by decide +kernel⟩
def G_half_right (ds : List D) (d : D) : Prop := ∃ (u : Du) (x : Int), ds = [.str (duS u), .int x] ∧ d = .bl (rightB u x)
theorem d_half_right (T : Tops K mg) {f : Addr} {fd : FuncData} (F : Fun K "half_right" "half_right" s_half_right f fd) (hb : Binds K fd ["duty", "half"] []) (hm : mg "half_right" = some (.ref f)) : Dfn P w K mg base "half_right" 1 G_half_right := by
  refine dfn_of F sc_half_right hb hm (fun ds d h => ?_) ?_
  · obtain ⟨u, x, rfl, _⟩ := h; rfl
  rintro X A hX hF hP ds d ⟨u, x, rfl, rfl⟩
  cases u with
  | ah => exact sd_ifT (et_is (et_cmp hX (ed_var hX 0 rfl rfl) ed_str o_eqS) (by decide +kernel)) (sd_ret (ed_cmp hX (ed_var hX 1 rfl rfl) ed_int o_eqI) rfl)
  | fi =>
    refine sd_skip (et_is (et_cmp hX (ed_var hX 0 rfl rfl) ed_str o_eqS) (by decide +kernel)) ?_
    exact sd_ifT (et_is (et_cmp hX (ed_var hX 0 rfl rfl) ed_str o_eqS) (by decide +kernel)) (sd_ret (ed_cmp hX (ed_var hX 1 rfl rfl) ed_int o_lt) rfl)
  | zo =>
    refine sd_skip (et_is (et_cmp hX (ed_var hX 0 rfl rfl) ed_str o_eqS) (by decide +kernel)) ?_
    refine sd_skip (et_is (et_cmp hX (ed_var hX 0 rfl rfl) ed_str o_eqS) (by decide +kernel)) ?_
    exact sd_ifT (et_is (et_cmp hX (ed_var hX 0 rfl rfl) ed_str o_eqS) (by decide +kernel)) (sd_ret (ed_cmp hX (ed_var hX 1 rfl rfl) (ed_glob hX T.ZONE_HALF) o_eqI) rfl)
  | si =>
    refine sd_skip (et_is (et_cmp hX (ed_var hX 0 rfl rfl) ed_str o_eqS) (by decide +kernel)) ?_
    refine sd_skip (et_is (et_cmp hX (ed_var hX 0 rfl rfl) ed_str o_eqS) (by decide +kernel)) ?_
    refine sd_skip (et_is (et_cmp hX (ed_var hX 0 rfl rfl) ed_str o_eqS) (by decide +kernel)) ?_
    exact sd_ret (ed_cmp hX (ed_var hX 1 rfl rfl) ed_int o_gt) rfl

def s_caught : Stmt := topS 44
theorem sc_caught : FnScope ["form", "row", "due", "halves", "place", "half"] ["form", "row"] (defScope s_caught) := ⟨rfl, rfl, rfl, by decide +kernel, rfl, by decide +kernel, by decide +kernel⟩
def G_caught (ds : List D) (d : D) : Prop := ∃ (f : Form) (fs : List Int) (h : Int), Good f fs h ∧ ds = [formD f, rowD (rowW f fs h)] ∧ d = .non
theorem d_caught (T : Tops K mg) (D_duties : Dfn P w K mg base "duties" 2 G_duties) (D_halves_in : Dfn P w K mg base "halves_in" 1 G_halves_in) (D_half_right : Dfn P w K mg base "half_right" 1 G_half_right) {f : Addr} {fd : FuncData} (F : Fun K "caught" "caught" s_caught f fd) (hb : Binds K fd ["form", "row"] []) (hm : mg "caught" = some (.ref f)) : Dfn P w K mg base "caught" 3 G_caught := by
  refine dfn_of F sc_caught hb hm (fun ds d h => ?_) ?_
  · obtain ⟨f, fs, h, _, rfl, _⟩ := h; rfl
  rintro X A hX hF hP ds d ⟨f, fs, h, gd, rfl, rfl⟩
  have hr := rowW_length (h := h) gd.len
  have h24 := hlen_le gd.ok
  refine sd_set hX 2 rfl (ed_call hX D_duties (by decide) (eds_cons (ed_var hX 0 rfl rfl) eds_nil) (⟨f, gd.ok, rfl, rfl⟩)) ?_
  refine sd_set hX 3 rfl (ed_call hX D_halves_in (by decide) (eds_cons (ed_var hX 1 rfl rfl) eds_nil) (⟨_, by omega, rfl, rfl⟩)) ?_
  rw [gd.unpair]
  have hdl := dh_length (h := h) gd.len
  refine sd_forE hX (ei_enum hX T.enumerate (eds_cons (ed_var hX 3 rfl rfl) eds_nil)) (fun _ => []) (fun _ => [some (.sh (formD f)), some (.sh (rowD (rowW f fs h))), some (.sh (.lst ((duL f).map fun u => .str (duS u)))), some (.sh (.lst ((halves f fs h).map .int))), none, none]) ⟨rfl, rfl, rfl, rfl, rfl, trivial⟩ ?_ ?_ hP
  · intro A' le i z hi
    have hlt : i < (halves f fs h).length := by
      have := (List.getElem?_eq_some_iff.mp hi).1
      rwa [enumD_length, List.length_map] at this
    rw [halves_length gd.len] at hlt
    obtain ⟨⟨u, y⟩, hp⟩ : ∃ p, (dh f fs h)[i]? = some p := ⟨_, List.getElem?_eq_getElem (by omega)⟩
    have hu : (duL f)[i]? = some u := by rw [← dh_fst (h := h) gd.len]; exact map_get hp
    have hy : (halves f fs h)[i]? = some y := by rw [← dh_snd]; exact map_get hp
    have hrt := dh_right (f := f) gd.fig gd.h10 _ (List.mem_of_getElem? hp)
    rw [enumD_get (map_get hy)] at hi
    cases hi
    refine ⟨_, _, tg_tup hX (tgs_cons (tg_name hX 4 rfl) (tgs_cons (tg_name hX 5 rfl) tgs_nil)) rfl, ?_⟩
    refine sd_skip (et_is (et_cmp hX (ed_var hX 4 rfl rfl) (ed_callB hX T.len b_len (eds_cons (ed_var hX 2 rfl rfl) eds_nil) c_lenL) o_ge) (by rw [List.length_map, duL_length]; exact decide_eq_false (by omega))) ?_
    refine sd_skip (et_is (et_not (et_val (ed_call hX D_half_right (by decide) (eds_cons (ed_ix hX (ed_var hX 2 rfl rfl) (ed_var hX 4 rfl rfl) (i_lst (atI_nat (map_get hu)))) (eds_cons (ed_var hX 5 rfl rfl) eds_nil)) (⟨u, y, rfl, rfl⟩)))) (by rw [hrt]; rfl)) ?_
    exact sd_nil ⟨rfl, rfl, rfl, rfl, rfl, trivial⟩
  refine sd_skip (et_is (et_cmp hX (ed_callB hX T.len b_len (eds_cons (ed_var hX 3 rfl rfl) eds_nil) c_lenL) (ed_callB hX T.len b_len (eds_cons (ed_var hX 2 rfl rfl) eds_nil) c_lenL) o_lt) (by rw [List.length_map, List.length_map, duL_length, halves_length gd.len]; exact decide_eq_false (by omega))) ?_
  exact sd_ret ed_non rfl

def s_number_of : Stmt := topS 45
theorem sc_number_of : FnScope ["form", "row", "amiss", "due", "halves", "figures", "number", "k"] ["form", "row"] (defScope s_number_of) := ⟨rfl, rfl, rfl, by decide +kernel, rfl, by decide +kernel, by decide +kernel⟩
def G_number_of (ds : List D) (d : D) : Prop := ∃ (f : Form) (fs : List Int) (h : Int), Good f fs h ∧ ds = [formD f, rowD (rowW f fs h)] ∧ d = .int (val f fs h)
theorem d_number_of (T : Tops K mg) (D_caught : Dfn P w K mg base "caught" 3 G_caught) (D_duties : Dfn P w K mg base "duties" 2 G_duties) (D_halves_in : Dfn P w K mg base "halves_in" 1 G_halves_in) (D_number_by : Dfn P w K mg base "number_by" 1 G_number_by) (D_power : Dfn P w K mg base "power" 1 G_power) {f : Addr} {fd : FuncData} (F : Fun K "number_of" "number_of" s_number_of f fd) (hb : Binds K fd ["form", "row"] []) (hm : mg "number_of" = some (.ref f)) : Dfn P w K mg base "number_of" 4 G_number_of := by
  refine dfn_of F sc_number_of hb hm (fun ds d h => ?_) ?_
  · obtain ⟨f, fs, h, _, rfl, _⟩ := h; rfl
  rintro X A hX hF hP ds d ⟨f, fs, h, gd, rfl, rfl⟩
  have h1 := gd.ok.n1
  have h2 := gd.ok.n12
  have hr := rowW_length (h := h) gd.len
  have h24 := hlen_le gd.ok
  have hdl := dh_length (h := h) gd.len
  refine sd_set hX 2 rfl (ed_call hX D_caught (by decide) (eds_cons (ed_var hX 0 rfl rfl) (eds_cons (ed_var hX 1 rfl rfl) eds_nil)) (⟨f, fs, h, gd, rfl, rfl⟩)) ?_
  refine sd_skip (et_is (et_cmp hX (ed_var hX 2 rfl rfl) ed_non o_notN) rfl) ?_
  refine sd_set hX 3 rfl (ed_call hX D_duties (by decide) (eds_cons (ed_var hX 0 rfl rfl) eds_nil) (⟨f, gd.ok, rfl, rfl⟩)) ?_
  refine sd_set hX 4 rfl (ed_call hX D_halves_in (by decide) (eds_cons (ed_var hX 1 rfl rfl) eds_nil) (⟨_, by omega, rfl, rfl⟩)) ?_
  rw [gd.unpair]
  refine sd_setLc hX  [("k", 7)] 5 rfl (ei_rng1 hX T.range (eds_cons (ed_callB hX T.len b_len (eds_cons (ed_var hX 3 rfl rfl) eds_nil) c_lenL) eds_nil) (by omega) (by rw [List.length_map, duL_length]; omega)) (blkOk_by (by decide +kernel)) [7] (fun d => [some (.sh (formD f)), some (.sh (rowD (rowW f fs h))), some (.sh .non), some (.sh (.lst ((duL f).map fun u => .str (duS u)))), some (.sh (.lst ((halves f fs h).map .int))), none, none, some (.sh d)]) (fun d => match d with | .int j => ((dh f fs h)[j.toNat]?).bind fun p => (figOf p).map .int | _ => none) (by rw [rngD_length, List.length_map, duL_length]; omega) (fun X' hX' d hd => ?_) ?_ rfl (sw_true (by rw [hX.eS]; rfl) (by rw [hX.eS]; rfl) rfl (by decide +kernel))
  · obtain ⟨i, hi, rfl⟩ := rng_mem hd
    rw [Int.toNat_natCast, List.length_map, duL_length] at hi
    rw [show (0 : Int) + (i : Nat) * 1 = (i : Nat) by omega]
    obtain ⟨⟨u, y⟩, hp⟩ : ∃ p, (dh f fs h)[i]? = some p := ⟨_, List.getElem?_eq_getElem (by omega)⟩
    have hu : (duL f)[i]? = some u := by rw [← dh_fst (h := h) gd.len]; exact map_get hp
    have hy : (halves f fs h)[i]? = some y := by rw [← dh_snd]; exact map_get hp
    refine ⟨tg_nameL hX' 7 rfl, fun z hz => ?_, ?_⟩
    · dsimp only at hz
      rw [Int.toNat_natCast, hp] at hz
      have hz' : (figOf (u, y)).map D.int = some z := hz
      have : D.int y = z := by
        unfold figOf at hz'
        by_cases e : u = .fi
        · simp only [e, if_true, Option.map_some, Option.some.injEq] at hz'; exact hz'
        · simp [e] at hz'
      rw [← this]
      exact ed_ix hX' (ed_var hX' 4 rfl rfl) (ed_var hX' 7 rfl rfl) (i_lst (atI_nat (map_get hy)))
    · refine et_is (et_cmp hX' (ed_ix hX' (ed_var hX' 3 rfl rfl) (ed_var hX' 7 rfl rfl) (i_lst (atI_nat (map_get hu)))) ed_str o_eqS) ?_
      dsimp only
      rw [Int.toNat_natCast, hp]
      show decide (duS u = "figure") = ((figOf (u, y)).map D.int).isSome
      rw [duS_fi]
      unfold figOf
      by_cases e : u = .fi
      · simp [e]
      · simp [e]
  have efm : (rngD 0 1 ((((duL f).map fun u => D.str (duS u)).length : Nat) : Int).toNat).filterMap (fun d => match d with | .int j => ((dh f fs h)[j.toNat]?).bind fun p => (figOf p).map D.int | _ => none) = fs.map .int := by
    rw [Int.toNat_natCast, List.length_map, duL_length, rng_fm, ← hdl]
    have : (List.range (dh f fs h).length).filterMap (fun i => ((dh f fs h)[((i : Nat) : Int).toNat]?).bind fun p => (figOf p).map D.int) = (List.range (dh f fs h).length).filterMap (fun i => ((dh f fs h)[i]?).bind fun p => (figOf p).map D.int) := by
      congr 1
    refine Eq.trans this ?_
    rw [range_fm]
    conv => rhs; rw [← dh_fig f fs h, List.map_filterMap]
  rw [efm]
  refine sd_set hX 6 rfl (ed_call hX D_number_by (by decide) (eds_cons ed_int (eds_cons (ed_var hX 5 rfl rfl) eds_nil)) (⟨fs, by rw [gd.len]; exact h2, gd.fig, rfl, rfl⟩)) ?_
  by_cases hg : f.sg = .en
  · obtain ⟨q1, q2⟩ := dh_sign (h := h) hg gd.len h1
    have hu : (duL f)[signAt f]? = some .si := by rw [← dh_fst (h := h) gd.len]; exact map_get q1
    have hy : (halves f fs h)[signAt f]? = some h := by rw [← dh_snd]; exact map_get q1
    refine sd_if (et_w (ew_and (et_cmp hX (ed_ix hX (ed_var hX 0 rfl rfl) ed_int (i_tup rfl)) ed_str o_eqS) (fun _ => (ew_and1 (et_cmp hX (ed_ix hX (ed_var hX 4 rfl rfl) (ed_is (ed_lindex (n := signAt f) ((duL f).map duS) (ed_is (ed_var hX 3 rfl rfl) (by rw [List.map_map]; rfl)) ed_str (map_get hu) ?_) rfl) (i_lst (atI_nat (map_get hy)))) (ed_glob hX T.MINUS_HALVES) (o_inTI _)))))) (fun ht => ?_) (fun hf => ?_)
    · intro m hm hz
      obtain ⟨u, hu', e⟩ := map_get' hz
      rw [← dh_fst (h := h) gd.len] at hu'
      obtain ⟨p, hp, ep⟩ := map_get' hu'
      have := q2 m hm p hp
      rw [← ep] at this
      have hsi : decide (duS u = "sign") = true := decide_eq_true e.symm
      rw [duS_si] at hsi
      exact this (of_decide_eq_true hsi)
    · rw [Bool.and_eq_true] at ht
      have hh : h ∈ ([11, 13] : List Int) := of_decide_eq_true ht.2
      refine sd_ret (ed_un hX (ed_var hX 6 rfl rfl) u_neg) ?_
      show D.int _ = D.int _
      rw [val, hg]
      simp only [List.mem_cons, List.not_mem_nil, or_false] at hh
      show _ = D.int (if h = 11 ∨ h = 13 then - nby fs else nby fs)
      rw [if_pos hh]
    · have h3 : decide (signS f.sg = "end") = true := by rw [sg_en]; exact decide_eq_true hg
      rw [h3, Bool.true_and] at hf
      have hh : ¬ h ∈ ([11, 13] : List Int) := of_decide_eq_false hf
      refine sd_nil (sd_skip (et_is (et_w (ew_and (t := false) (u := false) (et_is (et_cmp hX (ed_ix hX (ed_var hX 0 rfl rfl) ed_int (i_tup rfl)) ed_str o_eqS) (by rw [sg_te, hg]; rfl)) (fun z => nomatch z))) rfl) ?_)
      refine sd_ret (ed_var hX 6 rfl rfl) ?_
      show D.int _ = D.int _
      rw [val, hg]
      simp only [List.mem_cons, List.not_mem_nil, or_false] at hh
      show _ = D.int (if h = 11 ∨ h = 13 then - nby fs else nby fs)
      rw [if_neg hh]
  · refine sd_skip (et_is (et_w (ew_and (t := false) (u := false) (et_is (et_cmp hX (ed_ix hX (ed_var hX 0 rfl rfl) ed_int (i_tup rfl)) ed_str o_eqS) (by rw [sg_en]; exact decide_eq_false hg)) (fun z => nomatch z))) rfl) ?_
    have h0 : fs[0]? = some (fs.getD 0 0) := by rw [List.getD_eq_getElem?_getD, List.getElem?_eq_getElem (by rw [gd.len]; omega)]; rfl
    refine sd_if (et_w (ew_and (et_is (et_cmp hX (ed_ix hX (ed_var hX 0 rfl rfl) ed_int (i_tup rfl)) ed_str o_eqS) (sg_te _)) (fun _ => (ew_and1 (et_cmp hX (ed_ix hX (ed_var hX 5 rfl rfl) ed_int (i_lst (atI_nat (i := 0) (map_get h0)))) ed_int o_gt))))) (fun ht => ?_) (fun hf => ?_)
    · rw [Bool.and_eq_true] at ht
      have hg2 : f.sg = .te := of_decide_eq_true ht.1
      have h4 : 4 < fs.getD 0 0 := of_decide_eq_true ht.2
      refine sd_ret (ed_bin hX (ed_var hX 6 rfl rfl) (ed_call hX D_power (by decide) (eds_cons ed_int (eds_cons (ed_ix hX (ed_var hX 0 rfl rfl) ed_int (i_tup rfl)) eds_nil)) (⟨f.n, by omega, rfl, rfl⟩)) o_sub) ?_
      show D.int _ = D.int _
      rw [val, hg2]
      show _ = D.int (if 4 < fs.getD 0 0 then _ else _)
      rw [if_pos h4]
    · refine sd_nil (sd_ret (ed_var hX 6 rfl rfl) ?_)
      show D.int _ = D.int _
      rw [val]
      cases q : f.sg with
      | en => exact absurd q hg
      | no => rfl
      | te =>
        rw [q] at hf
        have h4 : ¬ 4 < fs.getD 0 0 := of_decide_eq_false (by simpa using hf)
        show _ = D.int (if 4 < fs.getD 0 0 then _ else _)
        rw [if_neg h4]
end
end Tl
set_option maxHeartbeats 200000
/-! M4: the mirror: texts. -/
namespace Tl
open PySem L2 T3 TL
abbrev spS : Str := " "
def numS (n : Nat) : Str := Str.ofString (toString ((n : Nat) : Int))
def dig (i : Nat) : Nat := if i < 10 then 48 + i else 55 + i
def hexB (b : Int) : Str := (⟨#[dig (b / 16).toNat]⟩ : Str) ++ (⟨#[dig (b % 16).toNat]⟩ : Str)
abbrev hx16 : Str := "0123456789ABCDEF"
theorem hx_get : ∀ i, i < 16 → hx16.cps.toList[i]? = some (dig i) := by decide +kernel
theorem hx_index : ∀ i, i < 16 → Txt.index0 hx16 (⟨#[dig i]⟩ : Str) = some i := by decide +kernel
theorem hx_mem : ∀ i, i < 16 → decide (dig i ∈ hx16.cps.toList) = true := by decide +kernel
theorem dig_ne : ∀ i, i < 16 → dig i ≠ 32 := by decide
structure Byte (b : Int) : Prop where
  lo : 0 ≤ b
  hi : b ≤ 255
theorem hexB_length (b : Int) : (hexB b).length = 2 := rfl
theorem tl_hexB (b : Int) : tl (hexB b) = [dig (b / 16).toNat, dig (b % 16).toNat] := rfl
theorem hexB_free {b : Int} (h : Byte b) : 32 ∉ tl (hexB b) := by
  have h1 := h.lo
  have h2 := h.hi
  rw [tl_hexB]
  simp only [List.mem_cons, List.not_mem_nil, or_false, not_or]
  exact ⟨(dig_ne _ (by omega)).symm, (dig_ne _ (by omega)).symm⟩
def hexT (r : List Int) : Str := Txt.join spS (r.map hexB)
theorem tl_sp : tl spS = 32 :: [] := by decide +kernel
theorem sp_kind : spS.cps.all (· < 256) = true := by decide +kernel
theorem split_words {ws : List Str} (h0 : ws ≠ []) (h : ∀ x ∈ ws, 32 ∉ tl x) : Txt.split (Txt.join spS ws) spS = ws := split_join tl_sp sp_kind h0 h
theorem join_sum (x : Str) (l : List Str) (m : Nat) (h : ∀ y ∈ l, y.length ≤ m) : (l.map (·.length)).sum + l.length * x.length ≤ l.length * (m + x.length) := by
  have : (l.map (·.length)).sum ≤ l.length * m := by
    induction l with
    | nil => simp
    | cons a r ih =>
      have h1 := h a (by simp)
      have h2 := ih fun y hy => h y (List.mem_cons_of_mem _ hy)
      simp only [List.map_cons, List.sum_cons, List.length_cons, Nat.add_mul, Nat.one_mul]
      omega
  rw [Nat.mul_add]
  omega
theorem join_le (x : Str) (l : List Str) (m : Nat) (h : ∀ y ∈ l, y.length ≤ m) : (Txt.join x l).length ≤ l.length * (m + x.length) := by
  rw [join_eq]
  exact Nat.le_trans (StrLaws.join_length_le x l) (join_sum x l m h)
/-- names -/
structure NameOk (x : Str) : Prop where
  l1 : 1 ≤ x.length
  l12 : x.length ≤ 12
  az : ∀ c ∈ tl x, 97 ≤ c ∧ c ≤ 122
theorem NameOk.free {x : Str} (h : NameOk x) : 32 ∉ tl x := fun z => by have := h.az 32 z; omega
theorem az_mem : ∀ c, c < 123 → 97 ≤ c → decide (c ∈ ("abcdefghijklmnopqrstuvwxyz" : Str).cps.toList) = true := by decide +kernel
theorem numS_facts : ∀ n, n ≤ 12 → (numS n).length ≤ 2 ∧ ((numS n).length == 0) = false ∧ ((tl (numS n)).all fun c => decide (c ∈ ("0123456789" : Str).cps.toList)) = true ∧ PySem.intText? (numS n) = some (n : Int) ∧ 32 ∉ tl (numS n) ∧
    (((tl (numS n))[0]? = some 48) → numS n = "0") := by decide +kernel
theorem kindS_facts : ∀ b, (kindS b).length ≤ 6 ∧ 32 ∉ tl (kindS b) := by decide +kernel
theorem signS_facts : ∀ s : Sg, (signS s).length ≤ 4 ∧ 32 ∉ tl (signS s)
  | .no => by decide +kernel
  | .en => by decide +kernel
  | .te => by decide +kernel
theorem len_tl (x : Str) : (tl x).length = x.length := by simp [tl, Str.length]
theorem tl_inj {x y : Str} (h : tl x = tl y) : x = y := by
  cases x; cases y
  simp only [tl] at h
  congr
  exact Array.toList_inj.mp h
def shapeW (f : Form) : List Str := [kindS f.sp, numS f.n, signS f.sg, numS f.pt]
/-- how a number stands -/
def wa (f : Form) (x : Int) : Str := Txt.zfill (Str.ofString (toString (if x < 0 then -x else x))) ((f.pt : Int) + 1)
def wb (f : Form) (x : Int) : Str := if (0 : Int) < f.pt then cutS (wa f x) none (some (-(f.pt : Int))) ++ "." ++ cutS (wa f x) (some (-(f.pt : Int))) none else wa f x
def writ (f : Form) (x : Int) : Str := if x < 0 then "-" ++ wb f x else wb f x
theorem app_len (x y : Str) : (x ++ y).length = x.length + y.length := by
  show (x.cps ++ y.cps).size = _
  rw [Array.size_append]; rfl
theorem log_of {x : Int} {n : Nat} (h : x.natAbs < 10 ^ n) (hn : n ≤ 18) : x.natAbs.log2 < 1920 := by
  have h1 : x.natAbs < 2 ^ 64 := Nat.lt_of_lt_of_le h (Nat.le_trans (Nat.pow_le_pow_right (by decide) hn) (by decide))
  by_cases h0 : x.natAbs = 0
  · rw [h0]; decide
  · exact Nat.lt_of_lt_of_le ((Nat.log2_lt h0).mpr h1) (by decide)
theorem fits_abs {f : Form} {x : Int} (ok : f.Ok) (h : fitsB f x = true) : (if x < 0 then -x else x).natAbs < 10 ^ 12 := by
  have h12 := ok.n12
  have h1 := ok.n1
  unfold fitsB at h
  rw [Bool.and_eq_true] at h
  have a1 := of_decide_eq_true h.1
  have a2 := of_decide_eq_true h.2
  have t1 : (10 : Int) ^ f.n ≤ 10 ^ 12 := ten_le h12
  have t2 : (10 : Int) ^ (f.n - 1) ≤ 10 ^ 11 := ten_le (by omega)
  have t0 := ten_pos f.n
  have t3 := ten_pos (f.n - 1)
  have e12 : (10 : Int) ^ 12 = 1000000000000 := by decide
  have e11 : (10 : Int) ^ 11 = 100000000000 := by decide
  have e12' : (10 : Nat) ^ 12 = 1000000000000 := by decide
  unfold least at a1
  unfold most at a2
  cases q : f.sg with
  | no => rw [q] at a1 a2; simp only at a1 a2; split <;> omega
  | en => rw [q] at a1 a2; simp only at a1 a2; split <;> omega
  | te => rw [q] at a1 a2; simp only at a1 a2; split <;> omega
theorem wa_len {f : Form} {x : Int} (ok : f.Ok) (h : fitsB f x = true) : (wa f x).length ≤ 2000 := by
  have h1 := PyProof.Rows.int_text_len_1921 (log_of (fits_abs ok h) (by decide))
  have h2 := PyProof.Rows.len_zfill (Str.ofString (toString (if x < 0 then -x else x))) ((f.pt : Int) + 1)
  have h3 := ok.pt
  have h4 := ok.n12
  unfold wa
  generalize Str.ofString (toString (if x < 0 then -x else x)) = u at *
  split at h2 <;> omega
theorem wb_len {f : Form} {x : Int} (ok : f.Ok) (h : fitsB f x = true) : (wb f x).length ≤ 5000 := by
  have h1 := wa_len ok h
  have h2 := cutS_length (wa f x) none (some (-(f.pt : Int)))
  have h3 := cutS_length (wa f x) (some (-(f.pt : Int))) none
  unfold wb
  split
  · rw [app_len, app_len]
    have : ("." : Str).length = 1 := by decide +kernel
    omega
  · omega
theorem writ_len {f : Form} {x : Int} (ok : f.Ok) (h : fitsB f x = true) : (writ f x).length ≤ 5001 := by
  have h1 := wb_len ok h
  unfold writ
  split
  · rw [app_len]
    have : ("-" : Str).length = 1 := by decide +kernel
    omega
  · omega
theorem pad_ok : ∀ n : Nat, n ≤ 12 → PadOk ((n : Int) + 1) = true := by decide +kernel
theorem dig_inj : ∀ i, i < 16 → ∀ j, j < 16 → dig i = dig j → i = j := by decide
theorem hexB_inj {a b : Int} (ha : Byte a) (hb : Byte b) (h : hexB a = hexB b) : a = b := by
  have h1 := ha.lo
  have h2 := ha.hi
  have h3 := hb.lo
  have h4 := hb.hi
  have e := congrArg tl h
  rw [tl_hexB, tl_hexB] at e
  simp only [List.cons.injEq, and_true] at e
  have e1 := dig_inj _ (by omega) _ (by omega) e.1
  have e2 := dig_inj _ (by omega) _ (by omega) e.2
  omega
theorem fold_fits {f : Form} (ok : f.Ok) (x : Int) : fitsB f (fold f x) = true := by
  have h1 := ok.n1
  have tp := ten_pos f.n
  unfold fitsB
  rw [Bool.and_eq_true]
  suffices least f ≤ fold f x ∧ fold f x ≤ most f from ⟨decide_eq_true this.1, decide_eq_true this.2⟩
  have m1 := Int.emod_nonneg x (Int.ne_of_gt tp)
  have m2 := Int.emod_lt_of_pos x tp
  have m3 := Int.emod_nonneg (-x) (Int.ne_of_gt tp)
  have m4 := Int.emod_lt_of_pos (-x) tp
  have e : (10 : Int) ^ f.n = 10 * 10 ^ (f.n - 1) := by
    conv => lhs; rw [show f.n = (f.n - 1) + 1 by omega, Int.pow_succ]
    omega
  unfold least most fold
  cases q : f.sg with
  | no => simp only; omega
  | en => simp only; split <;> omega
  | te =>
    simp only
    have m5 := Int.emod_nonneg (x - least f) (Int.ne_of_gt tp)
    have m6 := Int.emod_lt_of_pos (x - least f) tp
    have l : least f = -5 * 10 ^ (f.n - 1) := by unfold least; rw [q]
    rw [l] at m5 m6 ⊢
    omega
theorem sgn_get {x : Str} {i : Nat} {z : D} (h : (sgnD x)[i]? = some z) : ∃ c, (tl x)[i]? = some c ∧ z = .str ⟨#[c]⟩ := map_get' h
theorem all_map {α : Type} (p : α → Bool) (l : List α) : (l.map p).all id = l.all p := by
  rw [List.all_map]; rfl
end Tl
set_option maxHeartbeats 1000000
/-! P4: texts. -/
namespace Tl
open PySem L2 T3 TL
local macro_rules | `(tactic| walk_at "len") => `(tactic| first | decide | (simp; done) | omega | (simp; omega))
section
variable {X : Cx} {N : List Str} {sc : Scope} {P : Program} {w : World} {K : PySem.W.Frag} {mg : Str → Option Value} {base : Heap} {k : Nat}
variable {A : Anc} {M : List Cell} {ρ : Env3}
def s_written : Stmt := topS 56
theorem sc_written : FnScope ["form", "number", "figures"] ["form", "number"] (defScope s_written) := ⟨rfl, rfl, rfl, by decide +kernel, rfl, by decide +kernel, by decide +kernel⟩
def G_written (ds : List D) (d : D) : Prop := ∃ (f : Form) (x : Int), f.Ok ∧ fitsB f x = true ∧ ds = [formD f, .int x] ∧ d = .str (writ f x)
theorem d_written (T : Tops K mg) (D_fits : Dfn P w K mg base "fits" 3 G_fits) {f : Addr} {fd : FuncData} (F : Fun K "written" "written" s_written f fd) (hb : Binds K fd ["form", "number"] []) (hm : mg "written" = some (.ref f)) : Dfn P w K mg base "written" 4 G_written := by
  refine dfn_of F sc_written hb hm (fun ds d h => ?_) ?_
  · obtain ⟨f, x, _, _, rfl, _⟩ := h; rfl
  rintro X A hX hF hP ds d ⟨f, x, ok, hfit, rfl, rfl⟩
  have hab := fits_abs ok hfit
  have hwa := wa_len ok hfit
  have hwb := wb_len ok hfit
  have hpt := ok.pt
  have h12 := ok.n12
  refine sd_skip (et_is (et_not (et_val (ed_call hX D_fits (by decide) (eds_cons (ed_var hX 0 rfl rfl) (eds_cons (ed_var hX 1 rfl rfl) eds_nil)) (⟨f, x, ok, rfl, rfl⟩)))) (by rw [hfit]; rfl)) ?_
  refine sd_set hX 2 rfl (d := .str (wa f x)) (ed_zfill (ed_callTy hX T.str b_str (eds_cons (ed_callB hX T.abs b_abs (eds_cons (ed_var hX 1 rfl rfl) eds_nil) c_abs) eds_nil) (c_str (log_of hab (by decide)))) (ed_bin hX (ed_ix hX (ed_var hX 0 rfl rfl) ed_int (i_tup rfl)) ed_int o_add) (pad_ok _ (by omega))) ?_
  refine sd_join (fun M ρ => M = [] ∧ ρ = [some (.sh (formD f)), some (.sh (.int x)), some (.sh (.str (wb f x)))]) (et_cmp hX (ed_ix hX (ed_var hX 0 rfl rfl) ed_int (i_tup rfl)) ed_int o_gt) (fun ht => ?_) (fun hf => ?_) ?_
  · have h0 : (0 : Int) < f.pt := of_decide_eq_true ht
    refine sd_set hX 2 rfl (ed_bin hX (ed_bin hX (ed_slice hX (ed_var hX 2 rfl rfl) eo_none (eo_some (ed_un hX (ed_ix hX (ed_var hX 0 rfl rfl) ed_int (i_tup rfl)) u_neg)) (l_str (by omega))) ed_str (o_addS ?_)) (ed_slice hX (ed_var hX 2 rfl rfl) (eo_some (ed_un hX (ed_ix hX (ed_var hX 0 rfl rfl) ed_int (i_tup rfl)) u_neg)) eo_none (l_str (by omega))) (o_addS ?_)) (sd_nil ⟨rfl, ?_⟩)
    · have h2 := cutS_length (wa f x) none (some (-(f.pt : Int)))
      have : ("." : Str).length = 1 := by decide +kernel
      omega
    · have h2 := cutS_length (wa f x) none (some (-(f.pt : Int)))
      have h3 := cutS_length (wa f x) (some (-(f.pt : Int))) none
      have : ("." : Str).length = 1 := by decide +kernel
      rw [app_len]
      omega
    · rw [wb, if_pos h0]; rfl
  · have h0 : ¬ (0 : Int) < f.pt := of_decide_eq_false hf
    exact sd_nil ⟨rfl, by rw [wb, if_neg h0]; rfl⟩
  rintro M ρ ⟨rfl, rfl⟩
  refine sd_if (et_cmp hX (ed_var hX 1 rfl rfl) ed_int o_lt) (fun ht => ?_) (fun hf => ?_)
  · have h0 : x < 0 := of_decide_eq_true ht
    refine sd_ret (ed_bin hX ed_str (ed_var hX 2 rfl rfl) (o_addS ?_)) ?_
    · have : ("-" : Str).length = 1 := by decide +kernel
      omega
    · show D.str _ = D.str _
      rw [writ, if_pos h0]
  · have h0 : ¬ x < 0 := of_decide_eq_false hf
    refine sd_nil (sd_ret (ed_var hX 2 rfl rfl) ?_)
    show D.str _ = D.str _
    rw [writ, if_neg h0]

def s_hexed : Stmt := topS 61
theorem sc_hexed : FnScope ["row", "byte"] ["row"] (defScope s_hexed) := ⟨rfl, rfl, rfl, by decide +kernel, rfl, by decide +kernel, by decide +kernel⟩
def G_hexed (ds : List D) (d : D) : Prop := ∃ r : List Int, r.length ≤ 12 ∧ (∀ b ∈ r, Byte b) ∧ ds = [rowD r] ∧ d = .str (hexT r)
theorem d_hexed (T : Tops K mg) {f : Addr} {fd : FuncData} (F : Fun K "hexed" "hexed" s_hexed f fd) (hb : Binds K fd ["row"] []) (hm : mg "hexed" = some (.ref f)) : Dfn P w K mg base "hexed" 1 G_hexed := by
  refine dfn_of F sc_hexed hb hm (fun ds d h => ?_) ?_
  · obtain ⟨r, _, _, rfl, _⟩ := h; rfl
  rintro X A hX hF hP ds d ⟨r, hl, hb8, rfl, rfl⟩
  have h16 : hx16.length = 16 := by decide +kernel
  refine sd_ret (ed_join (ys := r.map hexB) ed_str (ed_is (ed_lc hX [("byte", 1)] (ei_tup hX (ed_var hX 0 rfl rfl)) (blkOk_by (by decide +kernel)) [1] (fun d => [some (.sh (rowD r)), some (.sh d)]) (fun d => match d with | .int b => some (.str (hexB b)) | _ => none) (by simp; omega) (fun X' hX' d hd => ?_)) ?_) ?_) rfl
  · obtain ⟨b, hb', rfl⟩ := List.mem_map.mp hd
    have q := hb8 b hb'
    have q1 := q.lo
    have q2 := q.hi
    refine ⟨tg_nameL hX' 1 rfl, fun z hz => ?_, rfl⟩
    cases hz
    have e1 : b / 16 = ((b / 16).toNat : Int) := by omega
    have e2 : b % 16 = ((b % 16).toNat : Int) := by omega
    refine ed_bin hX' (ed_ix hX' (ed_glob hX' T.SIGNS_OF_HALVES) (ed_bin hX' (ed_var hX' 1 rfl rfl) ed_int (o_div (divOk (by decide) (by decide)))) (i_str (c := dig (b / 16).toNat) (by rw [h16]; decide) ?_)) (ed_ix hX' (ed_glob hX' T.SIGNS_OF_HALVES) (ed_bin hX' (ed_var hX' 1 rfl rfl) ed_int (o_mod (by decide))) (i_str (c := dig (b % 16).toNat) (by rw [h16]; decide) ?_)) (o_addS (show 1 + 1 ≤ 100000 by decide))
    · rw [e1]; exact atI_nat (hx_get _ (by omega))
    · rw [e2]; exact atI_nat (hx_get _ (by omega))
  · rw [List.filterMap_map, List.map_map]
    congr 1
    exact fm_some fun b _ => rfl
  · have := join_sum spS (r.map hexB) 2 (fun y hy => by obtain ⟨b, _, rfl⟩ := List.mem_map.mp hy; exact Nat.le_of_eq (hexB_length b))
    have e : spS.length = 1 := by decide +kernel
    refine Nat.le_trans this ?_
    rw [e, List.length_map]
    omega

def s_byte_told : Stmt := topS 62
theorem sc_byte_told : FnScope ["word", "sign"] ["word"] (defScope s_byte_told) := ⟨rfl, rfl, rfl, by decide +kernel, rfl, by decide +kernel, by decide +kernel⟩
def G_byte_told (ds : List D) (d : D) : Prop := ∃ b : Int, Byte b ∧ ds = [.str (hexB b)] ∧ d = .int b
theorem d_byte_told (T : Tops K mg) {f : Addr} {fd : FuncData} (F : Fun K "byte_told" "byte_told" s_byte_told f fd) (hb : Binds K fd ["word"] []) (hm : mg "byte_told" = some (.ref f)) : Dfn P w K mg base "byte_told" 1 G_byte_told := by
  refine dfn_of F sc_byte_told hb hm (fun ds d h => ?_) ?_
  · obtain ⟨b, _, rfl, _⟩ := h; rfl
  rintro X A hX hF hP ds d ⟨b, q, rfl, rfl⟩
  have q1 := q.lo
  have q2 := q.hi
  have h16 : hx16.length = 16 := by decide +kernel
  have m1 := hx_mem (b / 16).toNat (by omega)
  have m2 := hx_mem (b % 16).toNat (by omega)
  refine sd_skip (et_is (et_w (ew_or (et_cmp hX (ed_callB hX T.len b_len (eds_cons (ed_var hX 0 rfl rfl) eds_nil) (c_lenS ((show 2 ≤ 100000 by decide)))) ed_int o_neI) (fun _ => ew_or1 (et_not (et_val (ed_callB hX T.all b_all (eds_cons (ed_is (ed_lc hX [("sign", 1)] (ei_str (ed_var hX 0 rfl rfl)) (blkOk_by (by decide +kernel)) [1] (fun d => [some (.sh (.str (hexB b))), some (.sh d)]) (fun d => match d with | .str c => some (.bl (decide (c.cps.toList.getD 0 0 ∈ hx16.cps.toList))) | _ => none) (by simp [sgnD]; exact Nat.le_trans (Nat.le_of_eq rfl : (hexB b).cps.size ≤ 2) (by decide)) (fun X' hX' d hd => ?_)) (d' := .lst (([true, true] : List Bool).map .bl)) ?_) eds_nil) c_all)))))) ?_) ?_
  · obtain ⟨i, hi⟩ := List.getElem?_of_mem hd
    obtain ⟨c, hc, rfl⟩ := sgn_get hi
    refine ⟨tg_nameL hX' 1 rfl, fun z hz => ?_, rfl⟩
    cases hz
    exact ed_cmp hX' (ed_var hX' 1 rfl rfl) (ed_glob hX' T.SIGNS_OF_HALVES) o_inSign
  · show D.lst [D.bl (decide (dig (b / 16).toNat ∈ hx16.cps.toList)), D.bl (decide (dig (b % 16).toNat ∈ hx16.cps.toList))] = _
    rw [m1, m2]; rfl
  · rw [show ((hexB b).length : Int) = 2 from rfl]; rfl
  refine sd_ret (ed_bin hX (ed_bin hX ed_int (ed_sindex (n := (b / 16).toNat) hX (ed_glob hX T.SIGNS_OF_HALVES) (ed_ix hX (ed_var hX 0 rfl rfl) ed_int (i_str (c := dig (b / 16).toNat) (show 2 ≤ 100000 by decide) rfl)) (hx_index _ (by omega))) (o_mul (mulOk (by decide) (by omega)))) (ed_sindex (n := (b % 16).toNat) hX (ed_glob hX T.SIGNS_OF_HALVES) (ed_ix hX (ed_var hX 0 rfl rfl) ed_int (i_str (c := dig (b % 16).toNat) (show 2 ≤ 100000 by decide) rfl)) (hx_index _ (by omega))) o_add) ?_
  show D.int _ = D.int _
  congr 1
  omega

def s_unhexed : Stmt := topS 63
theorem sc_unhexed : FnScope ["text", "word"] ["text"] (defScope s_unhexed) := ⟨rfl, rfl, rfl, by decide +kernel, rfl, by decide +kernel, by decide +kernel⟩
def G_unhexed (ds : List D) (d : D) : Prop := ∃ r : List Int, r.length ≤ 12 ∧ r ≠ [] ∧ (∀ b ∈ r, Byte b) ∧ ds = [.str (hexT r)] ∧ d = rowD r
theorem d_unhexed (T : Tops K mg) (D_byte_told : Dfn P w K mg base "byte_told" 1 G_byte_told) {f : Addr} {fd : FuncData} (F : Fun K "unhexed" "unhexed" s_unhexed f fd) (hb : Binds K fd ["text"] []) (hm : mg "unhexed" = some (.ref f)) : Dfn P w K mg base "unhexed" 2 G_unhexed := by
  refine dfn_of F sc_unhexed hb hm (fun ds d h => ?_) ?_
  · obtain ⟨r, _, _, _, rfl, _⟩ := h; rfl
  rintro X A hX hF hP ds d ⟨r, hl, hne, hb8, rfl, rfl⟩
  have hlen : (hexT r).length ≤ 100 := by
    have := join_le spS (r.map hexB) 2 (fun y hy => by obtain ⟨b, _, rfl⟩ := List.mem_map.mp hy; exact Nat.le_of_eq (hexB_length b))
    have e : spS.length = 1 := by decide +kernel
    rw [e, List.length_map] at this
    unfold hexT
    omega
  have hsp : Txt.split (hexT r) spS = r.map hexB := split_words (fun z => hne (List.map_eq_nil_iff.mp z)) fun y hy => by
    obtain ⟨b, hb', rfl⟩ := List.mem_map.mp hy
    exact hexB_free (hb8 b hb')
  have hne' : hexT r ≠ "" := fun z => by
    rw [z] at hsp
    have h2 : (Txt.split ("" : Str) spS) = [("" : Str)] := by decide +kernel
    rw [h2] at hsp
    cases r with
    | nil => exact hne rfl
    | cons b r =>
      simp only [List.map_cons, List.cons.injEq] at hsp
      have := congrArg Str.length hsp.1
      rw [hexB_length] at this
      exact absurd this (by decide +kernel)
  refine sd_skip (et_is (et_cmp hX (ed_var hX 0 rfl rfl) ed_str o_eqS) (decide_eq_false hne')) ?_
  refine sd_ret (ed_callTy hX T.tuple b_tuple (eds_cons (ed_lc hX [("word", 1)] (ei_lst hX (ed_split (ed_var hX 0 rfl rfl) ed_str (by decide +kernel) (by omega))) (blkOk_by (by decide +kernel)) [1] (fun d => [some (.sh (.str (hexT r))), some (.sh d)]) (fun d => match d with | .str x => (r.find? fun b => decide (hexB b = x)).map .int | _ => none) (by rw [hsp]; simp; omega) (fun X' hX' d hd => ?_)) eds_nil) c_tuple) ?_
  · rw [hsp, List.map_map] at hd
    obtain ⟨b, hb', rfl⟩ := List.mem_map.mp hd
    obtain ⟨b2, e2, m2, e3⟩ : ∃ b2, (r.find? fun b' => decide (hexB b' = hexB b)) = some b2 ∧ b2 ∈ r ∧ hexB b2 = hexB b := by
      cases q : r.find? fun b' => decide (hexB b' = hexB b) with
      | none => exact absurd (decide_eq_true rfl) (List.find?_eq_none.mp q b hb')
      | some b2 => exact ⟨b2, rfl, List.mem_of_find?_eq_some q, of_decide_eq_true (List.find?_some (p := fun b' => decide (hexB b' = hexB b)) q)⟩
    refine ⟨tg_nameL hX' 1 rfl, fun z hz => ?_, ?_⟩
    · have hz' : ((r.find? fun b' => decide (hexB b' = hexB b)).map D.int) = some z := hz
      rw [e2] at hz'
      cases hz'
      exact ed_call hX' D_byte_told (by decide) (eds_cons (ed_var hX' 1 rfl rfl) eds_nil) ⟨b2, hb8 b2 m2, by rw [e3]; rfl, rfl⟩
    · show ((r.find? fun b' => decide (hexB b' = hexB b)).map D.int).isSome = true
      rw [e2]; rfl
  · show D.tup _ = D.tup _
    rw [hsp, List.map_map, List.filterMap_map]
    congr 1
    refine fm_some fun b hb' => ?_
    show ((r.find? fun b' => decide (hexB b' = hexB b)).map D.int) = some (.int b)
    cases q : r.find? fun b' => decide (hexB b' = hexB b) with
    | none => exact absurd (decide_eq_true rfl) (List.find?_eq_none.mp q b hb')
    | some b2 =>
      have e3 := hexB_inj (hb8 b2 (List.mem_of_find?_eq_some q)) (hb8 b hb') (of_decide_eq_true (List.find?_some (p := fun b' => decide (hexB b' = hexB b)) q))
      rw [e3]; rfl

def s_order_word : Stmt := topS 94
theorem sc_order_word : FnScope ["one", "other"] ["one", "other"] (defScope s_order_word) := ⟨rfl, rfl, rfl, by decide +kernel, rfl, by decide +kernel, by decide +kernel⟩
def G_order_word (ds : List D) (d : D) : Prop := ∃ x y : Int, ds = [.int x, .int y] ∧ d = .str (if x < y then "less" else if y < x then "greater" else "alike")
theorem d_order_word (T : Tops K mg) {f : Addr} {fd : FuncData} (F : Fun K "order_word" "order_word" s_order_word f fd) (hb : Binds K fd ["one", "other"] []) (hm : mg "order_word" = some (.ref f)) : Dfn P w K mg base "order_word" 1 G_order_word := by
  refine dfn_of F sc_order_word hb hm (fun ds d h => ?_) ?_
  · obtain ⟨x, y, rfl, _⟩ := h; rfl
  rintro X A hX hF hP ds d ⟨x, y, rfl, rfl⟩
  refine sd_if (et_cmp hX (ed_var hX 0 rfl rfl) (ed_var hX 1 rfl rfl) o_lt) (fun ht => ?_) (fun hf => ?_)
  · have h0 : x < y := of_decide_eq_true ht
    refine sd_ret ed_str ?_
    rw [if_pos h0]
  · have h0 : ¬ x < y := of_decide_eq_false hf
    refine sd_nil (sd_ret (ed_ifE (t := decide (y < x)) (et_cmp hX (ed_var hX 0 rfl rfl) (ed_var hX 1 rfl rfl) o_gt) (fun h => ?_) (fun h => ?_)) rfl)
    · rw [if_neg h0, if_pos (of_decide_eq_true h)]; exact ed_str
    · rw [if_neg h0, if_neg (of_decide_eq_false h)]; exact ed_str

def s_mark_of : Stmt := topS 91
theorem sc_mark_of : FnScope ["form", "number"] ["form", "number"] (defScope s_mark_of) := ⟨rfl, rfl, rfl, by decide +kernel, rfl, by decide +kernel, by decide +kernel⟩
def G_mark_of (ds : List D) (d : D) : Prop := ∃ (f : Form) (x : Int), f.Ok ∧ ds = [formD f, .int x] ∧ d = .str (if fitsB f x then "0" else "1")
theorem d_mark_of (T : Tops K mg) (D_fits : Dfn P w K mg base "fits" 3 G_fits) {f : Addr} {fd : FuncData} (F : Fun K "mark_of" "mark_of" s_mark_of f fd) (hb : Binds K fd ["form", "number"] []) (hm : mg "mark_of" = some (.ref f)) : Dfn P w K mg base "mark_of" 4 G_mark_of := by
  refine dfn_of F sc_mark_of hb hm (fun ds d h => ?_) ?_
  · obtain ⟨f, x, _, rfl, _⟩ := h; rfl
  rintro X A hX hF hP ds d ⟨f, x, ok, rfl, rfl⟩
  refine sd_ret (ed_callTy hX T.str b_str (eds_cons (ed_callTy hX T.int b_int (eds_cons (ed_not (ed_call hX D_fits (by decide) (eds_cons (ed_var hX 0 rfl rfl) (eds_cons (ed_var hX 1 rfl rfl) eds_nil)) ⟨f, x, ok, rfl, rfl⟩)) eds_nil) c_intB) eds_nil) (c_str (by cases fitsB f x <;> decide))) ?_
  show D.str _ = D.str _
  congr 1
  cases fitsB f x <;> decide +kernel

def s_answer_kept : Stmt := topS 92
theorem sc_answer_kept : FnScope ["form", "number"] ["form", "number"] (defScope s_answer_kept) := ⟨rfl, rfl, rfl, by decide +kernel, rfl, by decide +kernel, by decide +kernel⟩
def G_answer_kept (ds : List D) (d : D) : Prop := ∃ (f : Form) (x : Int), f.Ok ∧ ds = [formD f, .int x] ∧ d = .tup [formD f, rowD (rowK f (fold f x))]
theorem d_answer_kept (T : Tops K mg) (D_kept : Dfn P w K mg base "kept" 4 G_kept) (D_folded : Dfn P w K mg base "folded" 3 G_folded) {f : Addr} {fd : FuncData} (F : Fun K "answer_kept" "answer_kept" s_answer_kept f fd) (hb : Binds K fd ["form", "number"] []) (hm : mg "answer_kept" = some (.ref f)) : Dfn P w K mg base "answer_kept" 5 G_answer_kept := by
  refine dfn_of F sc_answer_kept hb hm (fun ds d h => ?_) ?_
  · obtain ⟨f, x, _, rfl, _⟩ := h; rfl
  rintro X A hX hF hP ds d ⟨f, x, ok, rfl, rfl⟩
  refine sd_ret (ed_tup (eds_cons (ed_var hX 0 rfl rfl) (eds_cons (ed_call hX D_kept (by decide) (eds_cons (ed_var hX 0 rfl rfl) (eds_cons (ed_call hX D_folded (by decide) (eds_cons (ed_var hX 0 rfl rfl) (eds_cons (ed_var hX 1 rfl rfl) eds_nil)) ⟨f, x, ok, rfl, rfl⟩) eds_nil)) ⟨f, fold f x, ok, fold_fits ok x, rfl, rfl⟩) eds_nil)) (by simp)) rfl

def s_read_name : Stmt := topS 80
theorem sc_read_name : FnScope ["word", "sign"] ["word"] (defScope s_read_name) := ⟨rfl, rfl, rfl, by decide +kernel, rfl, by decide +kernel, by decide +kernel⟩
def G_read_name (ds : List D) (d : D) : Prop := ∃ x : Str, NameOk x ∧ ds = [.str x] ∧ d = .str x
theorem d_read_name (T : Tops K mg) {f : Addr} {fd : FuncData} (F : Fun K "read_name" "read_name" s_read_name f fd) (hb : Binds K fd ["word"] []) (hm : mg "read_name" = some (.ref f)) : Dfn P w K mg base "read_name" 1 G_read_name := by
  refine dfn_of F sc_read_name hb hm (fun ds d h => ?_) ?_
  · obtain ⟨x, _, rfl, _⟩ := h; rfl
  rintro X A hX hF hP ds d ⟨x, nm, rfl, rfl⟩
  have q1 := nm.l1
  have q2 := nm.l12
  have q3 := nm.az
  refine sd_skip (et_is (et_w (ew_or (t := false) (et_is (et_not (et_chain hX ed_int (ed_callB hX T.len b_len (eds_cons (ed_var hX 0 rfl rfl) eds_nil) (c_lenS (by omega))) (ed_glob hX T.MOST_LETTERS) o_lt o_le)) ?_) (fun _ => ew_or1 (et_not (et_val (ed_callB hX T.all b_all (eds_cons (ed_is (ed_lc hX [("sign", 1)] (ei_str (ed_var hX 0 rfl rfl)) (blkOk_by (by decide +kernel)) [1] (fun d => [some (.sh (.str x)), some (.sh d)]) (fun d => match d with | .str c => some (.bl (decide (c.cps.toList.getD 0 0 ∈ ("abcdefghijklmnopqrstuvwxyz" : Str).cps.toList))) | _ => none) ?_ (fun X' hX' d hd => ?_)) (d' := .lst (((tl x).map fun _ => true).map .bl)) ?_) eds_nil) c_all)))))) ?_) ?_
  · rw [decide_eq_true (by omega), decide_eq_true (by omega)]; rfl
  · rw [sgnD, List.length_map, show x.cps.toList.length = x.length from len_tl x]; omega
  · obtain ⟨i, hi⟩ := List.getElem?_of_mem hd
    obtain ⟨c, hc, rfl⟩ := sgn_get hi
    refine ⟨tg_nameL hX' 1 rfl, fun z hz => ?_, rfl⟩
    cases hz
    exact ed_cmp hX' (ed_var hX' 1 rfl rfl) (ed_glob hX' T.LETTERS) o_inSign
  · rw [sgnD, List.filterMap_map, List.map_map]
    congr 1
    refine fm_some fun c hc => ?_
    show some (D.bl (decide (c ∈ _))) = _
    have := q3 c hc
    exact congrArg (fun t => some (D.bl t)) (decide_eq_true (of_decide_eq_true (az_mem c (by omega) (by omega))))
  · rw [all_map]; simp
  exact sd_ret (ed_var hX 0 rfl rfl) rfl

def s_read_whole : Stmt := topS 81
theorem sc_read_whole : FnScope ["word", "sign"] ["word"] (defScope s_read_whole) := ⟨rfl, rfl, rfl, by decide +kernel, rfl, by decide +kernel, by decide +kernel⟩
def G_read_whole (ds : List D) (d : D) : Prop := ∃ n : Nat, n ≤ 12 ∧ ds = [.str (numS n)] ∧ d = .int (n : Nat)
theorem d_read_whole (T : Tops K mg) {f : Addr} {fd : FuncData} (F : Fun K "read_whole" "read_whole" s_read_whole f fd) (hb : Binds K fd ["word"] []) (hm : mg "read_whole" = some (.ref f)) : Dfn P w K mg base "read_whole" 1 G_read_whole := by
  refine dfn_of F sc_read_whole hb hm (fun ds d h => ?_) ?_
  · obtain ⟨n, _, rfl, _⟩ := h; rfl
  rintro X A hX hF hP ds d ⟨n, hn, rfl, rfl⟩
  obtain ⟨q1, q2, q3, q4, q5, q6⟩ := numS_facts n hn
  obtain ⟨c0, hc0⟩ : ∃ c, (tl (numS n))[0]? = some c := by
    have : 0 < (tl (numS n)).length := by rw [len_tl]; have := ne_of_beq_false q2; omega
    exact ⟨_, List.getElem?_eq_getElem this⟩
  have hz : (decide ((⟨#[c0]⟩ : Str) = "0") && !decide (numS n = "0")) = false := by
    by_cases e : c0 = 48
    · rw [q6 (by rw [hc0, e])]; simp
    · have : decide ((⟨#[c0]⟩ : Str) = "0") = false := by
        refine decide_eq_false fun z => e ?_
        have h2 : tl ("0" : Str) = [48] := by decide +kernel
        rw [← z] at h2
        exact List.head_eq_of_cons_eq h2
      rw [this]; rfl
  refine sd_skip (et_is (et_w (ew_or (t := false) (et_is (et_cmp hX (ed_callB hX T.len b_len (eds_cons (ed_var hX 0 rfl rfl) eds_nil) (c_lenS ((by omega)))) ed_int o_eqI) ?_) (fun _ => ew_or (t := false) (et_is (et_not (et_val (ed_callB hX T.all b_all (eds_cons (ed_is (ed_lc hX [("sign", 1)] (ei_str (ed_var hX 0 rfl rfl)) (blkOk_by (by decide +kernel)) [1] (fun d => [some (.sh (.str (numS n))), some (.sh d)]) (fun d => match d with | .str c => some (.bl (decide (c.cps.toList.getD 0 0 ∈ ("0123456789" : Str).cps.toList))) | _ => none) ?_ (fun X' hX' d hd => ?_)) (d' := .lst (((tl (numS n)).map fun _ => true).map .bl)) ?_) eds_nil) c_all))) ?_) (fun _ => ew_or1 (et_is (et_w (ew_and (et_cmp hX (ed_ix hX (ed_var hX 0 rfl rfl) ed_int (i_str (c := c0) (by omega) (atI_nat (i := 0) hc0))) ed_str o_eqS) (fun _ => ew_and1 (et_cmp hX (ed_var hX 0 rfl rfl) ed_str o_neS)))) hz))))) rfl) ?_
  · refine decide_eq_false fun z => ?_
    have := ne_of_beq_false q2
    omega
  · rw [sgnD, List.length_map, show (numS n).cps.toList.length = (numS n).length from len_tl _]; omega
  · obtain ⟨i, hi⟩ := List.getElem?_of_mem hd
    obtain ⟨c, hc, rfl⟩ := sgn_get hi
    refine ⟨tg_nameL hX' 1 rfl, fun z hz => ?_, rfl⟩
    cases hz
    exact ed_cmp hX' (ed_var hX' 1 rfl rfl) (ed_glob hX' T.FIGURES_desk) o_inSign
  · rw [sgnD, List.filterMap_map, List.map_map]
    congr 1
    refine fm_some fun c hc => ?_
    show some (D.bl (decide (c ∈ _))) = _
    exact congrArg (fun t => some (D.bl t)) (decide_eq_true (of_decide_eq_true (List.all_eq_true.mp q3 c hc)))
  · rw [all_map]; simp
  exact sd_ret (ed_callTy hX T.int b_int (eds_cons (ed_var hX 0 rfl rfl) eds_nil) (c_intS q4 (by omega))) rfl

def s_read_shape : Stmt := topS 85
theorem sc_read_shape : FnScope ["words"] ["words"] (defScope s_read_shape) := ⟨rfl, rfl, rfl, by decide +kernel, rfl, by decide +kernel, by decide +kernel⟩
def G_read_shape (ds : List D) (d : D) : Prop := ∃ f : Form, f.Ok ∧ ds = [.lst ((shapeW f).map .str)] ∧ d = formD f
theorem d_read_shape (T : Tops K mg) (D_read_whole : Dfn P w K mg base "read_whole" 1 G_read_whole) {f : Addr} {fd : FuncData} (F : Fun K "read_shape" "read_shape" s_read_shape f fd) (hb : Binds K fd ["words"] []) (hm : mg "read_shape" = some (.ref f)) : Dfn P w K mg base "read_shape" 2 G_read_shape := by
  refine dfn_of F sc_read_shape hb hm (fun ds d h => ?_) ?_
  · obtain ⟨f, _, rfl, _⟩ := h; rfl
  rintro X A hX hF hP ds d ⟨f, ok, rfl, rfl⟩
  have h12 := ok.n12
  have hpt := ok.pt
  refine sd_skip (et_is (et_w (ew_or (t := false) (et_is (et_cmp hX (ed_ix hX (ed_var hX 0 rfl rfl) ed_int (i_lst rfl)) (ed_glob hX T.KINDS) (o_niTS _)) (by rw [kind_mem]; rfl)) (fun _ => ew_or1 (et_is (et_cmp hX (ed_ix hX (ed_var hX 0 rfl rfl) ed_int (i_lst rfl)) (ed_glob hX T.SIGNS) (o_niTS _)) (by rw [sign_mem]; rfl : _ = false))))) rfl) ?_
  exact sd_ret (ed_tup (eds_cons (ed_ix hX (ed_var hX 0 rfl rfl) ed_int (i_lst rfl)) (eds_cons (ed_call hX D_read_whole (by decide) (eds_cons (ed_ix hX (ed_var hX 0 rfl rfl) ed_int (i_lst rfl)) eds_nil) ⟨f.n, h12, rfl, rfl⟩) (eds_cons (ed_ix hX (ed_var hX 0 rfl rfl) ed_int (i_lst rfl)) (eds_cons (ed_call hX D_read_whole (by decide) (eds_cons (ed_ix hX (ed_var hX 0 rfl rfl) ed_int (i_lst rfl)) eds_nil) ⟨f.pt, by omega, rfl, rfl⟩) eds_nil)))) (by simp)) rfl

def s_only : Stmt := topS 90
theorem sc_only : FnScope ["parts", "kind", "part", "thing"] ["parts", "kind"] (defScope s_only) := ⟨rfl, rfl, rfl, by decide +kernel, rfl, by decide +kernel, by decide +kernel⟩
def G_only (ds : List D) (d : D) : Prop := ∃ (ps : List (Str × D)) (z : Str), ps.length ≤ 100 ∧ ds = [.lst (ps.map fun p => .tup [.str p.1, p.2]), .str z] ∧ d = .lst (ps.filterMap fun p => if p.1 = z then some p.2 else none)
theorem d_only (T : Tops K mg) {f : Addr} {fd : FuncData} (F : Fun K "only" "only" s_only f fd) (hb : Binds K fd ["parts", "kind"] []) (hm : mg "only" = some (.ref f)) : Dfn P w K mg base "only" 1 G_only := by
  refine dfn_of F sc_only hb hm (fun ds d h => ?_) ?_
  · obtain ⟨ps, z, _, rfl, _⟩ := h; rfl
  rintro X A hX hF hP ds d ⟨ps, z, hl, rfl, rfl⟩
  refine sd_ret (ed_lc hX [("part", 2), ("thing", 3)] (ei_lst hX (ed_var hX 0 rfl rfl)) (blkOk_by (by decide +kernel)) [2, 3] (fun d => [some (.sh (.lst (ps.map fun p => .tup [.str p.1, p.2]))), some (.sh (.str z)), some (.sh (match d with | .tup [y, _] => y | _ => .non)), some (.sh (match d with | .tup [_, y] => y | _ => .non))]) (fun d => match d with | .tup [.str p, y] => if p = z then some y else none | _ => none) (by simp; omega) (fun X' hX' d hd => ?_)) ?_
  · obtain ⟨p, hp, rfl⟩ := List.mem_map.mp hd
    refine ⟨tg_tup hX' (tgs_cons (tg_nameL hX' 2 rfl) (tgs_cons (tg_nameL hX' 3 rfl) tgs_nil)) rfl, fun y hy => ?_, ?_⟩
    · have hy' : (if p.1 = z then some p.2 else none) = some y := hy
      by_cases e : p.1 = z
      · rw [if_pos e] at hy'
        cases hy'
        exact ed_var hX' 3 rfl rfl
      · rw [if_neg e] at hy'; cases hy'
    · refine et_is (et_cmp hX' (ed_var hX' 2 rfl rfl) (ed_var hX' 1 rfl rfl) o_eqS) ?_
      show decide (p.1 = z) = (if p.1 = z then some p.2 else none).isSome
      by_cases e : p.1 = z
      · simp [e]
      · simp [e]
  · show D.lst _ = D.lst _
    rw [List.filterMap_map]
    rfl
end
end Tl
set_option maxHeartbeats 200000
/-! T3i: written tables of the module, a def taken out of a table. -/
namespace T3
open PySem L2 PySem.Spec PyProof.Rows
/-- the table x of the module has the text z, its value d -/
def KTab (K : PySem.W.Frag) (w : World) (mg : Str → Option Value) (x z : Str) (d : D) : Prop := ∃ a v, mg x = some (.ref a) ∧ (a == sysModules) = false ∧ KDct K w a z v ∧ ∀ H, Rep K H d v
/-- .. and holds the def y there -/
def KFun (K : PySem.W.Frag) (w : World) (mg : Str → Option Value) (x z y : Str) : Prop := ∃ a f, mg x = some (.ref a) ∧ KDct K w a z (.ref f) ∧ mg y = some (.ref f)
def tKNotIn (K : PySem.W.Frag) (w : World) (ty td : TE) : TE := fun σ H Q => ty σ H fun y H1 => td σ H1 fun x H2 => ∃ (p : Addr) (z : Str) (v : V), x = .ref p ∧ y = .str z ∧ (p == sysModules) = false ∧ KDct K w p z v ∧ Q (.bl false) H2
theorem pc_knotin {X : Cx} {i o : Expr} {ty td : TE} (hi : PE X i ty) (ho : PE X o td) : PC X .NotIn i o (tKNotIn X.K X.w ty td) := by
  refine ⟨fun pins s σ H Q I h => ?_⟩
  refine thn (hi.run pins s σ H _ I h) fun iv s1 ⟨y, H1, I1, ry, q1⟩ => thn (ho.run pins s1 σ H1 _ I1 q1) fun u s2 ⟨x, H2, I2, rx, p, z, v, ex, ey, low, ⟨es, n, u0, hl, hk, e, ru⟩, q2⟩ => ?_
  subst ex; subst ey
  obtain rfl : u = Value.ref p := rx
  obtain ⟨t, rfl⟩ := (show ∃ t, iv = Value.str z t from ry)
  have hm := PySem.W.mapOf_K (prog := X.prog) (w := X.w) I2.kIn hl hk
  refine wpAny_notIn_of (strKind_is X.prog X.w z t) low hm ?_
  rw [PySem.W.find_K hl e]
  exact ⟨.bl false, H2, I2.tok _, rfl, q2⟩
theorem Slots.forget2 {K : PySem.W.Frag} {Hs : Hp} {fps : List (List Addr)} {x : Option V} : ∀ {ρ : Env3} {σ : L2.St} (i : Nat), Slots K Hs fps ρ σ → Slots K Hs fps (ρ.set i Option.none) (σ.set i x)
  | [], [], _, _ => trivial
  | none :: _, _ :: _, 0, h => h
  | none :: ρ, _ :: σ, i + 1, h => show Slots K Hs fps (ρ.set i Option.none) (σ.set i x) from Slots.forget2 (ρ := ρ) (σ := σ) i h
  | some _ :: ρ, some _ :: σ, 0, ⟨_, h⟩ => show Slots K Hs fps ρ σ from h
  | some _ :: _, some _ :: _, i + 1, ⟨h1, h⟩ => ⟨h1, Slots.forget2 i h⟩
  | [], _ :: _, _, h => h.elim
  | none :: _, [], _, h => h.elim
  | some _ :: _, [], _, h => h.elim
  | some _ :: _, none :: _, _, h => h.elim
section
variable {X : Cx} {N : List Str} {sc : Scope} {P : Program} {w : World} {K : PySem.W.Frag} {mg : Str → Option Value} {base : Heap} {k : Nat}
variable {A : Anc} {M : List Cell} {ρ ρ' : Env3} {a b c e tg : Expr} {es : List Expr} {d d1 d2 d3 : D} {ds fs : List D} {pos p p2 p3 p4 p5 p6 p7 apos : Pos} {st : Stmt} {sts rest : List Stmt} {R : Post} {i j : Int} {x y z : Str}
theorem ed_tab (hX : XF X N sc P w K mg base k) (g : KTab K w mg x z d) (hb : ED X K A M ρ b (.str z)) (hg : GlS sc x := by rfl) (hd : (x == ("__debug__" : Str)) = false := by decide +kernel) (hs : PlainIx b := by intro _ _; rfl) : ED X K A M ρ (.Subscript (.Name x p) b pos) d := .mk fun fps σ Hs H hh => by
  obtain ⟨ad, v, h1, h2, h3, h4⟩ := g
  refine wE_of (pe_ix ix_kdict (pe_glob (hX.gl hg) (by rw [hX.em]; exact h1) (show RelV (.ref ad) (.ref ad) from rfl) hd) pe_w hs) ?_
  refine wE_mono (hb _ _ _ _ hh) fun y H1 ⟨Hs1, s1, r1⟩ => ?_
  cases r1
  exact ⟨ad, z, v, rfl, rfl, by rw [hX.eK, hX.ew]; exact h3, Hs1, s1, h4 _⟩
theorem et_ntab (hX : XF X N sc P w K mg base k) (g : KTab K w mg x z d) (hb : ED X K A M ρ b (.str z)) (hg : GlS sc x := by rfl) (hd : (x == ("__debug__" : Str)) = false := by decide +kernel) (hm : behindInMarks .NotIn (.Name x p) = false := by rfl) : ET X K A M ρ (.Compare b [.NotIn] [.Name x p] pos) false := .mk fun fps σ Hs H hh => by
  obtain ⟨ad, v, h1, h2, h3, h4⟩ := g
  refine wT_of (pt_cmp (pc_knotin pe_w (pe_glob (hX.gl hg) (by rw [hX.em]; exact h1) (show RelV (.ref ad) (.ref ad) from rfl) hd)) hm) ?_
  refine wE_mono (hb _ _ _ _ hh) fun y H1 ⟨Hs1, s1, r1⟩ => ?_
  cases r1
  exact ⟨ad, z, v, rfl, rfl, h2, by rw [hX.eK, hX.ew]; exact h3, false, rfl, rfl, Hs1, s1⟩
/-- r = TABLE[k]; return r(e) -/
theorem sd_reader (hX : XF X N sc P w K mg base k) (n : Nat) {r tb y : Str} {G : List D → D → Prop} {jj : Nat} (hN : N[n]? = some r) (g : KFun K w mg tb z y) (F : Dfn P w K mg base y jj G) (hj : jj ≤ k) (hb : ED X K A M ρ b (.str z)) (he : ED X K A M (ρ.set n none) e d1) (hn : n < ρ.length) (hG : G [d1] d) (q : R.rt M d)
    (hl : Loc sc r := by first | exact .inl rfl | exact .inr rfl) (hv : Vis sc r := by first | exact Or.inl rfl | exact Or.inr (Or.inl rfl) | exact Or.inr (Or.inr rfl)) (hg : GlS sc tb := by rfl) (hd : (tb == ("__debug__" : Str)) = false := by decide +kernel) (hs : PlainIx b := by intro _ _; rfl)
    (hsw : swapsWith (.Subscript (.Name tb p2) b p3) (some (.Name r p)) pos.line X.env = pure false := by rfl) (hF : ∀ x, X.fn x = true := by assumption)
    (hdb : (r == ("__debug__" : Str)) = false := by decide +kernel) (hcd : (r == ("__classdict__" : Str)) = false := by decide +kernel)
    (hst : starEach [e] X.env = (false, eval e X.env) :: starEach [] X.env := by exact star_cons rfl) (hpl : (backTo p6 (starEach [] X.env)).any (·.1) = false := by exact star_plain rfl) :
    SD X K A M ρ [.Assign [.Name r p] (.Subscript (.Name tb p2) b p3) pos, .Return (some (.Call (.Name r p5) [e] [] p6)) p7] R := .mk fun fps σ Hs H hh => by
  obtain ⟨ad, f, h1, h2, h3⟩ := g
  obtain ⟨f', fd, ps, F1, F2, F3, F4⟩ := F.ex
  rw [h3] at F2
  cases F2
  obtain ⟨eN, eS, rfl, rfl, rfl, rfl, rfl, _, rm, _⟩ := id hX
  refine wSs_of (pss_cons ps_w pss_w) (wS_of (ps_set (i := n) (by rw [hX.eN]; exact hX.nd) (by rw [hX.eN]; exact hN) (hX.loc hl) (pe_ix ix_kdict (pe_glob (hX.gl hg) h1 (show RelV (.ref ad) (.ref ad) from rfl) hd) pe_w hs) hsw (hX.sto hF hl)) ?_)
  refine wE_mono (hb _ _ _ _ hh) fun y H1 ⟨Hs1, s1, r1⟩ => ?_
  cases r1
  refine ⟨ad, z, .ref f, rfl, rfl, h2, ?_⟩
  refine wSs_of (pss_cons ps_w pss_nil) (wS_of (ps_ret (pe_callL (i := n) (E := E0) F1 (rm.mono hj) (by rw [hX.eN]; exact hN) (hX.vis hv) F3 F4 .nil pass0 (pa_cons pe_w pa_nil hst) hdb hcd hst hpl)) ?_)
  have hh1 := hh.step s1
  have hlt : n < σ.length := by rw [hh.st.slots.length]; exact hn
  refine ⟨List.getElem?_set_self hlt, ?_⟩
  have hh2 : StA X.K A M (ρ.set n none) fps (σ.set n (some (.ref f))) Hs1 H1 := hh1.slots (hh1.st.slots.forget2 n)
  refine wE_mono (he _ _ _ _ hh2) fun x H2 ⟨Hs2, s2, r2⟩ => ?_
  exact ⟨Hs2, [d1], d, s2.i, .one r2, hG, fun v Hs' H' s3 r3 => ⟨M, d, fps, Hs', ((hh1.step s2).step s3).bare, r3, q⟩⟩
end
end T3
/-! M5: the mirror: what the cells draw. -/
namespace Tl
open PySem L2 T3 TL
def cellF (sc : List Int) (k : Nat) : Int := if k < sc.length then sc.getD k 0 else if sc.length = 0 then 7919 * ((k : Int) + 1) else sc.getD (k % sc.length) 0 + 104729 * (k : Int)
abbrev m31 : Int := 2147483647
def offs : List Int := [18, 60, 68, 84, 98, 104, 150, 158]
def prm (k : Nat) : Int := m31 - offs.getD (k % 8) 0
theorem prm_pos : ∀ j, j < 8 → 0 < m31 - offs.getD j 0 ∧ m31 - offs.getD j 0 < 2 ^ 31 := by decide
theorem prm_range (k : Nat) : 0 < prm k ∧ prm k < 2 ^ 31 := prm_pos _ (Nat.mod_lt _ (by decide))
def mixOne (c : Int) (k : Nat) (s : Int) : Int := ((c + 7919 * s + 104729 * (k : Int) + 13) % m31) ^ 5 % prm k
def mixTwo (c : Int) (k : Nat) (s : Int) : Int := (mixOne c k s + 40692 * s + (k : Int)) % m31
def mixedF (c : Int) (k : Nat) (s : Int) : Int := mixTwo c k s ^ 5 % m31 * 1000000007 + mixOne c k s
/-- what is found and what is left after i turns -/
def drawsSt (c s : Int) (ws : List Int) : Nat → List Int × Int
  | 0 => ([], if 10 ^ 18 ≤ (if c < 0 then -c else c) then (if c < 0 then -c else c) else 0)
  | i + 1 => let q := drawsSt c s ws i
    if 0 < q.2 then (q.1 ++ [q.2 % ws.getD i 1], q.2 / ws.getD i 1) else (q.1 ++ [mixedF c i s % ws.getD i 1], q.2)
def drawsF0 (c s : Int) (ws : List Int) : List Int := (drawsSt c s ws ws.length).1
/-- closed, so that nothing unfolds it -/
noncomputable def drawsF : Int → Int → List Int → List Int := Classical.choose (show ∃ F : Int → Int → List Int → List Int, F = drawsF0 from ⟨_, rfl⟩)
theorem drawsF_eq : drawsF = drawsF0 := Classical.choose_spec (show ∃ F : Int → Int → List Int → List Int, F = drawsF0 from ⟨_, rfl⟩)
theorem drawsSt_len (c s : Int) (ws : List Int) : ∀ i, (drawsSt c s ws i).1.length = i
  | 0 => rfl
  | i + 1 => by
    have ih := drawsSt_len c s ws i
    simp only [drawsSt]
    split
    · rw [List.length_append, ih]; rfl
    · rw [List.length_append, ih]; rfl
theorem drawsSt_get {c s : Int} {ws : List Int} (hw : ∀ j, j < ws.length → 0 < ws.getD j 1) : ∀ i, i ≤ ws.length → ∀ j, j < i → 0 ≤ (drawsSt c s ws i).1.getD j 0 ∧ (drawsSt c s ws i).1.getD j 0 < ws.getD j 1
  | 0, _, j, h => absurd h (Nat.not_lt_zero _)
  | i + 1, hi, j, h => by
    have ih := drawsSt_get (c := c) (s := s) hw i (by omega)
    have hl := drawsSt_len c s ws i
    have hp := hw i (by omega)
    have key : ∀ (l : List Int) (v : Int), l = (drawsSt c s ws i).1 → 0 ≤ v ∧ v < ws.getD i 1 → 0 ≤ (l ++ [v]).getD j 0 ∧ (l ++ [v]).getD j 0 < ws.getD j 1 := by
      intro l v hl' hv
      by_cases e : j < i
      · have : (l ++ [v]).getD j 0 = l.getD j 0 := by
          rw [List.getD_eq_getElem?_getD, List.getElem?_append_left (by rw [hl', hl]; exact e), ← List.getD_eq_getElem?_getD]
        rw [this, hl']
        exact ih j e
      · have e' : j = i := by omega
        subst e'
        have : (l ++ [v]).getD j 0 = v := by
          rw [List.getD_eq_getElem?_getD, List.getElem?_append_right (by rw [hl', hl]; exact Nat.le_refl _), hl', hl, Nat.sub_self]; rfl
        rw [this]
        exact hv
    simp only [drawsSt]
    split
    · exact key _ _ rfl ⟨Int.emod_nonneg _ (Int.ne_of_gt hp), Int.emod_lt_of_pos _ hp⟩
    · exact key _ _ rfl ⟨Int.emod_nonneg _ (Int.ne_of_gt hp), Int.emod_lt_of_pos _ hp⟩
theorem drawsF_len (c s : Int) (ws : List Int) : (drawsF c s ws).length = ws.length := by rw [drawsF_eq]; exact drawsSt_len c s ws _
/-- a draw -/
noncomputable def dr (c s : Int) (ws : List Int) (j : Nat) : Nat := ((drawsF c s ws).getD j 0).toNat
theorem dr_get {c s : Int} {ws : List Int} (hw : ∀ j, j < ws.length → 0 < ws.getD j 1) {j : Nat} (hj : j < ws.length) : (drawsF c s ws)[j]? = some (dr c s ws j : Int) ∧ (dr c s ws j : Int) < ws.getD j 1 := by
  have h : 0 ≤ (drawsF c s ws).getD j 0 ∧ (drawsF c s ws).getD j 0 < ws.getD j 1 := by rw [drawsF_eq]; exact drawsSt_get (c := c) (s := s) hw ws.length (Nat.le_refl _) j hj
  have hl := drawsF_len c s ws
  have e : (drawsF c s ws)[j]? = some ((drawsF c s ws).getD j 0) := by rw [List.getD_eq_getElem?_getD, List.getElem?_eq_getElem (by omega)]; rfl
  have e2 : (dr c s ws j : Int) = (drawsF c s ws).getD j 0 := Int.toNat_of_nonneg h.1
  rw [e2]
  exact ⟨e, h.2⟩
theorem draws_eq {c s : Int} {ws : List Int} (hw : ∀ j, j < ws.length → 0 < ws.getD j 1) : drawsF c s ws = (List.range ws.length).map fun j => (dr c s ws j : Int) := by
  apply List.ext_getElem?
  intro j
  by_cases hj : j < ws.length
  · rw [(dr_get hw hj).1]; simp [hj]
  · rw [List.getElem?_eq_none (by rw [drawsF_len]; omega), List.getElem?_eq_none (by simp; omega)]
/-! shapes -/
def sgOf : Nat → Sg
  | 0 => .no
  | 1 => .en
  | _ => .te
def formF (k m s : Nat) : Form := ⟨decide (k = 1), m + 1, sgOf s, (7 * m + 3 * k + s) % (m + 2)⟩
theorem formF_ok {k m s : Nat} (h : m < 12) : (formF k m s).Ok := ⟨Nat.succ_le_succ (Nat.zero_le _), h, Nat.le_of_lt_succ (Nat.mod_lt _ (by omega))⟩
def pointF (f : Form) (p : Nat) : Form := { f with pt := p % (f.n + 1) }
theorem pointF_ok {f : Form} (ok : f.Ok) (p : Nat) : (pointF f p).Ok := ⟨ok.n1, ok.n12, Nat.le_of_lt_succ (Nat.mod_lt _ (by show 0 < f.n + 1; omega))⟩
/-! a number by a way -/
def someF (f : Form) (far : Nat) : List Int :=
  let z : Int := 10 ^ (far % f.n)
  [0, 1, most f, least f, z, z - 1, 5 * z, 9 * z, z + 1, (far : Int) / 16 % (10 * z)]
def clampF (f : Form) (y : Int) : Int :=
  let m := if y < most f then y else most f
  if m > least f then m else least f
def numF (f : Form) (way far : Nat) : Int :=
  if 9 < way then least f + (far : Int) % (most f - least f + 1)
  else
    let y := (someF f far).getD way 0
    clampF f (if least f < 0 ∧ (far : Int) / 13 % 2 = 1 then 0 - y else y)
def sideF (x : Int) : List Int := if x < 0 then [13, 11] else if 0 < x then [12, 10, 14, 15] else [12, 13, 10, 11, 14, 15]
def halfF (x : Int) (g : Nat) : Int := (sideF x).getD (g % (sideF x).length) 12
theorem side_some (x : Int) (g : Nat) : (sideF x)[g % (sideF x).length]? = some (halfF x g) ∧ 10 ≤ halfF x g ∧ halfF x g ≤ 15 := by
  have h0 : 0 < (sideF x).length := by unfold sideF; split; decide; split <;> decide
  have h1 := Nat.mod_lt g h0
  have e : (sideF x)[g % (sideF x).length]? = some (halfF x g) := by
    unfold halfF
    rw [List.getD_eq_getElem?_getD, List.getElem?_eq_getElem h1]; rfl
  have hm : ∀ y ∈ sideF x, 10 ≤ y ∧ y ≤ 15 := by
    unfold sideF
    split
    · decide
    · split <;> decide
  exact ⟨e, hm _ (List.mem_of_getElem? e)⟩
/-! two ways to read the sign by tens -/
theorem nby_cons (d : Int) (r : List Int) : nby (d :: r) = d * 10 ^ r.length + nby r := by
  have : ∀ (l : List Int) (a : Int), l.foldl (fun a d => a * 10 + d) a = a * 10 ^ l.length + nby l := by
    intro l
    induction l with
    | nil => intro a; simp [nby]
    | cons e r ih =>
      intro a
      rw [List.foldl_cons, ih (a * 10 + e)]
      show _ = a * 10 ^ (r.length + 1) + nby (e :: r)
      unfold nby
      rw [List.foldl_cons, ih (0 * 10 + e), Int.pow_succ, Int.add_mul, Int.mul_assoc, Int.mul_comm 10 ((10 : Int) ^ r.length)]
      unfold nby
      rw [Int.zero_mul, Int.zero_add]
      omega
  show (d :: r).foldl (fun a d => a * 10 + d) 0 = _
  rw [List.foldl_cons, this, Int.zero_mul, Int.zero_add]
theorem tens_first {fs : List Int} {n : Nat} (hl : fs.length = n) (h1 : 1 ≤ n) (hd : ∀ x ∈ fs, 0 ≤ x ∧ x ≤ 9) : (4 < fs.getD 0 0) ↔ 5 * 10 ^ (n - 1) ≤ nby fs := by
  cases fs with
  | nil => simp at hl; omega
  | cons d r =>
    have h2 := hd d (by simp)
    obtain ⟨q1, q2⟩ := nby_range r fun x hx => hd x (List.mem_cons_of_mem _ hx)
    have e : n - 1 = r.length := by simp at hl; omega
    rw [nby_cons, e]
    have tp := ten_pos r.length
    show 4 < d ↔ _
    generalize (10 : Int) ^ r.length = t at *
    generalize nby r = u at *
    have : ∀ d : Int, 0 ≤ d → d ≤ 9 → (4 < d ↔ 5 * t ≤ d * t + u) := by
      intro d a b
      have : d = 0 ∨ d = 1 ∨ d = 2 ∨ d = 3 ∨ d = 4 ∨ d = 5 ∨ d = 6 ∨ d = 7 ∨ d = 8 ∨ d = 9 := by omega
      rcases this with rfl | rfl | rfl | rfl | rfl | rfl | rfl | rfl | rfl | rfl <;> omega
    exact this d h2.1 h2.2
theorem val_fits {f : Form} {fs : List Int} {h : Int} (g : Good f fs h) : fitsB f (val f fs h) = true := by
  have h1 := g.ok.n1
  obtain ⟨q1, q2⟩ := nby_range fs g.fig
  rw [g.len] at q2
  have tf := tens_first g.len h1 g.fig
  have tp := ten_pos (f.n - 1)
  have e : (10 : Int) ^ f.n = 10 * 10 ^ (f.n - 1) := by
    conv => lhs; rw [show f.n = (f.n - 1) + 1 by omega, Int.pow_succ]
    omega
  unfold fitsB
  rw [Bool.and_eq_true]
  suffices least f ≤ val f fs h ∧ val f fs h ≤ most f from ⟨decide_eq_true this.1, decide_eq_true this.2⟩
  unfold least most val
  cases q : f.sg with
  | no => simp only; omega
  | en => simp only; split <;> omega
  | te => simp only; split <;> omega
end Tl
/-! M6: the mirror: rows by zones, rows read. -/
namespace Tl
open PySem L2 T3 TL
def znL (f : Form) (h : Int) : List Int := if f.sg = .en then (List.replicate f.n 15).set (f.n - 1) h else List.replicate f.n 15
theorem pairs_zones : ∀ ds : List Int, pairs (zones ds) = List.zipWith (fun z d => 16 * z + d) (List.replicate ds.length 15) ds
  | [] => rfl
  | d :: r => by
    show (16 * 15 + d) :: pairs (zones r) = _
    rw [pairs_zones r]
    rfl
theorem pairs_zonE : ∀ (ds : List Int) (h : Int), pairs ((zonE ds h).map (·.2)) = List.zipWith (fun z d => 16 * z + d) ((List.replicate ds.length 15).set (ds.length - 1) h) ds
  | [], _ => rfl
  | [d], h => rfl
  | d :: e :: r, h => by
    show (16 * 15 + d) :: pairs ((zonE (e :: r) h).map (·.2)) = _
    rw [pairs_zonE (e :: r) h]
    rfl
theorem rowW_sp {f : Form} {ds : List Int} {h : Int} (hs : f.sp = true) (hl : ds.length = f.n) : rowW f ds h = List.zipWith (fun z d => 16 * z + d) (znL f h) ds := by
  unfold rowW halves znL
  rw [if_pos hs, ← hl]
  by_cases hg : f.sg = .en
  · rw [if_pos hg, halvesS_en hg, ← zonE_snd, pairs_zonE]
  · rw [if_neg hg, halvesS_ne hg, pairs_zones]
def zg : D → Option D
  | .tup [.int z, .int x] => some (D.int (16 * z + x))
  | _ => none
theorem zip_fm (zs ds : List Int) : (zipD (zs.map D.int) (ds.map D.int)).filterMap zg = (List.zipWith (fun z d => 16 * z + d) zs ds).map D.int := by
  have : ∀ i, i < min zs.length ds.length → zg (D.tup [(zs.map D.int).getD i .non, (ds.map D.int).getD i .non]) = some (D.int (16 * zs.getD i 0 + ds.getD i 0)) := by
    intro i hi
    rw [dl_get i _ (map_get (List.getElem?_eq_getElem (by omega : i < zs.length))), dl_get i _ (map_get (List.getElem?_eq_getElem (by omega : i < ds.length)))]
    simp [zg, List.getD_eq_getElem?_getD, List.getElem?_eq_getElem (by omega : i < zs.length), List.getElem?_eq_getElem (by omega : i < ds.length)]
  unfold zipD
  rw [List.filterMap_map, fm_some (h := fun i => D.int (16 * zs.getD i 0 + ds.getD i 0)) fun i hi => ?_]
  · apply List.ext_getElem?
    intro i
    rw [List.length_map, List.length_map, List.getElem?_map, List.getElem?_map, List.getElem?_zipWith]
    by_cases h1 : i < min zs.length ds.length
    · rw [List.getElem?_range h1, List.getElem?_eq_getElem (by omega : i < zs.length), List.getElem?_eq_getElem (by omega : i < ds.length)]
      simp [List.getD_eq_getElem?_getD, List.getElem?_eq_getElem (by omega : i < zs.length), List.getElem?_eq_getElem (by omega : i < ds.length)]
    · rw [List.getElem?_eq_none (by simp; omega)]
      by_cases h2 : i < zs.length
      · rw [List.getElem?_eq_none (by omega : ds.length ≤ i)]
        cases zs[i]? <;> rfl
      · rw [List.getElem?_eq_none (by omega : zs.length ≤ i)]; rfl
  · rw [List.length_map, List.length_map, List.mem_range] at hi
    exact this i hi
theorem odds_zones : ∀ ds : List Int, odds (zones ds) = ds
  | [] => rfl
  | d :: r => by
    show d :: odds (zones r) = _
    rw [odds_zones r]
theorem odds_zonE : ∀ (ds : List Int) (h : Int), odds ((zonE ds h).map (·.2)) = ds
  | [], _ => rfl
  | [d], h => rfl
  | d :: e :: r, h => by
    show d :: odds ((zonE (e :: r) h).map (·.2)) = _
    rw [odds_zonE (e :: r) h]
theorem odds_halves {f : Form} {ds : List Int} {h : Int} (hs : f.sp = true) : odds (halves f ds h) = ds := by
  unfold halves
  rw [if_pos hs]
  by_cases hg : f.sg = .en
  · rw [halvesS_en hg, ← zonE_snd, odds_zonE]
  · rw [halvesS_ne hg, odds_zones]
theorem odds_map {α β : Type} (g : α → β) : ∀ l : List α, odds (l.map g) = (odds l).map g
  | [] => rfl
  | [_] => rfl
  | a :: b :: r => by
    show g b :: odds (r.map g) = _
    rw [odds_map g r]; rfl
theorem nby_ahead (n : Nat) (ds : List Int) : nby (List.replicate n 0 ++ ds) = nby ds := by
  induction n with
  | zero => rfl
  | succ n ih =>
    rw [List.replicate_succ, List.cons_append]
    rw [nby_cons, Int.zero_mul, Int.zero_add, ih]
theorem nbyL_take {l : List Int} {i : Nat} {x : Int} (h : l[i]? = some x) : nby (l.take (i + 1)) = 10 * nby (l.take i) + x := by rw [nby_take h, Int.mul_comm]
theorem halvesP_cut {f : Form} {ds : List Int} {h : Int} (hg : f.sg = .en) : (halvesP f ds h).take ((halvesP f ds h).length - 1) = List.replicate (ahead f) 0 ++ ds ∧ (halvesP f ds h)[(halvesP f ds h).length - 1]? = some h := by
  have e : halvesP f ds h = (List.replicate (ahead f) 0 ++ ds) ++ [h] := by
    unfold halvesP
    rw [show e01 f = 1 from sgE_en hg]; rfl
  rw [e]
  have hl : ((List.replicate (ahead f) 0 ++ ds) ++ [h]).length - 1 = (List.replicate (ahead f) 0 ++ ds).length := by simp
  rw [hl]
  exact ⟨List.take_left' rfl, by rw [List.getElem?_append_right (Nat.le_refl _), Nat.sub_self]; rfl⟩
theorem halvesP_ne {f : Form} {ds : List Int} {h : Int} (hg : f.sg ≠ .en) : halvesP f ds h = List.replicate (ahead f) 0 ++ ds := by
  unfold halvesP
  rw [show e01 f = 0 from sgE_ne hg]
  simp
theorem wrap_te (x t : Int) : (x - -5 * t) % (10 * t) + -5 * t = (x + 10 * t / 2) % (10 * t) - 10 * t / 2 := by
  have : 10 * t / 2 = 5 * t := by omega
  rw [this]
  congr 1
  · congr 1; omega
  · omega
theorem ten_s {f : Form} (ok : f.Ok) : (10 : Int) ^ f.n = 10 * 10 ^ (f.n - 1) := by
  have h1 := ok.n1
  conv => lhs; rw [show f.n = (f.n - 1) + 1 by omega, Int.pow_succ]
  omega
theorem cut_last (xs : List D) (h : 1 ≤ xs.length) : cutD xs none (some (-1)) = xs.take (xs.length - 1) := by
  show (xs.drop 0).take (HT.sIx xs.length xs.length (some (-1)) - 0) = _
  have : HT.sIx xs.length xs.length (some (-1)) = xs.length - 1 := by
    show (if (-1 : Int) < 0 then ((-1 : Int) + (xs.length : Int)).toNat else min (-1 : Int).toNat xs.length) = _
    rw [if_pos (by decide)]
    omega
  rw [this]
  rfl
end Tl
/-! M7: the mirror: names, texts of the other side. -/
namespace Tl
open PySem L2 T3 TL
open PySem.Builtin.Str (padded)
/-! names -/
def nws : List Int := [5, 12, 12, 26, 12] ++ List.replicate 12 26
theorem nws_pos : ∀ j, j < nws.length → 0 < nws.getD j 1 := by decide
theorem nws_small : ∀ j, j < nws.length → nws.getD j 1 < 2 ^ 62 := by decide
noncomputable abbrev ndr (c s : Int) (j : Nat) : Nat := dr c s nws j
abbrev azS : Str := "abcdefghijklmnopqrstuvwxyz"
def letS (n : Nat) : Str := ⟨#[97 + n]⟩
theorem az_get : ∀ n, n < 26 → azS.cps.toList[n]? = some (97 + n) := by decide +kernel
def oddName : Nat → Str
  | 0 => "keep" | 1 => "none" | 2 => "sum" | 3 => "packed" | 4 => "end" | 5 => "undo"
  | 6 => "cut" | 7 => "names" | 8 => "good" | 9 => "tens" | 10 => "less" | _ => "spread"
theorem odd_ok : ∀ n, n < 12 → 1 ≤ (oddName n).length ∧ (oddName n).length ≤ 12 ∧ (tl (oddName n)).all (fun c => decide (97 ≤ c) && decide (c ≤ 122)) = true := by decide +kernel
noncomputable def nm0 (c s : Int) : Str := Txt.join "" ((List.range (1 + ndr c s 1)).map fun i => letS (ndr c s (5 + i)))
noncomputable def nm1 (c s : Int) : Str := if ndr c s 0 = 0 then oddName (ndr c s 4) else nm0 c s
noncomputable def nm2 (c s : Int) : Str := if ndr c s 0 = 1 then Txt.mul (letS (ndr c s 3)) ((1 : Int) + (ndr c s 1 : Nat)) else nm1 c s
noncomputable def cutNm (c s : Int) (z : Str) : Str := cutS ((cutS z none (some (ndr c s 2 : Int)) ++ letS (ndr c s 3)) ++ cutS z (some ((ndr c s 2 : Int) + (if 5 < ndr c s 1 then 1 else 0))) none) none (some 12)
noncomputable def nm3 (c s : Int) (known : List Str) : Str := if ndr c s 0 = 2 ∧ known ≠ [] then cutNm c s (known.getLastD "") else nm2 c s
def freeL (known : List Str) : List Str := ((List.range 26).map letS).filter fun x => decide (x ∉ known)
noncomputable def nameF (c s : Int) (known : List Str) : Str := if nm3 c s known ∈ known then (freeL known).headD "" else nm3 c s known
theorem ndr_lt (c s : Int) {j : Nat} (hj : j < 17) : (ndr c s j : Int) < nws.getD j 1 := (dr_get nws_pos (show j < nws.length from hj)).2
theorem ndr26 (c s : Int) {j : Nat} (hj : j < 17) (h5 : 5 ≤ j) : ndr c s j < 26 := by
  have := ndr_lt c s hj
  have h : nws.getD j 1 = 26 := by
    have : j = 5 ∨ j = 6 ∨ j = 7 ∨ j = 8 ∨ j = 9 ∨ j = 10 ∨ j = 11 ∨ j = 12 ∨ j = 13 ∨ j = 14 ∨ j = 15 ∨ j = 16 := by omega
    rcases this with rfl | rfl | rfl | rfl | rfl | rfl | rfl | rfl | rfl | rfl | rfl | rfl <;> rfl
  rw [h] at this
  omega
theorem ndr0 (c s : Int) : ndr c s 0 < 5 := by have := ndr_lt c s (j := 0) (by decide); rw [show nws.getD 0 1 = 5 from rfl] at this; omega
theorem ndr1 (c s : Int) : ndr c s 1 < 12 := by have := ndr_lt c s (j := 1) (by decide); rw [show nws.getD 1 1 = 12 from rfl] at this; omega
theorem ndr2 (c s : Int) : ndr c s 2 < 12 := by have := ndr_lt c s (j := 2) (by decide); rw [show nws.getD 2 1 = 12 from rfl] at this; omega
theorem ndr3 (c s : Int) : ndr c s 3 < 26 := by have := ndr_lt c s (j := 3) (by decide); rw [show nws.getD 3 1 = 26 from rfl] at this; omega
theorem ndr4 (c s : Int) : ndr c s 4 < 12 := by have := ndr_lt c s (j := 4) (by decide); rw [show nws.getD 4 1 = 12 from rfl] at this; omega
theorem ndraws_eq (c s : Int) : (drawsF c s nws).map D.int = [.int (ndr c s 0), .int (ndr c s 1), .int (ndr c s 2), .int (ndr c s 3), .int (ndr c s 4), .int (ndr c s 5), .int (ndr c s 6), .int (ndr c s 7), .int (ndr c s 8), .int (ndr c s 9), .int (ndr c s 10), .int (ndr c s 11), .int (ndr c s 12), .int (ndr c s 13), .int (ndr c s 14), .int (ndr c s 15), .int (ndr c s 16)] := by
  rw [draws_eq nws_pos]
  rfl
theorem nameOk_of {x : Str} (h1 : 1 ≤ (tl x).length) (h2 : (tl x).length ≤ 12) (h3 : ∀ c ∈ tl x, 97 ≤ c ∧ c ≤ 122) : NameOk x := ⟨by rw [← len_tl]; exact h1, by rw [← len_tl]; exact h2, h3⟩
theorem joinL_nil : ∀ l : List (List Nat), joinL [] l = l.flatten
  | [] => rfl
  | [a] => by simp [joinL]
  | a :: b :: r => by
    show a ++ ([] ++ joinL [] (b :: r)) = _
    rw [joinL_nil (b :: r)]
    rfl
theorem tl_join_nil (l : List Str) : tl (Txt.join "" l) = (l.map tl).flatten := by
  rw [join_eq, tl_join, show tl ("" : Str) = [] by decide +kernel, joinL_nil]
theorem tl_lets (n : Nat) : tl (letS n) = [97 + n] := rfl
theorem tl_nm0 (c s : Int) : tl (nm0 c s) = (List.range (1 + ndr c s 1)).map fun i => 97 + ndr c s (5 + i) := by
  rw [nm0, tl_join_nil, List.map_map]
  show ((List.range (1 + ndr c s 1)).map fun i => [97 + ndr c s (5 + i)]).flatten = _
  rw [← List.flatMap_def]
  induction (List.range (1 + ndr c s 1)) with
  | nil => rfl
  | cons a r ih => rw [List.flatMap_cons, ih, List.map_cons]; rfl
theorem nm0_ok (c s : Int) : NameOk (nm0 c s) := by
  have h1 := ndr1 c s
  refine nameOk_of ?_ ?_ ?_
  · rw [tl_nm0]; simp
  · rw [tl_nm0]; simp; omega
  · rw [tl_nm0]
    intro x hx
    obtain ⟨i, hi, rfl⟩ := List.mem_map.mp hx
    rw [List.mem_range] at hi
    have := ndr26 c s (j := 5 + i) (by omega) (by omega)
    omega
theorem nm2_ok (c s : Int) : NameOk (nm2 c s) := by
  have h1 := ndr1 c s
  have h3 := ndr3 c s
  unfold nm2
  split
  · have e := PyProof.Rows.mul_one_list (97 + ndr c s 3) ((1 : Int) + (ndr c s 1 : Nat))
    refine nameOk_of ?_ ?_ ?_
    · show 1 ≤ (Txt.mul (⟨#[97 + ndr c s 3]⟩ : Str) _).cps.toList.length
      rw [e]; simp; omega
    · show (Txt.mul (⟨#[97 + ndr c s 3]⟩ : Str) _).cps.toList.length ≤ 12
      rw [e]; simp; omega
    · intro x hx
      have hx : x ∈ (Txt.mul (⟨#[97 + ndr c s 3]⟩ : Str) ((1 : Int) + (ndr c s 1 : Nat))).cps.toList := hx
      rw [e] at hx
      rw [List.eq_of_mem_replicate hx]
      omega
  · unfold nm1
    split
    · obtain ⟨q1, q2, q3⟩ := odd_ok _ (ndr4 c s)
      refine ⟨q1, q2, fun x hx => ?_⟩
      have := List.all_eq_true.mp q3 x hx
      rw [Bool.and_eq_true] at this
      exact ⟨of_decide_eq_true this.1, of_decide_eq_true this.2⟩
    · exact nm0_ok c s
theorem cut_sub {z : Str} {lo hi : Option Int} {x : Nat} (h : x ∈ tl (cutS z lo hi)) : x ∈ tl z := List.mem_of_mem_drop (List.mem_of_mem_take (show x ∈ ((tl z).drop _).take _ from h))
theorem cut12 (z : Str) : tl (cutS z none (some 12)) = (tl z).take 12 := by
  show ((tl z).drop 0).take (HT.sIx z.length z.length (some ((12 : Nat) : Int)) - 0) = _
  rw [HT.sIx_nat, List.drop_zero, Nat.sub_zero, ← len_tl z]
  by_cases h : 12 ≤ (tl z).length
  · rw [Nat.min_eq_left h]
  · rw [Nat.min_eq_right (by omega), List.take_of_length_le (Nat.le_refl _), List.take_of_length_le (by omega)]
theorem cutNm_ok (c s : Int) {z : Str} (hz : NameOk z) : NameOk (cutNm c s z) := by
  have h3 := ndr3 c s
  have e : tl (cutNm c s z) = (tl (cutS z none (some (ndr c s 2 : Int))) ++ [97 + ndr c s 3] ++ tl (cutS z (some ((ndr c s 2 : Int) + (if 5 < ndr c s 1 then 1 else 0))) none)).take 12 := by
    rw [cutNm, cut12, tl_append, tl_append, tl_lets]
  refine nameOk_of ?_ ?_ fun x hx => ?_
  · rw [e, List.length_take, List.length_append, List.length_append]
    simp only [List.length_cons, List.length_nil]
    omega
  · rw [e, List.length_take]; omega
  · rw [e] at hx
    have hx := List.mem_of_mem_take hx
    rw [List.mem_append, List.mem_append] at hx
    rcases hx with (q | q) | q
    · exact hz.az x (cut_sub q)
    · rw [List.mem_singleton.mp q]; omega
    · exact hz.az x (cut_sub q)
theorem nm3_ok (c s : Int) {known : List Str} (hk : ∀ x ∈ known, NameOk x) : NameOk (nm3 c s known) := by
  unfold nm3
  split
  · rename_i h
    refine cutNm_ok c s (hk _ ?_)
    rw [List.getLastD_eq_getLast?]
    cases known with
    | nil => exact absurd rfl h.2
    | cons a r => rw [List.getLast?_eq_some_getLast (by simp)]; exact List.getLast_mem _
  · exact nm2_ok c s
theorem letS_ok {n : Nat} (h : n < 26) : NameOk (letS n) := nameOk_of (by simp [tl_lets]) (by simp [tl_lets]) fun x hx => by rw [List.mem_singleton.mp hx]; omega
theorem letS_inj {a b : Nat} (h : letS a = letS b) : a = b := by
  have := congrArg tl h
  rw [tl_lets, tl_lets] at this
  have := List.head_eq_of_cons_eq this
  omega
theorem free_ne {known : List Str} (h : known.length < 26) : freeL known ≠ [] := by
  intro z
  have hall : ∀ x ∈ (List.range 26).map letS, x ∈ known := by
    intro x hx
    have := List.filter_eq_nil_iff.mp z x hx
    simpa using this
  have nd : ((List.range 26).map letS).Nodup := by decide +kernel
  have := List.Nodup.length_le_of_subset nd hall
  simp at this
  omega
theorem nameF_ok (c s : Int) {known : List Str} (hk : ∀ x ∈ known, NameOk x) (hl : known.length < 26) : NameOk (nameF c s known) := by
  unfold nameF
  split
  · cases q : freeL known with
    | nil => exact absurd q (free_ne hl)
    | cons a r =>
      have : a ∈ freeL known := by rw [q]; simp
      obtain ⟨n, hn, rfl⟩ := List.mem_map.mp ((List.mem_filter.mp this).1)
      exact letS_ok (List.mem_range.mp hn)
  · exact nm3_ok c s hk
/-! a number as it stands -/
def padN (u : Str) (k : Nat) : Str := ⟨(List.replicate k 48 ++ tl u).toArray⟩
theorem tl_padN (u : Str) (k : Nat) : tl (padN u k) = List.replicate k 48 ++ tl u := rfl
theorem padN_len (u : Str) (k : Nat) : (padN u k).length = k + u.length := by rw [← len_tl, tl_padN, List.length_append, List.length_replicate, len_tl]
theorem padN_zero (u : Str) : padN u 0 = u := tl_inj rfl
theorem padN_succ (u : Str) (k : Nat) : ("0" : Str) ++ padN u k = padN u (k + 1) := by
  refine tl_inj ?_
  rw [tl_append, tl_padN, tl_padN, show tl ("0" : Str) = [48] by decide +kernel, List.replicate_succ]
  rfl
theorem zfill_pad {u : Str} {n : Nat} (h : ∀ c, (tl u)[0]? = some c → c ≠ 43 ∧ c ≠ 45) : Txt.zfill u (n : Int) = padN u (n - u.length) := by
  unfold Txt.zfill
  split
  · rw [show n - u.length = 0 by omega, padN_zero]
  · rw [show (n : Int).toNat - u.length = n - u.length by omega]
    unfold zfilled
    have hp : padded u (n - u.length) 0 48 = padN u (n - u.length) := by
      refine tl_inj ?_
      show (padded u (n - u.length) 0 48).cps.toList = _
      rw [PyProof.Rows.padded_list, tl_padN]; simp
    split
    · rename_i hc
      exact absurd rfl (h 43 (by show u.cps.toList[0]? = _; rw [Array.getElem?_toList]; exact hc)).1
    · rename_i hc
      exact absurd rfl (h 45 (by show u.cps.toList[0]? = _; rw [Array.getElem?_toList]; exact hc)).2
    · exact hp
theorem num_first {x : Int} (h : 0 ≤ x) : ∀ c, (tl (Str.ofString (toString x)))[0]? = some c → c ≠ 43 ∧ c ≠ 45 := by
  obtain ⟨n, rfl⟩ := Int.eq_ofNat_of_zero_le h
  intro c hc
  have hc : (tl (Str.ofString (toString ((n : Nat) : Int))))[0]? = some c := hc
  rw [tl_num] at hc
  have := numL_digits n c (List.mem_of_getElem? hc)
  omega
theorem sIx_sub {n p d : Nat} (h0 : 0 < p) (h : p ≤ n) : HT.sIx n d (some ((n : Int) - (p : Int))) = HT.sIx n d (some (-(p : Int))) := by
  rw [show (n : Int) - (p : Int) = ((n - p : Nat) : Int) by omega, HT.sIx_nat]
  show _ = (if (-(p : Int)) < 0 then (-(p : Int) + (n : Int)).toNat else min (-(p : Int)).toNat n)
  rw [if_pos (by omega)]
  omega
def wordsF (f : Form) : Str := Txt.join spS (shapeW f)
theorem words_fold (a b c d : Str) : [a, " ", b, " ", c, " ", d].foldl (· ++ ·) Str.empty = Txt.join spS [a, b, c, d] := by
  refine tl_inj ?_
  rw [join_eq]
  show tl (((((((Str.empty ++ a) ++ (" " : Str)) ++ b) ++ (" " : Str)) ++ c) ++ (" " : Str)) ++ d) = tl (a ++ spS ++ (b ++ spS ++ (c ++ spS ++ d)))
  simp only [tl_append]
  rw [show tl Str.empty = [] from rfl]
  simp only [List.nil_append, List.append_assoc]
end Tl
/-! M8: the mirror: things, states. -/
namespace Tl
open PySem L2 T3 TL
structure Thing where
  f : Form
  fs : List Int
  h : Int
def Thing.row (t : Thing) : List Int := rowW t.f t.fs t.h
def Thing.val (t : Thing) : Int := Tl.val t.f t.fs t.h
def Thing.d (t : Thing) : D := .tup [formD t.f, rowD t.row]
def Thing.Ok (t : Thing) : Prop := Good t.f t.fs t.h
def thingK (f : Form) (x : Int) : Thing := ⟨f, digs (size f x) f.n, sgh x⟩
theorem thingK_ok {f : Form} (ok : f.Ok) (x : Int) : (thingK f x).Ok := good_kept ok x
def tws : List Int := [6, 2, 12, 3, 13, 16, 12, 100000000000000]
theorem tws_pos : ∀ j, j < tws.length → 0 < tws.getD j 1 := by decide
theorem tws_small : ∀ j, j < tws.length → tws.getD j 1 < 2 ^ 62 := by decide
noncomputable abbrev tdr (c s : Int) (j : Nat) : Nat := dr c s tws j
theorem tdraws_eq (c s : Int) : (drawsF c s tws).map D.int = [.int (tdr c s 0), .int (tdr c s 1), .int (tdr c s 2), .int (tdr c s 3), .int (tdr c s 4), .int (tdr c s 5), .int (tdr c s 6), .int (tdr c s 7)] := by
  rw [draws_eq tws_pos]
  rfl
theorem tdr_lt (c s : Int) {j : Nat} (hj : j < 8) : (tdr c s j : Int) < tws.getD j 1 := (dr_get tws_pos (show j < tws.length from hj)).2
theorem tdr1 (c s : Int) : tdr c s 1 < 2 := by have := tdr_lt c s (j := 1) (by decide); rw [show tws.getD 1 1 = 2 from rfl] at this; omega
theorem tdr2 (c s : Int) : tdr c s 2 < 12 := by have := tdr_lt c s (j := 2) (by decide); rw [show tws.getD 2 1 = 12 from rfl] at this; omega
theorem tdr3 (c s : Int) : tdr c s 3 < 3 := by have := tdr_lt c s (j := 3) (by decide); rw [show tws.getD 3 1 = 3 from rfl] at this; omega
theorem tdr7 (c s : Int) : tdr c s 7 < 2 ^ 60 := by have := tdr_lt c s (j := 7) (by decide); rw [show tws.getD 7 1 = 100000000000000 from rfl] at this; omega
noncomputable def tform (c s : Int) (b : Form) : Form := if (0 : Int) < (tdr c s 0 : Nat) then pointF b (b.pt + (if tdr c s 0 = 1 then 1 else 0)) else pointF (formF (tdr c s 1) (tdr c s 2) (tdr c s 3)) (tdr c s 4)
theorem tform_ok (c s : Int) {b : Form} (ok : b.Ok) : (tform c s b).Ok := by
  unfold tform
  split
  · exact pointF_ok ok _
  · exact pointF_ok (formF_ok (tdr2 c s)) _
noncomputable def tnum (c s : Int) (b : Form) : Int := numF (tform c s b) (tdr c s 5) (tdr c s 7)
noncomputable def thingF (c s : Int) (b : Form) : Thing := ⟨tform c s b, digs (size (tform c s b) (tnum c s b)) (tform c s b).n, halfF (tnum c s b) (tdr c s 6)⟩
theorem thingF_ok (c s : Int) {b : Form} (ok : b.Ok) : (thingF c s b).Ok :=
  ⟨tform_ok c s ok, digs_length _ _, fun _ q => digs_mem q, (side_some _ _).2.1, (side_some _ _).2.2⟩
/-! what stands under names -/
abbrev Sta := List (Str × Thing)
def keysS (S : Sta) : List Str := S.map (·.1)
def valsS (S : Sta) : List D := S.map fun p => p.2.d
def staD (S : Sta) : D := .dct (keysS S) (valsS S)
def getS (S : Sta) (x : Str) : Option Thing := (S.find? fun p => decide (p.1 = x)).map (·.2)
def putS (S : Sta) (x : Str) (t : Thing) : Sta := if x ∈ keysS S then S.map fun p => if p.1 = x then (p.1, t) else p else S ++ [(x, t)]
def dropS (S : Sta) (x : Str) : Sta := S.filter fun p => decide (p.1 ≠ x)
theorem valsS_len (S : Sta) : (valsS S).length = (keysS S).length := by simp [valsS, keysS]
theorem dget_S (x : Str) : ∀ S : Sta, dgetD (keysS S) (valsS S) x = (getS S x).map Thing.d
  | [] => rfl
  | (y, t) :: S => by
    have ih := dget_S x S
    by_cases e : y = x
    · subst e; simp [dgetD, getS, keysS, valsS]
    · have e1 : dgetD (keysS ((y, t) :: S)) (valsS ((y, t) :: S)) x = dgetD (keysS S) (valsS S) x := by simp [dgetD, keysS, valsS, e]
      have e2 : getS ((y, t) :: S) x = getS S x := by simp [getS, e]
      rw [e1, e2, ih]
theorem get_mem {S : Sta} {x : Str} (h : x ∈ keysS S) : ∃ t, getS S x = some t ∧ (x, t) ∈ S := by
  unfold getS
  cases q : S.find? fun p => decide (p.1 = x) with
  | none =>
    obtain ⟨p, hp, rfl⟩ := List.mem_map.mp h
    exact absurd (decide_eq_true rfl) (List.find?_eq_none.mp q p hp)
  | some p =>
    have e : p.1 = x := of_decide_eq_true (List.find?_some (p := fun p : Str × Thing => decide (p.1 = x)) q)
    refine ⟨p.2, rfl, ?_⟩
    rw [← e]
    exact List.mem_of_find?_eq_some q
theorem put_S (x : Str) (t : Thing) (S : Sta) : putD (keysS S) (valsS S) x t.d = (keysS (putS S x t), valsS (putS S x t)) := by
  unfold putD putS
  by_cases h : x ∈ keysS S
  · rw [if_pos h, if_pos h]
    clear h
    induction S with
    | nil => rfl
    | cons p S ih =>
      simp only [keysS, valsS, List.map_cons, List.zip_cons_cons, Prod.mk.injEq, List.cons.injEq] at ih ⊢
      by_cases e : p.1 = x
      · simp only [if_pos e]
        exact ⟨⟨trivial, ih.1⟩, trivial, ih.2⟩
      · simp only [if_neg e]
        exact ⟨⟨trivial, ih.1⟩, trivial, ih.2⟩
  · rw [if_neg h, if_neg h]
    simp [keysS, valsS]
theorem drop_S (x : Str) (S : Sta) : dropD (keysS S) (valsS S) x = (keysS (dropS S x), valsS (dropS S x)) := by
  unfold dropD dropS
  induction S with
  | nil => rfl
  | cons p S ih =>
    simp only [keysS, valsS, List.map_cons, List.zip_cons_cons, Prod.mk.injEq] at ih ⊢
    by_cases e : p.1 = x
    · subst e
      simp only [List.filter_cons, ne_eq, not_true_eq_false, decide_false, Bool.false_eq_true, if_false]
      exact ih
    · simp only [List.filter_cons, ne_eq, e, not_false_eq_true, decide_true, if_true, List.map_cons, List.cons.injEq]
      exact ⟨⟨trivial, ih.1⟩, trivial, ih.2⟩
structure StaOk (S : Sta) : Prop where
  things : ∀ p ∈ S, p.2.Ok
  names : ∀ p ∈ S, NameOk p.1
  few : S.length ≤ 60
theorem put_ok {S : Sta} {x : Str} {t : Thing} (h : StaOk S) (hx : NameOk x) (ht : t.Ok) (hl : S.length < 60) : StaOk (putS S x t) := by
  unfold putS
  split
  · refine ⟨fun p hp => ?_, fun p hp => ?_, by rw [List.length_map]; exact h.few⟩
    · obtain ⟨q, hq, rfl⟩ := List.mem_map.mp hp
      split
      · exact ht
      · exact h.things q hq
    · obtain ⟨q, hq, rfl⟩ := List.mem_map.mp hp
      split
      · exact h.names q hq
      · exact h.names q hq
  · refine ⟨fun p hp => ?_, fun p hp => ?_, by rw [List.length_append]; exact hl⟩
    · rcases List.mem_append.mp hp with q | q
      · exact h.things p q
      · rw [List.mem_singleton.mp q]; exact ht
    · rcases List.mem_append.mp hp with q | q
      · exact h.names p q
      · rw [List.mem_singleton.mp q]; exact hx
theorem put_len (S : Sta) (x : Str) (t : Thing) : (putS S x t).length ≤ S.length + 1 := by
  unfold putS
  split
  · rw [List.length_map]; omega
  · rw [List.length_append]; exact Nat.le_refl _
theorem drop_len (S : Sta) (x : Str) : (dropS S x).length ≤ S.length := List.length_filter_le _ _
theorem drop_ok {S : Sta} {x : Str} (h : StaOk S) : StaOk (dropS S x) :=
  ⟨fun p hp => h.things p (List.mem_filter.mp hp).1, fun p hp => h.names p (List.mem_filter.mp hp).1, Nat.le_trans (drop_len S x) h.few⟩
def missF (ks : List Str) (l : List Str) : D := match l.find? fun x => decide (x ∉ ks) with
  | none => .non
  | some x => .tup [.str "NoName", .str x]
theorem odd_list : (List.range 12).map oddName = [Str.ofString "keep", Str.ofString "none", Str.ofString "sum", Str.ofString "packed", Str.ofString "end", Str.ofString "undo", Str.ofString "cut", Str.ofString "names", Str.ofString "good", Str.ofString "tens", Str.ofString "less", Str.ofString "spread"] := by decide +kernel
theorem ten14 : (10 : Int) ^ (14 : Int).toNat = 100000000000000 := by decide
noncomputable def namesF (sc : List Int) : Nat → List Str
  | 0 => []
  | i + 1 => namesF sc i ++ [nameF (cellF sc i) (501 + 11 * (i : Nat)) (namesF sc i)]
theorem namesF_len (sc : List Int) : ∀ i, (namesF sc i).length = i
  | 0 => rfl
  | i + 1 => by rw [namesF, List.length_append, namesF_len sc i]; rfl
theorem namesF_ok (sc : List Int) : ∀ i, i ≤ 5 → ∀ x ∈ namesF sc i, NameOk x
  | 0, _, x, h => by simp [namesF] at h
  | i + 1, hi, x, h => by
    have ih := namesF_ok sc i (by omega)
    rcases List.mem_append.mp h with q | q
    · exact ih x q
    · rw [List.mem_singleton.mp q]
      exact nameF_ok _ _ ih (by rw [namesF_len]; omega)
theorem mulOkS (a : Nat) {n : Int} (h1 : 1 ≤ n) (h2 : n ≤ 12) : MulOk (letS a) n := by
  have e : (letS a).length = 1 := rfl
  have : n = 1 ∨ n = 2 ∨ n = 3 ∨ n = 4 ∨ n = 5 ∨ n = 6 ∨ n = 7 ∨ n = 8 ∨ n = 9 ∨ n = 10 ∨ n = 11 ∨ n = 12 := by omega
  unfold MulOk
  rw [e]
  rcases this with rfl | rfl | rfl | rfl | rfl | rfl | rfl | rfl | rfl | rfl | rfl | rfl <;> decide +kernel
end Tl
set_option maxHeartbeats 2000000
/-! P5: lines read. -/
namespace Tl
open PySem L2 T3 TL
local macro_rules | `(tactic| walk_at "len") => `(tactic| first | decide | (simp; done) | omega | (simp; omega))
def formsTab : List (Str × List Str) := [(Str.ofString "lay", [Str.ofString "name", Str.ofString "shape", Str.ofString "bytes"]), (Str.ofString "less", [Str.ofString "name", Str.ofString "one", Str.ofString "one"]), (Str.ofString "drop", [Str.ofString "one"]), (Str.ofString "undo", []), (Str.ofString "again", []),
  (Str.ofString "names", []), (Str.ofString "show", [Str.ofString "one"]), (Str.ofString "bytes", [Str.ofString "one"]), (Str.ofString "shape", [Str.ofString "one"]), (Str.ofString "order", [Str.ofString "one", Str.ofString "one"])]
structure Tabs2 (K : PySem.W.Frag) (w : World) (mg : Str → Option Value) : Prop where
  FORMS : ∀ p ∈ formsTab, KTab K w mg "FORMS" p.1 (.tup (p.2.map .str))
  rname : KFun K w mg "READERS" "name" "read_name"
  rone : KFun K w mg "READERS" "one" "read_name"
inductive PartOk : Str → List Str → D → Prop
  | shape (f : Form) (ok : f.Ok) : PartOk "shape" (shapeW f) (formD f)
  | bytes (ws : List Str) (h : (ws.map (·.length)).sum + ws.length * spS.length ≤ 100000) (h1 : 1 ≤ ws.length) : PartOk "bytes" ws (.str (Txt.join spS ws))
  | name (x : Str) (h : NameOk x) : PartOk "name" [x] (.str x)
  | one (x : Str) (h : NameOk x) : PartOk "one" [x] (.str x)
structure Tri where
  p : Str
  c : List Str
  d : D
def Tri.pair (t : Tri) : D := .tup [.str t.p, t.d]
def chunks (ts : List Tri) : List Str := ts.flatMap Tri.c
structure LineOk (wd : Str) (ts : List Tri) : Prop where
  tab : (wd, ts.map Tri.p) ∈ formsTab
  parts : ∀ t ∈ ts, PartOk t.p t.c t.d
  last : ∀ i t, ts[i]? = some t → t.p = ("bytes" : Str) → i + 1 = ts.length
  free : ∀ x ∈ wd :: chunks ts, 32 ∉ tl x ∧ x ≠ ""
  few : (chunks ts).length ≤ 90
  short : (Txt.join spS (wd :: chunks ts)).length ≤ 90000
theorem chunks_take {ts : List Tri} {i : Nat} {t : Tri} (h : ts[i]? = some t) : chunks (ts.take (i + 1)) = chunks (ts.take i) ++ t.c := by
  rw [List.take_succ, h, chunks, chunks, List.flatMap_append]
  simp
theorem chunks_split {ts : List Tri} {i : Nat} {t : Tri} (h : ts[i]? = some t) : chunks ts = chunks (ts.take i) ++ (t.c ++ chunks (ts.drop (i + 1))) := by
  have hi := (List.getElem?_eq_some_iff.mp h)
  conv => lhs; rw [← List.take_append_drop i ts]
  rw [chunks, List.flatMap_append, List.drop_eq_getElem_cons hi.1, List.flatMap_cons, hi.2]
  rfl
theorem cut_mid (a c r : List Str) (x : Str) : cutD ((x :: (a ++ (c ++ r))).map D.str) (some ((1 + a.length : Nat) : Int)) (some ((1 + a.length + c.length : Nat) : Int)) = c.map D.str := by
  unfold cutD
  rw [HT.sIx_nat, HT.sIx_nat, List.length_map]
  have hl : (x :: (a ++ (c ++ r))).length = 1 + a.length + c.length + r.length := by simp; omega
  rw [hl, Nat.min_eq_left (by omega), Nat.min_eq_left (by omega), ← List.map_drop, ← List.map_take]
  congr 1
  rw [show 1 + a.length + c.length - (1 + a.length) = c.length by omega, show 1 + a.length = a.length + 1 by omega, List.drop_succ_cons, List.drop_left' rfl, List.take_left' rfl]
section
variable {X : Cx} {N : List Str} {sc : Scope} {P : Program} {w : World} {K : PySem.W.Frag} {mg : Str → Option Value} {base : Heap} {k : Nat}
variable {A : Anc} {M : List Cell} {ρ : Env3}
def s_read_part : Stmt := topS 87
theorem sc_read_part : FnScope ["part", "words", "reader"] ["part", "words"] (defScope s_read_part) := ⟨rfl, rfl, rfl, by decide +kernel, rfl, by decide +kernel, by decide +kernel⟩
def G_read_part (ds : List D) (d : D) : Prop := ∃ (p : Str) (c : List Str) (z : D), PartOk p c z ∧ ds = [.str p, .lst (c.map .str)] ∧ d = z
theorem d_read_part (T : Tops K mg) (T2 : Tabs2 K w mg) (D_read_shape : Dfn P w K mg base "read_shape" 2 G_read_shape) (D_read_name : Dfn P w K mg base "read_name" 1 G_read_name) {f : Addr} {fd : FuncData} (F : Fun K "read_part" "read_part" s_read_part f fd) (hb : Binds K fd ["part", "words"] []) (hm : mg "read_part" = some (.ref f)) : Dfn P w K mg base "read_part" 3 G_read_part := by
  refine dfn_of F sc_read_part hb hm (fun ds d h => ?_) ?_
  · obtain ⟨_, _, _, _, rfl, _⟩ := h; rfl
  rintro X A hX hF hP ds d ⟨p, c, z, ok, rfl, rfl⟩
  cases ok with
  | shape f ok => exact sd_ifT (et_is (et_cmp hX (ed_var hX 0 rfl rfl) ed_str o_eqS) (by decide +kernel)) (sd_ret (ed_call hX D_read_shape (by decide) (eds_cons (ed_var hX 1 rfl rfl) eds_nil) (⟨f, ok, rfl, rfl⟩)) rfl)
  | bytes ws h h1 =>
    refine sd_skip (et_is (et_cmp hX (ed_var hX 0 rfl rfl) ed_str o_eqS) (by decide +kernel)) ?_
    exact sd_ifT (et_is (et_cmp hX (ed_var hX 0 rfl rfl) ed_str o_eqS) (by decide +kernel)) (sd_ret (ed_join (ys := c) ed_str (ed_var hX 1 rfl rfl) h) rfl)
  | name x h =>
    refine sd_skip (et_is (et_cmp hX (ed_var hX 0 rfl rfl) ed_str o_eqS) (by decide +kernel)) ?_
    refine sd_skip (et_is (et_cmp hX (ed_var hX 0 rfl rfl) ed_str o_eqS) (by decide +kernel)) ?_
    refine sd_skip (et_is (et_cmp hX (ed_var hX 0 rfl rfl) ed_str o_eqS) (by decide +kernel)) ?_
    exact sd_reader hX 2 rfl T2.rname D_read_name (by decide) (ed_var hX 0 rfl rfl) (ed_ix hX (ed_var hX 1 rfl rfl) ed_int (i_lst (d := .str x) rfl)) (show 2 < 3 by decide) ⟨x, h, rfl, rfl⟩ rfl
  | one x h =>
    refine sd_skip (et_is (et_cmp hX (ed_var hX 0 rfl rfl) ed_str o_eqS) (by decide +kernel)) ?_
    refine sd_skip (et_is (et_cmp hX (ed_var hX 0 rfl rfl) ed_str o_eqS) (by decide +kernel)) ?_
    refine sd_skip (et_is (et_cmp hX (ed_var hX 0 rfl rfl) ed_str o_eqS) (by decide +kernel)) ?_
    exact sd_reader hX 2 rfl T2.rone D_read_name (by decide) (ed_var hX 0 rfl rfl) (ed_ix hX (ed_var hX 1 rfl rfl) ed_int (i_lst (d := .str x) rfl)) (show 2 < 3 by decide) ⟨x, h, rfl, rfl⟩ rfl

def s_parts_of : Stmt := topS 88
theorem sc_parts_of : FnScope ["line", "words", "parts", "at", "part", "many"] ["line"] (defScope s_parts_of) := ⟨rfl, rfl, rfl, by decide +kernel, rfl, by decide +kernel, by decide +kernel⟩
def G_parts_of (ds : List D) (d : D) : Prop := ∃ (wd : Str) (ts : List Tri), LineOk wd ts ∧ ds = [.str (Txt.join spS (wd :: chunks ts))] ∧ d = .tup [.str wd, .lst (ts.map Tri.pair)]
theorem d_parts_of (T : Tops K mg) (T2 : Tabs2 K w mg) (D_read_part : Dfn P w K mg base "read_part" 3 G_read_part) {f : Addr} {fd : FuncData} (F : Fun K "parts_of" "parts_of" s_parts_of f fd) (hb : Binds K fd ["line"] []) (hm : mg "parts_of_desk" = some (.ref f)) : Dfn P w K mg base "parts_of_desk" 4 G_parts_of := by
  refine dfn_of F sc_parts_of hb hm (fun ds d h => ?_) ?_
  · obtain ⟨_, _, _, rfl, _⟩ := h; rfl
  rintro X A hX hF hP ds d ⟨wd, ts, lo, rfl, rfl⟩
  have hsp : Txt.split (Txt.join spS (wd :: chunks ts)) spS = wd :: chunks ts := split_words (by simp) fun x hx => (lo.free x hx).1
  have htl : ts.length ≤ 10 := by
    have : ∀ p ∈ formsTab, p.2.length ≤ 10 := by decide
    have := this _ lo.tab
    rwa [List.length_map] at this
  have hfew := lo.few
  refine sd_set hX 1 rfl (ed_split (ed_var hX 0 rfl rfl) ed_str (by decide +kernel) (Nat.le_trans lo.short (by decide))) ?_
  have hsp' : Txt.split (Txt.join spS (wd :: chunks ts)) (Str.ofString " ") = wd :: chunks ts := hsp
  rw [hsp']
  have h0 : ∀ x ∈ wd :: chunks ts, x ≠ "" := fun x hx => (lo.free x hx).2
  refine sd_skip (et_is (et_w (ew_or (t := false) (et_is (et_cmp hX ed_str (ed_var hX 1 rfl rfl) (o_inLS (wd :: chunks ts))) (decide_eq_false fun z => h0 _ z rfl)) (fun _ => ew_or1 (et_ntab hX (T2.FORMS _ lo.tab) (ed_ix hX (ed_var hX 1 rfl rfl) ed_int (i_lst (d := .str wd) (atI_nat (i := 0) rfl))))))) rfl) ?_
  refine sd_setF hX 2 rfl (ef_lst eds_nil (by simp)) ?_
  refine sd_set hX 3 rfl ed_int ?_
  refine sd_forT hX 4 (ed_tab hX (T2.FORMS _ lo.tab) (ed_ix hX (ed_var hX 1 rfl rfl) ed_int (i_lst (d := .str wd) (atI_nat (i := 0) rfl)))) (fun i => [.lst ((ts.take i).map Tri.pair)]) (fun i => [none, some (.sh (.lst ((wd :: chunks ts).map .str))), some (.cell 0), some (.sh (.int ((1 + (chunks (ts.take i)).length : Nat) : Int))), none, none]) ⟨rfl, rfl, rfl, rfl, trivial⟩ rfl ?_ ?_ hP
  · intro A' le i z hi
    obtain ⟨q, hq, rfl⟩ := map_get' hi
    obtain ⟨t, ht, rfl⟩ := map_get' hq
    have hok := lo.parts t (List.mem_of_getElem? ht)
    have hsplit := chunks_split ht
    have hlen : (chunks ts).length = (chunks (ts.take i)).length + (t.c.length + (chunks (ts.drop (i + 1))).length) := by rw [hsplit]; simp
    refine sd_set hX 5 rfl ed_int ?_
    refine sd_join (fun M ρ => M = [.lst ((ts.take i).map Tri.pair)] ∧ ρ = [none, some (.sh (.lst ((wd :: chunks ts).map .str))), some (.cell 0), some (.sh (.int ((1 + (chunks (ts.take i)).length : Nat) : Int))), some (.sh (.str t.p)), some (.sh (.int (t.c.length : Nat)))]) (et_cmp hX (ed_var hX 4 rfl rfl) ed_str o_eqS) (fun hs => ?_) (fun hs => ?_) ?_
    · have e : t.p = ("shape" : Str) := of_decide_eq_true hs
      have h4 : t.c.length = 4 := by
        rw [e] at hok
        generalize t.c = c at *
        generalize t.d = dd at *
        generalize hpp : ("shape" : Str) = pp at hok
        cases hok with
        | shape f ok => rfl
        | bytes ws h h1 => exact absurd hpp (by decide +kernel)
        | name x h => exact absurd hpp (by decide +kernel)
        | one x h => exact absurd hpp (by decide +kernel)
      exact sd_set hX 5 rfl ed_int (sd_nil ⟨rfl, by rw [h4]; rfl⟩)
    · have e : ¬ t.p = ("shape" : Str) := of_decide_eq_false hs
      refine sd_if (et_cmp hX (ed_var hX 4 rfl rfl) ed_str o_eqS) (fun hs2 => ?_) (fun hs2 => ?_)
      · have e2 : t.p = ("bytes" : Str) := of_decide_eq_true hs2
        have hlast := lo.last i t ht e2
        have hd : ts.drop (i + 1) = [] := List.drop_eq_nil_of_le (by omega)
        have h1 : 1 ≤ t.c.length := by
          rw [e2] at hok
          generalize t.c = c at *
          generalize t.d = dd at *
          generalize hpp : ("bytes" : Str) = pp at hok
          cases hok with
          | shape f ok => exact absurd hpp (by decide +kernel)
          | bytes ws h h1 => exact h1
          | name x h => exact absurd hpp (by decide +kernel)
          | one x h => exact absurd hpp (by decide +kernel)
        refine sd_set hX 5 rfl (d := .int (t.c.length : Nat)) (ed_is (ed_callB hX T.max b_max (eds_cons ed_int (eds_cons (ed_bin hX (ed_callB hX T.len b_len (eds_cons (ed_var hX 1 rfl rfl) eds_nil) c_lenL) (ed_var hX 3 rfl rfl) o_sub) eds_nil)) c_max) ?_) (sd_nil (sd_nil ⟨rfl, rfl⟩))
        rw [List.length_map, List.length_cons, hlen, hd]
        show D.int (if _ then _ else _) = _
        have e3 : (((chunks (List.take i ts)).length + (t.c.length + (chunks ([] : List Tri)).length) + 1 : Nat) : Int) - ((1 + (chunks (ts.take i)).length : Nat) : Int) = (t.c.length : Nat) := by
          show (((chunks (List.take i ts)).length + (t.c.length + 0) + 1 : Nat) : Int) - _ = _
          omega
        rw [e3]
        split
        · rfl
        · congr 1; omega
      · have e2 : ¬ t.p = ("bytes" : Str) := of_decide_eq_false hs2
        have h1 : t.c.length = 1 := by
          generalize t.p = pp at *
          generalize t.c = c at *
          generalize t.d = dd at *
          cases hok with
          | shape f ok => exact absurd rfl e
          | bytes ws h h1 => exact absurd rfl e2
          | name x h => rfl
          | one x h => rfl
        exact sd_nil (sd_nil ⟨rfl, by rw [h1]; rfl⟩)
    rintro M ρ ⟨rfl, rfl⟩
    have esum : ((1 + (chunks (ts.take i)).length : Nat) : Int) + (t.c.length : Nat) = ((1 + (chunks (ts.take i)).length + t.c.length : Nat) : Int) := by omega
    refine sd_skip (et_is (et_cmp hX (ed_bin hX (ed_var hX 3 rfl rfl) (ed_var hX 5 rfl rfl) o_add) (ed_callB hX T.len b_len (eds_cons (ed_var hX 1 rfl rfl) eds_nil) c_lenL) o_gt) (by rw [List.length_map, List.length_cons, hlen]; exact decide_eq_false (by omega))) ?_
    refine sd_append hX (ec_var hX 2 rfl rfl) rfl (d := t.pair) (eds_cons (ed_tup (eds_cons (ed_var hX 4 rfl rfl) (eds_cons (ed_call hX D_read_part (by decide) (eds_cons (ed_var hX 4 rfl rfl) (eds_cons (ed_slice hX (ed_var hX 1 rfl rfl) (eo_some (ed_var hX 3 rfl rfl)) (eo_some (ed_bin hX (ed_var hX 3 rfl rfl) (ed_var hX 5 rfl rfl) o_add)) l_lst) eds_nil)) ⟨t.p, t.c, t.d, hok, by rw [esum, hsplit, cut_mid], rfl⟩) eds_nil)) (by simp)) eds_nil) (by rw [List.length_map, List.length_take]; omega) ?_
    refine sd_aug hX 3 rfl rfl (ed_var hX 5 rfl rfl) o_iadd ?_
    refine sd_nil ⟨?_, rfl, rfl, ?_, trivial⟩
    · rw [List.take_succ, ht, List.map_append]; rfl
    · rw [chunks_take ht, List.length_append, esum]
      congr 3
      omega
  have hall : ts.take (((ts.map Tri.p).map D.str).length) = ts := by rw [List.length_map, List.length_map, List.take_length]
  rw [hall]
  refine sd_skip (et_is (et_cmp hX (ed_var hX 3 rfl rfl) (ed_callB hX T.len b_len (eds_cons (ed_var hX 1 rfl rfl) eds_nil) c_lenL) o_lt) (by rw [List.length_map, List.length_cons]; exact decide_eq_false (by omega))) ?_
  refine sd_freeze 2 0 rfl rfl rfl ?_
  exact sd_ret (ed_tup (eds_cons (ed_ix hX (ed_var hX 1 rfl rfl) ed_int (i_lst (d := .str wd) (atI_nat (i := 0) rfl))) (eds_cons (ed_var hX 2 rfl rfl) eds_nil)) (by simp)) rfl
end
end Tl
set_option maxHeartbeats 1000000
/-! L1: the other side: draws, forms, rows. -/
namespace Tl
open PySem L2 T3 TL
local macro_rules | `(tactic| walk_at "len") => `(tactic| first | decide | (simp; done) | omega | (simp; omega))
section
variable {X : Cx} {N : List Str} {sc : Scope} {P : Program} {w : World} {K : PySem.W.Frag} {mg : Str → Option Value} {base : Heap} {k : Nat}
variable {A : Anc} {M : List Cell} {ρ : Env3}
def s_l_cell : Stmt := topS 97
theorem sc_l_cell : FnScope ["_law_script", "_law_k"] ["_law_script", "_law_k"] (defScope s_l_cell) := ⟨rfl, rfl, rfl, by decide +kernel, rfl, by decide +kernel, by decide +kernel⟩
def G_l_cell (ds : List D) (d : D) : Prop := ∃ (sc : List Int) (k : Nat), sc.length ≤ 63 ∧ k < 1000 ∧ ds = [.ro (sc.map .int), .int (k : Nat)] ∧ d = .int (cellF sc k)
theorem d_l_cell (T : Tops K mg) {f : Addr} {fd : FuncData} (F : Fun K "_law_cell" "_law_cell" s_l_cell f fd) (hb : Binds K fd ["_law_script", "_law_k"] []) (hm : mg "_law_cell" = some (.ref f)) : Dfn P w K mg base "_law_cell" 1 G_l_cell := by
  refine dfn_of F sc_l_cell hb hm (fun ds d h => ?_) ?_
  · obtain ⟨sc, k, _, _, rfl, _⟩ := h; rfl
  rintro X A hX hF hP ds d ⟨s, k, hl, hk, rfl, rfl⟩
  refine sd_if (t := decide (k < s.length)) (et_is (et_cmp hX (ed_var hX 1 rfl rfl) (ed_callB hX T.len b_len (eds_cons (ed_var hX 0 rfl rfl) eds_nil) c_lenR) o_lt) (by rw [List.length_map]; exact decide_eq_decide.mpr (by omega))) (fun ht => ?_) (fun hf => ?_)
  · have h1 : k < s.length := of_decide_eq_true ht
    refine sd_ret (ed_ix hX (ed_var hX 0 rfl rfl) (ed_var hX 1 rfl rfl) (i_ro (atI_nat (map_get (List.getElem?_eq_getElem h1))))) ?_
    show D.int _ = D.int _
    rw [cellF, if_pos h1, List.getD_eq_getElem?_getD, List.getElem?_eq_getElem h1]
    rfl
  have h1 : ¬ k < s.length := of_decide_eq_false hf
  refine sd_nil ?_
  refine sd_if (t := decide (s.length = 0)) (et_is (et_cmp hX (ed_callB hX T.len b_len (eds_cons (ed_var hX 0 rfl rfl) eds_nil) c_lenR) ed_int o_eqI) (by rw [List.length_map]; exact decide_eq_decide.mpr (by omega))) (fun ht => ?_) (fun hf => ?_)
  · have h2 : s.length = 0 := of_decide_eq_true ht
    refine sd_ret (ed_bin hX ed_int (ed_bin hX (ed_var hX 1 rfl rfl) ed_int o_add) (o_mul (mulOk (by decide) (by omega)))) ?_
    show D.int _ = D.int _
    rw [cellF, if_neg h1, if_pos h2]
  have h2 : ¬ s.length = 0 := of_decide_eq_false hf
  have h3 : k % s.length < s.length := Nat.mod_lt _ (by omega)
  refine sd_nil (sd_ret (ed_bin hX (ed_ix hX (ed_var hX 0 rfl rfl) (ed_bin hX (ed_var hX 1 rfl rfl) (ed_callB hX T.len b_len (eds_cons (ed_var hX 0 rfl rfl) eds_nil) c_lenR) (o_mod (by rw [List.length_map]; omega))) (i_ro (d := .int (s.getD (k % s.length) 0)) ?_)) (ed_bin hX ed_int (ed_var hX 1 rfl rfl) (o_mul (mulOk (by decide) (by omega)))) o_add) ?_)
  · rw [List.length_map, show (k : Int) % (s.length : Int) = ((k % s.length : Nat) : Int) by omega]
    refine atI_nat (map_get ?_)
    rw [List.getD_eq_getElem?_getD, List.getElem?_eq_getElem h3]; rfl
  · show D.int _ = D.int _
    rw [cellF, if_neg h1, if_neg h2]

def s_l_mixed : Stmt := topS 98
theorem sc_l_mixed : FnScope ["_law_cell_here", "_law_k", "_law_salt", "_law_primes", "_law_one", "_law_two"] ["_law_cell_here", "_law_k", "_law_salt"] (defScope s_l_mixed) := ⟨rfl, rfl, rfl, by decide +kernel, rfl, by decide +kernel, by decide +kernel⟩
def G_l_mixed (ds : List D) (d : D) : Prop := ∃ (c : Int) (k : Nat) (s : Int), k < 1000 ∧ 0 ≤ s ∧ s < 1000 ∧ ds = [.int c, .int (k : Nat), .int s] ∧ d = .int (mixedF c k s)
theorem d_l_mixed (T : Tops K mg) {f : Addr} {fd : FuncData} (F : Fun K "_law_mixed" "_law_mixed" s_l_mixed f fd) (hb : Binds K fd ["_law_cell_here", "_law_k", "_law_salt"] []) (hm : mg "_law_mixed" = some (.ref f)) : Dfn P w K mg base "_law_mixed" 1 G_l_mixed := by
  refine dfn_of F sc_l_mixed hb hm (fun ds d h => ?_) ?_
  · obtain ⟨c, k, s, _, _, _, rfl, _⟩ := h; rfl
  rintro X A hX hF hP ds d ⟨c, k, s, hk, hs0, hs, rfl, rfl⟩
  refine sd_set hX 3 rfl (d := .lst ((offs.map fun o => m31 - o).map .int)) (ed_is (ed_lst (eds_cons ed_int (eds_cons ed_int (eds_cons ed_int (eds_cons ed_int (eds_cons ed_int (eds_cons ed_int (eds_cons ed_int (eds_cons ed_int eds_nil)))))))) (by simp)) rfl) ?_
  have p1 := prm_range k
  have hm : ∀ x : Int, 0 ≤ x % m31 ∧ x % m31 < 2147483647 := fun x => ⟨Int.emod_nonneg x (by decide), Int.emod_lt_of_pos x (by decide)⟩
  refine sd_set hX 4 rfl (ed_bin hX (ed_bin hX (ed_bin hX (ed_bin hX (ed_var hX 0 rfl rfl) (ed_bin hX ed_int (ed_var hX 2 rfl rfl) (o_mul (mulOk (by decide) (by omega)))) o_add) (ed_bin hX ed_int (ed_var hX 1 rfl rfl) (o_mul (mulOk (by decide) (by omega)))) o_add) ed_int o_add) ed_int (o_mod (by decide))) ?_
  have q1 := hm (c + 7919 * s + 104729 * (k : Int) + 13)
  refine sd_set hX 4 rfl (d := .int (mixOne c k s)) (ed_bin hX (ed_bin hX (ed_var hX 4 rfl rfl) ed_int (o_pow ⟨by decide, by decide, by omega⟩)) (ed_ix hX (ed_var hX 3 rfl rfl) (ed_bin hX (ed_var hX 1 rfl rfl) ed_int (o_mod (by decide))) (i_lst (d := .int (prm k)) ?_)) (o_mod p1.1)) ?_
  · rw [show (k : Int) % 8 = ((k % 8 : Nat) : Int) by omega]
    refine atI_nat (map_get ?_)
    have h8 : k % 8 < offs.length := Nat.mod_lt _ (by decide)
    rw [List.getElem?_map, List.getElem?_eq_getElem h8]
    show some _ = some _
    rw [prm, List.getD_eq_getElem?_getD, List.getElem?_eq_getElem h8]
    rfl
  have q2 : 0 ≤ mixOne c k s ∧ mixOne c k s < prm k := ⟨Int.emod_nonneg _ (Int.ne_of_gt p1.1), Int.emod_lt_of_pos _ p1.1⟩
  refine sd_set hX 5 rfl (d := .int (mixTwo c k s)) (ed_bin hX (ed_bin hX (ed_bin hX (ed_var hX 4 rfl rfl) (ed_bin hX ed_int (ed_var hX 2 rfl rfl) (o_mul (mulOk (by decide) (by omega)))) o_add) (ed_var hX 1 rfl rfl) o_add) ed_int (o_mod (by decide))) ?_
  have q3 : 0 ≤ mixTwo c k s ∧ mixTwo c k s < 2147483647 := hm _
  have q4 := hm (mixTwo c k s ^ 5)
  exact sd_ret (ed_bin hX (ed_bin hX (ed_bin hX (ed_bin hX (ed_var hX 5 rfl rfl) ed_int (o_pow ⟨by decide, by decide, by omega⟩)) ed_int (o_mod (by decide))) ed_int (o_mul (mulOk (show (mixTwo c k s ^ 5 % m31).natAbs < 2 ^ 64 by omega) (by decide)))) (ed_var hX 4 rfl rfl) o_add) rfl

def s_l_draws : Stmt := topS 99
theorem sc_l_draws : FnScope ["_law_cell_here", "_law_salt", "_law_widths", "_law_found", "_law_left", "_law_k"] ["_law_cell_here", "_law_salt", "_law_widths"] (defScope s_l_draws) := ⟨rfl, rfl, rfl, by decide +kernel, rfl, by decide +kernel, by decide +kernel⟩
def G_l_draws (ds : List D) (d : D) : Prop := ∃ (c s : Int) (ws : List Int), 0 ≤ s ∧ s < 1000 ∧ ws.length ≤ 20 ∧ (∀ j, j < ws.length → 0 < ws.getD j 1) ∧ (∀ j, j < ws.length → ws.getD j 1 < 2 ^ 62) ∧ ds = [.int c, .int s, .lst (ws.map .int)] ∧ d = .lst ((drawsF c s ws).map .int)
theorem d_l_draws (T : Tops K mg) (D_l_mixed : Dfn P w K mg base "_law_mixed" 1 G_l_mixed) {f : Addr} {fd : FuncData} (F : Fun K "_law_draws" "_law_draws" s_l_draws f fd) (hb : Binds K fd ["_law_cell_here", "_law_salt", "_law_widths"] []) (hm : mg "_law_draws" = some (.ref f)) : Dfn P w K mg base "_law_draws" 2 G_l_draws := by
  refine dfn_of F sc_l_draws hb hm (fun ds d h => ?_) ?_
  · obtain ⟨c, s, ws, _, _, _, _, _, rfl, _⟩ := h; rfl
  rintro X A hX hF hP ds d ⟨c, s, ws, hs0, hs, hl, hw, hw2, rfl, rfl⟩
  refine sd_setF hX 3 rfl (ef_lst eds_nil (by simp)) ?_
  refine sd_set hX 4 rfl ed_int ?_
  refine sd_join (fun M ρ => M = [.lst []] ∧ ρ = [some (.sh (.int c)), some (.sh (.int s)), some (.sh (.lst (ws.map .int))), some (.cell 0), some (.sh (.int (drawsSt c s ws 0).2)), none]) (et_cmp hX (ed_callB hX T.abs b_abs (eds_cons (ed_var hX 0 rfl rfl) eds_nil) c_abs) (ed_bin hX ed_int ed_int (o_pow ⟨by decide, by decide, by decide⟩)) o_ge) (fun ht => ?_) (fun hf => ?_) ?_
  · have h0 : (10 : Int) ^ 18 ≤ (if c < 0 then -c else c) := of_decide_eq_true ht
    exact sd_set hX 4 rfl (ed_callB hX T.abs b_abs (eds_cons (ed_var hX 0 rfl rfl) eds_nil) c_abs) (sd_nil ⟨rfl, by simp only [drawsSt]; rw [if_pos h0]; rfl⟩)
  · have h0 : ¬ (10 : Int) ^ 18 ≤ (if c < 0 then -c else c) := of_decide_eq_false hf
    exact sd_nil ⟨rfl, by simp only [drawsSt]; rw [if_neg h0]; rfl⟩
  rintro M ρ ⟨rfl, rfl⟩
  refine sd_forR hX ws.length 5 T.range (ed_is (ed_callB hX T.len b_len (eds_cons (ed_var hX 2 rfl rfl) eds_nil) c_lenL) (by rw [List.length_map])) (by omega) (fun i => [.lst ((drawsSt c s ws i).1.map .int)]) (fun i => [some (.sh (.int c)), some (.sh (.int s)), some (.sh (.lst (ws.map .int))), some (.cell 0), some (.sh (.int (drawsSt c s ws i).2)), none]) ⟨rfl, rfl, rfl, rfl, rfl, rfl, trivial⟩ rfl ?_ ?_ hP
  · intro A' le i hi
    have hg : ws[i]? = some (ws.getD i 1) := by rw [List.getD_eq_getElem?_getD, List.getElem?_eq_getElem hi]; rfl
    have hp := hw i hi
    have hp2 := hw2 i hi
    have hll := drawsSt_len c s ws i
    refine sd_if (et_cmp hX (ed_var hX 4 rfl rfl) ed_int o_gt) (fun ht => ?_) (fun hf => ?_)
    · have h0 : 0 < (drawsSt c s ws i).2 := of_decide_eq_true ht
      refine sd_append hX (ec_var hX 3 rfl rfl) rfl (eds_cons (ed_bin hX (ed_var hX 4 rfl rfl) (ed_ix hX (ed_var hX 2 rfl rfl) (ed_var hX 5 rfl rfl) (i_lst (atI_nat (map_get hg)))) (o_mod hp)) eds_nil) (by rw [List.length_map, hll]; omega) ?_
      refine sd_set hX 4 rfl (ed_bin hX (ed_var hX 4 rfl rfl) (ed_ix hX (ed_var hX 2 rfl rfl) (ed_var hX 5 rfl rfl) (i_lst (atI_nat (map_get hg)))) (o_div (divOk hp (by omega)))) ?_
      refine sd_nil (sd_nil ⟨?_, rfl, rfl, rfl, rfl, ?_, trivial⟩)
      · simp only [drawsSt]; rw [if_pos h0, List.map_append]; rfl
      · simp only [drawsSt]; rw [if_pos h0]
    · have h0 : ¬ 0 < (drawsSt c s ws i).2 := of_decide_eq_false hf
      refine sd_append hX (ec_var hX 3 rfl rfl) rfl (eds_cons (ed_bin hX (ed_call hX D_l_mixed (by decide) (eds_cons (ed_var hX 0 rfl rfl) (eds_cons (ed_var hX 5 rfl rfl) (eds_cons (ed_var hX 1 rfl rfl) eds_nil))) ⟨c, i, s, by omega, hs0, hs, rfl, rfl⟩) (ed_ix hX (ed_var hX 2 rfl rfl) (ed_var hX 5 rfl rfl) (i_lst (atI_nat (map_get hg)))) (o_mod hp)) eds_nil) (by rw [List.length_map, hll]; omega) ?_
      refine sd_nil (sd_nil ⟨?_, rfl, rfl, rfl, rfl, ?_, trivial⟩)
      · simp only [drawsSt]; rw [if_neg h0, List.map_append]; rfl
      · simp only [drawsSt]; rw [if_neg h0]
  refine sd_freeze 3 0 rfl rfl rfl ?_
  refine sd_ret (ed_var hX 3 rfl rfl) ?_
  rw [drawsF_eq]; rfl

def s_l_power : Stmt := topS 100
theorem sc_l_power : FnScope ["_law_base", "_law_many", "_law_found", "_law_k"] ["_law_base", "_law_many"] (defScope s_l_power) := ⟨rfl, rfl, rfl, by decide +kernel, rfl, by decide +kernel, by decide +kernel⟩
def G_l_power (ds : List D) (d : D) : Prop := ∃ n : Nat, n ≤ 18 ∧ ds = [.int 10, .int (n : Nat)] ∧ d = .int (10 ^ n)
theorem d_l_power (T : Tops K mg) {f : Addr} {fd : FuncData} (F : Fun K "_law_power" "_law_power" s_l_power f fd) (hb : Binds K fd ["_law_base", "_law_many"] []) (hm : mg "_law_power" = some (.ref f)) : Dfn P w K mg base "_law_power" 1 G_l_power := by
  refine dfn_of F sc_l_power hb hm (fun ds d h => ?_) ?_
  · obtain ⟨n, _, rfl, _⟩ := h; rfl
  rintro X A hX hF hP ds d ⟨n, hn, rfl, rfl⟩
  refine sd_set hX 2 rfl ed_int ?_
  refine sd_forR hX n 3 T.range (ed_var hX 1 rfl rfl) (by omega) (fun _ => []) (fun i => [some (.sh (.int 10)), some (.sh (.int (n : Nat))), some (.sh (.int (10 ^ i))), none]) ⟨rfl, rfl, rfl, rfl, trivial⟩ rfl ?_ ?_ hP
  · intro A' le i hi
    refine sd_set hX 2 rfl (ed_bin hX (ed_var hX 2 rfl rfl) (ed_var hX 0 rfl rfl) (o_mul (mulOk (ten_abs (by omega)) (by decide)))) ?_
    exact sd_nil ⟨rfl, rfl, rfl, by rw [Int.pow_succ], trivial⟩
  exact sd_ret (ed_var hX 2 rfl rfl) rfl

def s_l_form : Stmt := topS 101
theorem sc_l_form : FnScope ["_law_kind", "_law_many", "_law_sign", "_law_point"] ["_law_kind", "_law_many", "_law_sign"] (defScope s_l_form) := ⟨rfl, rfl, rfl, by decide +kernel, rfl, by decide +kernel, by decide +kernel⟩
def G_l_form (ds : List D) (d : D) : Prop := ∃ k m s : Nat, k < 2 ∧ m < 12 ∧ s < 3 ∧ ds = [.int (k : Nat), .int (m : Nat), .int (s : Nat)] ∧ d = formD (formF k m s)
theorem d_l_form (T : Tops K mg) {f : Addr} {fd : FuncData} (F : Fun K "_law_form" "_law_form" s_l_form f fd) (hb : Binds K fd ["_law_kind", "_law_many", "_law_sign"] []) (hm : mg "_law_form" = some (.ref f)) : Dfn P w K mg base "_law_form" 1 G_l_form := by
  refine dfn_of F sc_l_form hb hm (fun ds d h => ?_) ?_
  · obtain ⟨k, m, s, _, _, _, rfl, _⟩ := h; rfl
  rintro X A hX hF hP ds d ⟨kk, m, s, hk, hm', hs, rfl, rfl⟩
  refine sd_set hX 3 rfl (ed_bin hX (ed_bin hX (ed_bin hX (ed_bin hX ed_int (ed_var hX 1 rfl rfl) (o_mul (mulOk (by decide) (by omega)))) (ed_bin hX ed_int (ed_var hX 0 rfl rfl) (o_mul (mulOk (by decide) (by omega)))) o_add) (ed_var hX 2 rfl rfl) o_add) (ed_bin hX (ed_var hX 1 rfl rfl) ed_int o_add) (o_mod (by omega))) ?_
  refine sd_ret (ed_tup (eds_cons (ed_ix hX (ed_lst (eds_cons ed_str (eds_cons ed_str eds_nil)) (by simp)) (ed_var hX 0 rfl rfl) (i_lst (d := .str (kindS (decide (kk = 1)))) ?_)) (eds_cons (ed_bin hX ed_int (ed_var hX 1 rfl rfl) o_add) (eds_cons (ed_ix hX (ed_lst (eds_cons ed_str (eds_cons ed_str (eds_cons ed_str eds_nil))) (by simp)) (ed_var hX 2 rfl rfl) (i_lst (d := .str (signS (sgOf s))) ?_)) (eds_cons (ed_var hX 3 rfl rfl) eds_nil)))) (by simp)) ?_
  · refine atI_nat ?_
    have : kk = 0 ∨ kk = 1 := by omega
    rcases this with rfl | rfl <;> rfl
  · refine atI_nat ?_
    have : s = 0 ∨ s = 1 ∨ s = 2 := by omega
    rcases this with rfl | rfl | rfl <;> rfl
  · show D.tup _ = D.tup [.str (kindS (decide (kk = 1))), .int ((m + 1 : Nat) : Int), .str (signS (sgOf s)), .int (((7 * m + 3 * kk + s) % (m + 2) : Nat) : Int)]
    rw [show (1 : Int) + (m : Nat) = ((m + 1 : Nat) : Int) by omega, show (7 * (m : Int) + 3 * (kk : Int) + (s : Int)) % ((m : Int) + 2) = (((7 * m + 3 * kk + s) % (m + 2) : Nat) : Int) by rw [Int.natCast_emod]; rfl]

def s_l_ends : Stmt := topS 102
theorem sc_l_ends : FnScope ["_law_form_here", "_law_ten"] ["_law_form_here"] (defScope s_l_ends) := ⟨rfl, rfl, rfl, by decide +kernel, rfl, by decide +kernel, by decide +kernel⟩
def G_l_ends (ds : List D) (d : D) : Prop := ∃ f : Form, f.Ok ∧ ds = [formD f] ∧ d = .tup [.int (least f), .int (most f)]
theorem d_l_ends (T : Tops K mg) (D_l_power : Dfn P w K mg base "_law_power" 1 G_l_power) {f : Addr} {fd : FuncData} (F : Fun K "_law_ends" "_law_ends" s_l_ends f fd) (hb : Binds K fd ["_law_form_here"] []) (hm : mg "_law_ends" = some (.ref f)) : Dfn P w K mg base "_law_ends" 2 G_l_ends := by
  refine dfn_of F sc_l_ends hb hm (fun ds d h => ?_) ?_
  · obtain ⟨f, _, rfl, _⟩ := h; rfl
  rintro X A hX hF hP ds d ⟨f, ok, rfl, rfl⟩
  have h2 := ok.n12
  have e10 := ten_s ok
  refine sd_set hX 1 rfl (ed_call hX D_l_power (by decide) (eds_cons ed_int (eds_cons (ed_ix hX (ed_var hX 0 rfl rfl) ed_int (i_tup rfl)) eds_nil)) (⟨f.n, by omega, rfl, rfl⟩)) ?_
  by_cases g1 : f.sg = .no
  · refine sd_ifT (et_is (et_cmp hX (ed_ix hX (ed_var hX 0 rfl rfl) ed_int (i_tup rfl)) ed_str o_eqS) (by rw [sg_no]; exact decide_eq_true g1)) ?_
    refine sd_ret (ed_tup (eds_cons ed_int (eds_cons (ed_bin hX (ed_var hX 1 rfl rfl) ed_int o_sub) eds_nil)) (by simp)) ?_
    rw [least, most, g1]
  refine sd_skip (et_is (et_cmp hX (ed_ix hX (ed_var hX 0 rfl rfl) ed_int (i_tup rfl)) ed_str o_eqS) (by rw [sg_no]; exact decide_eq_false g1)) ?_
  by_cases g2 : f.sg = .en
  · refine sd_ifT (et_is (et_cmp hX (ed_ix hX (ed_var hX 0 rfl rfl) ed_int (i_tup rfl)) ed_str o_eqS) (by rw [sg_en]; exact decide_eq_true g2)) ?_
    refine sd_ret (ed_tup (eds_cons (ed_bin hX ed_int (ed_var hX 1 rfl rfl) o_sub) (eds_cons (ed_bin hX (ed_var hX 1 rfl rfl) ed_int o_sub) eds_nil)) (by simp)) ?_
    rw [least, most, g2]
  refine sd_skip (et_is (et_cmp hX (ed_ix hX (ed_var hX 0 rfl rfl) ed_int (i_tup rfl)) ed_str o_eqS) (by rw [sg_en]; exact decide_eq_false g2)) ?_
  have g3 : f.sg = .te := by cases q : f.sg with
    | no => exact absurd q g1
    | en => exact absurd q g2
    | te => rfl
  refine sd_ret (ed_tup (eds_cons (ed_bin hX ed_int (ed_bin hX (ed_var hX 1 rfl rfl) ed_int (o_div (divOk (by decide) (by decide)))) o_sub) (eds_cons (ed_bin hX (ed_bin hX (ed_var hX 1 rfl rfl) ed_int (o_div (divOk (by decide) (by decide)))) ed_int o_sub) eds_nil)) (by simp)) ?_
  rw [least, most, g3]
  show D.tup [D.int _, D.int _] = D.tup [D.int _, D.int _]
  rw [show (0 : Int) - 10 ^ f.n / 2 = -5 * 10 ^ (f.n - 1) by omega, show (10 : Int) ^ f.n / 2 - 1 = 5 * 10 ^ (f.n - 1) - 1 by omega]

def s_l_wrap : Stmt := topS 103
theorem sc_l_wrap : FnScope ["_law_form_here", "_law_number_here", "_law_ten"] ["_law_form_here", "_law_number_here"] (defScope s_l_wrap) := ⟨rfl, rfl, rfl, by decide +kernel, rfl, by decide +kernel, by decide +kernel⟩
def G_l_wrap (ds : List D) (d : D) : Prop := ∃ (f : Form) (x : Int), f.Ok ∧ ds = [formD f, .int x] ∧ d = .int (fold f x)
theorem d_l_wrap (T : Tops K mg) (D_l_power : Dfn P w K mg base "_law_power" 1 G_l_power) {f : Addr} {fd : FuncData} (F : Fun K "_law_wrap" "_law_wrap" s_l_wrap f fd) (hb : Binds K fd ["_law_form_here", "_law_number_here"] []) (hm : mg "_law_wrap" = some (.ref f)) : Dfn P w K mg base "_law_wrap" 2 G_l_wrap := by
  refine dfn_of F sc_l_wrap hb hm (fun ds d h => ?_) ?_
  · obtain ⟨f, x, _, rfl, _⟩ := h; rfl
  rintro X A hX hF hP ds d ⟨f, x, ok, rfl, rfl⟩
  have h2 := ok.n12
  have e10 := ten_s ok
  have tp := ten_pos f.n
  refine sd_set hX 2 rfl (ed_call hX D_l_power (by decide) (eds_cons ed_int (eds_cons (ed_ix hX (ed_var hX 0 rfl rfl) ed_int (i_tup rfl)) eds_nil)) (⟨f.n, by omega, rfl, rfl⟩)) ?_
  by_cases g1 : f.sg = .no
  · refine sd_ifT (et_is (et_cmp hX (ed_ix hX (ed_var hX 0 rfl rfl) ed_int (i_tup rfl)) ed_str o_eqS) (by rw [sg_no]; exact decide_eq_true g1)) ?_
    refine sd_ret (ed_bin hX (ed_var hX 1 rfl rfl) (ed_var hX 2 rfl rfl) (o_mod (tp))) ?_
    rw [fold, g1]
  refine sd_skip (et_is (et_cmp hX (ed_ix hX (ed_var hX 0 rfl rfl) ed_int (i_tup rfl)) ed_str o_eqS) (by rw [sg_no]; exact decide_eq_false g1)) ?_
  by_cases g2 : f.sg = .te
  · refine sd_ifT (et_is (et_cmp hX (ed_ix hX (ed_var hX 0 rfl rfl) ed_int (i_tup rfl)) ed_str o_eqS) (by rw [sg_te]; exact decide_eq_true g2)) ?_
    refine sd_ret (ed_bin hX (ed_bin hX (ed_bin hX (ed_var hX 1 rfl rfl) (ed_bin hX (ed_var hX 2 rfl rfl) ed_int (o_div (divOk (by decide) (by decide)))) o_add) (ed_var hX 2 rfl rfl) (o_mod tp)) (ed_bin hX (ed_var hX 2 rfl rfl) ed_int (o_div (divOk (by decide) (by decide)))) o_sub) ?_
    rw [fold, g2]
    show D.int _ = D.int ((x - least f) % 10 ^ f.n + least f)
    rw [show least f = -5 * 10 ^ (f.n - 1) by unfold least; rw [g2], e10, wrap_te]
  refine sd_skip (et_is (et_cmp hX (ed_ix hX (ed_var hX 0 rfl rfl) ed_int (i_tup rfl)) ed_str o_eqS) (by rw [sg_te]; exact decide_eq_false g2)) ?_
  have g3 : f.sg = .en := by cases q : f.sg with
    | no => exact absurd q g1
    | te => exact absurd q g2
    | en => rfl
  refine sd_if (et_cmp hX (ed_var hX 1 rfl rfl) ed_int o_lt) (fun ht => ?_) (fun hf => ?_)
  · have h0 : x < 0 := of_decide_eq_true ht
    refine sd_ret (ed_bin hX ed_int (ed_bin hX (ed_bin hX ed_int (ed_var hX 1 rfl rfl) o_sub) (ed_var hX 2 rfl rfl) (o_mod (tp))) o_sub) ?_
    rw [fold, g3]
    show D.int _ = D.int (if x < 0 then -(-x % 10 ^ f.n) else x % 10 ^ f.n)
    rw [if_pos h0, Int.zero_sub, Int.zero_sub]
  · have h0 : ¬ x < 0 := of_decide_eq_false hf
    refine sd_nil (sd_ret (ed_bin hX (ed_var hX 1 rfl rfl) (ed_var hX 2 rfl rfl) (o_mod (tp))) ?_)
    rw [fold, g3]
    show D.int _ = D.int (if x < 0 then -(-x % 10 ^ f.n) else x % 10 ^ f.n)
    rw [if_neg h0]

def s_l_fits : Stmt := topS 104
theorem sc_l_fits : FnScope ["_law_form_here", "_law_number_here", "_law_low", "_law_high"] ["_law_form_here", "_law_number_here"] (defScope s_l_fits) := ⟨rfl, rfl, rfl, by decide +kernel, rfl, by decide +kernel, by decide +kernel⟩
def G_l_fits (ds : List D) (d : D) : Prop := ∃ (f : Form) (x : Int), f.Ok ∧ ds = [formD f, .int x] ∧ d = .bl (fitsB f x)
theorem d_l_fits (T : Tops K mg) (D_l_ends : Dfn P w K mg base "_law_ends" 2 G_l_ends) {f : Addr} {fd : FuncData} (F : Fun K "_law_fits" "_law_fits" s_l_fits f fd) (hb : Binds K fd ["_law_form_here", "_law_number_here"] []) (hm : mg "_law_fits" = some (.ref f)) : Dfn P w K mg base "_law_fits" 3 G_l_fits := by
  refine dfn_of F sc_l_fits hb hm (fun ds d h => ?_) ?_
  · obtain ⟨f, x, _, rfl, _⟩ := h; rfl
  rintro X A hX hF hP ds d ⟨f, x, ok, rfl, rfl⟩
  refine sd_asg (ed_call hX D_l_ends (by decide) (eds_cons (ed_var hX 0 rfl rfl) eds_nil) (⟨f, ok, rfl, rfl⟩)) (tg_tup hX (tgs_cons (tg_name hX 2 rfl) (tgs_cons (tg_name hX 3 rfl) tgs_nil)) rfl) ?_
  exact sd_ret (ed_chain hX (ed_var hX 2 rfl rfl) (ed_var hX 1 rfl rfl) (ed_var hX 3 rfl rfl) o_le o_le) rfl

def s_l_figures : Stmt := topS 105
theorem sc_l_figures : FnScope ["_law_form_here", "_law_number_here", "_law_size", "_law_found", "_law_k"] ["_law_form_here", "_law_number_here"] (defScope s_l_figures) := ⟨rfl, rfl, rfl, by decide +kernel, rfl, by decide +kernel, by decide +kernel⟩
def G_l_figures (ds : List D) (d : D) : Prop := ∃ (f : Form) (x : Int), f.Ok ∧ ds = [formD f, .int x] ∧ d = .lst ((digs (size f x) f.n).map .int)
theorem d_l_figures (T : Tops K mg) (D_l_power : Dfn P w K mg base "_law_power" 1 G_l_power) {f : Addr} {fd : FuncData} (F : Fun K "_law_figures" "_law_figures" s_l_figures f fd) (hb : Binds K fd ["_law_form_here", "_law_number_here"] []) (hm : mg "_law_figures" = some (.ref f)) : Dfn P w K mg base "_law_figures" 2 G_l_figures := by
  refine dfn_of F sc_l_figures hb hm (fun ds d h => ?_) ?_
  · obtain ⟨f, x, _, rfl, _⟩ := h; rfl
  rintro X A hX hF hP ds d ⟨f, x, ok, rfl, rfl⟩
  have h2 := ok.n12
  have tp := ten_pos f.n
  refine sd_set hX 2 rfl (ed_callB hX T.abs b_abs (eds_cons (ed_var hX 1 rfl rfl) eds_nil) c_abs) ?_
  refine sd_join (fun M ρ => M = [] ∧ ρ = [some (.sh (formD f)), some (.sh (.int x)), some (.sh (.int (size f x))), none, none]) (et_is (et_cmp hX (ed_ix hX (ed_var hX 0 rfl rfl) ed_int (i_tup rfl)) ed_str o_eqS) (sg_te _)) (fun ht => ?_) (fun hf => ?_) ?_
  · have hg : f.sg = .te := of_decide_eq_true ht
    exact sd_set hX 2 rfl (ed_bin hX (ed_var hX 1 rfl rfl) (ed_call hX D_l_power (by decide) (eds_cons ed_int (eds_cons (ed_ix hX (ed_var hX 0 rfl rfl) ed_int (i_tup rfl)) eds_nil)) (⟨f.n, by omega, rfl, rfl⟩)) (o_mod (tp))) (sd_nil ⟨rfl, by rw [size, hg]; rfl⟩)
  · have hg : ¬ f.sg = .te := of_decide_eq_false hf
    refine sd_nil ⟨rfl, ?_⟩
    have : size f x = if x < 0 then -x else x := by
      unfold size
      cases q : f.sg with
      | te => exact absurd q hg
      | no => rfl
      | en => rfl
    rw [this]; rfl
  rintro M ρ ⟨rfl, rfl⟩
  refine sd_setF hX 3 rfl (ef_lst eds_nil (by simp)) ?_
  refine sd_forR hX f.n 4 T.range (ed_ix hX (ed_var hX 0 rfl rfl) ed_int (i_tup rfl)) (by omega) (fun i => [.lst ((lsd (size f x) i).map .int)]) (fun i => [some (.sh (formD f)), some (.sh (.int x)), some (.sh (.int (size f x / 10 ^ i))), some (.cell 0), none]) ⟨rfl, rfl, rfl, by rw [Int.pow_zero, Int.ediv_one], rfl, trivial⟩ rfl ?_ ?_ hP
  · intro A' le i hi
    refine sd_append hX (ec_var hX 3 rfl rfl) rfl (eds_cons (ed_bin hX (ed_var hX 2 rfl rfl) ed_int (o_mod (by decide))) eds_nil) (by simp [lsd_length]; omega) ?_
    refine sd_set hX 2 rfl (ed_bin hX (ed_var hX 2 rfl rfl) ed_int (o_div (divOk (by decide) (by decide)))) ?_
    refine sd_nil ⟨?_, rfl, rfl, ?_, rfl, trivial⟩
    · rw [lsd_succ, List.map_append]; rfl
    · rw [Int.pow_succ, Int.ediv_ediv_of_nonneg (Int.le_of_lt (ten_pos i))]
  refine sd_freeze 3 0 rfl rfl rfl ?_
  refine sd_ret (ed_rev hX (ed_var hX 3 rfl rfl)) ?_
  show D.lst _ = D.lst _
  rw [digs, List.map_reverse]

def s_l_by_halves : Stmt := topS 106
theorem sc_l_by_halves : FnScope ["_law_halves", "_law_k"] ["_law_halves"] (defScope s_l_by_halves) := ⟨rfl, rfl, rfl, by decide +kernel, rfl, by decide +kernel, by decide +kernel⟩
def G_l_by_halves (ds : List D) (d : D) : Prop := ∃ (L : List Int) (m : Nat), L.length = 2 * m ∧ m ≤ 12 ∧ (∀ x ∈ L, 0 ≤ x ∧ x ≤ 15) ∧ ds = [.lst (L.map .int)] ∧ d = rowD (pairs L)
theorem d_l_by_halves (T : Tops K mg) {f : Addr} {fd : FuncData} (F : Fun K "_law_by_halves" "_law_by_halves" s_l_by_halves f fd) (hb : Binds K fd ["_law_halves"] []) (hm : mg "_law_by_halves" = some (.ref f)) : Dfn P w K mg base "_law_by_halves" 1 G_l_by_halves := by
  refine dfn_of F sc_l_by_halves hb hm (fun ds d h => ?_) ?_
  · obtain ⟨_, _, _, _, _, rfl, _⟩ := h; rfl
  rintro X A hX hF hP ds d ⟨L, m, hl, hm', hx, rfl, rfl⟩
  have g2 : ∀ i, i < L.length → L[i]? = some (L.getD i 0) := fun i hi => by rw [List.getD_eq_getElem?_getD, List.getElem?_eq_getElem hi]; rfl
  have g3 : ∀ i, i < L.length → 0 ≤ L.getD i 0 ∧ L.getD i 0 ≤ 15 := fun i hi => hx _ (List.mem_of_getElem? (g2 i hi))
  refine sd_ret (ed_callTy hX T.tuple b_tuple (eds_cons (ed_lc hX [("_law_k", 1)] (ei_rng3 hX T.range (n := m) (eds_cons ed_int (eds_cons (ed_callB hX T.len b_len (eds_cons (ed_var hX 0 rfl rfl) eds_nil) c_lenL) (eds_cons ed_int eds_nil))) ?_) (blkOk_by (by decide +kernel)) [1] (fun d => [some (.sh (.lst (L.map .int))), some (.sh d)]) (fun d => match d with | .int j => some (.int (16 * L.getD j.toNat 0 + L.getD (j.toNat + 1) 0)) | _ => none) (by rw [rngD_length]; omega) (fun X' hX' d hd => ?_)) eds_nil) c_tuple) ?_
  · rw [List.length_map, hl]
    exact rgC2 _ (by omega)
  · obtain ⟨i, hi, rfl⟩ := rng_mem hd
    have e1 : (0 + (i : Nat) * 2 : Int).toNat = 2 * i := by omega
    have e2 : (0 + (i : Nat) * 2 : Int) = ((2 * i : Nat) : Int) := by omega
    have e3 : (0 + (i : Nat) * 2 : Int) + 1 = ((2 * i + 1 : Nat) : Int) := by omega
    refine ⟨tg_nameL hX' 1 rfl, fun z hz => ?_, rfl⟩
    have q1 := g3 (2 * i) (by omega)
    cases hz
    rw [e1]
    exact ed_bin hX' (ed_bin hX' ed_int (ed_ix hX' (ed_var hX' 0 rfl rfl) (ed_var hX' 1 rfl rfl) (i_lst (by rw [e2]; exact atI_nat (map_get (g2 (2 * i) (by omega)))))) (o_mul (mulOk (by decide) (by omega)))) (ed_ix hX' (ed_var hX' 0 rfl rfl) (ed_bin hX' (ed_var hX' 1 rfl rfl) ed_int o_add) (i_lst (by rw [e3]; exact atI_nat (map_get (g2 (2 * i + 1) (by omega)))))) o_add
  · show D.tup _ = D.tup _
    rw [pairs_eq hl, List.map_map, rngD, List.filterMap_map]
    rw [fm_some (h := fun i : Nat => D.int (16 * L.getD (2 * i) 0 + L.getD (2 * i + 1) 0)) fun i _ => ?_]
    · rfl
    · show some (D.int (16 * L.getD ((0 : Int) + (i : Nat) * 2).toNat 0 + L.getD (((0 : Int) + (i : Nat) * 2).toNat + 1) 0)) = _
      rw [show ((0 : Int) + (i : Nat) * 2).toNat = 2 * i by omega]

def s_l_row_with : Stmt := topS 107
theorem sc_l_row_with : FnScope ["_law_form_here", "_law_number_here", "_law_half", "_law_halves", "_law_zones", "_law_zone", "_law_figure"] ["_law_form_here", "_law_number_here", "_law_half"] (defScope s_l_row_with) := ⟨rfl, rfl, rfl, by decide +kernel, rfl, by decide +kernel, by decide +kernel⟩
def G_l_row_with (ds : List D) (d : D) : Prop := ∃ (f : Form) (x h : Int), f.Ok ∧ 10 ≤ h ∧ h ≤ 15 ∧ ds = [formD f, .int x, .int h] ∧ d = rowD (rowW f (digs (size f x) f.n) h)
theorem d_l_row_with (T : Tops K mg) (D_l_figures : Dfn P w K mg base "_law_figures" 2 G_l_figures) (D_l_by_halves : Dfn P w K mg base "_law_by_halves" 1 G_l_by_halves) {f : Addr} {fd : FuncData} (F : Fun K "_law_row_with" "_law_row_with" s_l_row_with f fd) (hb : Binds K fd ["_law_form_here", "_law_number_here", "_law_half"] []) (hm : mg "_law_row_with" = some (.ref f)) : Dfn P w K mg base "_law_row_with" 3 G_l_row_with := by
  refine dfn_of F sc_l_row_with hb hm (fun ds d h => ?_) ?_
  · obtain ⟨_, _, _, _, _, _, rfl, _⟩ := h; rfl
  rintro X A hX hF hP ds d ⟨f, x, h, ok, h10, h15, rfl, rfl⟩
  have h1 := ok.n1
  have h2 := ok.n12
  have hl : (digs (size f x) f.n).length = f.n := digs_length _ _
  have gd : Good f (digs (size f x) f.n) h := ⟨ok, hl, fun _ q => digs_mem q, h10, h15⟩
  have he : sgE f.sg ≤ 1 := by cases f.sg <;> decide
  refine sd_set hX 3 rfl (ed_call hX D_l_figures (by decide) (eds_cons (ed_var hX 0 rfl rfl) (eds_cons (ed_var hX 1 rfl rfl) eds_nil)) (⟨f, x, ok, rfl, rfl⟩)) ?_
  refine sd_if (et_is (et_cmp hX (ed_ix hX (ed_var hX 0 rfl rfl) ed_int (i_tup rfl)) ed_str o_eqS) (kd_pk _)) (fun ht => ?_) (fun hf => ?_)
  · have hs : f.sp = false := by simpa using ht
    refine sd_join (fun M ρ => M = [] ∧ ρ = [some (.sh (formD f)), some (.sh (.int x)), some (.sh (.int h)), some (.sh (.lst ((digs (size f x) f.n ++ List.replicate (sgE f.sg) h).map .int))), none, none, none]) (et_is (et_cmp hX (ed_ix hX (ed_var hX 0 rfl rfl) ed_int (i_tup rfl)) ed_str o_eqS) (sg_en _)) (fun ht => ?_) (fun hf => ?_) ?_
    · have hg : f.sg = .en := of_decide_eq_true ht
      refine sd_set hX 3 rfl (ed_bin hX (ed_var hX 3 rfl rfl) (ed_lst (eds_cons (ed_var hX 2 rfl rfl) eds_nil) (by simp)) (o_catL (by simp; omega))) (sd_nil ⟨rfl, ?_⟩)
      rw [hg, List.map_append]; rfl
    · have hg : ¬ f.sg = .en := of_decide_eq_false hf
      refine sd_nil ⟨rfl, ?_⟩
      rw [sgE_ne hg, List.replicate_zero, List.append_nil]; rfl
    rintro M ρ ⟨rfl, rfl⟩
    have hll : ((digs (size f x) f.n ++ List.replicate (sgE f.sg) h).map D.int).length = f.n + sgE f.sg := by simp [hl]
    have hH : halves f (digs (size f x) f.n) h = List.replicate (ahead f) 0 ++ (digs (size f x) f.n ++ List.replicate (sgE f.sg) h) := by
      rw [halves, if_neg (by rw [hs]; decide), halvesP, List.append_assoc]
    have hln := halves_length (f := f) (ds := digs (size f x) f.n) (h := h) hl
    have hev := hlen_even f
    have h24 := hlen_le ok
    have e2 : ((((digs (size f x) f.n ++ List.replicate (sgE f.sg) h).map D.int).length : Nat) : Int) % 2 = ((ahead f : Nat) : Int) := by
      rw [hll]
      show _ = (((f.n + sgE f.sg) % 2 : Nat) : Int)
      omega
    have ha : ahead f ≤ 1 := by unfold ahead; omega
    refine sd_ret (ed_call hX D_l_by_halves (by decide) (eds_cons (ed_bin hX (ed_bin hX (ed_lst (eds_cons ed_int eds_nil) (by simp)) (ed_bin hX (ed_callB hX T.len b_len (eds_cons (ed_var hX 3 rfl rfl) eds_nil) c_lenL) ed_int (o_mod (by decide))) (o_repL (by rw [e2]; omega) (by rw [e2]; omega) (by rw [e2]; simp; omega))) (ed_var hX 3 rfl rfl) (o_catL (by rw [e2, hll]; simp; omega))) eds_nil) ⟨halves f (digs (size f x) f.n) h, hlen f / 2, by omega, by omega, halves_mem gd.fig h10 h15, ?_, rfl⟩) rfl
    rw [e2, Int.toNat_natCast, rep_one, hH]
    simp only [List.map_append, List.map_replicate]
  · have hs : f.sp = true := by simpa using hf
    refine sd_nil (sd_setF hX 4 rfl (ds := (List.replicate f.n (15 : Int)).map .int) (show EF _ _ _ _ _ _ ((List.replicate f.n (15 : Int)).map D.int) from ?_) ?_)
    · have e : (List.replicate f.n (15 : Int)).map D.int = (List.replicate ((f.n : Int).toNat) [D.int 15]).flatten := by
        rw [Int.toNat_natCast, rep_one, List.map_replicate]
      rw [e]
      exact ef_rep (ed_lst (eds_cons ed_int eds_nil) (by simp)) (ed_ix hX (ed_var hX 0 rfl rfl) ed_int (i_tup rfl)) (by omega) (by omega) (by simp; omega)
    refine sd_join (fun M ρ => M = [.lst ((znL f h).map .int)] ∧ ρ = [some (.sh (formD f)), some (.sh (.int x)), some (.sh (.int h)), some (.sh (.lst ((digs (size f x) f.n).map .int))), some (.cell 0), none, none]) (et_is (et_cmp hX (ed_ix hX (ed_var hX 0 rfl rfl) ed_int (i_tup rfl)) ed_str o_eqS) (sg_en _)) (fun ht => ?_) (fun hf => ?_) ?_
    · have hg : f.sg = .en := of_decide_eq_true ht
      refine sd_setIx hX (n := f.n - 1) (ed_var hX 2 rfl rfl) (ec_var hX 4 rfl rfl) (ed_un hX ed_int u_neg) rfl (by rw [List.length_map, List.length_replicate]; exact ixN_neg (i := 1) (by omega) (by omega)) ?_
      refine sd_nil ⟨?_, rfl⟩
      rw [znL, if_pos hg, List.map_set]; rfl
    · have hg : ¬ f.sg = .en := of_decide_eq_false hf
      exact sd_nil ⟨by rw [znL, if_neg hg]; rfl, rfl⟩
    rintro M ρ ⟨rfl, rfl⟩
    refine sd_freeze 4 0 rfl rfl rfl ?_
    have hzl : (znL f h).length = f.n := by unfold znL; split <;> simp
    have hzm : ∀ z ∈ znL f h, 0 ≤ z ∧ z ≤ 15 := by
      intro z hz
      unfold znL at hz
      split at hz
      · rcases List.mem_or_eq_of_mem_set hz with q | q
        · rw [List.eq_of_mem_replicate q]; omega
        · omega
      · rw [List.eq_of_mem_replicate hz]; omega
    refine sd_ret (ed_callTy hX T.tuple b_tuple (eds_cons (ed_lc hX [("_law_zone", 5), ("_law_figure", 6)] (ei_zip hX T.zip (eds_cons (ed_var hX 4 rfl rfl) (eds_cons (ed_var hX 3 rfl rfl) eds_nil))) (blkOk_by (by decide +kernel)) [5, 6] (fun d => [some (.sh (formD f)), some (.sh (.int x)), some (.sh (.int h)), some (.sh (.lst ((digs (size f x) f.n).map .int))), some (.sh (.lst ((znL f h).map .int))), some (.sh (match d with | .tup [y, _] => y | _ => .non)), some (.sh (match d with | .tup [_, y] => y | _ => .non))]) zg (by rw [zipD_length, List.length_map, List.length_map, hzl, hl]; omega) (fun X' hX' d hd => ?_)) eds_nil) c_tuple) ?_
    · obtain ⟨i, hi⟩ := List.getElem?_of_mem hd
      have hlt : i < f.n := by
        have := (List.getElem?_eq_some_iff.mp hi).1
        rw [zipD_length, List.length_map, List.length_map, hzl, hl] at this
        omega
      obtain ⟨z, hz⟩ : ∃ z, (znL f h)[i]? = some z := ⟨_, List.getElem?_eq_getElem (by omega)⟩
      obtain ⟨y, hy⟩ : ∃ y, (digs (size f x) f.n)[i]? = some y := ⟨_, List.getElem?_eq_getElem (by omega)⟩
      rw [zipD_get (map_get hz) (map_get hy)] at hi
      cases hi
      have := hzm z (List.mem_of_getElem? hz)
      refine ⟨tg_tup hX' (tgs_cons (tg_nameL hX' 5 rfl) (tgs_cons (tg_nameL hX' 6 rfl) tgs_nil)) rfl, fun u hu => ?_, rfl⟩
      cases hu
      exact ed_bin hX' (ed_bin hX' ed_int (ed_var hX' 5 rfl rfl) (o_mul (mulOk (by decide) (by omega)))) (ed_var hX' 6 rfl rfl) o_add
    · show D.tup _ = D.tup _
      rw [zip_fm, rowW_sp hs hl]

def s_l_laid : Stmt := topS 108
theorem sc_l_laid : FnScope ["_law_form_here", "_law_number_here"] ["_law_form_here", "_law_number_here"] (defScope s_l_laid) := ⟨rfl, rfl, rfl, by decide +kernel, rfl, by decide +kernel, by decide +kernel⟩
def G_l_laid (ds : List D) (d : D) : Prop := ∃ (f : Form) (x : Int), f.Ok ∧ ds = [formD f, .int x] ∧ d = rowD (rowK f x)
theorem d_l_laid (T : Tops K mg) (D_l_row_with : Dfn P w K mg base "_law_row_with" 3 G_l_row_with) {f : Addr} {fd : FuncData} (F : Fun K "_law_laid" "_law_laid" s_l_laid f fd) (hb : Binds K fd ["_law_form_here", "_law_number_here"] []) (hm : mg "_law_laid" = some (.ref f)) : Dfn P w K mg base "_law_laid" 4 G_l_laid := by
  refine dfn_of F sc_l_laid hb hm (fun ds d h => ?_) ?_
  · obtain ⟨_, _, _, rfl, _⟩ := h; rfl
  rintro X A hX hF hP ds d ⟨f, x, ok, rfl, rfl⟩
  refine sd_ret (ed_call hX D_l_row_with (by decide) (eds_cons (ed_var hX 0 rfl rfl) (eds_cons (ed_var hX 1 rfl rfl) (eds_cons (ed_bin hX ed_int (ed_callTy hX T.int b_int (eds_cons (ed_cmp hX (ed_var hX 1 rfl rfl) ed_int o_lt) eds_nil) c_intB) o_add) eds_nil))) (⟨f, x, sgh x, ok, (sgh_10 x).1, (sgh_10 x).2, ?_, rfl⟩)) rfl
  congr 3
  unfold sgh
  by_cases h : x < 0 <;> simp [h]

def s_l_dressed : Stmt := topS 109
theorem sc_l_dressed : FnScope ["_law_form_here", "_law_number_here", "_law_digit", "_law_some"] ["_law_form_here", "_law_number_here", "_law_digit"] (defScope s_l_dressed) := ⟨rfl, rfl, rfl, by decide +kernel, rfl, by decide +kernel, by decide +kernel⟩
def G_l_dressed (ds : List D) (d : D) : Prop := ∃ (f : Form) (x : Int) (g : Nat), f.Ok ∧ ds = [formD f, .int x, .int (g : Nat)] ∧ d = rowD (rowW f (digs (size f x) f.n) (halfF x g))
theorem d_l_dressed (T : Tops K mg) (D_l_row_with : Dfn P w K mg base "_law_row_with" 3 G_l_row_with) {f : Addr} {fd : FuncData} (F : Fun K "_law_dressed" "_law_dressed" s_l_dressed f fd) (hb : Binds K fd ["_law_form_here", "_law_number_here", "_law_digit"] []) (hm : mg "_law_dressed" = some (.ref f)) : Dfn P w K mg base "_law_dressed" 4 G_l_dressed := by
  refine dfn_of F sc_l_dressed hb hm (fun ds d h => ?_) ?_
  · obtain ⟨_, _, _, _, rfl, _⟩ := h; rfl
  rintro X A hX hF hP ds d ⟨f, x, g, ok, rfl, rfl⟩
  obtain ⟨s1, s2, s3⟩ := side_some x g
  refine sd_set hX 3 rfl (ed_lst (eds_cons ed_int (eds_cons ed_int (eds_cons ed_int (eds_cons ed_int (eds_cons ed_int (eds_cons ed_int eds_nil)))))) (by simp)) ?_
  refine sd_join (fun M ρ => M = [] ∧ ρ = [some (.sh (formD f)), some (.sh (.int x)), some (.sh (.int (g : Nat))), some (.sh (.lst ((if 0 < x then [12, 10, 14, 15] else [12, 13, 10, 11, 14, 15] : List Int).map .int)))]) (et_cmp hX (ed_var hX 1 rfl rfl) ed_int o_gt) (fun ht => ?_) (fun hf => ?_) ?_
  · have h0 : 0 < x := of_decide_eq_true ht
    exact sd_set hX 3 rfl (ed_lst (eds_cons ed_int (eds_cons ed_int (eds_cons ed_int (eds_cons ed_int eds_nil)))) (by simp)) (sd_nil ⟨rfl, by rw [if_pos h0]; rfl⟩)
  · have h0 : ¬ 0 < x := of_decide_eq_false hf
    exact sd_nil ⟨rfl, by rw [if_neg h0]; rfl⟩
  rintro M ρ ⟨rfl, rfl⟩
  refine sd_join (fun M ρ => M = [] ∧ ρ = [some (.sh (formD f)), some (.sh (.int x)), some (.sh (.int (g : Nat))), some (.sh (.lst ((sideF x).map .int)))]) (et_cmp hX (ed_var hX 1 rfl rfl) ed_int o_lt) (fun ht => ?_) (fun hf => ?_) ?_
  · have h0 : x < 0 := of_decide_eq_true ht
    exact sd_set hX 3 rfl (ed_lst (eds_cons ed_int (eds_cons ed_int eds_nil)) (by simp)) (sd_nil ⟨rfl, by rw [sideF, if_pos h0]; rfl⟩)
  · have h0 : ¬ x < 0 := of_decide_eq_false hf
    exact sd_nil ⟨rfl, by rw [sideF, if_neg h0]⟩
  rintro M ρ ⟨rfl, rfl⟩
  have hp : 0 < (sideF x).length := by
    have := (List.getElem?_eq_some_iff.mp s1).1
    omega
  refine sd_ret (ed_call hX D_l_row_with (by decide) (eds_cons (ed_var hX 0 rfl rfl) (eds_cons (ed_var hX 1 rfl rfl) (eds_cons (ed_ix hX (ed_var hX 3 rfl rfl) (ed_bin hX (ed_var hX 2 rfl rfl) (ed_callB hX T.len b_len (eds_cons (ed_var hX 3 rfl rfl) eds_nil) c_lenL) (o_mod (by rw [List.length_map]; omega))) (i_lst (d := .int (halfF x g)) ?_)) eds_nil))) ⟨f, x, halfF x g, ok, s2, s3, rfl, rfl⟩) rfl
  rw [List.length_map, show (g : Int) % ((sideF x).length : Int) = ((g % (sideF x).length : Nat) : Int) by omega]
  exact atI_nat (map_get s1)

def s_l_number : Stmt := topS 110
theorem sc_l_number : FnScope ["_law_form_here", "_law_way", "_law_far", "_law_size", "_law_some", "_law_number_here", "_law_low", "_law_high"] ["_law_form_here", "_law_way", "_law_far"] (defScope s_l_number) := ⟨rfl, rfl, rfl, by decide +kernel, rfl, by decide +kernel, by decide +kernel⟩
def G_l_number (ds : List D) (d : D) : Prop := ∃ (f : Form) (way far : Nat), f.Ok ∧ far < 2 ^ 60 ∧ ds = [formD f, .int (way : Nat), .int (far : Nat)] ∧ d = .int (numF f way far)
theorem d_l_number (T : Tops K mg) (D_l_ends : Dfn P w K mg base "_law_ends" 2 G_l_ends) (D_l_power : Dfn P w K mg base "_law_power" 1 G_l_power) {f : Addr} {fd : FuncData} (F : Fun K "_law_number" "_law_number" s_l_number f fd) (hb : Binds K fd ["_law_form_here", "_law_way", "_law_far"] []) (hm : mg "_law_number" = some (.ref f)) : Dfn P w K mg base "_law_number" 3 G_l_number := by
  refine dfn_of F sc_l_number hb hm (fun ds d h => ?_) ?_
  · obtain ⟨_, _, _, _, _, rfl, _⟩ := h; rfl
  rintro X A hX hF hP ds d ⟨f, way, far, ok, hfar, rfl, rfl⟩
  have h1 := ok.n1
  have h2 := ok.n12
  have hz1 : far % f.n < f.n := Nat.mod_lt _ (by omega)
  have tz := ten_pos (far % f.n)
  have tz2 := ten_lt (n := far % f.n) (by omega)
  have tzk : (10 : Int) ^ (far % f.n) ≤ 10 ^ 12 := ten_le (by omega)
  have e12 : (10 : Int) ^ 12 = 1000000000000 := by decide
  have hlm : 0 < most f - least f + 1 := by
    have := fold_fits ok 0
    unfold fitsB at this
    rw [Bool.and_eq_true] at this
    have a := of_decide_eq_true this.1
    have b := of_decide_eq_true this.2
    omega
  refine sd_asg (ed_call hX D_l_ends (by decide) (eds_cons (ed_var hX 0 rfl rfl) eds_nil) (⟨f, ok, rfl, rfl⟩)) (tg_tup hX (tgs_cons (tg_name hX 6 rfl) (tgs_cons (tg_name hX 7 rfl) tgs_nil)) rfl) ?_
  refine sd_if (et_cmp hX (ed_var hX 1 rfl rfl) ed_int o_gt) (fun ht => ?_) (fun hf => ?_)
  · have h0 : 9 < way := by have := of_decide_eq_true ht; omega
    refine sd_ret (ed_bin hX (ed_var hX 6 rfl rfl) (ed_bin hX (ed_var hX 2 rfl rfl) (ed_bin hX (ed_bin hX (ed_var hX 7 rfl rfl) (ed_var hX 6 rfl rfl) o_sub) ed_int o_add) (o_mod (hlm))) o_add) ?_
    show D.int _ = D.int _
    rw [numF, if_pos h0]
  have h0 : ¬ 9 < way := by have := of_decide_eq_false hf; omega
  refine sd_nil ?_
  refine sd_set hX 3 rfl (ed_call hX D_l_power (by decide) (eds_cons ed_int (eds_cons (ed_bin hX (ed_var hX 2 rfl rfl) (ed_ix hX (ed_var hX 0 rfl rfl) ed_int (i_tup rfl)) (o_mod ((by omega)))) eds_nil)) (⟨far % f.n, by omega, by rw [Int.natCast_emod], rfl⟩)) ?_
  refine sd_setF hX 4 rfl (ef_lst (eds_cons ed_int (eds_cons ed_int (eds_cons (ed_var hX 7 rfl rfl) (eds_cons (ed_var hX 6 rfl rfl) (eds_cons (ed_var hX 3 rfl rfl) (eds_cons (ed_bin hX (ed_var hX 3 rfl rfl) ed_int o_sub) (eds_cons (ed_bin hX ed_int (ed_var hX 3 rfl rfl) (o_mul ((mulOk (by decide) (by omega))))) (eds_cons (ed_bin hX ed_int (ed_var hX 3 rfl rfl) (o_mul ((mulOk (by decide) (by omega))))) (eds_cons (ed_bin hX (ed_var hX 3 rfl rfl) ed_int o_add) eds_nil))))))))) (by simp)) ?_
  refine sd_append hX (ec_var hX 4 rfl rfl) rfl (eds_cons (ed_bin hX (ed_bin hX (ed_var hX 2 rfl rfl) ed_int (o_div (divOk (by decide) (by decide)))) (ed_bin hX ed_int (ed_var hX 3 rfl rfl) (o_mul (mulOk (by decide) (by omega)))) (o_mod (by omega))) eds_nil) (show 9 < 100000 by decide) ?_
  refine sd_freeze 4 0 rfl rfl rfl ?_
  have hs : (someF f far)[way]? = some ((someF f far).getD way 0) := by
    rw [List.getD_eq_getElem?_getD, List.getElem?_eq_getElem (show way < (someF f far).length by show way < 10; omega)]; rfl
  refine sd_set hX 5 rfl (d := .int ((someF f far).getD way 0)) (ed_ix hX (ed_var hX 4 rfl rfl) (ed_var hX 1 rfl rfl) (i_lst (atI_nat (show ((someF f far).map D.int)[way]? = _ from map_get hs)))) ?_
  refine sd_join (fun M ρ => ∃ (M0 : List Cell) (r1 r2 r3 r4 r5 : Option Slot), M = M0 ∧ ρ = [r1, r2, r3, r4, r5, some (.sh (.int (if least f < 0 ∧ (far : Int) / 13 % 2 = 1 then 0 - (someF f far).getD way 0 else (someF f far).getD way 0))), some (.sh (.int (least f))), some (.sh (.int (most f)))]) (et_w (ew_and (et_cmp hX (ed_var hX 6 rfl rfl) ed_int o_lt) (fun _ => ew_and1 (et_cmp hX (ed_bin hX (ed_bin hX (ed_var hX 2 rfl rfl) ed_int (o_div (divOk (by decide) (by decide)))) ed_int (o_mod (by decide))) ed_int o_eqI)))) (fun ht => ?_) (fun hf => ?_) ?_
  · rw [Bool.and_eq_true] at ht
    have hc : least f < 0 ∧ (far : Int) / 13 % 2 = 1 := ⟨of_decide_eq_true ht.1, of_decide_eq_true ht.2⟩
    exact sd_set hX 5 rfl (ed_bin hX ed_int (ed_var hX 5 rfl rfl) o_sub) (sd_nil ⟨_, _, _, _, _, _, rfl, by rw [if_pos hc]; rfl⟩)
  · have hc : ¬ (least f < 0 ∧ (far : Int) / 13 % 2 = 1) := fun z => by
      rw [decide_eq_true z.1, decide_eq_true z.2] at hf
      exact absurd hf (by decide)
    exact sd_nil ⟨_, _, _, _, _, _, rfl, by rw [if_neg hc]; rfl⟩
  rintro M ρ ⟨M0, r1, r2, r3, r4, r5, rfl, rfl⟩
  refine sd_ret (ed_callB hX T.max b_max (eds_cons (ed_var hX 6 rfl rfl) (eds_cons (ed_callB hX T.min b_min (eds_cons (ed_var hX 7 rfl rfl) (eds_cons (ed_var hX 5 rfl rfl) eds_nil)) c_min) eds_nil)) c_max) ?_
  show D.int _ = D.int _
  rw [numF, if_neg h0]
  rfl

def s_l_pointed : Stmt := topS 118
theorem sc_l_pointed : FnScope ["_law_draws_here", "_law_form_here"] ["_law_draws_here"] (defScope s_l_pointed) := ⟨rfl, rfl, rfl, by decide +kernel, rfl, by decide +kernel, by decide +kernel⟩
def G_l_pointed (ds : List D) (d : D) : Prop := ∃ (k m s p : Nat) (r : List Int), k < 2 ∧ m < 12 ∧ s < 3 ∧ ds = [.lst (([(k : Int), (m : Int), (s : Int), (p : Int)] ++ r).map .int)] ∧ d = formD (pointF (formF k m s) p)
theorem d_l_pointed (T : Tops K mg) (D_l_form : Dfn P w K mg base "_law_form" 1 G_l_form) {f : Addr} {fd : FuncData} (F : Fun K "_law_pointed" "_law_pointed" s_l_pointed f fd) (hb : Binds K fd ["_law_draws_here"] []) (hm : mg "_law_pointed" = some (.ref f)) : Dfn P w K mg base "_law_pointed" 2 G_l_pointed := by
  refine dfn_of F sc_l_pointed hb hm (fun ds d h => ?_) ?_
  · obtain ⟨_, _, _, _, _, _, _, _, rfl, _⟩ := h; rfl
  rintro X A hX hF hP ds d ⟨kk, m, s, p, r, hk, hm', hs, rfl, rfl⟩
  refine sd_set hX 1 rfl (ed_call hX D_l_form (by decide) (eds_cons (ed_ix hX (ed_var hX 0 rfl rfl) ed_int (i_lst (atI_nat (i := 0) rfl))) (eds_cons (ed_ix hX (ed_var hX 0 rfl rfl) ed_int (i_lst (atI_nat (i := 1) rfl))) (eds_cons (ed_ix hX (ed_var hX 0 rfl rfl) ed_int (i_lst (atI_nat (i := 2) rfl))) eds_nil))) ⟨kk, m, s, hk, hm', hs, rfl, rfl⟩) ?_
  refine sd_ret (ed_bin hX (ed_slice hX (ed_var hX 1 rfl rfl) eo_none (eo_some ed_int) l_tup) (ed_tup (eds_cons (ed_bin hX (ed_ix hX (ed_var hX 0 rfl rfl) ed_int (i_lst (atI_nat (i := 3) rfl))) (ed_bin hX (ed_ix hX (ed_var hX 1 rfl rfl) ed_int (i_tup rfl)) ed_int o_add) (o_mod (by omega))) eds_nil) (by simp)) (o_catT (List.cons_ne_nil _ _) (List.cons_ne_nil _ _) (show 3 + 1 ≤ 100000 by decide))) ?_
  show D.tup [_, _, _, D.int ((p : Int) % (((m + 1 : Nat) : Int) + 1))] = D.tup [_, _, _, D.int ((p % (m + 1 + 1) : Nat) : Int)]
  rw [Int.natCast_emod]
  rfl
end
end Tl
/-! L2: the other side: rows read, texts, names. -/
namespace Tl
open PySem L2 T3 TL
local macro_rules | `(tactic| walk_at "len") => `(tactic| first | decide | (simp; done) | omega | (simp; omega))
section
variable {X : Cx} {N : List Str} {sc : Scope} {P : Program} {w : World} {K : PySem.W.Frag} {mg : Str → Option Value} {base : Heap} {k : Nat}
variable {A : Anc} {M : List Cell} {ρ : Env3}
theorem mulOk24 {j : Int} (h0 : 0 ≤ j) (h : j < 10 ^ 24) : CMulW 10 j := wide_mul (a := 64) (b := 100) (by decide) (by
  have e1 : (10 : Int) ^ 24 = 1000000000000000000000000 := by decide
  have e2 : (2 : Nat) ^ 100 = 1267650600228229401496703205376 := by decide
  omega) (by decide) (by decide) (by decide)
def s_l_read_row : Stmt := topS 112
theorem sc_l_read_row : FnScope ["_law_form_here", "_law_row", "_law_halves", "_law_byte", "_law_half", "_law_number_here", "_law_figure"] ["_law_form_here", "_law_row"] (defScope s_l_read_row) := ⟨rfl, rfl, rfl, by decide +kernel, rfl, by decide +kernel, by decide +kernel⟩
def G_l_read_row (ds : List D) (d : D) : Prop := ∃ (f : Form) (fs : List Int) (h : Int), Good f fs h ∧ ds = [formD f, rowD (rowW f fs h)] ∧ d = .int (val f fs h)
theorem d_l_read_row (T : Tops K mg) (D_l_power : Dfn P w K mg base "_law_power" 1 G_l_power) {f : Addr} {fd : FuncData} (F : Fun K "_law_read_row" "_law_read_row" s_l_read_row f fd) (hb : Binds K fd ["_law_form_here", "_law_row"] []) (hm : mg "_law_read_row" = some (.ref f)) : Dfn P w K mg base "_law_read_row" 2 G_l_read_row := by
  refine dfn_of F sc_l_read_row hb hm (fun ds d h => ?_) ?_
  · obtain ⟨f, fs, h, _, rfl, _⟩ := h; rfl
  rintro X A hX hF hP ds d ⟨f, fs, h, gd, rfl, rfl⟩
  have h1 := gd.ok.n1
  have h2 := gd.ok.n12
  have hr := rowW_length (h := h) gd.len
  have h24 := hlen_le gd.ok
  have hun := gd.unpair
  have hhl := halves_length (f := f) (h := h) gd.len
  obtain ⟨nb1, nb2⟩ := nby_range fs gd.fig
  rw [gd.len] at nb2
  generalize hR : rowW f fs h = R at *
  refine sd_set hX 2 rfl (ed_lst eds_nil (by simp)) ?_
  refine sd_forT hX 3 (ed_var hX 1 rfl rfl) (fun _ => []) (fun i => [some (.sh (formD f)), some (.sh (rowD R)), some (.sh (.lst ((unpair (R.take i)).map .int))), none, none, none, none]) ⟨rfl, rfl, rfl, rfl, trivial⟩ rfl ?_ ?_ hP
  · intro A' le i z hi
    obtain ⟨y, hy, rfl⟩ := map_get' hi
    refine sd_set hX 2 rfl (ed_bin hX (ed_var hX 2 rfl rfl) (ed_lst (eds_cons (ed_bin hX (ed_var hX 3 rfl rfl) ed_int (o_div (divOk (by decide) (by decide)))) (eds_cons (ed_bin hX (ed_var hX 3 rfl rfl) ed_int (o_mod (by decide))) eds_nil)) (by simp)) (o_catL (by rw [List.length_map, unpair_length, List.length_take]; simp; omega))) ?_
    refine sd_nil ⟨rfl, rfl, rfl, ?_, trivial⟩
    rw [unpair_take hy, List.map_append]; rfl
  rw [List.length_map, List.take_length, hun]
  refine sd_set hX 4 rfl ed_int ?_
  have hsize : ∀ L : List Int, L.length ≤ 24 → ∀ x ∈ L, True := fun _ _ _ _ => trivial
  refine sd_join (fun M ρ => M = [] ∧ ∃ (L : List Int) (h' : Int), L.length ≤ 24 ∧ (∀ x ∈ L, 0 ≤ x ∧ x ≤ 9) ∧ nby L = nby fs ∧ (∃ z, L = List.replicate z 0 ++ fs) ∧ ((f.sg = .en ∧ h' = h) ∨ (f.sg ≠ .en ∧ h' = 12)) ∧ ρ = [some (.sh (formD f)), some (.sh (rowD R)), some (.sh (.lst (L.map .int))), none, some (.sh (.int h')), none, none]) (et_is (et_cmp hX (ed_ix hX (ed_var hX 0 rfl rfl) ed_int (i_tup rfl)) ed_str o_eqS) (kd_sp _)) (fun ht => ?_) (fun hf => ?_) ?_
  · have hs : f.sp = true := ht
    have hod := odds_halves (ds := fs) (h := h) hs
    refine sd_join (fun M ρ => M = [] ∧ ρ = [some (.sh (formD f)), some (.sh (rowD R)), some (.sh (.lst ((halves f fs h).map .int))), none, some (.sh (.int (if f.sg = .en then h else 12))), none, none]) (et_is (et_cmp hX (ed_ix hX (ed_var hX 0 rfl rfl) ed_int (i_tup rfl)) ed_str o_eqS) (sg_en _)) (fun ht => ?_) (fun hf => ?_) ?_
    · have hg : f.sg = .en := of_decide_eq_true ht
      obtain ⟨q1, q2⟩ := dh_sign (h := h) hg gd.len h1
      have hy : (halves f fs h)[signAt f]? = some h := by rw [← dh_snd]; exact map_get q1
      refine sd_set hX 4 rfl (ed_ix hX (ed_var hX 2 rfl rfl) (ed_un hX ed_int u_neg) (i_lst (d := .int h) (atI_neg (n := hlen f) (i := 2) (by rw [List.length_map, hhl]) (by decide) ?_ ?_))) (sd_nil ⟨rfl, by rw [if_pos hg]; rfl⟩)
      · unfold hlen; rw [if_pos hs]; omega
      · have : hlen f - 2 = signAt f := by unfold hlen signAt; rw [if_pos hs, if_pos hs]
        rw [this]; exact map_get hy
    · have hg : ¬ f.sg = .en := of_decide_eq_false hf
      exact sd_nil ⟨rfl, by rw [if_neg hg]; rfl⟩
    rintro M ρ ⟨rfl, rfl⟩
    refine sd_set hX 2 rfl (ed_odd hX (ed_var hX 2 rfl rfl)) (sd_nil ⟨rfl, fs, (if f.sg = .en then h else 12), by have := gd.len; omega, gd.fig, rfl, ⟨0, rfl⟩, ?_, ?_⟩)
    · by_cases hg : f.sg = .en
      · exact .inl ⟨hg, if_pos hg⟩
      · exact .inr ⟨hg, if_neg hg⟩
    · rw [odds_map, hod]; rfl
  · have hs : f.sp = false := hf
    have hH : halves f fs h = halvesP f fs h := by rw [halves, if_neg (by rw [hs]; decide)]
    have hfig : ∀ x ∈ List.replicate (ahead f) 0 ++ fs, 0 ≤ x ∧ x ≤ 9 := by
      intro x hx
      rcases List.mem_append.mp hx with q | q
      · rw [List.eq_of_mem_replicate q]; omega
      · exact gd.fig x q
    have hal : (List.replicate (ahead f) (0 : Int) ++ fs).length ≤ 24 := by
      have : ahead f ≤ 1 := by unfold ahead; omega
      simp [gd.len]; omega
    rw [hH] at hhl ⊢
    refine sd_if (et_is (et_cmp hX (ed_ix hX (ed_var hX 0 rfl rfl) ed_int (i_tup rfl)) ed_str o_eqS) (sg_en _)) (fun ht => ?_) (fun hf => ?_)
    · have hg : f.sg = .en := of_decide_eq_true ht
      obtain ⟨c1, c2⟩ := halvesP_cut (ds := fs) (h := h) hg
      have hpos : 1 ≤ (halvesP f fs h).length := by
        have := (List.getElem?_eq_some_iff.mp c2).1
        omega
      refine sd_set hX 4 rfl (ed_ix hX (ed_var hX 2 rfl rfl) (ed_un hX ed_int u_neg) (i_lst (d := .int h) (atI_neg (n := (halvesP f fs h).length) (i := 1) (by rw [List.length_map]) (by decide) hpos (map_get c2)))) ?_
      refine sd_set hX 2 rfl (ed_slice hX (ed_var hX 2 rfl rfl) eo_none (eo_some (ed_un hX ed_int u_neg)) l_lst) (sd_nil (sd_nil ⟨rfl, List.replicate (ahead f) 0 ++ fs, h, hal, hfig, nby_ahead _ _, ⟨_, rfl⟩, .inl ⟨hg, rfl⟩, ?_⟩))
      rw [show (-(1 : Int)) = -1 from rfl, cut_last _ (by rw [List.length_map]; exact hpos), List.length_map, ← List.map_take, c1]
      rfl
    · have hg : ¬ f.sg = .en := of_decide_eq_false hf
      refine sd_nil (sd_nil ⟨rfl, List.replicate (ahead f) 0 ++ fs, 12, hal, hfig, nby_ahead _ _, ⟨_, rfl⟩, .inr ⟨hg, rfl⟩, ?_⟩)
      rw [halvesP_ne hg]; rfl
  rintro M ρ ⟨rfl, L, h', hL, hLf, hLn, _, hh, rfl⟩
  refine sd_set hX 5 rfl ed_int ?_
  refine sd_forL hX 6 (ed_var hX 2 rfl rfl) (fun _ => []) (fun i => [some (.sh (formD f)), none, some (.sh (.lst (L.map .int))), none, some (.sh (.int h')), some (.sh (.int (nby (L.take i)))), none]) ⟨rfl, rfl, rfl, rfl, rfl, trivial⟩ rfl ?_ ?_ hP
  · intro A' le i z hi
    obtain ⟨y, hy, rfl⟩ := map_get' hi
    have hnb := nby_range (L.take i) fun x hx => hLf x (List.mem_of_mem_take hx)
    have : (10 : Int) ^ (L.take i).length ≤ 10 ^ 24 := ten_le (by rw [List.length_take]; omega)
    refine sd_set hX 5 rfl (ed_bin hX (ed_bin hX ed_int (ed_var hX 5 rfl rfl) (o_mul (mulOk24 hnb.1 (Int.lt_of_lt_of_le hnb.2 this)))) (ed_var hX 6 rfl rfl) o_add) ?_
    exact sd_nil ⟨rfl, rfl, rfl, rfl, by rw [nbyL_take hy], trivial⟩
  rw [List.length_map, List.take_length, hLn]
  by_cases hg : f.sg = .en
  · have e : h' = h := by rcases hh with q | q; exact q.2; exact absurd hg q.1
    subst e
    refine sd_if (et_cmp hX (ed_var hX 4 rfl rfl) (ed_is (ed_tup (eds_cons ed_int (eds_cons ed_int eds_nil)) (by simp)) rfl) (o_inTI [11, 13])) (fun ht => ?_) (fun hf => ?_)
    · have hm' : h' ∈ ([11, 13] : List Int) := of_decide_eq_true ht
      simp only [List.mem_cons, List.not_mem_nil, or_false] at hm'
      refine sd_ret (ed_bin hX ed_int (ed_var hX 5 rfl rfl) o_sub) ?_
      rw [val, hg]
      show D.int _ = D.int (if h' = 11 ∨ h' = 13 then - nby fs else nby fs)
      rw [if_pos hm', Int.zero_sub]
    · have hm' : ¬ h' ∈ ([11, 13] : List Int) := of_decide_eq_false hf
      simp only [List.mem_cons, List.not_mem_nil, or_false] at hm'
      refine sd_nil (sd_skip (et_is (et_w (ew_and (t := false) (u := false) (et_is (et_cmp hX (ed_ix hX (ed_var hX 0 rfl rfl) ed_int (i_tup rfl)) ed_str o_eqS) (by rw [sg_te, hg]; rfl)) (fun z => nomatch z))) rfl) ?_)
      refine sd_ret (ed_var hX 5 rfl rfl) ?_
      rw [val, hg]
      show D.int _ = D.int (if h' = 11 ∨ h' = 13 then - nby fs else nby fs)
      rw [if_neg hm']
  · have e : h' = 12 := by rcases hh with q | q; exact absurd q.1 hg; exact q.2
    subst e
    refine sd_skip (et_is (et_cmp hX (ed_var hX 4 rfl rfl) (ed_is (ed_tup (eds_cons ed_int (eds_cons ed_int eds_nil)) (by simp)) rfl) (o_inTI [11, 13])) (by decide)) ?_
    have tf := tens_first gd.len h1 gd.fig
    refine sd_if (et_w (ew_and (et_is (et_cmp hX (ed_ix hX (ed_var hX 0 rfl rfl) ed_int (i_tup rfl)) ed_str o_eqS) (sg_te _)) (fun _ => ew_and1 (et_cmp hX (ed_var hX 5 rfl rfl) (ed_bin hX ed_int (ed_call hX D_l_power (by decide) (eds_cons ed_int (eds_cons (ed_bin hX (ed_ix hX (ed_var hX 0 rfl rfl) ed_int (i_tup rfl)) ed_int o_sub) eds_nil)) ⟨f.n - 1, by omega, by rw [show ((f.n - 1 : Nat) : Int) = (f.n : Int) - 1 by omega], rfl⟩) (o_mul (mulOk (by decide) (ten_abs (by omega))))) o_ge)))) (fun ht => ?_) (fun hf => ?_)
    · rw [Bool.and_eq_true] at ht
      have g2 : f.sg = .te := of_decide_eq_true ht.1
      have h5 := tf.mpr (of_decide_eq_true ht.2)
      refine sd_ret (ed_bin hX (ed_var hX 5 rfl rfl) (ed_call hX D_l_power (by decide) (eds_cons ed_int (eds_cons (ed_ix hX (ed_var hX 0 rfl rfl) ed_int (i_tup rfl)) eds_nil)) (⟨f.n, by omega, rfl, rfl⟩)) o_sub) ?_
      rw [val, g2]
      show D.int _ = D.int (if 4 < fs.getD 0 0 then nby fs - 10 ^ f.n else nby fs)
      rw [if_pos h5]
    · refine sd_nil (sd_ret (ed_var hX 5 rfl rfl) ?_)
      rw [val]
      cases q : f.sg with
      | en => exact absurd q hg
      | no => rfl
      | te =>
        rw [q] at hf
        have h5 : ¬ 5 * 10 ^ (f.n - 1) ≤ nby fs := of_decide_eq_false (by simpa using hf)
        show D.int _ = D.int (if 4 < fs.getD 0 0 then nby fs - 10 ^ f.n else nby fs)
        rw [if_neg fun z => h5 (tf.mp z)]

def s_l_hexed : Stmt := topS 113
theorem sc_l_hexed : FnScope ["_law_row", "_law_byte"] ["_law_row"] (defScope s_l_hexed) := ⟨rfl, rfl, rfl, by decide +kernel, rfl, by decide +kernel, by decide +kernel⟩
def G_l_hexed (ds : List D) (d : D) : Prop := ∃ r : List Int, r.length ≤ 12 ∧ (∀ b ∈ r, Byte b) ∧ ds = [rowD r] ∧ d = .str (hexT r)
theorem d_l_hexed (T : Tops K mg) {f : Addr} {fd : FuncData} (F : Fun K "_law_hexed" "_law_hexed" s_l_hexed f fd) (hb : Binds K fd ["_law_row"] []) (hm : mg "_law_hexed" = some (.ref f)) : Dfn P w K mg base "_law_hexed" 1 G_l_hexed := by
  refine dfn_of F sc_l_hexed hb hm (fun ds d h => ?_) ?_
  · obtain ⟨r, _, _, rfl, _⟩ := h; rfl
  rintro X A hX hF hP ds d ⟨r, hl, hb8, rfl, rfl⟩
  have h16 : hx16.length = 16 := by decide +kernel
  refine sd_ret (ed_join (ys := r.map hexB) ed_str (ed_is (ed_lc hX [("_law_byte", 1)] (ei_tup hX (ed_var hX 0 rfl rfl)) (blkOk_by (by decide +kernel)) [1] (fun d => [some (.sh (rowD r)), some (.sh d)]) (fun d => match d with | .int b => some (.str (hexB b)) | _ => none) (by simp; omega) (fun X' hX' d hd => ?_)) ?_) ?_) rfl
  · obtain ⟨b, hb', rfl⟩ := List.mem_map.mp hd
    have q := hb8 b hb'
    have q1 := q.lo
    have q2 := q.hi
    refine ⟨tg_nameL hX' 1 rfl, fun z hz => ?_, rfl⟩
    cases hz
    have e1 : b / 16 = ((b / 16).toNat : Int) := by omega
    have e2 : b % 16 = ((b % 16).toNat : Int) := by omega
    refine ed_bin hX' (ed_ix hX' ed_str (ed_bin hX' (ed_var hX' 1 rfl rfl) ed_int (o_div (divOk (by decide) (by decide)))) (i_str (c := dig (b / 16).toNat) (by rw [h16]; decide) ?_)) (ed_ix hX' ed_str (ed_bin hX' (ed_var hX' 1 rfl rfl) ed_int (o_mod (by decide))) (i_str (c := dig (b % 16).toNat) (by rw [h16]; decide) ?_)) (o_addS (show 1 + 1 ≤ 100000 by decide))
    · rw [e1]; exact atI_nat (hx_get _ (by omega))
    · rw [e2]; exact atI_nat (hx_get _ (by omega))
  · rw [List.filterMap_map, List.map_map]
    congr 1
    exact fm_some fun b _ => rfl
  · have := join_sum spS (r.map hexB) 2 (fun y hy => by obtain ⟨b, _, rfl⟩ := List.mem_map.mp hy; exact Nat.le_of_eq (hexB_length b))
    have e : spS.length = 1 := by decide +kernel
    refine Nat.le_trans this ?_
    rw [e, List.length_map]
    omega

def s_l_written : Stmt := topS 114
theorem sc_l_written : FnScope ["_law_form_here", "_law_number_here", "_law_figures_here", "_law_at"] ["_law_form_here", "_law_number_here"] (defScope s_l_written) := ⟨rfl, rfl, rfl, by decide +kernel, rfl, by decide +kernel, by decide +kernel⟩
def G_l_written (ds : List D) (d : D) : Prop := ∃ (f : Form) (x : Int), f.Ok ∧ fitsB f x = true ∧ ds = [formD f, .int x] ∧ d = .str (writ f x)
theorem d_l_written (T : Tops K mg) {f : Addr} {fd : FuncData} (F : Fun K "_law_written" "_law_written" s_l_written f fd) (hb : Binds K fd ["_law_form_here", "_law_number_here"] []) (hm : mg "_law_written" = some (.ref f)) : Dfn P w K mg base "_law_written" 1 G_l_written := by
  refine dfn_of F sc_l_written hb hm (fun ds d h => ?_) ?_
  · obtain ⟨f, x, _, _, rfl, _⟩ := h; rfl
  rintro X A hX hF hP ds d ⟨f, x, ok, hfit, rfl, rfl⟩
  have hab := fits_abs ok hfit
  have hwa := wa_len ok hfit
  have hwb := wb_len ok hfit
  have hpt := ok.pt
  have h12 := ok.n12
  have hu := PyProof.Rows.int_text_len_1921 (log_of hab (by decide))
  have hwa2 : wa f x = padN (Str.ofString (toString (if x < 0 then -x else x))) (f.pt + 1 - (Str.ofString (toString (if x < 0 then -x else x))).length) := by
    have := zfill_pad (n := f.pt + 1) (num_first (x := if x < 0 then -x else x) (by split <;> omega))
    exact this
  refine sd_set hX 2 rfl (ed_callTy hX T.str b_str (eds_cons (ed_callB hX T.abs b_abs (eds_cons (ed_var hX 1 rfl rfl) eds_nil) c_abs) eds_nil) (c_str (log_of hab (by decide)))) ?_
  generalize Str.ofString (toString (if x < 0 then -x else x)) = u at *
  refine sd_while hX (fun m M ρ => M = [] ∧ ∃ kk, m = f.pt + 1 - kk ∧ kk ≤ f.pt + 1 - u.length ∧ ρ = [some (.sh (formD f)), some (.sh (.int x)), some (.sh (.str (padN u kk))), none]) (f.pt + 1) ⟨rfl, 0, rfl, Nat.zero_le _, by rw [padN_zero]; rfl⟩ ?_ hP
  rintro m M ρ ⟨rfl, kk, rfl, hk, rfl⟩
  have hpl := padN_len u kk
  refine ⟨decide (kk + u.length < f.pt + 1), et_is (et_cmp hX (ed_callB hX T.len b_len (eds_cons (ed_var hX 2 rfl rfl) eds_nil) (c_lenS (by omega))) (ed_bin hX (ed_ix hX (ed_var hX 0 rfl rfl) ed_int (i_tup rfl)) ed_int o_add) o_lt) (by rw [hpl]; exact decide_eq_decide.mpr (by omega)), fun ht => ?_, fun hf => ?_⟩
  · have h0 := of_decide_eq_true ht
    refine sd_set hX 2 rfl (ed_bin hX ed_str (ed_var hX 2 rfl rfl) (o_addS (by have : ("0" : Str).length = 1 := by decide +kernel
                                                                               omega))) (sd_nil ⟨f.pt + 1 - (kk + 1), by omega, rfl, kk + 1, rfl, by omega, ?_⟩)
    rw [padN_succ]; rfl
  have h0 := of_decide_eq_false hf
  have hkk : padN u kk = wa f x := by rw [hwa2, show kk = f.pt + 1 - u.length by omega]
  rw [hkk]
  rw [hkk] at hpl
  refine sd_join (fun M ρ => M = [] ∧ ∃ r, ρ = [some (.sh (formD f)), some (.sh (.int x)), some (.sh (.str (wb f x))), r]) (et_cmp hX (ed_ix hX (ed_var hX 0 rfl rfl) ed_int (i_tup rfl)) ed_int o_gt) (fun ht => ?_) (fun hf => ?_) ?_
  · have hp0 : (0 : Int) < f.pt := of_decide_eq_true ht
    have hge : f.pt < (wa f x).length := by omega
    have e1 : ((wa f x).length : Int) - (f.pt : Int) = (((wa f x).length - f.pt : Nat) : Int) := by omega
    refine sd_set hX 3 rfl (ed_bin hX (ed_callB hX T.len b_len (eds_cons (ed_var hX 2 rfl rfl) eds_nil) (c_lenS (by omega))) (ed_ix hX (ed_var hX 0 rfl rfl) ed_int (i_tup rfl)) o_sub) ?_
    have a1 : cutS (wa f x) none (some (((wa f x).length : Int) - (f.pt : Int))) = cutS (wa f x) none (some (-(f.pt : Int))) := by
      unfold cutS
      rw [sIx_sub (by omega) (by omega)]
    have a2 : cutS (wa f x) (some (((wa f x).length : Int) - (f.pt : Int))) none = cutS (wa f x) (some (-(f.pt : Int))) none := by
      unfold cutS
      rw [sIx_sub (by omega) (by omega)]
    refine sd_set hX 2 rfl (ed_bin hX (ed_bin hX (ed_slice hX (ed_var hX 2 rfl rfl) eo_none (eo_some (ed_var hX 3 rfl rfl)) (l_str (by omega))) ed_str (o_addS ?_)) (ed_slice hX (ed_var hX 2 rfl rfl) (eo_some (ed_var hX 3 rfl rfl)) eo_none (l_str (by omega))) (o_addS ?_)) (sd_nil ⟨rfl, some (.sh (.int (((wa f x).length : Int) - (f.pt : Int)))), ?_⟩)
    · have h2 := cutS_length (wa f x) none (some (((wa f x).length : Int) - (f.pt : Int)))
      have : ("." : Str).length = 1 := by decide +kernel
      omega
    · have h2 := cutS_length (wa f x) none (some (((wa f x).length : Int) - (f.pt : Int)))
      have h3 := cutS_length (wa f x) (some (((wa f x).length : Int) - (f.pt : Int))) none
      have : ("." : Str).length = 1 := by decide +kernel
      rw [app_len]
      omega
    · rw [wb, if_pos hp0, a1, a2]; rfl
  · have hp0 : ¬ (0 : Int) < f.pt := of_decide_eq_false hf
    exact sd_nil ⟨rfl, none, by rw [wb, if_neg hp0]⟩
  rintro M ρ ⟨rfl, r, rfl⟩
  refine sd_join (fun M ρ => M = [] ∧ ρ = [some (.sh (formD f)), some (.sh (.int x)), some (.sh (.str (writ f x))), r]) (et_cmp hX (ed_var hX 1 rfl rfl) ed_int o_lt) (fun ht => ?_) (fun hf => ?_) ?_
  · have hx0 : x < 0 := of_decide_eq_true ht
    refine sd_set hX 2 rfl (ed_bin hX ed_str (ed_var hX 2 rfl rfl) (o_addS ?_)) (sd_nil ⟨rfl, by rw [writ, if_pos hx0]; rfl⟩)
    have : ("-" : Str).length = 1 := by decide +kernel
    omega
  · have hx0 : ¬ x < 0 := of_decide_eq_false hf
    exact sd_nil ⟨rfl, by rw [writ, if_neg hx0]⟩
  rintro M ρ ⟨rfl, rfl⟩
  exact sd_ret (ed_var hX 2 rfl rfl) rfl

def s_l_words : Stmt := topS 115
theorem sc_l_words : FnScope ["_law_form_here"] ["_law_form_here"] (defScope s_l_words) := ⟨rfl, rfl, rfl, by decide +kernel, rfl, by decide +kernel, by decide +kernel⟩
def G_l_words (ds : List D) (d : D) : Prop := ∃ f : Form, f.Ok ∧ ds = [formD f] ∧ d = .str (wordsF f)
theorem d_l_words (T : Tops K mg) {f : Addr} {fd : FuncData} (F : Fun K "_law_words" "_law_words" s_l_words f fd) (hb : Binds K fd ["_law_form_here"] []) (hm : mg "_law_words" = some (.ref f)) : Dfn P w K mg base "_law_words" 1 G_l_words := by
  refine dfn_of F sc_l_words hb hm (fun ds d h => ?_) ?_
  · obtain ⟨f, _, rfl, _⟩ := h; rfl
  rintro X A hX hF hP ds d ⟨f, ok, rfl, rfl⟩
  have h12 := ok.n12
  have hpt := ok.pt
  obtain ⟨k1, _⟩ := kindS_facts f.sp
  obtain ⟨k2, _⟩ := signS_facts f.sg
  obtain ⟨k3, _⟩ := numS_facts f.n h12
  obtain ⟨k4, _⟩ := numS_facts f.pt (by omega)
  have hlog : ∀ n : Nat, n ≤ 12 → ((n : Nat) : Int).natAbs.log2 < 1920 := by decide
  have hw := words_fold (kindS f.sp) (numS f.n) (signS f.sg) (numS f.pt)
  have hl : (wordsF f).length ≤ 100 := by
    have := join_le spS (shapeW f) 6 (by simp only [shapeW, List.mem_cons, List.not_mem_nil, or_false]; rintro y (rfl | rfl | rfl | rfl) <;> omega)
    have e : spS.length = 1 := by decide +kernel
    have e2 : (shapeW f).length = 4 := rfl
    rw [e, e2] at this
    unfold wordsF
    omega
  refine sd_ret (ed_is (ed_joined (xs := [kindS f.sp, " ", numS f.n, " ", signS f.sg, " ", numS f.pt]) (.cons (ed_fmt (ed_ix hX (ed_var hX 0 rfl rfl) ed_int (i_tup rfl)) rfl (fun _ z => nomatch z) (by omega)) (.cons ed_str (.cons (ed_fmt (ed_ix hX (ed_var hX 0 rfl rfl) ed_int (i_tup rfl)) rfl (fun i z => by cases z; exact hlog _ h12) (Nat.le_trans k3 (by decide))) (.cons ed_str (.cons (ed_fmt (ed_ix hX (ed_var hX 0 rfl rfl) ed_int (i_tup rfl)) rfl (fun _ z => nomatch z) (by omega)) (.cons ed_str (.cons (ed_fmt (ed_ix hX (ed_var hX 0 rfl rfl) ed_int (i_tup rfl)) rfl (fun i z => by cases z; exact hlog _ (by omega)) (Nat.le_trans k4 (by decide))) .nil))))))) (by rw [hw]; exact Nat.le_trans hl (by decide))) (by rw [hw]; rfl)) rfl

def s_l_kept_of : Stmt := topS 121
theorem sc_l_kept_of : FnScope ["_law_form_here", "_law_number_here"] ["_law_form_here", "_law_number_here"] (defScope s_l_kept_of) := ⟨rfl, rfl, rfl, by decide +kernel, rfl, by decide +kernel, by decide +kernel⟩
def G_l_kept_of (ds : List D) (d : D) : Prop := ∃ (f : Form) (x : Int), f.Ok ∧ ds = [formD f, .int x] ∧ d = .tup [formD f, rowD (rowK f (fold f x))]
theorem d_l_kept_of (T : Tops K mg) (D_l_wrap : Dfn P w K mg base "_law_wrap" 2 G_l_wrap) (D_l_laid : Dfn P w K mg base "_law_laid" 4 G_l_laid) {f : Addr} {fd : FuncData} (F : Fun K "_law_kept_of" "_law_kept_of" s_l_kept_of f fd) (hb : Binds K fd ["_law_form_here", "_law_number_here"] []) (hm : mg "_law_kept_of" = some (.ref f)) : Dfn P w K mg base "_law_kept_of" 5 G_l_kept_of := by
  refine dfn_of F sc_l_kept_of hb hm (fun ds d h => ?_) ?_
  · obtain ⟨f, x, _, rfl, _⟩ := h; rfl
  rintro X A hX hF hP ds d ⟨f, x, ok, rfl, rfl⟩
  exact sd_ret (ed_tup (eds_cons (ed_var hX 0 rfl rfl) (eds_cons (ed_call hX D_l_laid (by decide) (eds_cons (ed_var hX 0 rfl rfl) (eds_cons (ed_call hX D_l_wrap (by decide) (eds_cons (ed_var hX 0 rfl rfl) (eds_cons (ed_var hX 1 rfl rfl) eds_nil)) ⟨f, x, ok, rfl, rfl⟩) eds_nil)) ⟨f, fold f x, ok, rfl, rfl⟩) eds_nil)) (by simp)) rfl

def s_l_mark : Stmt := topS 122
theorem sc_l_mark : FnScope ["_law_form_here", "_law_number_here"] ["_law_form_here", "_law_number_here"] (defScope s_l_mark) := ⟨rfl, rfl, rfl, by decide +kernel, rfl, by decide +kernel, by decide +kernel⟩
def G_l_mark (ds : List D) (d : D) : Prop := ∃ (f : Form) (x : Int), f.Ok ∧ ds = [formD f, .int x] ∧ d = .tup [.str "told", .str (if fitsB f x then "0" else "1")]
theorem d_l_mark (T : Tops K mg) (D_l_fits : Dfn P w K mg base "_law_fits" 3 G_l_fits) {f : Addr} {fd : FuncData} (F : Fun K "_law_mark" "_law_mark" s_l_mark f fd) (hb : Binds K fd ["_law_form_here", "_law_number_here"] []) (hm : mg "_law_mark" = some (.ref f)) : Dfn P w K mg base "_law_mark" 4 G_l_mark := by
  refine dfn_of F sc_l_mark hb hm (fun ds d h => ?_) ?_
  · obtain ⟨f, x, _, rfl, _⟩ := h; rfl
  rintro X A hX hF hP ds d ⟨f, x, ok, rfl, rfl⟩
  refine sd_ret (ed_tup (eds_cons ed_str (eds_cons (ed_callTy hX T.str b_str (eds_cons (ed_callTy hX T.int b_int (eds_cons (ed_not (ed_call hX D_l_fits (by decide) (eds_cons (ed_var hX 0 rfl rfl) (eds_cons (ed_var hX 1 rfl rfl) eds_nil)) ⟨f, x, ok, rfl, rfl⟩)) eds_nil) c_intB) eds_nil) (c_str (by cases fitsB f x <;> decide))) eds_nil)) (by simp)) ?_
  show D.tup [_, D.str _] = D.tup [_, D.str _]
  congr 4
  cases fitsB f x <;> decide +kernel
end
end Tl
set_option maxHeartbeats 4000000
/-! L3: the other side: things, names, what stands. -/
namespace Tl
open PySem L2 T3 TL
local macro_rules | `(tactic| walk_at "len") => `(tactic| first | decide | (simp; done) | omega | (simp; omega))
section
variable {X : Cx} {N : List Str} {sc : Scope} {P : Program} {w : World} {K : PySem.W.Frag} {mg : Str → Option Value} {base : Heap} {k : Nat}
variable {A : Anc} {M : List Cell} {ρ : Env3}
def s_l_thing_by : Stmt := topS 123
theorem sc_l_thing_by : FnScope ["_law_cell_here", "_law_salt", "_law_base", "_law_draws_here", "_law_form_here"] ["_law_cell_here", "_law_salt", "_law_base"] (defScope s_l_thing_by) := ⟨rfl, rfl, rfl, by decide +kernel, rfl, by decide +kernel, by decide +kernel⟩
def G_l_thing_by (ds : List D) (d : D) : Prop := ∃ (c s : Int) (b : Form), 0 ≤ s ∧ s < 1000 ∧ b.Ok ∧ ds = [.int c, .int s, formD b] ∧ d = (thingF c s b).d
theorem d_l_thing_by (T : Tops K mg) (D_l_draws : Dfn P w K mg base "_law_draws" 2 G_l_draws) (D_l_pointed : Dfn P w K mg base "_law_pointed" 2 G_l_pointed) (D_l_number : Dfn P w K mg base "_law_number" 3 G_l_number) (D_l_dressed : Dfn P w K mg base "_law_dressed" 4 G_l_dressed) {f : Addr} {fd : FuncData} (F : Fun K "_law_thing_by" "_law_thing_by" s_l_thing_by f fd) (hb : Binds K fd ["_law_cell_here", "_law_salt", "_law_base"] []) (hm : mg "_law_thing_by" = some (.ref f)) : Dfn P w K mg base "_law_thing_by" 5 G_l_thing_by := by
  refine dfn_of F sc_l_thing_by hb hm (fun ds d h => ?_) ?_
  · obtain ⟨_, _, _, _, _, _, rfl, _⟩ := h; rfl
  rintro X A hX hF hP ds d ⟨c, s, b, hs0, hs, ok, rfl, rfl⟩
  refine sd_set hX 3 rfl (d := .lst ((drawsF c s tws).map .int)) (ed_call hX D_l_draws (by decide) (eds_cons (ed_var hX 0 rfl rfl) (eds_cons (ed_var hX 1 rfl rfl) (eds_cons (ed_is (ed_lst (eds_cons ed_int (eds_cons ed_int (eds_cons ed_int (eds_cons ed_int (eds_cons ed_int (eds_cons ed_int (eds_cons ed_int (eds_cons (ed_bin hX ed_int ed_int (o_pow ⟨by decide, by decide, by decide⟩)) eds_nil)))))))) (by simp)) (d' := .lst (tws.map .int)) (by rw [ten14]; rfl)) eds_nil))) ⟨c, s, tws, hs0, hs, by decide, tws_pos, tws_small, rfl, rfl⟩) ?_
  rw [tdraws_eq]
  refine sd_set hX 4 rfl (ed_call hX D_l_pointed (by decide) (eds_cons (ed_slice hX (ed_var hX 3 rfl rfl) (eo_some ed_int) eo_none l_lst) eds_nil) ⟨tdr c s 1, tdr c s 2, tdr c s 3, tdr c s 4, [(tdr c s 5 : Int), (tdr c s 6 : Int), (tdr c s 7 : Int)], tdr1 c s, tdr2 c s, tdr3 c s, rfl, rfl⟩) ?_
  refine sd_join (fun M ρ => M = [] ∧ ρ = [some (.sh (.int c)), some (.sh (.int s)), some (.sh (formD b)), some (.sh (.lst [.int (tdr c s 0), .int (tdr c s 1), .int (tdr c s 2), .int (tdr c s 3), .int (tdr c s 4), .int (tdr c s 5), .int (tdr c s 6), .int (tdr c s 7)])), some (.sh (formD (tform c s b)))]) (et_cmp hX (ed_ix hX (ed_var hX 3 rfl rfl) ed_int (i_lst (atI_nat (i := 0) rfl))) ed_int o_gt) (fun ht => ?_) (fun hf => ?_) ?_
  · have h0 : (0 : Int) < (tdr c s 0 : Nat) := of_decide_eq_true ht
    refine sd_set hX 4 rfl (d := formD (tform c s b)) (ed_is (ed_bin hX (ed_slice hX (ed_var hX 2 rfl rfl) eo_none (eo_some ed_int) l_tup) (ed_tup (eds_cons (ed_bin hX (ed_bin hX (ed_ix hX (ed_var hX 2 rfl rfl) ed_int (i_tup (atI_nat (i := 3) rfl))) (ed_callTy hX T.int b_int (eds_cons (ed_cmp hX (ed_ix hX (ed_var hX 3 rfl rfl) ed_int (i_lst (atI_nat (i := 0) rfl))) ed_int o_eqI) eds_nil) c_intB) o_add) (ed_bin hX (ed_ix hX (ed_var hX 2 rfl rfl) ed_int (i_tup (atI_nat (i := 1) rfl))) ed_int o_add) (o_mod (by omega))) eds_nil) (by simp)) (o_catT (List.cons_ne_nil _ _) (List.cons_ne_nil _ _) (show 3 + 1 ≤ 100000 by decide))) ?_) (sd_nil ⟨rfl, rfl⟩)
    rw [tform, if_pos h0]
    show D.tup [_, _, _, D.int (((b.pt : Int) + (if decide ((tdr c s 0 : Int) = 1) then 1 else 0)) % ((b.n : Int) + 1))] = D.tup [_, _, _, D.int (((b.pt + (if tdr c s 0 = 1 then 1 else 0)) % (b.n + 1) : Nat) : Int)]
    rw [Int.natCast_emod]
    suffices h : (if decide ((tdr c s 0 : Int) = 1) then (1 : Int) else 0) = ((if tdr c s 0 = 1 then 1 else 0 : Nat) : Int) by rw [h]; rfl
    by_cases e : tdr c s 0 = 1
    · rw [if_pos e, decide_eq_true (by omega)]; rfl
    · rw [if_neg e, decide_eq_false (by omega)]; rfl
  · have h0 : ¬ (0 : Int) < (tdr c s 0 : Nat) := of_decide_eq_false hf
    exact sd_nil ⟨rfl, by rw [tform, if_neg h0]; rfl⟩
  rintro M ρ ⟨rfl, rfl⟩
  have okf := tform_ok c s ok
  refine sd_ret (ed_tup (eds_cons (ed_var hX 4 rfl rfl) (eds_cons (ed_call hX D_l_dressed (by decide) (eds_cons (ed_var hX 4 rfl rfl) (eds_cons (ed_call hX D_l_number (by decide) (eds_cons (ed_var hX 4 rfl rfl) (eds_cons (ed_ix hX (ed_var hX 3 rfl rfl) ed_int (i_lst (atI_nat (i := 5) rfl))) (eds_cons (ed_ix hX (ed_var hX 3 rfl rfl) ed_int (i_lst (atI_nat (i := 7) rfl))) eds_nil))) ⟨tform c s b, tdr c s 5, tdr c s 7, okf, tdr7 c s, rfl, rfl⟩) (eds_cons (ed_ix hX (ed_var hX 3 rfl rfl) ed_int (i_lst (atI_nat (i := 6) rfl))) eds_nil))) ⟨tform c s b, tnum c s b, tdr c s 6, okf, rfl, rfl⟩) eds_nil)) (by simp)) rfl

end
end Tl
/-! L3: the other side: things, names, what stands. -/
namespace Tl
open PySem L2 T3 TL
local macro_rules | `(tactic| walk_at "len") => `(tactic| first | decide | (simp; done) | omega | (simp; omega))
section
variable {X : Cx} {N : List Str} {sc : Scope} {P : Program} {w : World} {K : PySem.W.Frag} {mg : Str → Option Value} {base : Heap} {k : Nat}
variable {A : Anc} {M : List Cell} {ρ : Env3}
def s_l_missing : Stmt := topS 124
theorem sc_l_missing : FnScope ["_law_standing", "_law_names_here", "_law_name_here"] ["_law_standing", "_law_names_here"] (defScope s_l_missing) := ⟨rfl, rfl, rfl, by decide +kernel, rfl, by decide +kernel, by decide +kernel⟩
def G_l_missing (ds : List D) (d : D) : Prop := ∃ (ks : List Str) (vs : List D) (l : List Str), ds = [.dct ks vs, .tup (l.map .str)] ∧ d = missF ks l
theorem d_l_missing (T : Tops K mg) {f : Addr} {fd : FuncData} (F : Fun K "_law_missing" "_law_missing" s_l_missing f fd) (hb : Binds K fd ["_law_standing", "_law_names_here"] []) (hm : mg "_law_missing" = some (.ref f)) : Dfn P w K mg base "_law_missing" 1 G_l_missing := by
  refine dfn_of F sc_l_missing hb hm (fun ds d h => ?_) ?_
  · obtain ⟨_, _, _, rfl, _⟩ := h; rfl
  rintro X A hX hF hP ds d ⟨ks, vs, l, rfl, rfl⟩
  have pre : ∀ i, i ≤ l.length → (∀ j x, j < i → l[j]? = some x → x ∈ ks) → True := fun _ _ _ => trivial
  refine sd_for hX (ei_tup hX (ed_var hX 1 rfl rfl)) (fun i M ρ => M = [] ∧ Wk [some (.sh (.dct ks vs)), none, none] ρ ∧ ∀ j x, j < i → l[j]? = some x → x ∈ ks) ⟨rfl, ⟨rfl, trivial⟩, fun j x hj => absurd hj (Nat.not_lt_zero _)⟩ (fun A' le i z M ρ hz ⟨e, wk, hpre⟩ => ?_) (fun M ρ ⟨e, wk, hpre⟩ => ?_) hP
  · subst e
    obtain ⟨x, hx, rfl⟩ := map_get' hz
    refine ⟨_, _, tg_weak (tg_name hX 2 rfl) wk, ?_⟩
    refine sd_if (et_dni hX (ed_var hX 2 rfl rfl) (ed_var hX 0 rfl rfl)) (fun ht => ?_) (fun hf => ?_)
    · have hn : x ∉ ks := fun z => by rw [decide_eq_true z] at ht; exact absurd ht (by decide)
      refine sd_ret (ed_tup (eds_cons ed_str (eds_cons (ed_var hX 2 rfl rfl) eds_nil)) (by simp)) ?_
      have hf : l.find? (fun x => decide (x ∉ ks)) = some x := by
        rw [List.find?_eq_some_iff_getElem]
        have hi := (List.getElem?_eq_some_iff.mp hx)
        have hi1 := hi.1
        refine ⟨decide_eq_true hn, i, hi.1, hi.2, fun j hj => ?_⟩
        have := hpre j _ hj (List.getElem?_eq_getElem (by omega))
        simp [this]
      show _ = missF ks l
      rw [missF, hf]
    · have hy : x ∈ ks := by
        cases q : decide (x ∈ ks) with
        | true => exact of_decide_eq_true q
        | false => rw [q] at hf; exact absurd hf (by decide)
      refine sd_nil (sd_nil ⟨rfl, ⟨rfl, trivial⟩, fun j y hj hjy => ?_⟩)
      by_cases e : j < i
      · exact hpre j y e hjy
      · have : j = i := by omega
        subst this
        rw [hx] at hjy
        cases hjy
        exact hy
  · subst e
    refine sd_ret ed_non ?_
    have hf : l.find? (fun x => decide (x ∉ ks)) = none := by
      rw [List.find?_eq_none]
      intro x hx
      obtain ⟨j, hj⟩ := List.getElem?_of_mem hx
      have := hpre j x (by rw [List.length_map]; exact (List.getElem?_eq_some_iff.mp hj).1) hj
      simp [this]
    show _ = missF ks l
    rw [missF, hf]

def s_l_with : Stmt := topS 125
theorem sc_l_with : FnScope ["_law_standing", "_law_rows", "_law_fresh", "_law_name_here", "_law_thing"] ["_law_standing", "_law_rows"] (defScope s_l_with) := ⟨rfl, rfl, rfl, by decide +kernel, rfl, by decide +kernel, by decide +kernel⟩
def G_l_with (ds : List D) (d : D) : Prop := ∃ (S : Sta) (x : Str) (t : Thing), S.length ≤ 100 ∧ ds = [staD S, .lst [.tup [.str x, t.d]]] ∧ d = staD (putS S x t)
theorem d_l_with (T : Tops K mg) {f : Addr} {fd : FuncData} (F : Fun K "_law_with" "_law_with" s_l_with f fd) (hb : Binds K fd ["_law_standing", "_law_rows"] []) (hm : mg "_law_with" = some (.ref f)) : Dfn P w K mg base "_law_with" 1 G_l_with := by
  refine dfn_of F sc_l_with hb hm (fun ds d h => ?_) ?_
  · obtain ⟨_, _, _, _, rfl, _⟩ := h; rfl
  rintro X A hX hF hP ds d ⟨S, x, t, hl, rfl, rfl⟩
  have hl' : (keysS S).length ≤ 100 := by rw [keysS, List.length_map]; exact hl
  refine sd_setDc hX 2 rfl T.dict b_dict (ed_var hX 0 rfl rfl) ?_
  refine sd_forE hX (ei_lst hX (ed_var hX 1 rfl rfl)) (fun i => if i = 0 then [.dct (keysS S) (valsS S)] else [.dct (keysS (putS S x t)) (valsS (putS S x t))]) (fun _ => [some (.sh (staD S)), some (.sh (.lst [.tup [.str x, t.d]])), some (.cell 0), none, none]) ⟨rfl, rfl, rfl, rfl, trivial⟩ ?_ ?_ hP
  · intro A' le i z hi
    have hi0 : i = 0 := by
      have := (List.getElem?_eq_some_iff.mp hi).1
      simp only [List.length_cons, List.length_nil] at this
      omega
    subst hi0
    cases hi
    refine ⟨_, _, tg_tup hX (tgs_cons (tg_name hX 3 rfl) (tgs_cons (tg_name hX 4 rfl) tgs_nil)) rfl, ?_⟩
    refine sd_dput hX (ed_var hX 4 rfl rfl) (ec_var hX 2 rfl rfl) (ed_var hX 3 rfl rfl) rfl (by omega) ?_
    refine sd_nil ⟨?_, rfl, rfl, rfl, trivial⟩
    rw [put_S]; rfl
  refine sd_freezeD 2 0 rfl rfl rfl ?_
  exact sd_ret (ed_var hX 2 rfl rfl) rfl

end
end Tl
/-! L3: the other side: things, names, what stands. -/
namespace Tl
open PySem L2 T3 TL
local macro_rules | `(tactic| walk_at "len") => `(tactic| first | decide | (simp; done) | omega | (simp; omega))
section
variable {X : Cx} {N : List Str} {sc : Scope} {P : Program} {w : World} {K : PySem.W.Frag} {mg : Str → Option Value} {base : Heap} {k : Nat}
variable {A : Anc} {M : List Cell} {ρ : Env3}
def s_l_name : Stmt := topS 116
theorem sc_l_name : FnScope ["_law_cell_here", "_law_salt", "_law_known", "_law_letters", "_law_draws_here", "_law_name_here", "_law_way", "_law_many", "_law_at", "_law_letter", "_law_place", "_law_some", "_law_last", "_law_rest", "_law_digit"] ["_law_cell_here", "_law_salt", "_law_known"] (defScope s_l_name) := ⟨rfl, rfl, rfl, by decide +kernel, rfl, by decide +kernel, by decide +kernel⟩
def G_l_name (ds : List D) (d : D) : Prop := ∃ (c s : Int) (known : List Str), 0 ≤ s ∧ s < 1000 ∧ known.length ≤ 5 ∧ (∀ x ∈ known, NameOk x) ∧ ds = [.int c, .int s, .lst (known.map .str)] ∧ d = .str (nameF c s known)
theorem d_l_name (T : Tops K mg) (D_l_draws : Dfn P w K mg base "_law_draws" 2 G_l_draws) {f : Addr} {fd : FuncData} (F : Fun K "_law_name" "_law_name" s_l_name f fd) (hb : Binds K fd ["_law_cell_here", "_law_salt", "_law_known"] []) (hm : mg "_law_name" = some (.ref f)) : Dfn P w K mg base "_law_name" 3 G_l_name := by
  refine dfn_of F sc_l_name hb hm (fun ds d h => ?_) ?_
  · obtain ⟨_, _, _, _, _, _, _, rfl, _⟩ := h; rfl
  rintro X A hX hF hP ds d ⟨c, s, kn, hs0, hs, hkl, hkn, rfl, rfl⟩
  have haz : azS.length ≤ 100000 := by decide +kernel
  refine sd_set hX 3 rfl ed_str ?_
  refine sd_set hX 4 rfl (d := .lst ((drawsF c s nws).map .int)) (ed_call hX D_l_draws (by decide) (eds_cons (ed_var hX 0 rfl rfl) (eds_cons (ed_var hX 1 rfl rfl) (eds_cons (ed_is (ed_bin hX (ed_lst (eds_cons ed_int (eds_cons ed_int (eds_cons ed_int (eds_cons ed_int (eds_cons ed_int eds_nil))))) (by simp)) (ed_bin hX (ed_lst (eds_cons ed_int eds_nil) (by simp)) ed_int (o_repL (by decide) (by decide) (by decide))) (o_catL (by decide))) (d' := .lst (nws.map .int)) rfl) eds_nil))) ⟨c, s, nws, hs0, hs, by decide, nws_pos, nws_small, rfl, rfl⟩) ?_
  refine sd_asg (d := .lst [.int (ndr c s 0), .int (ndr c s 1), .int (ndr c s 2), .int (ndr c s 3), .int (ndr c s 4)]) (ed_is (ed_slice hX (ed_var hX 4 rfl rfl) eo_none (eo_some ed_int) l_lst) (by rw [ndraws_eq]; rfl)) (tg_lst hX (tgs_cons (tg_name hX 6 rfl) (tgs_cons (tg_name hX 7 rfl) (tgs_cons (tg_name hX 8 rfl) (tgs_cons (tg_name hX 9 rfl) (tgs_cons (tg_name hX 10 rfl) tgs_nil))))) rfl) ?_
  have h1 := ndr1 c s
  have h2 := ndr2 c s
  have h3 := ndr3 c s
  have h4 := ndr4 c s
  have hcut : cutD ((drawsF c s nws).map D.int) (some 5) (some ((6 : Int) + (ndr c s 1 : Nat))) = (List.range (1 + ndr c s 1)).map fun i => D.int (ndr c s (5 + i) : Nat) := by
    rw [draws_eq nws_pos, List.map_map]
    unfold cutD
    rw [List.length_map, List.length_range, show (some (5 : Int)) = some ((5 : Nat) : Int) from rfl, show ((6 : Int) + (ndr c s 1 : Nat)) = ((6 + ndr c s 1 : Nat) : Int) by omega, HT.sIx_nat, HT.sIx_nat, show nws.length = 17 from rfl, Nat.min_eq_left (show 5 ≤ 17 by decide), Nat.min_eq_left (show 6 + ndr c s 1 ≤ 17 by omega)]
    apply List.ext_getElem?
    intro i
    rw [List.getElem?_take]
    by_cases hi : i < 1 + ndr c s 1
    · rw [if_pos (by omega), List.getElem?_drop, List.getElem?_map, List.getElem?_map, List.getElem?_range (by omega), List.getElem?_range hi]
      rfl
    · rw [if_neg (by omega), List.getElem?_eq_none (by simp; omega)]
  refine sd_set hX 5 rfl (d := .str (nm0 c s)) (ed_join (ys := (List.range (1 + ndr c s 1)).map fun i => letS (ndr c s (5 + i))) ed_str (ed_is (ed_lc hX [("_law_digit", 14)] (ei_lst hX (ed_slice hX (ed_var hX 4 rfl rfl) (eo_some ed_int) (eo_some (ed_bin hX ed_int (ed_var hX 7 rfl rfl) o_add)) l_lst)) (blkOk_by (by decide +kernel)) [14] (fun d => [some (.sh (.int c)), some (.sh (.int s)), some (.sh (.lst (kn.map .str))), some (.sh (.str azS)), some (.sh (.lst ((drawsF c s nws).map .int))), none, some (.sh (.int (ndr c s 0))), some (.sh (.int (ndr c s 1))), some (.sh (.int (ndr c s 2))), some (.sh (.int (ndr c s 3))), some (.sh (.int (ndr c s 4))), none, none, none, some (.sh d)]) (fun d => match d with | .int j => some (.str (letS j.toNat)) | _ => none) (by rw [hcut]; simp; omega) (fun X' hX' d hd => ?_)) ?_) ?_) ?_
  · rw [hcut] at hd
    obtain ⟨i, hi, rfl⟩ := List.mem_map.mp hd
    rw [List.mem_range] at hi
    have hlt := ndr26 c s (j := 5 + i) (by omega) (by omega)
    refine ⟨tg_nameL hX' 14 rfl, fun z hz => ?_, rfl⟩
    cases hz
    exact ed_ix hX' (ed_var hX' 3 rfl rfl) (ed_var hX' 14 rfl rfl) (i_str haz (atI_nat (az_get _ hlt)))
  · rw [hcut, List.filterMap_map, List.map_map]
    congr 1
    exact fm_some fun i _ => rfl
  · have := join_sum ("" : Str) ((List.range (1 + ndr c s 1)).map fun i => letS (ndr c s (5 + i))) 1 (fun y hy => by obtain ⟨i, _, rfl⟩ := List.mem_map.mp hy; exact Nat.le_refl _)
    have e : ("" : Str).length = 0 := by decide +kernel
    refine Nat.le_trans this ?_
    rw [e, List.length_map, List.length_range]
    omega
  refine sd_join (fun M ρ => M = [] ∧ ∃ r, ρ = [some (.sh (.int c)), some (.sh (.int s)), some (.sh (.lst (kn.map .str))), some (.sh (.str azS)), some (.sh (.lst ((drawsF c s nws).map .int))), some (.sh (.str (nm1 c s))), some (.sh (.int (ndr c s 0))), some (.sh (.int (ndr c s 1))), some (.sh (.int (ndr c s 2))), some (.sh (.int (ndr c s 3))), some (.sh (.int (ndr c s 4))), r, none, none, none]) (t := decide (ndr c s 0 = 0)) (et_is (et_cmp hX (ed_var hX 6 rfl rfl) ed_int o_eqI) (decide_eq_decide.mpr (by omega))) (fun ht => ?_) (fun hf => ?_) ?_
  · have h0 : ndr c s 0 = 0 := of_decide_eq_true ht
    refine sd_set hX 11 rfl (ed_is (ed_lst (eds_cons ed_str (eds_cons ed_str (eds_cons ed_str (eds_cons ed_str (eds_cons ed_str (eds_cons ed_str (eds_cons ed_str (eds_cons ed_str (eds_cons ed_str (eds_cons ed_str (eds_cons ed_str (eds_cons ed_str eds_nil)))))))))))) (by simp)) (d' := .lst (((List.range 12).map oddName).map .str)) (by rw [odd_list]; rfl)) ?_
    refine sd_set hX 5 rfl (ed_ix hX (ed_var hX 11 rfl rfl) (ed_var hX 10 rfl rfl) (i_lst (d := .str (oddName (ndr c s 4))) (atI_nat (map_get (map_get (List.getElem?_range h4)))))) (sd_nil ⟨rfl, some (.sh (.lst (((List.range 12).map oddName).map .str))), by rw [nm1, if_pos h0]; rfl⟩)
  · have h0 : ¬ ndr c s 0 = 0 := of_decide_eq_false hf
    exact sd_nil ⟨rfl, none, by rw [nm1, if_neg h0]; rfl⟩
  rintro M ρ ⟨rfl, r1, rfl⟩
  have hlet := letS_ok h3
  refine sd_join (fun M ρ => M = [] ∧ ρ = [some (.sh (.int c)), some (.sh (.int s)), some (.sh (.lst (kn.map .str))), some (.sh (.str azS)), some (.sh (.lst ((drawsF c s nws).map .int))), some (.sh (.str (nm2 c s))), some (.sh (.int (ndr c s 0))), some (.sh (.int (ndr c s 1))), some (.sh (.int (ndr c s 2))), some (.sh (.int (ndr c s 3))), some (.sh (.int (ndr c s 4))), r1, none, none, none]) (t := decide (ndr c s 0 = 1)) (et_is (et_cmp hX (ed_var hX 6 rfl rfl) ed_int o_eqI) (decide_eq_decide.mpr (by omega))) (fun ht => ?_) (fun hf => ?_) ?_
  · have h0 : ndr c s 0 = 1 := of_decide_eq_true ht
    refine sd_set hX 5 rfl (ed_bin hX (ed_ix hX (ed_var hX 3 rfl rfl) (ed_var hX 9 rfl rfl) (i_str haz (atI_nat (az_get _ h3)))) (ed_bin hX ed_int (ed_var hX 7 rfl rfl) o_add) (o_mulS (mulOkS _ (by omega) (by omega)))) (sd_nil ⟨rfl, by rw [nm2, if_pos h0]; rfl⟩)
  · have h0 : ¬ ndr c s 0 = 1 := of_decide_eq_false hf
    exact sd_nil ⟨rfl, by rw [nm2, if_neg h0]⟩
  rintro M ρ ⟨rfl, rfl⟩
  refine sd_join (fun M ρ => M = [] ∧ ∃ r2 r3, ρ = [some (.sh (.int c)), some (.sh (.int s)), some (.sh (.lst (kn.map .str))), some (.sh (.str azS)), some (.sh (.lst ((drawsF c s nws).map .int))), some (.sh (.str (nm3 c s kn))), some (.sh (.int (ndr c s 0))), some (.sh (.int (ndr c s 1))), some (.sh (.int (ndr c s 2))), some (.sh (.int (ndr c s 3))), some (.sh (.int (ndr c s 4))), r1, r2, r3, none]) (t := decide (ndr c s 0 = 2) && decide (0 < kn.length)) (et_w (ew_and (et_is (et_cmp hX (ed_var hX 6 rfl rfl) ed_int o_eqI) (decide_eq_decide.mpr (by omega))) (fun _ => ew_and1 (et_is (et_cmp hX (ed_callB hX T.len b_len (eds_cons (ed_var hX 2 rfl rfl) eds_nil) c_lenL) ed_int o_gt) (by rw [List.length_map]; exact decide_eq_decide.mpr (by omega)))))) (fun ht => ?_) (fun hf => ?_) ?_
  · rw [Bool.and_eq_true] at ht
    have h0 : ndr c s 0 = 2 := of_decide_eq_true ht.1
    have h5 : 0 < kn.length := of_decide_eq_true ht.2
    have hne : kn ≠ [] := fun z => by rw [z] at h5; exact absurd h5 (by decide)
    have hlast : kn[kn.length - 1]? = some (kn.getLastD "") := by
      rw [List.getLastD_eq_getLast?, List.getLast?_eq_getElem?, List.getElem?_eq_getElem (by omega)]; rfl
    have hz := hkn _ (List.mem_of_getElem? hlast)
    generalize hzz : kn.getLastD "" = z at *
    have hz12 := hz.l12
    refine sd_set hX 12 rfl (ed_ix hX (ed_var hX 2 rfl rfl) (ed_un hX ed_int u_neg) (i_lst (d := .str z) (atI_neg (n := kn.length) (i := 1) (by rw [List.length_map]) (by decide) (by omega) (map_get hlast)))) ?_
    refine sd_set hX 13 rfl (ed_slice hX (ed_var hX 12 rfl rfl) (eo_some (ed_bin hX (ed_var hX 8 rfl rfl) (ed_callTy hX T.int b_int (eds_cons (ed_cmp hX (ed_var hX 7 rfl rfl) ed_int o_gt) eds_nil) c_intB) o_add)) eo_none (l_str (by omega))) ?_
    have ei : (if decide ((5 : Int) < (ndr c s 1 : Nat)) then (1 : Int) else 0) = (if 5 < ndr c s 1 then 1 else 0) := by
      by_cases e : 5 < ndr c s 1
      · rw [if_pos e, decide_eq_true (by omega)]; rfl
      · rw [if_neg e, decide_eq_false (by omega)]; rfl
    rw [ei]
    have l1 := cutS_length z none (some (ndr c s 2 : Int))
    have l2 := cutS_length z (some ((ndr c s 2 : Int) + (if 5 < ndr c s 1 then 1 else 0))) none
    have l3 : (letS (ndr c s 3)).length = 1 := rfl
    refine sd_set hX 5 rfl (ed_slice hX (ed_bin hX (ed_bin hX (ed_slice hX (ed_var hX 12 rfl rfl) eo_none (eo_some (ed_var hX 8 rfl rfl)) (l_str (by omega))) (ed_ix hX (ed_var hX 3 rfl rfl) (ed_var hX 9 rfl rfl) (i_str haz (atI_nat (az_get _ h3)))) (o_addS (by show _ + (letS (ndr c s 3)).length ≤ _; omega))) (ed_var hX 13 rfl rfl) (o_addS (by rw [app_len]; show _ + (letS (ndr c s 3)).length + _ ≤ _; omega))) eo_none (eo_some ed_int) (l_str (by rw [app_len, app_len]; show _ + (letS (ndr c s 3)).length + _ ≤ _; omega))) (sd_nil ⟨rfl, some (.sh (.str z)), some (.sh (.str (cutS z (some ((ndr c s 2 : Int) + (if 5 < ndr c s 1 then 1 else 0))) none))), ?_⟩)
    have e3 : nm3 c s kn = cutNm c s z := by
      unfold nm3
      rw [if_pos (show ndr c s 0 = 2 ∧ kn ≠ [] from ⟨h0, hne⟩), hzz]
    rw [e3]
    rfl
  · have h0 : ¬ (ndr c s 0 = 2 ∧ kn ≠ []) := fun z => by
      have hp : 0 < kn.length := by
        cases kn with
        | nil => exact absurd rfl z.2
        | cons a r => simp
      rw [decide_eq_true z.1, decide_eq_true hp] at hf
      exact absurd hf (by decide)
    exact sd_nil ⟨rfl, none, none, by rw [nm3, if_neg h0]⟩
  rintro M ρ ⟨rfl, r2, r3, rfl⟩
  refine sd_join (fun M ρ => M = [] ∧ Wk [none, none, none, none, none, some (.sh (.str (nameF c s kn))), none, none, none, none, none, none, none, none, none] ρ) (et_cmp hX (ed_var hX 5 rfl rfl) (ed_var hX 2 rfl rfl) (o_inLS kn)) (fun ht => ?_) (fun hf => ?_) ?_
  · have h0 : nm3 c s kn ∈ kn := of_decide_eq_true ht
    have hfr : (freeL kn)[0]? = some (nameF c s kn) := by
      cases q : freeL kn with
      | nil => exact absurd q (free_ne (by omega))
      | cons a r => rw [nameF, if_pos h0, q]; rfl
    refine sd_set hX 5 rfl (ed_ix hX (ed_lc hX [("_law_letter", 9)] (ei_str (ed_var hX 3 rfl rfl)) (blkOk_by (by decide +kernel)) [9] (fun d => [some (.sh (.int c)), some (.sh (.int s)), some (.sh (.lst (kn.map .str))), some (.sh (.str azS)), none, none, none, none, none, some (.sh d), none, none, none, none, none]) (fun d => match d with | .str z => if z ∈ kn then none else some (.str z) | _ => none) (by simp only [sgnD, List.length_map]; exact haz) (fun X' hX' d hd => ?_)) ed_int (i_lst (d := .str (nameF c s kn)) (atI_nat (i := 0) ?_))) (sd_nil ⟨rfl, rfl, trivial⟩)
    · obtain ⟨i, hi⟩ := List.getElem?_of_mem hd
      obtain ⟨ch, hc, rfl⟩ := sgn_get hi
      refine ⟨?_, fun y hy => ?_, ?_⟩
      · exact tg_weak (ρ1 := [some (.sh (.int c)), some (.sh (.int s)), some (.sh (.lst (kn.map D.str))), some (.sh (.str azS)), none, none, none, none, none, none, none, none, none, none, none]) (tg_nameL hX' 9 rfl) ⟨rfl, rfl, rfl, rfl, trivial⟩
      · have hy' : (if (⟨#[ch]⟩ : Str) ∈ kn then none else some (D.str ⟨#[ch]⟩)) = some y := hy
        split at hy'
        · cases hy'
        · cases hy'; exact ed_var hX' 9 rfl rfl
      · refine et_is (et_cmp hX' (ed_var hX' 9 rfl rfl) (ed_var hX' 2 rfl rfl) (o_niLS kn)) ?_
        show _ = (if (⟨#[ch]⟩ : Str) ∈ kn then none else some (D.str ⟨#[ch]⟩)).isSome
        by_cases e : (⟨#[ch]⟩ : Str) ∈ kn
        · rw [if_pos e, decide_eq_true e]; rfl
        · rw [if_neg e, decide_eq_false e]; rfl
    · have e : (sgnD azS).filterMap (fun d => match d with | .str z => if z ∈ kn then none else some (D.str z) | _ => none) = (freeL kn).map D.str := by
        have e2 : sgnD azS = ((List.range 26).map letS).map D.str := by
          have : azS.cps.toList = (List.range 26).map fun i => 97 + i := by decide +kernel
          rw [sgnD, this, List.map_map, List.map_map]; rfl
        rw [e2, List.filterMap_map, freeL]
        generalize (List.range 26).map letS = L
        induction L with
        | nil => rfl
        | cons a L ih =>
          rw [List.filterMap_cons, List.filter_cons]
          by_cases e : a ∈ kn
          · have e1 : ((fun d => match d with | .str z => if z ∈ kn then none else some (D.str z) | _ => none) ∘ D.str) a = none := if_pos e
            rw [e1]
            simp only [e, not_true_eq_false, decide_false, Bool.false_eq_true, if_false]
            exact ih
          · have e1 : ((fun d => match d with | .str z => if z ∈ kn then none else some (D.str z) | _ => none) ∘ D.str) a = some (D.str a) := if_neg e
            rw [e1]
            simp only [e, not_false_eq_true, decide_true, if_true, List.map_cons]
            rw [ih]
      exact Eq.trans (congrArg (fun l : List D => l[0]?) e) (map_get hfr)
  · have h0 : ¬ nm3 c s kn ∈ kn := of_decide_eq_false hf
    refine sd_nil ⟨rfl, ?_⟩
    rw [nameF, if_neg h0]
    exact ⟨rfl, trivial⟩
  rintro M ρ ⟨rfl, wk⟩
  exact sd_weak (sd_ret (ed_var hX 5 rfl rfl) rfl) wk

end
end Tl
/-! L3: the other side: things, names, what stands. -/
namespace Tl
open PySem L2 T3 TL
local macro_rules | `(tactic| walk_at "len") => `(tactic| first | decide | (simp; done) | omega | (simp; omega))
section
variable {X : Cx} {N : List Str} {sc : Scope} {P : Program} {w : World} {K : PySem.W.Frag} {mg : Str → Option Value} {base : Heap} {k : Nat}
variable {A : Anc} {M : List Cell} {ρ : Env3}
def s_l_names : Stmt := topS 117
theorem sc_l_names : FnScope ["_law_script", "_law_at", "_law_many", "_law_found", "_law_k"] ["_law_script", "_law_at", "_law_many"] (defScope s_l_names) := ⟨rfl, rfl, rfl, by decide +kernel, rfl, by decide +kernel, by decide +kernel⟩
def G_l_names (ds : List D) (d : D) : Prop := ∃ sc : List Int, sc.length ≤ 63 ∧ ds = [.ro (sc.map .int), .int 0, .int 3] ∧ d = .lst ((namesF sc 3).map .str)
theorem d_l_names (T : Tops K mg) (D_l_cell : Dfn P w K mg base "_law_cell" 1 G_l_cell) (D_l_name : Dfn P w K mg base "_law_name" 3 G_l_name) {f : Addr} {fd : FuncData} (F : Fun K "_law_names" "_law_names" s_l_names f fd) (hb : Binds K fd ["_law_script", "_law_at", "_law_many"] []) (hm : mg "_law_names" = some (.ref f)) : Dfn P w K mg base "_law_names" 4 G_l_names := by
  refine dfn_of F sc_l_names hb hm (fun ds d h => ?_) ?_
  · obtain ⟨_, _, rfl, _⟩ := h; rfl
  rintro X A hX hF hP ds d ⟨s, hl, rfl, rfl⟩
  refine sd_setF hX 3 rfl (ef_lst eds_nil (by simp)) ?_
  refine sd_forR hX 3 4 T.range (ed_var hX 2 rfl rfl) (by omega) (fun i => [.lst ((namesF s i).map .str)]) (fun i => [some (.sh (.ro (s.map .int))), some (.sh (.int 0)), some (.sh (.int 3)), some (.cell 0), none]) ⟨rfl, rfl, rfl, rfl, rfl, trivial⟩ rfl ?_ ?_ hP
  · intro A' le i hi
    have hln := namesF_len s i
    refine sd_append hX (ec_var hX 3 rfl rfl) rfl (d := .str (nameF (cellF s i) (501 + 11 * (i : Nat)) (namesF s i))) (eds_cons (ed_callT hX D_l_name (by decide) (edts_cons (edt_of (ed_call hX D_l_cell (by decide) (eds_cons (ed_var hX 0 rfl rfl) (eds_cons (ed_bin hX (ed_var hX 1 rfl rfl) (ed_var hX 4 rfl rfl) o_add) eds_nil)) ⟨s, i, hl, by omega, by rw [show (0 : Int) + (i : Nat) = (i : Nat) by omega], rfl⟩)) (edts_cons (edt_of (ed_bin hX ed_int (ed_bin hX ed_int (ed_var hX 4 rfl rfl) (o_mul (mulOk (by decide) (by omega)))) o_add)) (edts_cons (edt_cell (ec_var hX 3 rfl rfl) rfl) edts_nil))) ⟨cellF s i, 501 + 11 * (i : Nat), namesF s i, by omega, by omega, by omega, namesF_ok s i (by omega), rfl, rfl⟩ rfl) eds_nil) (by rw [List.length_map]; omega) ?_
    refine sd_nil ⟨?_, rfl, rfl, rfl, rfl, trivial⟩
    show [Cell.lst _] = [Cell.lst ((namesF s i ++ [_]).map _)]
    rw [List.map_append]
    rfl
  refine sd_freeze 3 0 rfl rfl rfl ?_
  exact sd_ret (ed_var hX 3 rfl rfl) rfl

end
end Tl
set_option maxHeartbeats 2000000
/-! E1: exceptions of own classes with an __init__ of their own that calls the inherited one by its class's name. -/
namespace Ex3
open PySem PySem.Spec PyProof.Rows L2
/-- the class at L, asked for __init__, gives ValueError's -/
structure OwnInit (K : PySem.W.Frag) (L : Addr) : Prop where
  hg : PySem.W.specialIn K (.ref L) "__getattribute__" = some (some (.builtin "type.__getattribute__"))
  hr : PySem.W.readsIn K L (.type "type") = true
  hf : PySem.W.findCls K (.ref L) (.type "type") "__init__" = some (.val (.builtin "ValueError.__init__"))
section
variable {X : Cx} {e : Expr} {es : List Expr} {ta : TA} {p1 p2 p pos : Pos} {x : Str}
theorem pe_owninit {pl : Sem Bool} {L : Addr} (hg : Gl X x) (hm : X.mg x = some (.ref L)) (T : OwnInit X.K L) (ha : PA X (e :: es) ta)
    (hc : eval (.Call (.Attribute (.Name x p1) "__init__" p2) (e :: es) [] pos) X.env = (do
      let ov ← eval (.Name x p1) X.env
      standAt p2.atName
      let (f, first) ← holding [ov] (getMethod ov "__init__" pl)
      callWith pos f first (backTo pos (starEach (e :: es) X.env)) (backToKw pos (keywordEach [] X.env))) := by rfl)
    (hdb : (x == ("__debug__" : Str)) = false := by decide +kernel) (he : starEach (e :: es) X.env = (false, eval e X.env) :: starEach es X.env := by rfl) (hpl : (backTo pos (starEach es X.env)).any (·.1) = false := by rfl) :
    PE X (.Call (.Attribute (.Name x p1) "__init__" p2) (e :: es) [] pos) (tVeI X.K ta) := by
  refine ⟨fun pins s σ H Q I h => ?_⟩
  refine PySem.W.methodCall_KW (ld_glob I hg hm ?_ hdb) hc
  refine PySem.W.method_cls I.kIn T.hg (PySem.W.cls_value I.kIn T.hr T.hf (by decide +kernel) ?_)
  show wpAny _ _ (callWith pos (Value.builtin "ValueError.__init__") [] (backTo pos (starEach (e :: es) X.env)) []) _ _ _
  refine PyProof.Rows.callWith_method1 (thn (ha.run pos pins _ σ H _ (I.tok _) h) fun us s1 ⟨vs, H1, I1, r1, a, C, ws, ev, hl, T, ea, q⟩ => ?_) he hpl
  subst ev
  cases r1 with
  | @cons _ u0 _ ur ra rw' =>
    obtain rfl : u0 = Value.ref a := ra
    have hlen : ur.length ≤ sizeLine := by
      rw [← Paired.length rw', sizeLine_eq]
      omega
    exact oinit_ok T I1 ea hlen fun s' J => ⟨.non, H1, J, rfl, q⟩
/-- C(e, ..), the context of what is made None -/
theorem pmk_oexN {CX : CXT} {C fI : Addr} {k : Nat} {fd : FuncData} {ps : List Str} {sp : Sp} (T : OexC X.K C) (iC : PySem.W.findIn X.K (.ref C) "__init__" = some (some (.ref fI))) (tI : PySem.W.typeIn X.K (.ref fI) = some (.type "function"))
    (F1 : FnOk X.prog X.w X.K X.mg X.base CX k fI fd ps sp) (hr : Room (k + 1) X.A) (hb : Binds X.K fd ps []) (hx : Passes CX X (fun _ _ _ => False)) (hg : Gl X x) (hm : X.mg x = some (.ref C)) (ha : PA X (e :: es) ta)
    (hdb : (x == ("__debug__" : Str)) = false := by decide +kernel) (he : starEach (e :: es) X.env = (false, eval e X.env) :: starEach es X.env := by rfl) (hpl : (backTo pos (starEach es X.env)).any (·.1) = false := by rfl) :
    L2N.PMk X (.Call (.Name x p) (e :: es) [] pos) (tMkO C sp [] ta) := by
  intro pins s σ H Q I h
  obtain ⟨nm, q, N, bs, bm, sn, sub, ab, col, dd, k0, k1, k2, k3, k5, hC, hbm⟩ := T.cls
  refine wpAny_Call_Name_kw (ld_glob I hg hm ?_ hdb)
  refine PySem.W.callWith_K (h₀ := X.base) I.ok.mod.kin T.kC (thn (ha.run pos pins s σ H _ I h) fun us s1 ⟨vs, H1, I1, r1, hz, q1⟩ => ⟨I1.kIn, ?_⟩) he hpl
  show wpAny _ _ (call (.ref C) us) _ _ _
  obtain ⟨hp, g, dr, tk, os⟩ := s1
  have hsz : hp.objs.size ≤ hp.objs.size + 1 := Nat.le_succ _
  have hn : H1 (hp.objs.size + 1) = none := I1.hok.fresh hsz
  have hq := q1 (hp.objs.size + 1) hn
  rw [List.append_nil] at hq
  have kk : ∀ b o, hp.get? b = some o → ((hp.push (PySem.W.kdv_tup us)).push (PySem.HandSPX.excO C hp.objs.size)).get? b = some o := fun b o e => Heap.get?_push_of_some _ (Heap.get?_push_of_some _ e)
  have hget : ((hp.push (PySem.W.kdv_tup us)).push (PySem.HandSPX.excO C hp.objs.size)).get? (hp.objs.size + 1) = some (PySem.HandSPX.excO C hp.objs.size) := by heap_get
  have I2 : Inv X pins σ (upd H1 (hp.objs.size + 1) (exo (hp.objs.size + 1) C none)) ⟨(hp.push (PySem.W.kdv_tup us)).push (PySem.HandSPX.excO C hp.objs.size), g, dr, tk, os⟩ :=
    I1.laid (t' := tk) (a := hp.objs.size + 1) (o := exo (hp.objs.size + 1) C none) (h' := (hp.push (PySem.W.kdv_tup us)).push (PySem.HandSPX.excO C hp.objs.size)) kk hsz (exo_ok hget)
  have r2 : Vals (V.ref (hp.objs.size + 1) :: vs) (Value.ref (hp.objs.size + 1) :: us) := .cons rfl r1
  have hl : (Value.ref (hp.objs.size + 1) :: us ++ []).length = ps.length := by
    have e := r2.length
    rw [F1.len _ _ _ _ hq] at e
    rw [List.append_nil]
    exact e.symm
  have hus : us.length ≤ sizeLine := by
    rw [← Paired.length r1, sizeLine_eq]
    omega
  have b2 := hb _ (Value.ref (hp.objs.size + 1) :: us) I2.kIn hl
  rw [List.append_nil] at b2
  refine wpAny_call (PySem.HandSPX.call_own F.excBase_ValueError (fun Y => PySem.HandSPX.refsVE_contains Y bm hbm) (I1.kIn _ _ hC) (PySem.W.looks_findIn I1.kIn iC) (fun self => PySem.W.bind_fn I1.kIn self tI) hus
    (codeAny_mono (F1.run _ X.stack _ _ ⟨Value.ref (hp.objs.size + 1) :: us, []⟩ (Value.ref (hp.objs.size + 1) :: us) _ _ (fun _ _ _ => False) (hr.make C us []) (I2.env0.make C us []) b2 r2 hq) fun r s' hq' => ?_))
  cases r with
  | error er => exact hx pins σ _ _ er s' I2 hq'
  | ok fl =>
    cases fl with
    | ret u =>
      obtain ⟨v, H2, os2, bare2, un2, hok2, rv, ev, d, fs, ea, ed, hd1, q2⟩ := hq'
      subst ev
      obtain ⟨h2, g2, d2, t2, os'⟩ := s'
      obtain ⟨t0, G, J, kG, ge, hoe, na⟩ := mk_end0 (d2 := d2) (t2 := t2) I1 hsz kk un2 hok2 os2 bare2 ea ed hd1
      exact ⟨rv, hp.objs.size + 1, _, _, ⟨G, g2, d2, t2, os'⟩, _, .ref C, some d, rfl, J, kG, ge, hoe, ⟨rfl, rfl, fun vs hv => by cases hv; rfl⟩, rfl, rfl, na, rfl, bare2, raises_own T.exC T.tyC, q2⟩
    | next => exact False.elim hq'
    | brk => exact False.elim hq'
    | cont => exact False.elim hq'
end
end Ex3
set_option maxHeartbeats 200000
/-! T4a: outcomes of defs that may raise, a cell handed to a callee, promises about a desk. -/
namespace T3
open PySem L2
/-- how a def ends: with a value, with Unlike, with NoName of a name -/
inductive Out where
  | ret (d : D) | unl | non (z : Str)
section
variable {K : PySem.W.Frag} {Hs H Hs' H' : Hp} {A : Anc} {M : List Cell} {ρ ρ' : Env3} {fps : List (List Addr)} {σ σ' : L2.St}
theorem flat_put {f f' : List Addr} : ∀ {fps : List (List Addr)} {j : Nat}, fps.flatten.Nodup → fps[j]? = some f → f'.Nodup → (∀ b ∈ f', b ∈ f ∨ b ∉ fps.flatten) →
    (fps.set j f').flatten.Nodup ∧ ∀ b ∈ (fps.set j f').flatten, b ∈ f' ∨ (b ∈ fps.flatten ∧ b ∉ f)
  | [], j, _, e, _, _ => by simp at e
  | g :: fps, 0, nd, e, n', hb => by
    simp at e; subst e
    rw [List.flatten_cons] at nd hb
    rw [List.set_cons_zero, List.flatten_cons]
    obtain ⟨n1, n2, n3⟩ := List.nodup_append.mp nd
    refine ⟨List.nodup_append.mpr ⟨n', n2, fun a ha b hb' z => ?_⟩, fun b hb' => ?_⟩
    · subst z
      rcases hb a ha with q | q
      · exact n3 a q a hb' rfl
      · exact q (List.mem_append_right _ hb')
    · rcases List.mem_append.mp hb' with q | q
      · exact .inl q
      · exact .inr ⟨by rw [List.flatten_cons]; exact List.mem_append_right _ q, fun z => n3 b z b q rfl⟩
  | g :: fps, j + 1, nd, e, n', hb => by
    have e' : fps[j]? = some f := by simpa using e
    rw [List.flatten_cons] at nd hb
    obtain ⟨n1, n2, n3⟩ := List.nodup_append.mp nd
    have sub : ∀ b ∈ f, b ∈ fps.flatten := fun b hb => List.mem_flatten.mpr ⟨f, List.mem_of_getElem? e', hb⟩
    obtain ⟨i1, i2⟩ := flat_put (f' := f') n2 e' n' fun b hb' => by
      rcases hb b hb' with q | q
      · exact .inl q
      · exact .inr fun z => q (List.mem_append_right _ z)
    rw [List.set_cons_succ, List.flatten_cons]
    refine ⟨List.nodup_append.mpr ⟨n1, i1, fun a ha b hb' z => ?_⟩, fun b hb' => ?_⟩
    · subst z
      rcases i2 a hb' with q | ⟨q, _⟩
      · rcases hb a q with q | q
        · exact n3 a ha a (sub a q) rfl
        · exact q (List.mem_append_left _ ha)
      · exact n3 a ha a q rfl
    · rw [List.flatten_cons]
      rcases List.mem_append.mp hb' with q | q
      · exact .inr ⟨List.mem_append_left _ q, fun z => n3 b q b (sub b z) rfl⟩
      · rcases i2 b q with q | ⟨q, q'⟩
        · exact .inl q
        · exact .inr ⟨List.mem_append_right _ q, q'⟩
theorem Cells.put {f f' : List Addr} {c' : Cell} (es : Ex Hs Hs') (r : CellOk K Hs' H' f' c') : ∀ {fps : List (List Addr)} {M : List Cell} {j : Nat}, Cells K Hs H fps M → fps.flatten.Nodup → fps[j]? = some f → (∀ b ∈ fps.flatten, b ∉ f → H' b = H b) → Cells K Hs' H' (fps.set j f') (M.set j c')
  | [], [], _, _, _, e, _ => by simp at e
  | g :: fps, c :: M, 0, h, nd, e, hb => by
    simp at e; subst e
    rw [List.flatten_cons] at nd hb
    obtain ⟨n1, n2, n3⟩ := List.nodup_append.mp nd
    exact ⟨r, h.2.mono es fun b q => hb b (List.mem_append_right _ q) fun z => n3 b z b q rfl⟩
  | g :: fps, c :: M, j + 1, h, nd, e, hb => by
    have e' : fps[j]? = some f := by simpa using e
    rw [List.flatten_cons] at nd hb
    obtain ⟨n1, n2, n3⟩ := List.nodup_append.mp nd
    have sub : ∀ b ∈ f, b ∈ fps.flatten := fun b hb => List.mem_flatten.mpr ⟨f, List.mem_of_getElem? e', hb⟩
    exact ⟨h.1.mono es fun b q => hb b (List.mem_append_left _ q) fun z => n3 b q b (sub b z) rfl, Cells.put es r h.2 n2 e' fun b q => hb b (List.mem_append_right _ q)⟩
  | [], _ :: _, _, h, _, _, _ => h.elim
  | _ :: _, [], _, h, _, _, _ => h.elim
theorem Slots.putF {f f' : List Addr} {j : Nat} (es : Ex Hs Hs') (hj : fps[j]? = some f) (hh : f'.head? = f.head?) : ∀ {ρ : Env3} {σ : L2.St}, Slots K Hs fps ρ σ → Slots K Hs' (fps.set j f') ρ σ
  | [], [], _ => trivial
  | none :: ρ, _ :: σ, h => show Slots K Hs' (fps.set j f') ρ σ from Slots.putF es hj hh (ρ := ρ) (σ := σ) h
  | some (.sh _) :: _, some _ :: _, ⟨h1, h2⟩ => ⟨Rep.mono es h1, Slots.putF es hj hh h2⟩
  | some (.raw _) :: _, some _ :: _, ⟨h1, h2⟩ => ⟨h1, Slots.putF es hj hh h2⟩
  | some (.cell i) :: _, some _ :: _, ⟨⟨a, r, q1, q2⟩, h2⟩ => by
    refine ⟨?_, Slots.putF es hj hh h2⟩
    by_cases e : j = i
    · subst e
      rw [q1] at hj; cases hj
      cases f' with
      | nil => cases hh
      | cons a' r' =>
        cases hh
        exact ⟨a, r', List.getElem?_set_self (List.getElem?_eq_some_iff.mp q1).1, q2⟩
    · exact ⟨a, r, by rw [List.getElem?_set_ne e]; exact q1, q2⟩
  | [], _ :: _, h => h.elim
  | none :: _, [], h => h.elim
  | some _ :: _, [], h => h.elim
  | some _ :: _, none :: _, h => h.elim
/-- a callee was handed the cell j alone -/
theorem StA.call {j : Nat} {f f' : List Addr} {c' : Cell} (h : StA K A M ρ fps σ Hs H) (hj : fps[j]? = some f) (h' : StA K ⟨[f], Hs, H⟩ [c'] [] [f'] [] Hs' H') (hne : f' ≠ []) : StA K A (M.set j c') ρ (fps.set j f') σ Hs' H' := by
  have ff : ∀ g : List Addr, [g].flatten = g := fun g => by simp
  obtain ⟨f2, e2, q2⟩ := h'.an.hd 0 f rfl
  cases e2
  have hh : f'.head? = f.head? := by
    rcases q2 with q2 | q2
    · exact absurd q2 hne
    · exact q2.2
  have sub : ∀ b ∈ f, b ∈ fps.flatten := fun b hb => List.mem_flatten.mpr ⟨f, List.mem_of_getElem? hj, hb⟩
  have w' : ∀ b ∈ f', b ∈ f ∨ H b = none := fun b hb => by
    rcases h'.an.w b (by rw [ff]; exact hb) with q | q
    · exact .inl (by rw [← ff f]; exact q)
    · exact .inr q
  have fr : ∀ b o, H b = some o → b ∉ f → H' b = some o := fun b o h1 h2 => h'.an.f b o h1 (by show b ∉ [f].flatten; rw [ff]; exact h2)
  have nn : ∀ b, H b ≠ none → b ∉ f → Hs b = none → Hs' b = none := fun b h1 h2 h3 => h'.an.n b h1 (by show b ∉ [f].flatten; rw [ff]; exact h2) h3
  have nd' : f'.Nodup := by have := h'.st.nd; rwa [ff] at this
  obtain ⟨g1, g2⟩ := flat_put (f' := f') h.st.nd hj nd' fun b hb => by
    rcases w' b hb with q | q
    · exact .inl q
    · exact .inr fun z => (h.st.own b z).2 q
  refine ⟨⟨h'.st.e, g1, fun b hb => ?_, Cells.put h'.an.s h'.st.cells.1 h.st.cells h.st.nd hj fun b hb hnf => ?_, h.st.slots.putF h'.an.s hj hh⟩, h.an.trans ⟨h'.an.s, fun b o h1 h2 => fr b o h1 fun z => h2 (sub b z), fun b h1 h2 h3 => nn b h1 (fun z => h2 (sub b z)) h3, fun b hb => ?_, fun j' f0 hj' => ?_⟩⟩
  · rcases g2 b hb with q | ⟨q1, q2⟩
    · exact h'.st.own b (by rw [ff]; exact q)
    · obtain ⟨o1, o2⟩ := h.st.own b q1
      refine ⟨nn b o2 q2 o1, fun z => ?_⟩
      cases q3 : H b with
      | none => exact o2 q3
      | some o => rw [fr b o q3 q2] at z; cases z
  · cases q3 : H b with
    | none => exact absurd q3 (h.st.own b hb).2
    | some o => exact fr b o q3 hnf
  · rcases g2 b hb with q | ⟨q1, q2⟩
    · rcases w' b q with q | q
      · exact .inl (sub b q)
      · exact .inr q
    · exact .inl q1
  · by_cases e : j = j'
    · subst e
      have hj' : fps[j]? = some f0 := hj'
      rw [hj] at hj'; cases hj'
      refine ⟨f', List.getElem?_set_self (List.getElem?_eq_some_iff.mp hj).1, .inr ⟨fun z => ?_, hh⟩⟩
      subst z
      cases f' with
      | nil => exact hne rfl
      | cons _ _ => cases hh
    · refine ⟨f0, by rw [List.getElem?_set_ne e]; exact hj', ?_⟩
      cases f0 with
      | nil => exact .inl rfl
      | cons a r => exact .inr ⟨by simp, rfl⟩
theorem CellOk.ne {C : Addr} {s : DeskSt} {f : List Addr} (h : CellOk K Hs H f (.desk C s)) : ∃ x l1 l2, f = [x, l1, l2] := by
  match f, h with
  | [x, l1, l2], _ => exact ⟨x, l1, l2, rfl⟩
/-- the desk's cell alone -/
theorem StA.only {C : Addr} {s : DeskSt} (h : StA K A M ρ fps σ Hs H) (hM : M[0]? = some (.desk C s)) (hA : A.fps.length ≤ 1) : ∃ f', fps[0]? = some f' ∧ f' ≠ [] ∧ StA K A [.desk C s] [] [f'] [] Hs H := by
  match fps, M, h, hM with
  | f' :: r, c :: M', h, hM =>
    simp at hM; subst hM
    obtain ⟨x, l1, l2, e⟩ := h.st.cells.1.ne
    have sub : ∀ b ∈ [f'].flatten, b ∈ (f' :: r).flatten := fun b hb => by
      rw [List.flatten_cons]
      exact List.mem_append_left _ (by simpa using hb)
    refine ⟨f', rfl, by rw [e]; simp, ⟨⟨h.st.e, ?_, fun b hb => h.st.own b (sub b hb), ⟨h.st.cells.1, trivial⟩, trivial⟩, h.an.s, h.an.f, h.an.n, fun b hb => h.an.w b (sub b hb), fun j f hj => ?_⟩⟩
    · have := h.st.nd
      rw [List.flatten_cons] at this
      have := (List.nodup_append.mp this).1
      simpa using this
    · have : j = 0 := by
        have := (List.getElem?_eq_some_iff.mp hj).1
        omega
      subst this
      exact h.an.hd 0 f hj
  | [], _ :: _, h, _ => exact h.st.cells.elim
  | [], [], _, hM => simp at hM
  | _ :: _, [], h, _ => exact h.st.cells.elim
end

/-! ### promises -/
/-- the wish about exceptions is met: whenever what is told of the state holds -/
def XOk (K : PySem.W.Frag) (CU CN : Addr) (A0 : Anc) (M : List Cell) (out : Out) (E : XK) : Prop := match out with
  | .ret _ => True
  | .unl => ∀ fps Hs H, StA K A0 M [] fps [] Hs H → E (.ref CU) none H
  | .non z => ∀ fps Hs H dd fs, StA K A0 M [] fps [] Hs H → H dd = some (.xd fs) → fs.lookup ("name" : Str) = some (V.str z) → E (.ref CN) (some dd) H
/-- data only -/
def spO (K : PySem.W.Frag) (CU CN : Addr) (G : List D → Out → Prop) : Sp := fun vs H Q E => ∃ Hs ds out, Ex Hs H ∧ Reps K Hs ds vs ∧ G ds out ∧
  (∀ d, out = .ret d → ∀ v Hs' H', Step Hs H Hs' H' → Rep K Hs' d v → Q v H') ∧ XOk K CU CN ⟨[], Hs, H⟩ [] out E
/-- a desk first, then data -/
def spD (K : PySem.W.Frag) (C CU CN : Addr) (G : DeskSt → List D → Out → DeskSt → Prop) : Sp := fun vs H Q E => ∃ Hs f x vs' s ds out s', vs = .ref x :: vs' ∧ St K [.desk C s] [] [f] [] Hs H ∧ f.head? = some x ∧ Reps K Hs ds vs' ∧ G s ds out s' ∧
  (∀ d, out = .ret d → ∀ v fps Hs' H', StA K ⟨[f], Hs, H⟩ [.desk C s'] [] fps [] Hs' H' → Rep K Hs' d v → Q v H') ∧ XOk K CU CN ⟨[f], Hs, H⟩ [.desk C s'] out E
structure DfnO (P : Program) (w : World) (K : PySem.W.Frag) (mg : Str → Option Value) (base : Heap) (CU CN : Addr) (x : Str) (j : Nat) (G : List D → Out → Prop) : Prop where
  ex : ∃ f fd ps, FnOk P w K mg base (L2N.CX P w) j f fd ps (spO K CU CN G) ∧ mg x = some (.ref f) ∧ PySem.W.keepIn K (.ref f) = true ∧ Binds K fd ps []
/-- a def by its name, the desk its first argument -/
structure DfnD (P : Program) (w : World) (K : PySem.W.Frag) (mg : Str → Option Value) (base : Heap) (CX : CXT) (C CU CN : Addr) (x : Str) (j : Nat) (G : DeskSt → List D → Out → DeskSt → Prop) : Prop where
  ex : ∃ f fd ps, FnOk P w K mg base CX j f fd ps (spD K C CU CN G) ∧ mg x = some (.ref f) ∧ PySem.W.keepIn K (.ref f) = true ∧ Binds K fd ps []
/-- a method of the desk's class -/
structure MthD (P : Program) (w : World) (K : PySem.W.Frag) (mg : Str → Option Value) (base : Heap) (CX : CXT) (C CU CN : Addr) (x : Str) (j : Nat) (G : DeskSt → List D → Out → DeskSt → Prop) : Prop where
  ex : ∃ f fd ps, FnOk P w K mg base CX j f fd ps (spD K C CU CN G) ∧ Meth K C x f ∧ Binds K fd ps []
/-- what may leave the def is taken -/
def Rz (CX : CXT) (X : Cx) (K : PySem.W.Frag) (CU CN : Addr) (A0 : Anc) (M : List Cell) (out : Out) (n : Nat) : Prop := ∃ E : L2.St → XK, (∀ σ, PassesAt CX X σ (E σ)) ∧ ∀ σ, σ.length = n → XOk K CU CN A0 M out (E σ)
theorem rz0 {X : Cx} {K : PySem.W.Frag} {CU CN : Addr} {A0 : Anc} {M : List Cell} {d : D} {n : Nat} : Rz CX0 X K CU CN A0 M (.ret d) n := ⟨fun _ => E0, fun _ _ _ _ _ _ _ h => h.elim, fun _ _ => trivial⟩
/-- an exception that is taken by a raise -/
def Rs (X : Cx) (K : PySem.W.Frag) (CU CN : Addr) (A0 : Anc) (M : List Cell) (out : Out) : Prop := ∃ W : WX, L2N.Takes X W ∧ ∀ σ, XOk K CU CN A0 M out (fun cls d H => W cls d σ H)
theorem Rs.rz {X : Cx} {K : PySem.W.Frag} {CU CN : Addr} {A0 : Anc} {M : List Cell} {out : Out} {n : Nat} (h : Rs X K CU CN A0 M out) : Rz (L2N.CX X.prog X.w) X K CU CN A0 M out n := by
  obtain ⟨W, tk, q⟩ := h
  exact ⟨WE W, fun σ => L2N.passAt tk σ, fun σ _ => q σ⟩
end T3
set_option maxHeartbeats 2000000
/-! T4b: raise, calls that may raise, methods. -/
namespace T3
open PySem L2 PySem.Spec PyProof.Rows Ex3
/-- the classes of the two refusals -/
structure ExF (K : PySem.W.Frag) (mg : Str → Option Value) (CU CN : Addr) : Prop where
  mU : mg "Unlike" = some (.ref CU)
  kU : PySem.W.keepIn K (.ref CU) = true
  eU : PySem.W.excIn K CU [.type "ValueError", .type "Exception", .type "BaseException", .type "object"] "ValueError.__new__" = true
  sU : PySem.W.subIn K (.ref CU) (.type "BaseException") = some true
  tU : PySem.W.typeIn K (.ref CU) = some (.type "type")
  mN : mg "NoName" = some (.ref CN)
  oN : OexC K CN
  aN : PySem.W.findIn K (.ref CN) "name" = some none
/-- NoName's __init__: at a new exception, with the name y -/
def spNN (K : PySem.W.Frag) : Sp := fun vs H Q _ => ∃ (a C : Addr) (y : V), vs = [.ref a, y] ∧ OexC K C ∧ PySem.W.findIn K (.ref C) "name" = some none ∧ H a = some (exo a C none) ∧
  ∀ dx, H dx = none → dx ≠ a → Q .non (upd (upd H dx (exd dx [("name", y)])) a (exo a C (some dx)))
/-- how NoName is made -/
structure NNF (P : Program) (w : World) (K : PySem.W.Frag) (mg : Str → Option Value) (base : Heap) (CN : Addr) (j : Nat) : Prop where
  ex : ∃ fI fd ps, FnOk P w K mg base CX0 j fI fd ps (spNN K) ∧ PySem.W.findIn K (.ref CN) "__init__" = some (some (.ref fI)) ∧ PySem.W.typeIn K (.ref fI) = some (.type "function") ∧ Binds K fd ps []
section
variable {X : Cx} {N : List Str} {sc : Scope} {P : Program} {w : World} {K : PySem.W.Frag} {mg : Str → Option Value} {base : Heap} {k : Nat}
variable {A A0 : Anc} {M : List Cell} {ρ ρ' : Env3} {a b c e tg : Expr} {es : List Expr} {d d1 d2 d3 : D} {ds fs : List D} {pos p p2 p3 p4 p5 apos cpos : Pos} {st : Stmt} {sts rest : List Stmt} {R : Post} {i j : Int} {x y z : Str} {CX : CXT} {C CU CN : Addr} {out : Out} {s s' : DeskSt}
/-- raise Unlike('..') -/
theorem sd_raiseU (hX : XF X N sc P w K mg base k) (F : ExF K mg CU CN) (r : Rs X K CU CN A0 M .unl) (le : Anc.le A0 A) {m : Str} {kk : Nat} (hg : GlS sc "Unlike" := by rfl) : SD X K A M ρ (.Raise (some (.Call (.Name "Unlike" p) [.Constant (.str m) kk p2] [] p3)) none pos :: rest) R := sd_cons <| .mk fun fps σ Hs H hh => by
  obtain ⟨W, tk, q⟩ := r
  have eK := hX.eK
  have em := hX.em
  refine wS_of (L2N.ps_raise hX.calm tk (L2N.pmk_own PySem.F.excBase_ValueError (by rw [eK]; exact F.eU) (by rw [em]; exact F.mU) (by rw [eK]; exact F.kU) (raises_own (by rw [eK]; exact F.sU) (by rw [eK]; exact F.tU)) (hX.gl hg) (by decide +kernel))) ?_
  exact q σ fps Hs H ((hh.up le).bare)
/-- raise NoName(e) -/
theorem sd_raiseN (hX : XF X N sc P w K mg base k) (F : ExF K mg CU CN) {jn : Nat} (G : NNF P w K mg base CN jn) (hj : jn + 1 ≤ k) (h : ED X K A M ρ e (.str z)) (r : Rs X K CU CN A0 M (.non z)) (le : Anc.le A0 A) (hg : GlS sc "NoName" := by rfl)
    (he : starEach [e] X.env = (false, eval e X.env) :: starEach [] X.env := by exact star_cons rfl) (hpl : (backTo p3 (starEach [] X.env)).any (·.1) = false := by exact star_plain rfl) : SD X K A M ρ (.Raise (some (.Call (.Name "NoName" p) [e] [] p3)) none pos :: rest) R := sd_cons <| .mk fun fps σ Hs H hh => by
  obtain ⟨W, tk, q⟩ := r
  obtain ⟨fI, fd, ps, g1, g2, g3, g4⟩ := G.ex
  obtain ⟨_, _, rfl, rfl, rfl, rfl, rfl, _, rm, _⟩ := id hX
  refine wS_of (L2N.ps_raise hX.calm tk (pmk_oexN F.oN g2 g3 g1 (rm.mono hj) g4 (fun _ _ _ _ _ _ _ h => h.elim) (hX.gl hg) F.mN (pa_cons pe_w pa_nil he) (by decide +kernel) he hpl)) ?_
  refine wE_mono (h _ _ _ _ hh) fun v H1 ⟨Hs1, s1, r1⟩ => ?_
  cases r1
  refine ⟨Nat.le_of_ble_eq_true rfl, fun a ha => ⟨a, CN, .str z, rfl, F.oN, F.aN, upd_same, fun dx hdx hne => ⟨rfl, dx, [("name", .str z)], upd_same, ?_, ?_, ?_⟩⟩⟩
  · rw [upd_ne hne]; exact upd_same
  · rw [upd_ne hne] at hdx; exact hdx
  · have hdx' : H1 dx = none := by rw [upd_ne hne] at hdx; exact hdx
    have e1 : upd (del (upd (upd (upd H1 a (exo a CN none)) dx (exd dx [("name", V.str z)])) a (exo a CN (some dx))) a) dx (.xd [("name", V.str z)]) = upd H1 dx (.xd [("name", V.str z)]) := by
      funext b
      by_cases q1 : b = dx
      · subst q1; rw [upd_same, upd_same]
      · rw [upd_ne q1, upd_ne q1]
        by_cases q2 : b = a
        · subst q2; rw [del_same, ha]
        · rw [del_ne q2, upd_ne q2, upd_ne q1, upd_ne q2]
    rw [e1]
    exact q σ fps Hs1 _ dx _ (((hh.step s1).step (.own s1.i hdx')).up le).bare upd_same rfl
/-- def(..) as a statement, that may raise -/
theorem sd_exprO (hX : XF X N sc P w K mg base k) {jn : Nat} {G : List D → Out → Prop} (F : DfnO P w K mg base CU CN x jn G) (hj : jn ≤ k) (ha : EDs X K A M ρ (e :: es) ds) (hG : G ds out) (r : Rs X K CU CN A0 M out) (le : Anc.le A0 A) (q : ∀ d, out = .ret d → SD X K A M ρ rest R)
    (hg : GlS sc x := by rfl) (hs : swapsWith (.Call (.Name x p) (e :: es) [] cpos) none pos.line X.env = pure false := by rfl) (hdb : (x == ("__debug__" : Str)) = false := by decide +kernel)
    (he : starEach (e :: es) X.env = (false, eval e X.env) :: starEach es X.env := by exact star_cons rfl) (hpl : (backTo cpos (starEach es X.env)).any (·.1) = false := by exact star_plain rfl) : SD X K A M ρ (.Expr (.Call (.Name x p) (e :: es) [] cpos) pos :: rest) R := sd_cons <| .mk fun fps σ Hs H hh => by
  obtain ⟨W, tk, qW⟩ := r
  obtain ⟨f, fd, ps, h1, h2, h3, h4⟩ := F.ex
  obtain ⟨_, _, rfl, rfl, rfl, rfl, rfl, _, rm, _⟩ := id hX
  refine wS_of (ps_expr (pe_callS (E := WE W) h1 (rm.mono hj) (hX.gl hg) h2 h3 h4 (fun σ => L2N.passAt tk σ) pa_w hdb he hpl) hs) ?_
  refine wA_mono (ha _ _ _ _ hh) fun vs H1 ⟨Hs1, s1, r1⟩ => ?_
  have hh1 := hh.step s1
  have fin : ∀ fps Hs' H', StA X.K ⟨[], Hs1, H1⟩ [] [] fps [] Hs' H' → Step Hs1 H1 Hs' H' := fun fps Hs' H' h => ⟨h.an.s, fun a o ho => h.an.f a o ho (by simp), h.st.e, fun a h1 h2 => h.an.n a h1 (by simp) h2⟩
  refine ⟨Hs1, ds, out, s1.i, r1, hG, fun d e1 v Hs' H' s2 r2 => ⟨M, ρ, fps, Hs', hh1.step s2, q d e1⟩, ?_⟩
  have qq := qW σ
  cases out with
  | ret d => trivial
  | unl => exact fun fps' Hs' H' h => qq fps Hs' H' ((hh1.step (fin _ _ _ h)).up le).bare
  | non z => exact fun fps' Hs' H' dd fs h h2 h3 => qq fps Hs' H' dd fs ((hh1.step (fin _ _ _ h)).up le).bare h2 h3

/-! ### expressions that may change a desk, and may raise -/
structure EM (X : Cx) (K : PySem.W.Frag) (A : Anc) (M : List Cell) (ρ : Env3) (e : Expr) (M' : List Cell) (out : Out) : Prop where
  mk ::
  run : ∀ fps σ Hs H, StA K A M ρ fps σ Hs H → wE X e σ H fun v H' => ∃ d fps' Hs', out = .ret d ∧ StA K A M' ρ fps' σ Hs' H' ∧ Ex Hs Hs' ∧ Rep K Hs' d v
theorem em_of (h : ED X K A M ρ e d) : EM X K A M ρ e M (.ret d) := .mk fun fps σ Hs H hh => wE_mono (h _ _ _ _ hh) fun v H' ⟨Hs', s, r⟩ => ⟨d, fps, Hs', rfl, hh.step s, s.s, r⟩
theorem sd_retM {M' : List Cell} (h : EM X K A M ρ e M' out) (q : ∀ d, out = .ret d → R.rt M' d) : SD X K A M ρ (.Return (some e) pos :: rest) R := sd_cons <| .mk fun fps σ Hs H hh => by
  refine wS_of (ps_ret pe_w) ?_
  exact wE_mono (h.run _ _ _ _ hh) fun v H' ⟨d, fps', Hs', e1, h', _, r⟩ => ⟨M', d, fps', Hs', h'.bare, r, q d e1⟩
theorem sd_setM (hX : XF X N sc P w K mg base k) (i : Nat) {x : Str} {pos' : Pos} {M' : List Cell} (hN : N[i]? = some x) (h : EM X K A M ρ e M' out) (q : ∀ d, out = .ret d → SD X K A M' (ρ.set i (some (.sh d))) rest R) (hl : Loc sc x := by first | exact .inl rfl | exact .inr rfl)
    (hs : swapsWith e (some (.Name x pos')) pos.line X.env = pure false := by rfl) (hF : ∀ x, X.fn x = true := by assumption) : SD X K A M ρ (.Assign [.Name x pos'] e pos :: rest) R := sd_cons <| .mk fun fps σ Hs H hh => by
  refine wS_of (ps_set (i := i) (by rw [hX.eN]; exact hX.nd) (by rw [hX.eN]; exact hN) (hX.loc hl) pe_w hs (hX.sto hF hl)) ?_
  exact wE_mono (h.run _ _ _ _ hh) fun v H' ⟨d, fps', Hs', e1, h', _, r⟩ => ⟨M', _, fps', Hs', h'.slots (h'.st.slots.set i (s := .sh d) r), q d e1⟩
/-- (a, e) where e may change the desk -/
theorem em_tup2 {x1 : Nat} {M' : List Cell} (ha : ED X K A M ρ a d1) (h : EM X K A M ρ e M' out) (hs : starEach [a, e] X.env = (false, eval a X.env) :: starEach [e] X.env := by exact star_cons rfl) (hs2 : starEach [e] X.env = (false, eval e X.env) :: starEach [] X.env := by exact star_cons rfl) :
    EM X K A M ρ (.Tuple [a, e] x1 pos) M' (match out with | .ret d => .ret (.tup [d1, d]) | o => o) := .mk fun fps σ Hs H hh => by
  refine wE_of (pe_tup (x1 := x1) (pa_cons pe_w (pa_cons pe_w pa_nil hs2) hs)) ?_
  refine wE_mono (ha _ _ _ _ hh) fun v H1 ⟨Hs1, s1, r1⟩ => ?_
  refine wE_mono (h.run _ _ _ _ (hh.step s1)) fun v2 H2 ⟨d, fps', Hs2, e1, h2, ex, r2⟩ => ?_
  subst e1
  refine ⟨show 2 ≤ sizeLine by decide, fun p hp => ?_⟩
  have s2 : Step Hs2 H2 (upd Hs2 p (.tup [v, v2])) (upd H2 p (.tup [v, v2])) := .new h2.st.e hp
  exact ⟨_, fps', _, rfl, h2.step s2, (s1.s.trans ex).trans s2.s, .tup (SqT.of upd_same) (.cons (r1.mono (ex.trans s2.s)) (.one (r2.mono s2.s)))⟩
theorem nd_at {f : List Addr} : ∀ {fps : List (List Addr)} {j : Nat}, fps.flatten.Nodup → fps[j]? = some f → f.Nodup
  | [], _, _, e => by simp at e
  | g :: fps, 0, nd, e => by
    simp at e; subst e
    rw [List.flatten_cons] at nd
    exact (List.nodup_append.mp nd).1
  | g :: fps, j + 1, nd, e => by
    rw [List.flatten_cons] at nd
    exact nd_at (List.nodup_append.mp nd).2.1 (by simpa using e)
/-- what is handed to a promise about the desk in cell j, and what stands behind -/
theorem spD_use {G : DeskSt → List D → Out → DeskSt → Prop} {fps : List (List Addr)} {σ : L2.St} {Hs H : Hp} {jc : Nat} {ax : Addr} {r : List Addr} {vs : List V} {E : XK} (h : StA K A M ρ fps σ Hs H) (hj : fps[jc]? = some (ax :: r)) (hM : M[jc]? = some (.desk C s)) (rs : Reps K Hs ds vs) (hG : G s ds out s')
    (hE : XOk K CU CN A (M.set jc (.desk C s')) out E) : spD K C CU CN G (.ref ax :: vs) H (fun v H' => ∃ d fps' Hs', out = .ret d ∧ StA K A (M.set jc (.desk C s')) ρ fps' σ Hs' H' ∧ Ex Hs Hs' ∧ Rep K Hs' d v) E := by
  have hc := h.st.cells.get hj hM
  have sub : ∀ b ∈ (ax :: r), b ∈ fps.flatten := fun b hb => List.mem_flatten.mpr ⟨_, List.mem_of_getElem? hj, hb⟩
  have ff : ([ax :: r] : List (List Addr)).flatten = ax :: r := by simp
  have st1 : St K [.desk C s] [] [ax :: r] [] Hs H := ⟨h.st.e, by rw [ff]; exact nd_at h.st.nd hj, fun b hb => h.st.own b (sub b (by rwa [ff] at hb)), ⟨hc, trivial⟩, trivial⟩
  have back : ∀ fps' Hs' H', StA K ⟨[ax :: r], Hs, H⟩ [.desk C s'] [] fps' [] Hs' H' → ∃ f', StA K A (M.set jc (.desk C s')) ρ (fps.set jc f') σ Hs' H' ∧ Ex Hs Hs' := fun fps' Hs' H' h' => by
    obtain ⟨f', e1, ne, h2⟩ := h'.only rfl (Nat.le_refl _)
    exact ⟨f', h.call hj h2 ne, h'.an.s⟩
  refine ⟨Hs, ax :: r, ax, vs, s, ds, out, s', rfl, st1, rfl, rs, hG, fun d e1 v fps' Hs' H' h' r' => ?_, ?_⟩
  · obtain ⟨f', h2, ex⟩ := back _ _ _ h'
    exact ⟨d, _, Hs', e1, h2, ex, r'⟩
  · cases out with
    | ret d => trivial
    | unl =>
      intro fps' Hs' H' h'
      obtain ⟨f', h2, _⟩ := back _ _ _ h'
      exact hE _ _ _ h2.bare
    | non z =>
      intro fps' Hs' H' dd fs h' q1 q2
      obtain ⟨f', h2, _⟩ := back _ _ _ h'
      exact hE _ _ _ dd fs h2.bare q1 q2
theorem XOk.up {M' : List Cell} {E : XK} (h : XOk K CU CN A0 M' out E) (le : Anc.le A0 A) : XOk K CU CN A M' out E := by
  cases out with
  | ret d => trivial
  | unl => exact fun fps Hs H q => h fps Hs H (q.up le)
  | non z => exact fun fps Hs H dd fs q => h fps Hs H dd fs (q.up le)
/-- a method of the desk's class, arguments behind the desk or none -/
theorem pe_methX {pl : Sem Bool} {o : Expr} {m : Str} {f : Addr} {fd : FuncData} {ps : List Str} {sp : Sp} {E : L2.St → XK} {ta : TE} {t : TA} (he : PE X o ta) (c : Cls X.K C) (hm : Meth X.K C m f) (F : FnOk X.prog X.w X.K X.mg X.base CX k f fd ps sp) (hr : Room k X.A) (hb : Binds X.K fd ps []) (hx : ∀ σ, PassesAt CX X σ (E σ)) (ha : PA X (e :: es) t)
    (hst : starEach (e :: es) X.env = (false, eval e X.env) :: starEach es X.env := by exact star_cons rfl) (hpl : (backTo pos (starEach es X.env)).any (·.1) = false := by exact star_plain rfl)
    (ht : eval (.Call (.Attribute o m apos) (e :: es) [] pos) X.env = (do
      let ov ← eval o X.env
      standAt apos.atName
      let (f, first) ← holding [ov] (getMethod ov m pl)
      callWith pos f first (backTo pos (starEach (e :: es) X.env)) (backToKw pos (keywordEach [] X.env))) := by rfl) :
    PE X (.Call (.Attribute o m apos) (e :: es) [] pos) (fun σ H Q => ta σ H fun x H1 => ∃ a dx fs, x = .ref a ∧ H1 a = some (.ins C dx fs) ∧ fs.lookup m = none ∧ t σ H1 fun vs H2 => sp (x :: vs) H2 Q (E σ)) := by
  refine ⟨fun pins s σ H Q I h => ?_⟩
  refine PySem.W.methodCall_KW (pl := pl) (thn (he.run pins s σ H _ I h) fun u s1 ⟨x, H1, I1, rx, a, dx, fs, ex, ea, l, q⟩ => ?_) ht
  subst ex
  obtain rfl : u = Value.ref a := rx
  refine getmeth_ok I1 ea c hm l ?_
  refine PySem.W.callWith_K (first := [.ref a]) (h₀ := X.base) I.ok.mod.kin hm.kp (thn (ha.run pos pins s1 σ H1 _ I1 q) fun us s2 ⟨vs, H2, I2, r, q2⟩ => ⟨I2.kIn, ?_⟩) hst hpl
  exact run_fnS (us := .ref a :: us) (vs := .ref a :: vs) F hr hb (hx σ) I2 (.cons rfl r) q2
theorem desk_ins {Hs H : Hp} {f : List Addr} (h : CellOk K Hs H f (.desk C s)) : ∃ x l1 l2 dx vn xs1 xs2, f = [x, l1, l2] ∧ H x = some (.ins C dx [(nNames, vn), (nPast, .ref l1), (nUndone, .ref l2)]) ∧ Rep K Hs s.now vn ∧ H l1 = some (.lst xs1) ∧ Reps K Hs s.past xs1 ∧ H l2 = some (.lst xs2) ∧ Reps K Hs s.undone xs2 := by
  match f, h with
  | [x, l1, l2], ⟨dx, vn, xs1, xs2, h1, h2, h3, h4, h5, h6⟩ => exact ⟨x, l1, l2, dx, vn, xs1, xs2, rfl, h1, h2, h3, h4, h5, h6⟩
/-- o.m(..), o the desk in cell jc -/
theorem em_meth (hX : XF X N sc P w K mg base k) {jc jn : Nat} {m : Str} {o : Expr} {G : DeskSt → List D → Out → DeskSt → Prop} (F : MthD P w K mg base CX C CU CN m jn G) (hj : jn ≤ k) (cl : Cls K C) (ho : EC X K A M ρ o jc) (hM : M[jc]? = some (.desk C s)) (ha : EDs X K A M ρ (e :: es) ds) (hG : G s ds out s') (r : Rz CX X K CU CN A0 (M.set jc (.desk C s')) out ρ.length) (le : Anc.le A0 A)
    (hml : (m ≠ nNames ∧ m ≠ nPast ∧ m ≠ nUndone) := by decide) (hst : starEach (e :: es) X.env = (false, eval e X.env) :: starEach es X.env := by exact star_cons rfl) (hpl : (backTo pos (starEach es X.env)).any (·.1) = false := by exact star_plain rfl) {pl : Sem Bool}
    (ht : eval (.Call (.Attribute o m apos) (e :: es) [] pos) X.env = (do
      let ov ← eval o X.env
      standAt apos.atName
      let (f, first) ← holding [ov] (getMethod ov m pl)
      callWith pos f first (backTo pos (starEach (e :: es) X.env)) (backToKw pos (keywordEach [] X.env))) := by rfl) :
    EM X K A M ρ (.Call (.Attribute o m apos) (e :: es) [] pos) (M.set jc (.desk C s')) out := .mk fun fps σ Hs H hh => by
  obtain ⟨E, hx, hq⟩ := r
  obtain ⟨f, fd, ps, h1, h2, h3⟩ := F.ex
  obtain ⟨_, _, rfl, rfl, rfl, rfl, rfl, _, rm, _⟩ := id hX
  refine wE_of (pe_methX (pl := pl) pe_w cl h2 h1 (rm.mono hj) h3 hx pa_w hst hpl ht) ?_
  refine wE_mono (ho _ _ _ _ hh) fun v H1 ⟨e1, ax, r, q1, q2⟩ => ?_
  subst e1; subst q2
  obtain ⟨x, l1, l2, dx, vn, xs1, xs2, ef, g1, _⟩ := desk_ins (hh.st.cells.get q1 hM)
  cases ef
  refine ⟨ax, dx, _, rfl, g1, ?_, ?_⟩
  · have n1 : (m == nNames) = false := beq_eq_false_iff_ne.mpr hml.1
    have n2 : (m == nPast) = false := beq_eq_false_iff_ne.mpr hml.2.1
    have n3 : (m == nUndone) = false := beq_eq_false_iff_ne.mpr hml.2.2
    simp only [List.lookup, n1, n2, n3]
  refine wA_mono (ha _ _ _ _ hh) fun vs H2 ⟨Hs2, s2, r2⟩ => ?_
  have hh2 := hh.step s2
  obtain ⟨_, q3⟩ := (show (∃ Q0 : VK, Q0 = (fun v H' => ∃ d fps' Hs', out = .ret d ∧ StA X.K A (M.set jc (.desk C s')) ρ fps' σ Hs' H' ∧ Ex Hs Hs' ∧ Rep X.K Hs' d v) ∧ spD X.K C CU CN G (.ref ax :: vs) H2 Q0 (E σ)) from
    ⟨_, rfl, by
      obtain ⟨Hs', f, x, vs', s0, ds0, out0, s0', z1, z2, z3, z4, z5, z6, z7⟩ := spD_use (s' := s') (E := E σ) hh2 q1 hM r2 hG ((hq σ hh.st.slots.length).up le)
      exact ⟨Hs', f, x, vs', s0, ds0, out0, s0', z1, z2, z3, z4, z5, fun d e v fps Hs'' H'' y1 y2 => by
        obtain ⟨d', fps', Hs3, w1, w2, w3, w4⟩ := z6 d e v fps Hs'' H'' y1 y2
        exact ⟨d', fps', Hs3, w1, w2, s2.s.trans w3, w4⟩, z7⟩⟩)
  obtain ⟨e3, q4⟩ := q3
  rw [← e3]
  exact q4
end
end T3
/-! T4c: bodies of defs that are handed a desk; the desk's fields. -/
namespace T3
open PySem L2 PySem.Spec PyProof.Rows Ex3
section
variable {K : PySem.W.Frag} {Hs H Hs' H' : Hp} {A : Anc} {M : List Cell} {ρ ρ' : Env3} {fps : List (List Addr)} {σ σ' : L2.St}
/-- writes at a desk's own places -/
theorem StA.dk {j : Nat} {f f' : List Addr} {c' : Cell} (h : StA K A M ρ fps σ Hs H) (hj : fps[j]? = some f) (hh : f'.head? = f.head?) (hne : f' ≠ []) (nd : f'.Nodup) (new : ∀ b ∈ f', b ∈ f ∨ H b = none) (own : ∀ b ∈ f', H' b ≠ none) (same : ∀ b, b ∉ f' → b ∉ f → H' b = H b)
    (r : CellOk K Hs H' f' c') : StA K A (M.set j c') ρ (fps.set j f') σ Hs H' := by
  have ff : ∀ g : List Addr, [g].flatten = g := fun g => by simp
  have sub : ∀ b ∈ f, b ∈ fps.flatten := fun b hb => List.mem_flatten.mpr ⟨f, List.mem_of_getElem? hj, hb⟩
  have hs0 : ∀ b ∈ f', Hs b = none := fun b hb => by
    rcases new b hb with q | q
    · exact (h.st.own b (sub b q)).1
    · exact h.st.e.back q
  refine h.call hj ⟨⟨fun b o e => ?_, by rw [ff]; exact nd, fun b hb => ?_, ⟨r, trivial⟩, trivial⟩, .refl _, fun b o e nf => ?_, fun b _ _ q => q, fun b hb => ?_, fun j' g e => ?_⟩ hne
  · have n1 : b ∉ f' := fun z => by rw [hs0 b z] at e; cases e
    have n2 : b ∉ f := fun z => by rw [(h.st.own b (sub b z)).1] at e; cases e
    rw [same b n1 n2]
    exact h.st.e b o e
  · rw [ff] at hb
    exact ⟨hs0 b hb, own b hb⟩
  · have n2 : b ∉ f := fun z => nf (by show b ∈ [f].flatten; rw [ff]; exact z)
    have n1 : b ∉ f' := fun z => by
      rcases new b z with q | q
      · exact n2 q
      · have e : H b = some o := e
        rw [q] at e; cases e
    rw [same b n1 n2]
    exact e
  · rw [ff] at hb
    rcases new b hb with q | q
    · exact .inl (by show b ∈ [f].flatten; rw [ff]; exact q)
    · exact .inr q
  · have : j' = 0 := by
      have := (List.getElem?_eq_some_iff.mp e).1
      simp at this; exact this
    subst this
    cases e
    exact ⟨f', rfl, .inr ⟨fun z => (by subst z; cases f' with | nil => exact hne rfl | cons _ _ => cases hh), hh⟩⟩
end
/-- what the desk's class is -/
structure DeskF (K : PySem.W.Frag) (C : Addr) : Prop where
  cls : Cls K C
  names : NoAttr K C nNames
  past : NoAttr K C nPast
  undone : NoAttr K C nUndone
section
variable {X : Cx} {N : List Str} {sc : Scope} {P : Program} {w : World} {K : PySem.W.Frag} {mg : Str → Option Value} {base : Heap} {k : Nat}
variable {A A0 : Anc} {M : List Cell} {ρ ρ' : Env3} {a b c e o o2 tg : Expr} {es : List Expr} {d d1 d2 d3 : D} {ds fs : List D} {pos p p2 p3 p4 p5 apos cpos : Pos} {st : Stmt} {sts rest : List Stmt} {R : Post} {i j : Int} {x y z : Str} {CX : CXT} {C CU CN : Addr} {out : Out} {s s' : DeskSt} {jc : Nat}
/-- the fields' places -/
theorem look_names {vn v1 v2 : V} : ([(nNames, vn), (nPast, v1), (nUndone, v2)] : List (Str × V)).lookup nNames = some vn := rfl
theorem look_past {vn v1 v2 : V} : ([(nNames, vn), (nPast, v1), (nUndone, v2)] : List (Str × V)).lookup nPast = some v1 := by
  have h1 : (nPast == nNames) = false := by decide +kernel
  simp only [List.lookup, h1, beq_self_eq_true]
theorem look_undone {vn v1 v2 : V} : ([(nNames, vn), (nPast, v1), (nUndone, v2)] : List (Str × V)).lookup nUndone = some v2 := by
  have h1 : (nUndone == nNames) = false := by decide +kernel
  have h2 : (nUndone == nPast) = false := by decide +kernel
  simp only [List.lookup, h1, h2, beq_self_eq_true]
theorem put_names {vn v1 v2 v : V} : putF nNames v [(nNames, vn), (nPast, v1), (nUndone, v2)] = [(nNames, v), (nPast, v1), (nUndone, v2)] := by
  simp [putF]
theorem put_undone {vn v1 v2 v : V} : putF nUndone v [(nNames, vn), (nPast, v1), (nUndone, v2)] = [(nNames, vn), (nPast, v1), (nUndone, v)] := by
  have h1 : ¬ nNames = nUndone := by decide +kernel
  have h2 : ¬ nPast = nUndone := by decide +kernel
  simp [putF, h1, h2]
/-- self.names -/
theorem ed_now (hX : XF X N sc P w K mg base k) (F : DeskF K C) (ho : EC X K A M ρ o jc) (hM : M[jc]? = some (.desk C s)) (hb : attributeBase o nNames X.env (eval o X.env) = eval o X.env := by rfl) : ED X K A M ρ (.Attribute o nNames p) s.now := .mk fun fps σ Hs H hh => by
  refine wE_of (pe_fld pe_w hb) ?_
  refine wE_mono (ho _ _ _ _ hh) fun v H1 ⟨e1, ax, r, q1, q2⟩ => ?_
  subst e1; subst q2
  obtain ⟨x, l1, l2, dx, vn, xs1, xs2, ef, g1, g2, _⟩ := desk_ins (hh.st.cells.get q1 hM)
  cases ef
  exact ⟨ax, C, dx, _, vn, rfl, g1, by rw [hX.eK]; exact F.cls, by rw [hX.eK]; exact F.names, look_names, Hs, .refl hh.st.e, g2⟩
/-- len(self.past) -/
theorem ed_len_past (hX : XF X N sc P w K mg base k) (F : DeskF K C) (hm : mg "len" = none) (hv : bootBuiltins "len" = some (.builtin "len")) (ho : EC X K A M ρ o jc) (hM : M[jc]? = some (.desk C s)) (hb : attributeBase o nPast X.env (eval o X.env) = eval o X.env := by rfl) (hg : GlS sc "len" := by rfl)
    (he : starEach [.Attribute o nPast p] X.env = (false, eval (.Attribute o nPast p) X.env) :: starEach [] X.env := by exact star_cons rfl) (hpl : (backTo pos (starEach [] X.env)).any (·.1) = false := by exact star_plain rfl) : ED X K A M ρ (.Call (.Name "len" p2) [.Attribute o nPast p] [] pos) (.int s.past.length) := .mk fun fps σ Hs H hh => by
  refine wE_of (pe_callB call_len_seq (hX.gl hg) (by rw [hX.em]; exact hm) hv (pa_cons (pe_fld pe_w hb) pa_nil he) (by decide) (by decide) he hpl) ?_
  refine wE_mono (ho _ _ _ _ hh) fun v H1 ⟨e1, ax, r, q1, q2⟩ => ?_
  subst e1; subst q2
  obtain ⟨x, l1, l2, dx, vn, xs1, xs2, ef, g1, g2, g3, g4, g5, g6⟩ := desk_ins (hh.st.cells.get q1 hM)
  cases ef
  refine ⟨ax, C, dx, _, .ref l1, rfl, g1, by rw [hX.eK]; exact F.cls, by rw [hX.eK]; exact F.past, look_past, l1, xs1, rfl, .inl (SqL.of g3), Hs, .refl hh.st.e, ?_⟩
  rw [g4.length]
  exact .int _
/-- self.past.append(e) -/
theorem sd_app_past (hX : XF X N sc P w K mg base k) (F : DeskF K C) (ho : EC X K A M ρ o jc) (hM : M[jc]? = some (.desk C s)) (h : ED X K A M ρ e d) (hl : s.past.length < 100000) (q : SD X K A (M.set jc (.desk C ⟨s.now, s.past ++ [d], s.undone⟩)) ρ rest R)
    (hb : attributeBase o nPast X.env (eval o X.env) = eval o X.env := by rfl) (hs : swapsWith (.Call (.Attribute (.Attribute o nPast p) "append" apos) [e] [] cpos) none pos.line X.env = pure false := by rfl) (hbase : attributeBase (.Attribute o nPast p) "append" X.env (eval (.Attribute o nPast p) X.env) = eval (.Attribute o nPast p) X.env := by rfl)
    (hfew : ((backTo cpos (starEach [e] X.env)).all (fun x => !x.1) && (backToKw cpos (keywordEach [] X.env)).all (fun x => x.1.isSome) && decide (([e] : List Expr).length + ([] : List Keyword).length + (if ([] : List Keyword).isEmpty then 0 else 1) < 30)) = true := by exact star_few rfl)
    (hline : (apos.endLine == cpos.line) = true := by rfl) (hst : starEach [e] X.env = (false, eval e X.env) :: starEach [] X.env := by exact star_cons rfl) (hplain : (backTo cpos (starEach [] X.env)).any (·.1) = false := by exact star_plain rfl) :
    SD X K A M ρ (.Expr (.Call (.Attribute (.Attribute o nPast p) "append" apos) [e] [] cpos) pos :: rest) R := sd_cons <| .mk fun fps σ Hs H hh => by
  refine wS_of (ps_expr (pe_bm PySem.F.plainAttrs_list PySem.F.slot_list_append PySem.F.type_list_append mt_append (pe_fld pe_w hb) (pa_cons pe_w pa_nil hst) hbase hfew hline hst hplain) hs) ?_
  refine wE_mono (ho _ _ _ _ hh) fun v H1 ⟨e1, ax, r, q1, q2⟩ => ?_
  subst e1; subst q2
  obtain ⟨x, l1, l2, dx, vn, xs1, xs2, ef, g1, g2, g3, g4, g5, g6⟩ := desk_ins (hh.st.cells.get q1 hM)
  cases ef
  refine ⟨ax, C, dx, _, .ref l1, rfl, g1, by rw [hX.eK]; exact F.cls, by rw [hX.eK]; exact F.past, look_past, .inl ⟨rfl, xs1, SqL.of g3⟩, ?_⟩
  refine wE_mono (h _ _ _ _ hh) fun v2 H2 ⟨Hs1, s1, r1⟩ => ?_
  have h' := hh.step s1
  have nd := nd_at hh.st.nd q1
  simp only [List.nodup_cons, List.mem_cons, List.not_mem_nil, or_false, not_or, not_false_eq_true, and_true] at nd
  have nx : ax ≠ l1 := by first | exact nd.1.1 | exact nd.1.2
  have nl : l2 ≠ l1 := by first | exact nd.2.1 | exact nd.2 | exact fun z => nd.2 z.symm | exact fun z => nd.2.1 z.symm
  refine ⟨l1, xs1, v2, rfl, rfl, s1.h _ _ g3, by rw [g4.length]; exact Nat.lt_of_lt_of_le hl (by decide), ?_⟩
  refine ⟨_, ρ, _, Hs1, h'.dk (f' := [ax, l1, l2]) (c' := .desk C ⟨s.now, s.past ++ [d], s.undone⟩) q1 rfl (by simp) (nd_at hh.st.nd q1) (fun b hb => .inl hb) (fun b hb => ?_) (fun b hb _ => upd_ne fun z => hb (by rw [z]; simp)) ⟨dx, vn, _, xs2, by rw [upd_ne nx]; exact s1.h _ _ g1, g2.mono s1.s, upd_same, (g4.mono s1.s).append (.one r1), by rw [upd_ne nl]; exact s1.h _ _ g5, g6.mono s1.s⟩, q⟩
  by_cases z : b = l1
  · subst z; rw [upd_same]; exact fun q => nomatch q
  · rw [upd_ne z]; exact (h'.st.own b (List.mem_flatten.mpr ⟨_, List.mem_of_getElem? q1, hb⟩)).2
/-- len(self.undone) -/
theorem ed_len_undone (hX : XF X N sc P w K mg base k) (F : DeskF K C) (hm : mg "len" = none) (hv : bootBuiltins "len" = some (.builtin "len")) (ho : EC X K A M ρ o jc) (hM : M[jc]? = some (.desk C s)) (hb : attributeBase o nUndone X.env (eval o X.env) = eval o X.env := by rfl) (hg : GlS sc "len" := by rfl)
    (he : starEach [.Attribute o nUndone p] X.env = (false, eval (.Attribute o nUndone p) X.env) :: starEach [] X.env := by exact star_cons rfl) (hpl : (backTo pos (starEach [] X.env)).any (·.1) = false := by exact star_plain rfl) : ED X K A M ρ (.Call (.Name "len" p2) [.Attribute o nUndone p] [] pos) (.int s.undone.length) := .mk fun fps σ Hs H hh => by
  refine wE_of (pe_callB call_len_seq (hX.gl hg) (by rw [hX.em]; exact hm) hv (pa_cons (pe_fld pe_w hb) pa_nil he) (by decide) (by decide) he hpl) ?_
  refine wE_mono (ho _ _ _ _ hh) fun v H1 ⟨e1, ax, r, q1, q2⟩ => ?_
  subst e1; subst q2
  obtain ⟨x, l1, l2, dx, vn, xs1, xs2, ef, g1, g2, g3, g4, g5, g6⟩ := desk_ins (hh.st.cells.get q1 hM)
  cases ef
  refine ⟨ax, C, dx, _, .ref l2, rfl, g1, by rw [hX.eK]; exact F.cls, by rw [hX.eK]; exact F.undone, look_undone, l2, xs2, rfl, .inl (SqL.of g5), Hs, .refl hh.st.e, ?_⟩
  rw [g6.length]
  exact .int _
/-- self.undone.append(e) -/
theorem sd_app_undone (hX : XF X N sc P w K mg base k) (F : DeskF K C) (ho : EC X K A M ρ o jc) (hM : M[jc]? = some (.desk C s)) (h : ED X K A M ρ e d) (hl : s.undone.length < 100000) (q : SD X K A (M.set jc (.desk C ⟨s.now, s.past, s.undone ++ [d]⟩)) ρ rest R)
    (hb : attributeBase o nUndone X.env (eval o X.env) = eval o X.env := by rfl) (hs : swapsWith (.Call (.Attribute (.Attribute o nUndone p) "append" apos) [e] [] cpos) none pos.line X.env = pure false := by rfl) (hbase : attributeBase (.Attribute o nUndone p) "append" X.env (eval (.Attribute o nUndone p) X.env) = eval (.Attribute o nUndone p) X.env := by rfl)
    (hfew : ((backTo cpos (starEach [e] X.env)).all (fun x => !x.1) && (backToKw cpos (keywordEach [] X.env)).all (fun x => x.1.isSome) && decide (([e] : List Expr).length + ([] : List Keyword).length + (if ([] : List Keyword).isEmpty then 0 else 1) < 30)) = true := by exact star_few rfl)
    (hline : (apos.endLine == cpos.line) = true := by rfl) (hst : starEach [e] X.env = (false, eval e X.env) :: starEach [] X.env := by exact star_cons rfl) (hplain : (backTo cpos (starEach [] X.env)).any (·.1) = false := by exact star_plain rfl) :
    SD X K A M ρ (.Expr (.Call (.Attribute (.Attribute o nUndone p) "append" apos) [e] [] cpos) pos :: rest) R := sd_cons <| .mk fun fps σ Hs H hh => by
  refine wS_of (ps_expr (pe_bm PySem.F.plainAttrs_list PySem.F.slot_list_append PySem.F.type_list_append mt_append (pe_fld pe_w hb) (pa_cons pe_w pa_nil hst) hbase hfew hline hst hplain) hs) ?_
  refine wE_mono (ho _ _ _ _ hh) fun v H1 ⟨e1, ax, r, q1, q2⟩ => ?_
  subst e1; subst q2
  obtain ⟨x, l1, l2, dx, vn, xs1, xs2, ef, g1, g2, g3, g4, g5, g6⟩ := desk_ins (hh.st.cells.get q1 hM)
  cases ef
  refine ⟨ax, C, dx, _, .ref l2, rfl, g1, by rw [hX.eK]; exact F.cls, by rw [hX.eK]; exact F.undone, look_undone, .inl ⟨rfl, xs2, SqL.of g5⟩, ?_⟩
  refine wE_mono (h _ _ _ _ hh) fun v2 H2 ⟨Hs1, s1, r1⟩ => ?_
  have h' := hh.step s1
  have nd := nd_at hh.st.nd q1
  simp only [List.nodup_cons, List.mem_cons, List.not_mem_nil, or_false, not_or, not_false_eq_true, and_true] at nd
  have nx : ax ≠ l2 := by first | exact nd.1.1 | exact nd.1.2
  have nl : l1 ≠ l2 := by first | exact nd.2.1 | exact nd.2 | exact fun z => nd.2 z.symm | exact fun z => nd.2.1 z.symm
  refine ⟨l2, xs2, v2, rfl, rfl, s1.h _ _ g5, by rw [g6.length]; exact Nat.lt_of_lt_of_le hl (by decide), ?_⟩
  refine ⟨_, ρ, _, Hs1, h'.dk (f' := [ax, l1, l2]) (c' := .desk C ⟨s.now, s.past, s.undone ++ [d]⟩) q1 rfl (by simp) (nd_at hh.st.nd q1) (fun b hb => .inl hb) (fun b hb => ?_) (fun b hb _ => upd_ne fun z => hb (by rw [z]; simp)) ⟨dx, vn, xs1, _, by rw [upd_ne nx]; exact s1.h _ _ g1, g2.mono s1.s, by rw [upd_ne nl]; exact s1.h _ _ g3, g4.mono s1.s, upd_same, (g6.mono s1.s).append (.one r1)⟩, q⟩
  by_cases z : b = l2
  · subst z; rw [upd_same]; exact fun q => nomatch q
  · rw [upd_ne z]; exact (h'.st.own b (List.mem_flatten.mpr ⟨_, List.mem_of_getElem? q1, hb⟩)).2
/-- self.names = e -/
theorem sd_setNow (hX : XF X N sc P w K mg base k) (F : DeskF K C) (ho : EC X K A M ρ o jc) (hM : M[jc]? = some (.desk C s)) (h : ED X K A M ρ e d) (q : SD X K A (M.set jc (.desk C ⟨d, s.past, s.undone⟩)) ρ rest R) (hs : swapsWith e (some (.Attribute o nNames p)) pos.line X.env = pure false := by rfl) : SD X K A M ρ (.Assign [.Attribute o nNames p] e pos :: rest) R := sd_cons <| .mk fun fps σ Hs H hh => by
  refine wS_of (ps_fld pe_w pe_w hs) ?_
  refine wE_mono (h _ _ _ _ hh) fun v H1 ⟨Hs1, s1, r1⟩ => ?_
  have h' := hh.step s1
  refine wE_mono (ho _ _ _ _ h') fun v H2 ⟨e1, ax, r, q1, q2⟩ => ?_
  subst e1; subst q2
  obtain ⟨x, l1, l2, dx, vn, xs1, xs2, ef, g1, g2, g3, g4, g5, g6⟩ := desk_ins (h'.st.cells.get q1 hM)
  cases ef
  have nd := nd_at hh.st.nd q1
  simp only [List.nodup_cons, List.mem_cons, List.not_mem_nil, or_false, not_or, not_false_eq_true, and_true] at nd
  refine ⟨ax, C, dx, _, rfl, g1, by rw [hX.eK]; exact F.cls, by rw [hX.eK]; exact F.names, by show 3 < 1000; decide, ?_⟩
  rw [put_names]
  refine ⟨_, ρ, _, Hs1, h'.dk (f' := [ax, l1, l2]) (c' := .desk C ⟨d, s.past, s.undone⟩) q1 rfl (by simp) (nd_at hh.st.nd q1) (fun b hb => .inl hb) (fun b hb => ?_) (fun b hb _ => upd_ne fun z => hb (by rw [z]; simp)) ⟨dx, _, xs1, xs2, upd_same, r1, by rw [upd_ne (fun z => nd.1.1 z.symm)]; exact g3, g4, by rw [upd_ne (fun z => nd.1.2 z.symm)]; exact g5, g6⟩, q⟩
  by_cases z : b = ax
  · subst z; rw [upd_same]; exact fun q => nomatch q
  · rw [upd_ne z]; exact (h'.st.own b (List.mem_flatten.mpr ⟨_, List.mem_of_getElem? q1, hb⟩)).2
/-- self.undone = [] -/
theorem sd_newUndone (hX : XF X N sc P w K mg base k) (F : DeskF K C) (ho : EC X K A M ρ o jc) (hM : M[jc]? = some (.desk C s)) (q : SD X K A (M.set jc (.desk C ⟨s.now, s.past, []⟩)) ρ rest R) (hs : swapsWith (.List [] p2) (some (.Attribute o nUndone p)) pos.line X.env = pure false := by rfl) : SD X K A M ρ (.Assign [.Attribute o nUndone p] (.List [] p2) pos :: rest) R := sd_cons <| .mk fun fps σ Hs H hh => by
  refine wS_of (ps_fld pe_w (pe_lst pa_nil) hs) ?_
  refine ⟨by decide, fun l hl => ?_⟩
  have h' := hh.step (.own (o := .lst []) hh.st.e hl)
  refine wE_mono (ho _ _ _ _ h') fun v H2 ⟨e1, ax, r, q1, q2⟩ => ?_
  subst e1; subst q2
  obtain ⟨x, l1, l2, dx, vn, xs1, xs2, ef, g1, g2, g3, g4, g5, g6⟩ := desk_ins (h'.st.cells.get q1 hM)
  cases ef
  have nd := nd_at hh.st.nd q1
  have own0 : ∀ b ∈ [ax, l1, l2], H b ≠ none := fun b hb => (hh.st.own b (List.mem_flatten.mpr ⟨_, List.mem_of_getElem? q1, hb⟩)).2
  have nl : ∀ b ∈ [ax, l1, l2], b ≠ l := fun b hb z => own0 b hb (by rw [z]; exact hl)
  have n0 := nl ax (by simp)
  have n1 := nl l1 (by simp)
  simp only [List.nodup_cons, List.mem_cons, List.not_mem_nil, or_false, not_or, not_false_eq_true, and_true] at nd
  refine ⟨ax, C, dx, _, rfl, g1, by rw [hX.eK]; exact F.cls, by rw [hX.eK]; exact F.undone, by show 3 < 1000; decide, ?_⟩
  rw [put_undone]
  refine ⟨_, ρ, _, Hs, hh.dk (f' := [ax, l1, l]) (c' := .desk C ⟨s.now, s.past, []⟩) q1 rfl (by simp) ?_ (fun b hb => ?_) (fun b hb => ?_) (fun b hb hb' => ?_) ⟨dx, vn, xs1, [], upd_same, g2, ?_, g4, ?_, .nil⟩, q⟩
  · simp only [List.nodup_cons, List.mem_cons, List.not_mem_nil, or_false, not_or, not_false_eq_true, and_true]
    exact ⟨⟨nd.1.1, n0⟩, n1, trivial, List.nodup_nil⟩
  · simp only [List.mem_cons, List.not_mem_nil, or_false] at hb
    rcases hb with rfl | rfl | rfl
    · exact .inl (by simp)
    · exact .inl (by simp)
    · exact .inr hl
  · simp only [List.mem_cons, List.not_mem_nil, or_false] at hb
    rcases hb with rfl | rfl | rfl
    · rw [upd_same]; exact fun q => nomatch q
    · rw [upd_ne (fun z => nd.1.1 z.symm), g3]; exact fun q => nomatch q
    · rw [upd_ne (fun z => n0 z.symm), upd_same]; exact fun q => nomatch q
  · rw [upd_ne fun z => hb (by rw [z]; simp), upd_ne fun z => hb (by rw [z]; simp)]
  · rw [upd_ne (fun z => nd.1.1 z.symm)]; exact g3
  · rw [upd_ne (fun z => n0 z.symm), upd_same]
/-- self.names = self.past.pop() -/
theorem sd_pop_past (hX : XF X N sc P w K mg base k) (F : DeskF K C) (ho : ∀ M, EC X K A M ρ o jc) (ho2 : EC X K A M ρ o2 jc) (hM : M[jc]? = some (.desk C s)) (hd : s.past = ds ++ [d]) (q : SD X K A (M.set jc (.desk C ⟨d, ds, s.undone⟩)) ρ rest R)
    (hb : attributeBase o2 nPast X.env (eval o2 X.env) = eval o2 X.env := by rfl) (hs : swapsWith (.Call (.Attribute (.Attribute o2 nPast p2) "pop" apos) [] [] cpos) (some (.Attribute o nNames p)) pos.line X.env = pure false := by rfl) (hbase : attributeBase (.Attribute o2 nPast p2) "pop" X.env (eval (.Attribute o2 nPast p2) X.env) = eval (.Attribute o2 nPast p2) X.env := by rfl)
    (hline : (apos.endLine == cpos.line) = true := by rfl) :
    SD X K A M ρ (.Assign [.Attribute o nNames p] (.Call (.Attribute (.Attribute o2 nPast p2) "pop" apos) [] [] cpos) pos :: rest) R := sd_cons <| .mk fun fps σ Hs H hh => by
  refine wS_of (ps_fld pe_w (pe_bm0 PySem.F.plainAttrs_list PySem.F.slot_list_pop PySem.F.type_list_pop mt_pop (pe_fld pe_w hb) hbase hline) hs) ?_
  refine wE_mono (ho2 _ _ _ _ hh) fun v H1 ⟨e1, ax, r, q1, q2⟩ => ?_
  subst e1; subst q2
  have hc := hh.st.cells.get q1 hM
  obtain ⟨x, l1, l2, dx, vn, xs1, xs2, ef, g1, g2, g3, g4, g5, g6⟩ := desk_ins hc
  cases ef
  have nd := nd_at hh.st.nd q1
  simp only [List.nodup_cons, List.mem_cons, List.not_mem_nil, or_false, not_or, not_false_eq_true, and_true] at nd
  have nx : ax ≠ l1 := by first | exact nd.1.1 | exact nd.1.2
  have nl : l2 ≠ l1 := by first | exact nd.2.1 | exact nd.2 | exact fun z => nd.2 z.symm | exact fun z => nd.2.1 z.symm
  rw [hd] at g4
  have hlen : xs1.length = ds.length + 1 := by rw [g4.length]; simp
  obtain ⟨u, hu, ru⟩ := g4.get (i := ds.length) (d := d) (by simp)
  have g7 : Reps K Hs ds xs1.dropLast := by
    have h1 := g4.take ds.length
    rw [List.take_left'  rfl] at h1
    rw [List.dropLast_eq_take, hlen]
    exact h1
  refine ⟨ax, C, dx, _, .ref l1, rfl, g1, by rw [hX.eK]; exact F.cls, by rw [hX.eK]; exact F.past, look_past, .inl ⟨rfl, xs1, SqL.of g3⟩, ?_⟩
  refine ⟨l1, xs1, u, rfl, rfl, g3, by rw [hlen]; exact hu, ?_⟩
  have own0 : ∀ b ∈ [ax, l1, l2], H1 b ≠ none := fun b hb => (hh.st.own b (List.mem_flatten.mpr ⟨_, List.mem_of_getElem? q1, hb⟩)).2
  have hh1 : StA K A (M.set jc (.desk C ⟨s.now, ds, s.undone⟩)) ρ (fps.set jc [ax, l1, l2]) σ Hs (upd H1 l1 (.lst xs1.dropLast)) := by
    refine hh.dk (f' := [ax, l1, l2]) q1 rfl (by simp) (nd_at hh.st.nd q1) (fun b hb => .inl hb) (fun b hb => ?_) (fun b hb _ => upd_ne fun z => hb (by rw [z]; simp)) ?_
    · by_cases z : b = l1
      · subst z; rw [upd_same]; exact fun q => nomatch q
      · rw [upd_ne z]; exact own0 b hb
    · exact ⟨dx, vn, xs1.dropLast, xs2, by rw [upd_ne nx]; exact g1, g2, upd_same, g7, by rw [upd_ne nl]; exact g5, g6⟩
  have ej : fps.set jc [ax, l1, l2] = fps := list_set_self q1
  rw [ej] at hh1
  refine wE_mono (ho _ _ _ _ _ hh1) fun v H2 ⟨e1, ax2, r2, q3, q4⟩ => ?_
  subst e1; subst q4
  rw [q1] at q3; cases q3
  refine ⟨ax, C, dx, _, rfl, by rw [upd_ne nx]; exact g1, by rw [hX.eK]; exact F.cls, by rw [hX.eK]; exact F.names, by show 3 < 1000; decide, ?_⟩
  rw [put_names]
  have h2 := hh1.dk (f' := [ax, l1, l2]) (c' := .desk C ⟨d, ds, s.undone⟩) (H' := upd (upd H1 l1 (.lst xs1.dropLast)) ax (.ins C dx [(nNames, u), (nPast, .ref l1), (nUndone, .ref l2)])) q1 rfl (by simp) (nd_at hh.st.nd q1) (fun b hb => .inl hb) (fun b hb => ?_) (fun b hb _ => upd_ne fun z => hb (by rw [z]; simp)) ⟨dx, u, xs1.dropLast, xs2, upd_same, ru, by rw [upd_ne (fun z => nd.1.1 z.symm), upd_same], g7, by rw [upd_ne (fun z => nd.1.2 z.symm), upd_ne nl]; exact g5, g6⟩
  · rw [List.set_set] at h2
    exact ⟨_, ρ, _, Hs, h2, q⟩
  · by_cases z : b = ax
    · subst z; rw [upd_same]; exact fun q => nomatch q
    · rw [upd_ne z]; exact (hh1.st.own b (List.mem_flatten.mpr ⟨_, List.mem_of_getElem? q1, hb⟩)).2
/-- self.names = self.undone.pop() -/
theorem sd_pop_undone (hX : XF X N sc P w K mg base k) (F : DeskF K C) (ho : ∀ M, EC X K A M ρ o jc) (ho2 : EC X K A M ρ o2 jc) (hM : M[jc]? = some (.desk C s)) (hd : s.undone = ds ++ [d]) (q : SD X K A (M.set jc (.desk C ⟨d, s.past, ds⟩)) ρ rest R)
    (hb : attributeBase o2 nUndone X.env (eval o2 X.env) = eval o2 X.env := by rfl) (hs : swapsWith (.Call (.Attribute (.Attribute o2 nUndone p2) "pop" apos) [] [] cpos) (some (.Attribute o nNames p)) pos.line X.env = pure false := by rfl) (hbase : attributeBase (.Attribute o2 nUndone p2) "pop" X.env (eval (.Attribute o2 nUndone p2) X.env) = eval (.Attribute o2 nUndone p2) X.env := by rfl)
    (hline : (apos.endLine == cpos.line) = true := by rfl) :
    SD X K A M ρ (.Assign [.Attribute o nNames p] (.Call (.Attribute (.Attribute o2 nUndone p2) "pop" apos) [] [] cpos) pos :: rest) R := sd_cons <| .mk fun fps σ Hs H hh => by
  refine wS_of (ps_fld pe_w (pe_bm0 PySem.F.plainAttrs_list PySem.F.slot_list_pop PySem.F.type_list_pop mt_pop (pe_fld pe_w hb) hbase hline) hs) ?_
  refine wE_mono (ho2 _ _ _ _ hh) fun v H1 ⟨e1, ax, r, q1, q2⟩ => ?_
  subst e1; subst q2
  have hc := hh.st.cells.get q1 hM
  obtain ⟨x, l1, l2, dx, vn, xs1, xs2, ef, g1, g2, g3, g4, g5, g6⟩ := desk_ins hc
  cases ef
  have nd := nd_at hh.st.nd q1
  simp only [List.nodup_cons, List.mem_cons, List.not_mem_nil, or_false, not_or, not_false_eq_true, and_true] at nd
  have nx : ax ≠ l2 := by first | exact nd.1.1 | exact nd.1.2
  have nl : l1 ≠ l2 := by first | exact nd.2.1 | exact nd.2 | exact fun z => nd.2 z.symm | exact fun z => nd.2.1 z.symm
  rw [hd] at g6
  have hlen : xs2.length = ds.length + 1 := by rw [g6.length]; simp
  obtain ⟨u, hu, ru⟩ := g6.get (i := ds.length) (d := d) (by simp)
  have g7 : Reps K Hs ds xs2.dropLast := by
    have h1 := g6.take ds.length
    rw [List.take_left'  rfl] at h1
    rw [List.dropLast_eq_take, hlen]
    exact h1
  refine ⟨ax, C, dx, _, .ref l2, rfl, g1, by rw [hX.eK]; exact F.cls, by rw [hX.eK]; exact F.undone, look_undone, .inl ⟨rfl, xs2, SqL.of g5⟩, ?_⟩
  refine ⟨l2, xs2, u, rfl, rfl, g5, by rw [hlen]; exact hu, ?_⟩
  have own0 : ∀ b ∈ [ax, l1, l2], H1 b ≠ none := fun b hb => (hh.st.own b (List.mem_flatten.mpr ⟨_, List.mem_of_getElem? q1, hb⟩)).2
  have hh1 : StA K A (M.set jc (.desk C ⟨s.now, s.past, ds⟩)) ρ (fps.set jc [ax, l1, l2]) σ Hs (upd H1 l2 (.lst xs2.dropLast)) := by
    refine hh.dk (f' := [ax, l1, l2]) q1 rfl (by simp) (nd_at hh.st.nd q1) (fun b hb => .inl hb) (fun b hb => ?_) (fun b hb _ => upd_ne fun z => hb (by rw [z]; simp)) ?_
    · by_cases z : b = l2
      · subst z; rw [upd_same]; exact fun q => nomatch q
      · rw [upd_ne z]; exact own0 b hb
    · exact ⟨dx, vn, xs1, xs2.dropLast, by rw [upd_ne nx]; exact g1, g2, by rw [upd_ne nl]; exact g3, g4, upd_same, g7⟩
  have ej : fps.set jc [ax, l1, l2] = fps := list_set_self q1
  rw [ej] at hh1
  refine wE_mono (ho _ _ _ _ _ hh1) fun v H2 ⟨e1, ax2, r2, q3, q4⟩ => ?_
  subst e1; subst q4
  rw [q1] at q3; cases q3
  refine ⟨ax, C, dx, _, rfl, by rw [upd_ne nx]; exact g1, by rw [hX.eK]; exact F.cls, by rw [hX.eK]; exact F.names, by show 3 < 1000; decide, ?_⟩
  rw [put_names]
  have h2 := hh1.dk (f' := [ax, l1, l2]) (c' := .desk C ⟨d, s.past, ds⟩) (H' := upd (upd H1 l2 (.lst xs2.dropLast)) ax (.ins C dx [(nNames, u), (nPast, .ref l1), (nUndone, .ref l2)])) q1 rfl (by simp) (nd_at hh.st.nd q1) (fun b hb => .inl hb) (fun b hb => ?_) (fun b hb _ => upd_ne fun z => hb (by rw [z]; simp)) ⟨dx, u, xs1, xs2.dropLast, upd_same, ru, by rw [upd_ne (fun z => nd.1.1 z.symm), upd_ne nl]; exact g3, g4, by rw [upd_ne (fun z => nd.1.2 z.symm), upd_same], g7⟩
  · rw [List.set_set] at h2
    exact ⟨_, ρ, _, Hs, h2, q⟩
  · by_cases z : b = ax
    · subst z; rw [upd_same]; exact fun q => nomatch q
    · rw [upd_ne z]; exact (hh1.st.own b (List.mem_flatten.mpr ⟨_, List.mem_of_getElem? q1, hb⟩)).2
end
end T3
/-! T4d: the promises from bodies; calls of defs that are handed a desk. -/
namespace T3
open PySem L2 PySem.Spec PyProof.Rows Ex3
section
variable {X : Cx} {N : List Str} {sc : Scope} {P : Program} {w : World} {K : PySem.W.Frag} {mg : Str → Option Value} {base : Heap} {k : Nat}
variable {A A0 : Anc} {M : List Cell} {ρ ρ' : Env3} {a b c e o o2 tg : Expr} {es : List Expr} {d d1 d2 d3 : D} {ds fs : List D} {pos p p2 p3 p4 p5 apos cpos : Pos} {st : Stmt} {sts rest : List Stmt} {R : Post} {i j : Int} {x y z : Str} {CX : CXT} {C CU CN : Addr} {out : Out} {s s' : DeskSt} {jc : Nat}
/-- the slots at a def's start, the desk in cell 0 -/
theorem start_desk {Hs : Hp} {f : List Addr} {x : Addr} (hf : f.head? = some x) {ds : List D} {vs : List V} (n : Nat) (r : Reps K Hs ds vs) : Slots K Hs [f] (some (.cell 0) :: (ds.map (fun d => some (.sh d)) ++ List.replicate n none)) (some (.ref x) :: (vs.map some ++ List.replicate n none)) := by
  refine ⟨?_, ?_⟩
  · cases f with
    | nil => cases hf
    | cons a r => cases hf; exact ⟨_, _, rfl, rfl⟩
  · have lift : ∀ {ρ : Env3} {σ : L2.St}, ρ.all (fun s => match s with | some (.cell _) => false | _ => true) = true → Slots K Hs [] ρ σ → Slots K Hs [f] ρ σ := by
      intro ρ
      induction ρ with
      | nil => intro σ _ h; cases σ with | nil => trivial | cons _ _ => exact h.elim
      | cons t ρ ih =>
        intro σ q h
        rw [List.all_cons, Bool.and_eq_true] at q
        cases σ with
        | nil => cases t <;> exact h.elim
        | cons u σ =>
          cases t with
          | none => exact ih q.2 h
          | some t =>
            cases u with
            | none => exact h.elim
            | some u =>
              refine ⟨?_, ih q.2 h.2⟩
              cases t with
              | sh d => exact h.1
              | raw v => exact h.1
              | cell j => exact absurd q.1 (by simp)
    refine lift ?_ (start_slots n r)
    rw [List.all_append, Bool.and_eq_true]
    exact ⟨by simp [List.all_map], by simp [List.all_replicate]⟩
/-- the end of a def's body -/
abbrev deskPost (C : Addr) (s' : DeskSt) (out : Out) : Post := ⟨fun M _ => out = .ret .non ∧ M[0]? = some (.desk C s'), fun M d => out = .ret d ∧ M[0]? = some (.desk C s'), fun _ _ => False, fun _ _ => False⟩
theorem desk_body {X : Cx} {G : DeskSt → List D → Out → DeskSt → Prop} {N ps : List Str} {vs : List V} {H : Hp} {Q : VK} {E : XK} (h : spD K C CU CN G vs H Q E) (hl : vs.length = ps.length)
    (body : ∀ A, A.fps.length ≤ 1 → ∀ s ds out s', G s ds out s' → XOk K CU CN A [.desk C s'] out E → SD X K A [.desk C s] (some (.cell 0) :: (ds.map (fun d => some (.sh d)) ++ List.replicate (N.length - ps.length) none)) sts (deskPost C s' out)) :
    wSs X sts { nx := fun _ H' => Q .non H', rt := Q } (L2.start N vs) H := by
  obtain ⟨Hs, f, x, vs', s, ds, out, s', rfl, st, hf, r, g, q, xk⟩ := h
  have hst : StA K ⟨[f], Hs, H⟩ [.desk C s] (some (.cell 0) :: (ds.map (fun d => some (.sh d)) ++ List.replicate (N.length - ps.length) none)) [f] (L2.start N (.ref x :: vs')) Hs H := by
    refine ⟨⟨st.e, st.nd, st.own, st.cells, ?_⟩, .self⟩
    have h1 := start_desk hf (N.length - ps.length) r
    unfold L2.start
    rw [hl]
    exact h1
  refine wSs_mono (body ⟨[f], Hs, H⟩ (Nat.le_refl _) s ds out s' g xk _ _ _ _ hst) ?_ ?_ (fun _ _ ⟨_, _, _, _, _, z⟩ => False.elim z) (fun _ _ ⟨_, _, _, _, _, z⟩ => False.elim z)
  · rintro σ' H' ⟨M', ρ', fps', Hs', h1, e1, h2⟩
    obtain ⟨f', _, _, h3⟩ := h1.only h2 (Nat.le_refl _)
    exact q .non e1 .non _ Hs' H' h3 .non
  · rintro v H' ⟨M', d', fps', Hs', h1, h2, e1, h3⟩
    obtain ⟨f', _, _, h4⟩ := h1.only h3 (Nat.le_refl _)
    exact q d' e1 v _ Hs' H' h4 h2
theorem spD_len {G : DeskSt → List D → Out → DeskSt → Prop} {ps : List Str} (len : ∀ s ds out s', G s ds out s' → ds.length + 1 = ps.length) : ∀ vs H Q E, spD K C CU CN G vs H Q E → vs.length = ps.length := fun vs H Q E h => by
  obtain ⟨Hs, f, x, vs', s, ds, out, s', rfl, st, hf, r, g, _⟩ := h
  rw [List.length_cons, r.length, len s ds out s' g]
theorem fnD0 {f : Addr} {fd : FuncData} {x qual : Str} {N ps : List Str} {G : DeskSt → List D → Out → DeskSt → Prop} (F : Fun K x qual st f fd) (S : FnScope N ps (defScope st)) (len : ∀ s ds out s', G s ds out s' → ds.length + 1 = ps.length)
    (body : ∀ (X : Cx) (A : Anc), XF X N (defScope st) P w K mg base k → (∀ x, X.fn x = true) → PassesOwn (model X.prog X.w) X.A X.env X.xe → A.fps.length ≤ 1 → ∀ s ds out s', G s ds out s' →
      SD X K A [.desk C s] (some (.cell 0) :: (ds.map (fun d => some (.sh d)) ++ List.replicate (N.length - ps.length) none)) (defBody st) (deskPost C s' out)) : FnOk P w K mg base CX0 (k + 1) f fd ps (spD K C CU CN G) := by
  refine F.ok S (spD_len len) fun cdv A outer s H vs Q E hr h => ?_
  refine ⟨_, pss_w, ?_⟩
  have hX : XF (cxOf CX0 P w K mg base N qual (defScope st) f cdv A outer s H E).nox N (defScope st) P w K mg base k := ⟨rfl, rfl, rfl, rfl, rfl, rfl, rfl, rfl, hr, S.nd⟩
  exact desk_body h (spD_len len _ _ _ _ h) fun A' hA s ds out s' g _ => body _ A' hX (fun _ => rfl) PassesOwn.never hA s ds out s' g
theorem fnDX {f : Addr} {fd : FuncData} {x qual : Str} {N ps : List Str} {G : DeskSt → List D → Out → DeskSt → Prop} (F : Fun K x qual st f fd) (S : FnScope N ps (defScope st)) (len : ∀ s ds out s', G s ds out s' → ds.length + 1 = ps.length)
    (body : ∀ (X : Cx) (A : Anc), XF X N (defScope st) P w K mg base k → (∀ x, X.fn x = true) → PassesOwn (model X.prog X.w) X.A X.env X.xe → A.fps.length ≤ 1 → ∀ s ds out s', G s ds out s' → Rs X K CU CN A [.desk C s'] out →
      SD X K A [.desk C s] (some (.cell 0) :: (ds.map (fun d => some (.sh d)) ++ List.replicate (N.length - ps.length) none)) (defBody st) (deskPost C s' out)) : FnOk P w K mg base (L2N.CX P w) (k + 1) f fd ps (spD K C CU CN G) := by
  obtain ⟨oc, od, kV, doc, pm, an, cdv, ct, osl, rfl, lk, hcd⟩ := F.ex
  refine fn_of lk hcd S (spD_len len) fun A outer s H vs Q E hr h => ?_
  refine ⟨_, pss_w, ?_⟩
  have hX : XF (cxOf (L2N.CX P w) P w K mg base N qual (defScope st) f cdv A outer s H E) N (defScope st) P w K mg base k := ⟨rfl, rfl, rfl, rfl, rfl, rfl, rfl, rfl, hr, S.nd⟩
  exact desk_body h (spD_len len _ _ _ _ h) fun A' hA s ds out s' g xk => body _ A' hX (fun _ => rfl) PassesOwn.leaving hA s ds out s' g ⟨_, L2N.takes_of rfl rfl rfl rfl, fun σ => xk⟩
/-- a def of data that may raise -/
theorem dfnO_of {f : Addr} {fd : FuncData} {x qual : Str} {N ps : List Str} {G : List D → Out → Prop} (F : Fun K qual qual st f fd) (S : FnScope N ps (defScope st)) (hb : Binds K fd ps []) (hm : mg x = some (.ref f)) (len : ∀ ds d, G ds d → ds.length = ps.length)
    (body : ∀ (X : Cx) (A : Anc), XF X N (defScope st) P w K mg base k → (∀ x, X.fn x = true) → PassesOwn (model X.prog X.w) X.A X.env X.xe → ∀ ds out, G ds out → Rs X K CU CN A [] out →
      SD X K A [] (ds.map (fun d => some (.sh d)) ++ List.replicate (N.length - ps.length) none) (defBody st) ⟨fun M _ => out = .ret .non ∧ M = [], fun M d => out = .ret d ∧ M = [], fun _ _ => False, fun _ _ => False⟩) : DfnO P w K mg base CU CN x (k + 1) G := by
  have hlen : ∀ vs H Q E, spO K CU CN G vs H Q E → vs.length = ps.length := fun vs H Q E h => by
    obtain ⟨Hs, ds, d, _, r, g, _⟩ := h
    rw [r.length, len ds d g]
  obtain ⟨oc, od, kV, doc, pm, an, cdv, ct, osl, rfl, lk, hcd⟩ := F.ex
  refine ⟨f, _, ps, fn_of lk hcd S hlen fun A outer s H vs Q E hr h => ?_, hm, F.kp, hb⟩
  have h0 := hlen _ _ _ _ h
  obtain ⟨Hs, ds, out, e, r, g, q, xk⟩ := h
  refine ⟨_, pss_w, ?_⟩
  have hX : XF (cxOf (L2N.CX P w) P w K mg base N qual (defScope st) f cdv A outer s H E) N (defScope st) P w K mg base k := ⟨rfl, rfl, rfl, rfl, rfl, rfl, rfl, rfl, hr, S.nd⟩
  have hst : StA K ⟨[], Hs, H⟩ [] (ds.map (fun d => some (.sh d)) ++ List.replicate (N.length - ps.length) none) [] (L2.start N vs) Hs H := by
    refine ⟨⟨e, by simp, fun a ha => by simp at ha, trivial, ?_⟩, .self⟩
    have h1 := start_slots (N.length - ps.length) r
    unfold L2.start
    rw [h0]
    exact h1
  have fin : ∀ fps Hs' H', StepA ⟨[], Hs, H⟩ fps Hs' H' → Ex Hs' H' → Step Hs H Hs' H' := fun fps Hs' H' h e' => ⟨h.s, fun a o ho => h.f a o ho (by simp), e', fun a h1 h2 => h.n a h1 (by simp) h2⟩
  refine wSs_mono (body _ ⟨[], Hs, H⟩ hX (fun _ => rfl) PassesOwn.leaving ds out g ⟨_, L2N.takes_of rfl rfl rfl rfl, fun σ => xk⟩ _ _ _ _ hst) ?_ ?_ (fun _ _ ⟨_, _, _, _, _, z⟩ => False.elim z) (fun _ _ ⟨_, _, _, _, _, z⟩ => False.elim z)
  · rintro σ' H' ⟨M', ρ', fps', Hs', h1, e1, h2⟩
    exact q .non e1 .non Hs' H' (fin _ _ _ h1.an h1.st.e) .non
  · rintro v H' ⟨M', d', fps', Hs', h1, h2, e1, h3⟩
    exact q d' e1 v Hs' H' (fin _ _ _ h1.an h1.st.e) h2
/-- f(desk, ..), a def by its name -/
theorem em_call (hX : XF X N sc P w K mg base k) {jn : Nat} {G : DeskSt → List D → Out → DeskSt → Prop} (F : DfnD P w K mg base CX C CU CN x jn G) (hj : jn ≤ k) (ho : EC X K A M ρ o jc) (hM : M[jc]? = some (.desk C s)) (ha : EDs X K A M ρ es ds) (hG : G s ds out s') (r : Rz CX X K CU CN A0 (M.set jc (.desk C s')) out ρ.length) (le : Anc.le A0 A) (hg : GlS sc x := by rfl)
    (hdb : (x == ("__debug__" : Str)) = false := by decide +kernel) (hst : starEach (o :: es) X.env = (false, eval o X.env) :: starEach es X.env := by exact star_cons rfl) (hpl : (backTo pos (starEach es X.env)).any (·.1) = false := by exact star_plain rfl) :
    EM X K A M ρ (.Call (.Name x p) (o :: es) [] pos) (M.set jc (.desk C s')) out := .mk fun fps σ Hs H hh => by
  obtain ⟨E, hx, hq⟩ := r
  obtain ⟨f, fd, ps, h1, h2, h3, h4⟩ := F.ex
  obtain ⟨_, _, rfl, rfl, rfl, rfl, rfl, _, rm, _⟩ := id hX
  refine wE_of (pe_callS (E := E) h1 (rm.mono hj) (hX.gl hg) h2 h3 h4 hx (pa_cons pe_w pa_w hst) hdb hst hpl) ?_
  refine wE_mono (ho _ _ _ _ hh) fun v H1 ⟨e1, ax, r, q1, q2⟩ => ?_
  subst e1; subst q2
  refine wA_mono (ha _ _ _ _ hh) fun vs H2 ⟨Hs2, s2, r2⟩ => ?_
  have hh2 := hh.step s2
  obtain ⟨Hs', f, x, vs', s0, ds0, out0, s0', z1, z2, z3, z4, z5, z6, z7⟩ := spD_use (s' := s') (E := E σ) hh2 q1 hM r2 hG ((hq σ hh.st.slots.length).up le)
  exact ⟨Hs', f, x, vs', s0, ds0, out0, s0', z1, z2, z3, z4, z5, fun d e v fps Hs'' H'' y1 y2 => by
    obtain ⟨d', fps', Hs3, w1, w2, w3, w4⟩ := z6 d e v fps Hs'' H'' y1 y2
    exact ⟨d', fps', Hs3, w1, w2, s2.s.trans w3, w4⟩, z7⟩
/-- a test by such a call -/
structure TM (X : Cx) (K : PySem.W.Frag) (A : Anc) (M : List Cell) (ρ : Env3) (e : Expr) (M' : List Cell) (t : Bool) : Prop where
  mk ::
  run : ∀ fps σ Hs H, StA K A M ρ fps σ Hs H → wT X e σ H fun c H' => c = t ∧ ∃ fps' Hs', StA K A M' ρ fps' σ Hs' H'
theorem tm_val {M' : List Cell} {t : Bool} (h : EM X K A M ρ e M' (.ret (.bl t))) (he : ∀ whole, isTrue e X.env whole = (do let v ← whole; standAt e.pos; holding [v] (truthy v)) := by intro _; rfl) : TM X K A M ρ e M' t := .mk fun fps σ Hs H hs => by
  refine wT_of (pt_val pe_w he) ?_
  refine wE_mono (h.run _ _ _ _ hs) fun x H1 ⟨d, fps', Hs1, e1, h1, _, r1⟩ => ?_
  cases e1
  cases r1
  exact ⟨t, rfl, rfl, fps', Hs1, h1⟩
theorem tm_not {M' : List Cell} {t : Bool} (h : TM X K A M ρ e M' t) : TM X K A M ρ (.UnaryOp .Not e pos) M' (!t) := .mk fun fps σ Hs H hs => by
  refine wT_of (pt_not pt_w) ?_
  exact wT_mono (h.run _ _ _ _ hs) fun c H1 ⟨e1, q⟩ => ⟨by rw [e1], q⟩
theorem tm_or2 {M1 M2 : List Cell} (h : TM X K A M ρ a M1 false) (h2 : TM X K A M1 ρ b M2 false) : TM X K A M ρ (.BoolOp .Or [a, b] pos) M2 false := .mk fun fps σ Hs H hs => by
  refine wT_of ((pw_or (pos := pos) (pt_w (e := a)) (pw_or1 (pos := pos) (pt_w (e := b)))).pt) ?_
  refine wT_mono (h.run _ _ _ _ hs) fun c H1 ⟨e1, fps1, Hs1, s1⟩ => ?_
  subst e1
  rw [if_neg Bool.false_ne_true]
  exact h2.run _ _ _ _ s1
theorem sd_skipM {M' : List Cell} {sa : List Stmt} (h : TM X K A M ρ c M' false) (h1 : SD X K A M' ρ rest R) : SD X K A M ρ (.If c sa [] pos :: rest) R := sd_cons <| .mk fun fps σ Hs H hh => by
  refine wS_of (ps_if pt_w pss_w pss_w) ?_
  refine wT_mono (h.run _ _ _ _ hh) fun t' H' ⟨e1, fps', Hs', s⟩ => ?_
  subst e1
  rw [if_neg Bool.false_ne_true]
  exact wSs_of pss_nil ⟨M', ρ, fps', Hs', s, h1⟩
end
end T3
/-! D1: hold_like, the inits, done, moved. -/
namespace Tl
open PySem L2 T3 TL PySem.Spec PyProof.Rows Ex3
local macro_rules | `(tactic| walk_at "len") => `(tactic| first | decide | (simp; done) | omega | (simp; omega))
theorem form_ext {a b : Form} (h : a.sp = b.sp ∧ a.n = b.n ∧ a.sg = b.sg ∧ a.pt = b.pt) : a = b := by
  obtain ⟨a1, a2, a3, a4⟩ := a
  obtain ⟨b1, b2, b3, b4⟩ := b
  obtain ⟨h1, h2, h3, h4⟩ := h
  cases h1; cases h2; cases h3; cases h4
  rfl
instance formDec : DecidableEq Form := fun a b => decidable_of_iff (a.sp = b.sp ∧ a.n = b.n ∧ a.sg = b.sg ∧ a.pt = b.pt) ⟨form_ext, fun h => by rw [h]; exact ⟨rfl, rfl, rfl, rfl⟩⟩
theorem kind_inj : ∀ a b : Bool, kindS a = kindS b → a = b := by decide +kernel
theorem sign_inj : ∀ a b : Sg, signS a = signS b → a = b
  | .no, .no, _ => rfl
  | .no, .en, h => absurd h (by decide +kernel)
  | .no, .te, h => absurd h (by decide +kernel)
  | .en, .no, h => absurd h (by decide +kernel)
  | .en, .en, _ => rfl
  | .en, .te, h => absurd h (by decide +kernel)
  | .te, .no, h => absurd h (by decide +kernel)
  | .te, .en, h => absurd h (by decide +kernel)
  | .te, .te, _ => rfl
def formL (f : Form) : List D := [.str (kindS f.sp), .int f.n, .str (signS f.sg), .int f.pt]
theorem eqvs_form (f g : Form) : eqvs (formL f) (formL g) = decide (f = g) := by
  rw [Bool.eq_iff_iff, decide_eq_true_iff]
  simp only [eqvs, formL, List.map_cons, List.map_nil, pyOf, PyData.eqvAll, PyData.eqv, Bool.and_eq_true, beq_iff_eq, and_true]
  constructor
  · rintro ⟨h1, h2, h3, h4⟩
    obtain ⟨a1, a2, a3, a4⟩ := f
    obtain ⟨b1, b2, b3, b4⟩ := g
    have e1 := kind_inj _ _ h1
    have e3 := sign_inj _ _ h3
    have e2 : a2 = b2 := Int.ofNat.inj h2
    have e4 : a4 = b4 := Int.ofNat.inj h4
    subst e1 e2 e3 e4
    rfl
  · rintro rfl
    exact ⟨rfl, rfl, rfl, rfl⟩
theorem form_flat (f : Form) : (formL f).all T3.flat = true := rfl
theorem form_shaped (f : Form) : SeqAt.shaped (.tuple ((formL f).map pyOf)) = true := by
  have h1 : ∀ a : Bool, PyData.strOk (kindS a) = true := by decide +kernel
  have h2 : ∀ a : Sg, PyData.strOk (signS a) = true
    | .no => by decide +kernel
    | .en => by decide +kernel
    | .te => by decide +kernel
  simp [SeqAt.shaped, formL, pyOf, PyData.canLay0, PyData.canLayAll0, PyData.depth, PyData.depthAll, h1, h2]
section
variable {X : Cx} {N : List Str} {sc : Scope} {P : Program} {w : World} {K : PySem.W.Frag} {mg : Str → Option Value} {base : Heap} {k : Nat}
variable {A : Anc} {M : List Cell} {ρ : Env3} {C CU CN : Addr}
/-! hold_like -/
def s_hold_like : Stmt := topS 93
theorem sc_hold_like : FnScope ["word", "first", "second"] ["word", "first", "second"] (defScope s_hold_like) := ⟨rfl, rfl, rfl, by decide +kernel, rfl, by decide +kernel, by decide +kernel⟩
def G_hold_like (ds : List D) (out : Out) : Prop := ∃ (wd : Str) (f g : Form), (wd = "less" ∨ wd = "order") ∧ ds = [.str wd, formD f, formD g] ∧ out = if f = g then .ret .non else .unl
theorem d_hold_like (T : Tops K mg) (EF : ExF K mg CU CN) {f : Addr} {fd : FuncData} (F : Fun K "hold_like" "hold_like" s_hold_like f fd) (hb : Binds K fd ["word", "first", "second"] []) (hm : mg "hold_like" = some (.ref f)) : DfnO P w K mg base CU CN "hold_like" 1 G_hold_like := by
  refine dfnO_of F sc_hold_like hb hm (fun ds d h => ?_) ?_
  · obtain ⟨_, _, _, _, rfl, _⟩ := h; rfl
  rintro X A hX hF hP ds out ⟨wd, f, g, hw, rfl, rfl⟩ rs
  have w1 : decide (wd ∈ ([("sum" : Str), "less", "order"] : List Str)) = true := by rcases hw with rfl | rfl <;> decide +kernel
  have w2 : decide (wd ∈ ([("times" : Str), "over"] : List Str)) = false := by rcases hw with rfl | rfl <;> decide +kernel
  have w3 : decide (wd = ("times" : Str)) = false := by rcases hw with rfl | rfl <;> decide +kernel
  have w4 : decide (wd = ("over" : Str)) = false := by rcases hw with rfl | rfl <;> decide +kernel
  refine sd_if (t := !decide (f = g)) (et_is (et_w (ew_and (et_cmp hX (ed_var hX 0 rfl rfl) (ed_tup (eds_cons ed_str (eds_cons ed_str (eds_cons ed_str eds_nil))) (by decide)) (o_inTS ["sum", "less", "order"])) (fun _ => ew_and1 (et_cmp hX (ed_var hX 1 rfl rfl) (ed_var hX 2 rfl rfl) (o_neT (form_flat f) (form_flat g) (form_shaped f) (form_shaped g)))))) (by rw [w1]; show (true && !eqvs (formL f) (formL g)) = _; rw [eqvs_form]; rfl)) (fun ht => ?_) (fun ht => ?_)
  · have e : f ≠ g := by simpa using ht
    rw [if_neg e] at rs ⊢
    exact sd_raiseU hX EF rs .self
  · have e : f = g := by simpa using ht
    rw [if_pos e] at rs ⊢
    refine sd_nil ?_
    refine sd_skip (et_is (et_w (ew_and (u := false) (et_cmp hX (ed_var hX 0 rfl rfl) (ed_tup (eds_cons ed_str (eds_cons ed_str eds_nil)) (by decide)) (o_inTS ["times", "over"])) (fun q => absurd q (by rw [w2]; exact Bool.false_ne_true)))) (by rw [w2]; rfl)) ?_
    refine sd_skip (et_is (et_w (ew_and (u := false) (et_cmp hX (ed_var hX 0 rfl rfl) ed_str o_eqS) (fun q => absurd q (by rw [w3]; exact Bool.false_ne_true)))) (by rw [w3]; rfl)) ?_
    refine sd_skip (et_is (et_w (ew_and (u := false) (et_cmp hX (ed_var hX 0 rfl rfl) ed_str o_eqS) (fun q => absurd q (by rw [w4]; exact Bool.false_ne_true)))) (by rw [w4]; rfl)) ?_
    refine sd_skip (et_is (et_w (ew_and (u := false) (et_cmp hX (ed_var hX 0 rfl rfl) ed_str o_eqS) (fun q => absurd q (by rw [w4]; exact Bool.false_ne_true)))) (by rw [w4]; rfl)) ?_
    exact sd_nil ⟨rfl, rfl⟩
end
end Tl
/-! D2: the inits. -/
namespace T3
open PySem L2 PySem.Spec PyProof.Rows Ex3
section
variable {K : PySem.W.Frag} {Hs H Hs' H' : Hp} {A : Anc} {M : List Cell} {ρ ρ' : Env3} {fps : List (List Addr)} {σ σ' : L2.St}
/-- a new footprint of one's own joins the cells -/
theorem StA.pushN (h : StA K A M ρ fps σ Hs H) (s : Step Hs H Hs' H') {f : List Addr} {c : Cell} (nd : f.Nodup) (new : ∀ b ∈ f, H b = none ∧ Hs' b = none ∧ H' b ≠ none) (r : CellOk K Hs' H' f c) : StA K A (M ++ [c]) ρ (fps ++ [f]) σ Hs' H' := by
  have h' := h.step s
  have np : ∀ b ∈ f, b ∉ fps.flatten := fun b hb z => (h.st.own b z).2 (new b hb).1
  have ef : (fps ++ [f]).flatten = fps.flatten ++ f := by simp
  refine ⟨⟨h'.st.e, ?_, fun a ha => ?_, h'.st.cells.snoc r, h'.st.slots.snoc⟩, h'.an.s, h'.an.f, h'.an.n, fun a ha => ?_, fun j f0 hj => ?_⟩
  · rw [ef]
    refine List.nodup_append.mpr ⟨h.st.nd, nd, fun a ha b hb z => ?_⟩
    subst z
    exact np a hb ha
  · rw [ef] at ha
    rcases List.mem_append.mp ha with q | q
    · exact h'.st.own a q
    · exact (new a q).2
  · rw [ef] at ha
    rcases List.mem_append.mp ha with q | q
    · exact h'.an.w a q
    · by_cases hA : A.H a = none
      · exact .inr hA
      · by_cases hf : a ∈ A.fps.flatten
        · exact .inl hf
        · exfalso
          cases q2 : A.H a with
          | none => exact hA q2
          | some o =>
            have := (new a q).1
            rw [h.an.f a o q2 hf] at this; cases this
  · obtain ⟨f', e1, q1⟩ := h.an.hd j f0 hj
    refine ⟨f', ?_, q1⟩
    rw [List.getElem?_append_left (List.getElem?_eq_some_iff.mp e1).1]
    exact e1
end
end T3
namespace Tl
open PySem L2 T3 TL PySem.Spec PyProof.Rows Ex3
local macro_rules | `(tactic| walk_at "len") => `(tactic| first | decide | (simp; done) | omega | (simp; omega))
section
variable {X : Cx} {N : List Str} {sc : Scope} {P : Program} {w : World} {K : PySem.W.Frag} {mg : Str → Option Value} {base : Heap} {k : Nat}
variable {A : Anc} {M : List Cell} {ρ : Env3} {C CU CN : Addr} {R : Post} {rest : List Stmt} {p p2 p3 pos pos' : Pos}
/-! NoName's __init__ -/
def s_nn : Stmt := inClass (topS 11) 0
theorem sc_nn : FnScope ["self", "name"] ["self", "name"] (defScope s_nn) := ⟨rfl, rfl, rfl, by decide +kernel, rfl, by decide +kernel, by decide +kernel⟩
theorem d_nn {f L : Addr} {fd : FuncData} (F : Fun K "__init__" "NoName.__init__" s_nn f fd) (hm : mg "LoftError" = some (.ref L)) (O : OwnInit K L) : FnOk P w K mg base CX0 2 f fd ["self", "name"] (spNN K) := by
  refine F.ok sc_nn (fun vs H Q E h => ?_) fun cdv A outer s H vs Q E hr h => ?_
  · obtain ⟨a, C, y, rfl, _⟩ := h; rfl
  obtain ⟨a, C, y, rfl, oC, nC, ha, q⟩ := h
  refine ⟨_, pss_cons (ps_expr (pe_owninit (show _ = _ from rfl) hm O (pa_cons (pe_var (i := 0) rfl (.inl rfl)) (pa_cons pe_str pa_nil)))) (pss_cons (ps_ost (pe_var (i := 0) rfl (.inl rfl)) (pe_var (i := 1) rfl (.inl rfl))) pss_nil), ?_⟩
  refine ⟨.ref a, rfl, a, C, [.str "no name"], rfl, by decide, oC, ha, ?_⟩
  refine ⟨y, rfl, .ref a, rfl, a, C, rfl, oC, nC, .inl ⟨ha, fun dx n ne => q dx n ne⟩⟩
/-! Desk's __init__ -/
def s_dk : Stmt := inClass (topS 95) 0
theorem sc_dk : FnScope ["self"] ["self"] (defScope s_dk) := ⟨rfl, rfl, rfl, by decide +kernel, rfl, by decide +kernel, by decide +kernel⟩
/-- at a new object: its three fields -/
def spDk (C : Addr) : Sp := fun vs H Q _ => ∃ (x dx : Addr), vs = [.ref x] ∧ H x = some (.ins C dx []) ∧ ∀ n l1 l2 H', H n = none → H l1 = none → H l2 = none → n ≠ l1 → n ≠ l2 → l1 ≠ l2 →
  H' x = some (.ins C dx [(nNames, .ref n), (nPast, .ref l1), (nUndone, .ref l2)]) → H' n = some (.dK []) → H' l1 = some (.lst []) → H' l2 = some (.lst []) → (∀ b, b ≠ x → b ≠ n → b ≠ l1 → b ≠ l2 → H' b = H b) → Q .non H'
theorem d_dk (DF : DeskF K C) {f : Addr} {fd : FuncData} (F : Fun K "__init__" "Desk.__init__" s_dk f fd) : FnOk P w K mg base CX0 2 f fd ["self"] (spDk C) := by
  refine F.ok sc_dk (fun vs H Q E h => ?_) fun cdv A outer s H vs Q E hr h => ?_
  · obtain ⟨x, dx, rfl, _⟩ := h; rfl
  obtain ⟨x, dx, rfl, hx, q⟩ := h
  refine ⟨_, pss_cons (ps_fld (pe_var (i := 0) rfl (.inl rfl)) pe_dnewK rfl) (pss_cons (ps_fld (pe_var (i := 0) rfl (.inl rfl)) (pe_lst pa_nil) rfl) (pss_cons (ps_fld (pe_var (i := 0) rfl (.inl rfl)) (pe_lst pa_nil) rfl) pss_nil)), ?_⟩
  intro n hn
  have nx : x ≠ n := fun z => by rw [z, hn] at hx; cases hx
  refine ⟨.ref x, rfl, x, C, dx, [], rfl, by rw [upd_ne nx]; exact hx, DF.cls, DF.names, by show 0 < 1000; decide, ?_⟩
  refine ⟨Nat.zero_le _, fun l1 hl1 => ?_⟩
  have x1 : l1 ≠ x := fun z => by subst z; rw [upd_same] at hl1; cases hl1
  rw [upd_ne x1] at hl1
  have n1 : l1 ≠ n := fun z => by subst z; rw [upd_same] at hl1; cases hl1
  rw [upd_ne n1] at hl1
  refine ⟨.ref x, rfl, x, C, dx, [(nNames, .ref n)], rfl, by rw [upd_ne x1.symm, upd_same]; rfl, DF.cls, DF.past, by show 1 < 1000; decide, ?_⟩
  refine ⟨Nat.zero_le _, fun l2 hl2 => ?_⟩
  have x2 : l2 ≠ x := fun z => by subst z; rw [upd_same] at hl2; cases hl2
  rw [upd_ne x2] at hl2
  have n2 : l2 ≠ l1 := fun z => by subst z; rw [upd_same] at hl2; cases hl2
  rw [upd_ne n2, upd_ne x2] at hl2
  have n3 : l2 ≠ n := fun z => by subst z; rw [upd_same] at hl2; cases hl2
  rw [upd_ne n3] at hl2
  have e1 : ¬ nNames = nPast := by decide +kernel
  have e2 : ¬ nNames = nUndone := by decide +kernel
  have e3 : ¬ nPast = nUndone := by decide +kernel
  refine ⟨.ref x, rfl, x, C, dx, [(nNames, .ref n), (nPast, .ref l1)], rfl, by rw [upd_ne x2.symm, upd_same]; simp [putF, e1], DF.cls, DF.undone, by show 2 < 1000; decide, ?_⟩
  refine q n l1 l2 _ hn hl1 hl2 n1.symm n3.symm n2.symm (by rw [upd_same]; simp [putF, e2, e3]) ?_ ?_ ?_ fun b h1 h2 h3 h4 => ?_
  · rw [upd_ne nx.symm, upd_ne n3.symm, upd_ne nx.symm, upd_ne n1.symm, upd_ne nx.symm, upd_same]
  · rw [upd_ne x1, upd_ne n2.symm, upd_ne x1, upd_same]
  · rw [upd_ne x2, upd_same]
  · rw [upd_ne h1, upd_ne h4, upd_ne h1, upd_ne h3, upd_ne h1, upd_ne h2]
/-- how a desk is made -/
structure DeskMk (P : Program) (w : World) (K : PySem.W.Frag) (mg : Str → Option Value) (base : Heap) (C : Addr) (j : Nat) : Prop where
  ex : ∃ f fd, FnOk P w K mg base CX0 j f fd ["self"] (spDk C) ∧ Mk K C f ∧ Binds K fd ["self"] [] ∧ mg "Desk" = some (.ref C)
/-- x = Desk() -/
theorem sd_setDesk (hX : XF X N sc P w K mg base k) (i : Nat) {x : Str} {j : Nat} (F : DeskMk P w K mg base C j) (hj : j + 1 ≤ k) (hN : N[i]? = some x) (q : SD X K A (M ++ [.desk C ⟨.dct [] [], [], []⟩]) (ρ.set i (some (.cell M.length))) rest R) (hl : Loc sc x := by first | exact .inl rfl | exact .inr rfl)
    (hg : GlS sc "Desk" := by rfl) (hs : swapsWith (.Call (.Name "Desk" p) [] [] p2) (some (.Name x pos')) pos.line X.env = pure false := by rfl) (hF : ∀ x, X.fn x = true := by assumption) : SD X K A M ρ (.Assign [.Name x pos'] (.Call (.Name "Desk" p) [] [] p2) pos :: rest) R := sd_cons <| .mk fun fps σ Hs H hh => by
  obtain ⟨f, fd, h1, h2, h3, h4⟩ := F.ex
  obtain ⟨_, _, rfl, rfl, rfl, rfl, rfl, _, rm, nd⟩ := id hX
  refine wS_of (ps_set (i := i) (by rw [hX.eN]; exact nd) (by rw [hX.eN]; exact hN) (hX.loc hl) (pe_make0 (E := E0) h2 h1 (rm.mono hj) (hX.gl hg) h4 h3 .nil pass0 (by decide +kernel)) hs (hX.sto hF hl)) ?_
  intro x dx hx hdx hne
  refine ⟨x, dx, rfl, upd_same, fun n l1 l2 H' hn hl1 hl2 n1 n2 n3 g1 g2 g3 g4 g5 => ⟨rfl, ?_⟩⟩
  have ne0 : ∀ b, (upd (upd H dx (.own x)) x (.ins C dx [])) b = none → b ≠ x ∧ b ≠ dx ∧ H b = none := fun b hb => by
    by_cases z : b = x
    · subst z; rw [upd_same] at hb; cases hb
    · rw [upd_ne z] at hb
      by_cases z2 : b = dx
      · subst z2; rw [upd_same] at hb; cases hb
      · rw [upd_ne z2] at hb; exact ⟨z, z2, hb⟩
  obtain ⟨an, bn, cn⟩ := ne0 n hn
  obtain ⟨a1, b1, c1⟩ := ne0 l1 hl1
  obtain ⟨a2, b2, c2⟩ := ne0 l2 hl2
  have ex : Ex H H' := fun b o hb => by
    have e1 : b ≠ x := fun z => by rw [z, hx] at hb; cases hb
    have e2 : b ≠ n := fun z => by rw [z, cn] at hb; cases hb
    have e3 : b ≠ l1 := fun z => by rw [z, c1] at hb; cases hb
    have e4 : b ≠ l2 := fun z => by rw [z, c2] at hb; cases hb
    have e5 : b ≠ dx := fun z => by rw [z, hdx] at hb; cases hb
    rw [g5 b e1 e2 e3 e4, upd_ne e1, upd_ne e5]
    exact hb
  have hsn : ∀ b, H b = none → b ≠ n → upd Hs n (.dK []) b = none := fun b hb hne => by rw [upd_ne hne]; exact hh.st.e.back hb
  have s : Step Hs H (upd Hs n (.dK [])) H' := by
    refine ⟨.new (hh.st.e.back cn), ex, fun b o hb => ?_, fun b h1 h2 => ?_⟩
    · by_cases z : b = n
      · subst z; rw [upd_same] at hb; cases hb; exact g2
      · rw [upd_ne z] at hb; exact ex b o (hh.st.e b o hb)
    · rw [upd_ne (fun z => h1 (by rw [z]; exact cn))]; exact h2
  have h' := hh.pushN s (f := [x, l1, l2]) (c := .desk C ⟨.dct [] [], [], []⟩) ?_ ?_ ⟨dx, .ref n, [], [], g1, .dct (Rd.of upd_same) rfl .nil, g3, .nil, g4, .nil⟩
  · refine ⟨_, _, _, _, h'.slots (h'.st.slots.set i (s := .cell M.length) ⟨x, [l1, l2], ?_, rfl⟩), q⟩
    rw [← hh.st.cells.length, List.getElem?_append_right (Nat.le_refl _), Nat.sub_self]
    rfl
  · simp only [List.nodup_cons, List.mem_cons, List.not_mem_nil, or_false, not_or, not_false_eq_true, and_true]
    exact ⟨⟨a1.symm, a2.symm⟩, n3, trivial, List.nodup_nil⟩
  · intro b hb
    simp only [List.mem_cons, List.not_mem_nil, or_false] at hb
    rcases hb with rfl | rfl | rfl
    · exact ⟨hx, hsn b hx an.symm, by rw [g1]; exact fun z => nomatch z⟩
    · exact ⟨c1, hsn b c1 n1.symm, by rw [g3]; exact fun z => nomatch z⟩
    · exact ⟨c2, hsn b c2 n2.symm, by rw [g4]; exact fun z => nomatch z⟩
end
end Tl
/-! D3: done, moved. -/
namespace Tl
open PySem L2 T3 TL PySem.Spec PyProof.Rows Ex3
local macro_rules | `(tactic| walk_at "len") => `(tactic| first | decide | (simp; done) | omega | (simp; omega))
section
variable {X : Cx} {N : List Str} {sc : Scope} {P : Program} {w : World} {K : PySem.W.Frag} {mg : Str → Option Value} {base : Heap} {k : Nat}
variable {A : Anc} {M : List Cell} {ρ : Env3} {C CU CN : Addr} {R : Post} {rest : List Stmt} {p p2 p3 pos pos' : Pos}
/-- a deed on one name: another thing, or none -/
def actS (S : Sta) (x : Str) : Option Thing → Sta
  | some t => putS S x t
  | none => dropS S x
def actD : Option Thing → D
  | some t => t.d
  | none => .non
def s_done : Stmt := inClass (topS 95) 2
theorem sc_done : FnScope ["self", "rows", "answer", "names", "name", "thing"] ["self", "rows", "answer"] (defScope s_done) := ⟨rfl, rfl, rfl, by decide +kernel, rfl, by decide +kernel, by decide +kernel⟩
def G_done (s : DeskSt) (ds : List D) (out : Out) (s' : DeskSt) : Prop := ∃ (S : Sta) (x : Str) (t : Option Thing) (z : Str), S.length ≤ 100 ∧ (t = none → x ∈ keysS S) ∧ s.now = staD S ∧ s.past.length < 1000 ∧ ds = [.lst [.tup [.str x, actD t]], .str z] ∧ out = .ret (.str z) ∧ s' = ⟨staD (actS S x t), s.past ++ [staD S], []⟩
theorem d_done (T : Tops K mg) (DF : DeskF K C) {f : Addr} {fd : FuncData} (F : Fun K "done" "Desk.done" s_done f fd) (hb : Binds K fd ["self", "rows", "answer"] []) (hm : Meth K C "done" f) : MthD P w K mg base CX0 C CU CN "done" 1 G_done := by
  refine ⟨f, fd, _, fnD0 F sc_done (fun s ds out s' h => ?_) ?_, hm, hb⟩
  · obtain ⟨_, _, _, _, _, _, _, _, rfl, _⟩ := h; rfl
  rintro X A hX hF hP hA ⟨now, past, undone⟩ ds out s' ⟨S, x, t, z, hS, ht, e1, hp, rfl, rfl, rfl⟩
  have e1 : now = staD S := e1
  have hp : past.length < 1000 := hp
  subst e1
  refine sd_setDc hX 3 rfl T.dict b_dict (ks := keysS S) (ds := valsS S) (ed_now (s := ⟨staD S, past, undone⟩) hX DF (ec_var hX 0 rfl rfl) rfl) ?_
  refine sd_forE hX (ei_lst hX (ed_var hX 1 rfl rfl)) (fun i => match i with | 0 => [.desk C ⟨staD S, past, undone⟩, .dct (keysS S) (valsS S)] | _ => [.desk C ⟨staD S, past, undone⟩, .dct (keysS (actS S x t)) (valsS (actS S x t))]) (fun i => [some (.cell 0), none, some (.sh (.str z)), some (.cell 1), none, none]) ⟨rfl, rfl, rfl, rfl, trivial⟩ ?_ ?_ hP
  · intro A' le i d hd
    cases i with
    | succ i => simp at hd
    | zero =>
      simp at hd
      subst hd
      refine ⟨_, _, tg_tup hX (tgs_cons (tg_name hX 4 rfl) (tgs_cons (tg_name hX 5 rfl) tgs_nil)) rfl, ?_⟩
      cases t with
      | none =>
        refine sd_ifT (et_cmp hX (ed_var hX 5 rfl rfl) ed_non o_isN) ?_
        refine sd_dpop hX (ec_var hX 3 rfl rfl) (ed_var hX 4 rfl rfl) rfl (ht rfl) ?_
        refine sd_nil (sd_nil ⟨?_, rfl, rfl, rfl, trivial⟩)
        rw [drop_S]
        rfl
      | some t =>
        refine sd_ifF (et_cmp hX (ed_var hX 5 rfl rfl) ed_non o_isN) ?_
        refine sd_dput hX (ed_var hX 5 rfl rfl) (ec_var hX 3 rfl rfl) (ed_var hX 4 rfl rfl) rfl (by simp [keysS]; omega) ?_
        refine sd_nil (sd_nil ⟨?_, rfl, rfl, rfl, trivial⟩)
        show [_, Cell.dct (putD (keysS S) (valsS S) x t.d).1 (putD (keysS S) (valsS S) x t.d).2] = [_, Cell.dct (keysS (putS S x t)) (valsS (putS S x t))]
        rw [put_S]
  refine sd_app_past hX DF (ec_var hX 0 rfl rfl) rfl (ed_now hX DF (ec_var hX 0 rfl rfl) rfl) (by show past.length < _; omega) ?_
  refine sd_newUndone hX DF (ec_var hX 0 rfl rfl) rfl ?_
  refine sd_freezeD 3 1 rfl rfl rfl ?_
  refine sd_setNow hX DF (ec_var hX 0 rfl rfl) rfl (ed_var hX 3 rfl rfl) ?_
  exact sd_ret (ed_var hX 2 rfl rfl) ⟨rfl, rfl⟩
/-! moved -/
def s_moved : Stmt := inClass (topS 95) 3
theorem sc_moved : FnScope ["self", "word"] ["self", "word"] (defScope s_moved) := ⟨rfl, rfl, rfl, by decide +kernel, rfl, by decide +kernel, by decide +kernel⟩
def G_moved (s : DeskSt) (ds : List D) (out : Out) (s' : DeskSt) : Prop := ∃ (l : List D) (d : D), s.past.length < 1000 ∧ s.undone.length < 1000 ∧ out = .ret (.str "done") ∧
  ((ds = [.str "undo"] ∧ s.past = l ++ [d] ∧ s' = ⟨d, l, s.undone ++ [s.now]⟩) ∨ (ds = [.str "again"] ∧ s.undone = l ++ [d] ∧ s' = ⟨d, s.past ++ [s.now], l⟩))
theorem d_moved (T : Tops K mg) (DF : DeskF K C) {f : Addr} {fd : FuncData} (F : Fun K "moved" "Desk.moved" s_moved f fd) (hb : Binds K fd ["self", "word"] []) (hm : Meth K C "moved" f) : MthD P w K mg base CX0 C CU CN "moved" 1 G_moved := by
  refine ⟨f, fd, _, fnD0 F sc_moved (fun s ds out s' h => ?_) ?_, hm, hb⟩
  · obtain ⟨_, _, _, _, _, ⟨rfl, _⟩ | ⟨rfl, _⟩⟩ := h <;> rfl
  rintro X A hX hF hP hA ⟨now, past, undone⟩ ds out s' ⟨l, d, hp, hu, rfl, h⟩
  have hp : past.length < 1000 := hp
  have hu : undone.length < 1000 := hu
  rcases h with ⟨rfl, e1, rfl⟩ | ⟨rfl, e1, rfl⟩
  · have e1 : past = l ++ [d] := e1
    refine sd_skip (et_is (et_w (ew_or (t := false) (u := false) (et_is (et_w (ew_and (t := false) (u := true) (et_is (et_cmp hX (ed_len_past hX DF T.len b_len (ec_var hX 0 rfl rfl) rfl) ed_int o_eqI) (decide_eq_false (by show ¬ ((past.length : Nat) : Int) = 0; rw [e1]; simp; omega))) (fun q => nomatch q))) rfl) (fun _ => ew_or1 (et_is (et_w (ew_and (u := false) (et_cmp hX (ed_len_undone hX DF T.len b_len (ec_var hX 0 rfl rfl) rfl) ed_int o_eqI) (fun _ => ew_and1 (et_is (et_cmp hX (ed_var hX 1 rfl rfl) ed_str o_eqS) (by decide +kernel))))) (by rw [Bool.and_false]))))) rfl) ?_
    refine sd_ifT (et_is (et_cmp hX (ed_var hX 1 rfl rfl) ed_str o_eqS) (by decide +kernel)) ?_
    refine sd_app_undone hX DF (ec_var hX 0 rfl rfl) rfl (ed_now hX DF (ec_var hX 0 rfl rfl) rfl) (by show undone.length < _; omega) ?_
    refine sd_pop_past hX DF (fun M => ec_var hX 0 rfl rfl) (ec_var hX 0 rfl rfl) rfl e1 ?_
    exact sd_nil (sd_ret ed_str ⟨rfl, rfl⟩)
  · have e1 : undone = l ++ [d] := e1
    refine sd_skip (et_is (et_w (ew_or (t := false) (u := false) (et_is (et_w (ew_and (u := false) (et_cmp hX (ed_len_past hX DF T.len b_len (ec_var hX 0 rfl rfl) rfl) ed_int o_eqI) (fun _ => ew_and1 (et_is (et_cmp hX (ed_var hX 1 rfl rfl) ed_str o_eqS) (by decide +kernel))))) (by rw [Bool.and_false])) (fun _ => ew_or1 (et_is (et_w (ew_and (t := false) (u := true) (et_is (et_cmp hX (ed_len_undone hX DF T.len b_len (ec_var hX 0 rfl rfl) rfl) ed_int o_eqI) (decide_eq_false (by show ¬ ((undone.length : Nat) : Int) = 0; rw [e1]; simp; omega))) (fun q => nomatch q))) rfl)))) rfl) ?_
    refine sd_ifF (et_is (et_cmp hX (ed_var hX 1 rfl rfl) ed_str o_eqS) (by decide +kernel)) ?_
    refine sd_app_past hX DF (ec_var hX 0 rfl rfl) rfl (ed_now hX DF (ec_var hX 0 rfl rfl) rfl) (by show past.length < _; omega) ?_
    refine sd_pop_undone hX DF (fun M => ec_var hX 0 rfl rfl) (ec_var hX 0 rfl rfl) rfl e1 ?_
    exact sd_nil (sd_ret ed_str ⟨rfl, rfl⟩)
end
end Tl
set_option maxHeartbeats 200000
/-! M9: the mirror: names in order, questions. -/
namespace Tl
open PySem L2 T3 TL PySem.Spec PyProof.Rows
theorem cps_anti : ∀ a b : List Nat, ltCps b a = false → ltCps a b = false → a = b
  | [], [], _, _ => rfl
  | [], _ :: _, _, h => by simp [ltCps] at h
  | _ :: _, [], h, _ => by simp [ltCps] at h
  | x :: a, y :: b, h1, h2 => by
    simp only [ltCps, Bool.or_eq_false_iff, decide_eq_false_iff_not, Bool.and_eq_false_iff, beq_eq_false_iff_ne] at h1 h2
    have e : x = y := by omega
    subst e
    rw [cps_anti a b (h1.2.resolve_left fun z => z rfl) (h2.2.resolve_left fun z => z rfl)]
theorem cps_trans : ∀ a b c : List Nat, ltCps b a = false → ltCps c b = false → ltCps c a = false
  | [], _, [], _, _ => rfl
  | [], _, _ :: _, _, _ => rfl
  | _ :: _, [], _, h, _ => by simp [ltCps] at h
  | _ :: _, _ :: _, [], _, h => by simp [ltCps] at h
  | x :: a, y :: b, z :: c, h1, h2 => by
    simp only [ltCps, Bool.or_eq_false_iff, decide_eq_false_iff_not, Bool.and_eq_false_iff, beq_eq_false_iff_ne] at h1 h2 ⊢
    refine ⟨by omega, ?_⟩
    by_cases e : z = x
    · have e1 : y = x := by omega
      have e2 : z = y := by omega
      exact .inr (cps_trans a b c (h1.2.resolve_left fun q => q e1) (h2.2.resolve_left fun q => q e2))
    · exact .inl e
def leS (a b : Str) : Prop := ltCps b.cps.toList a.cps.toList = false
theorem rising_pw : ∀ (l : List Str) (p : Str), risingS p l = true → (p :: l).Pairwise leS
  | [], p, _ => by simp
  | x :: r, p, h => by
    rw [risingS, Bool.and_eq_true] at h
    have ih := rising_pw r x h.2
    refine List.pairwise_cons.mpr ⟨fun y hy => ?_, ih⟩
    have h0 : leS p x := by simpa [leS] using h.1
    rcases List.mem_cons.mp hy with q | q
    · rw [q]; exact h0
    · exact cps_trans _ _ _ h0 ((List.pairwise_cons.mp ih).1 y q)
theorem sorted_pw : ∀ l : List Str, sortedS l = true → l.Pairwise leS
  | [], _ => .nil
  | x :: r, h => rising_pw r x h
theorem str_cps {a b : Str} (h : a.cps.toList = b.cps.toList) : a = b := by
  obtain ⟨⟨a⟩⟩ := a
  obtain ⟨⟨b⟩⟩ := b
  cases h
  rfl
theorem sorted_one {a b : List Str} (h : a.Perm b) (ha : sortedS a = true) (hb : sortedS b = true) : a = b :=
  List.Perm.eq_of_pairwise (le := leS) (fun x y _ _ h1 h2 => str_cps (cps_anti _ _ h1 h2)) (sorted_pw _ ha) (sorted_pw _ hb) h
open Classical in
noncomputable def sortF (l : List Str) : List Str := if h : ∃ ys : List Str, ys.Perm l ∧ sortedS ys = true then choose h else l
theorem sortF_perm (l : List Str) : (sortF l).Perm l := by
  unfold sortF
  split
  · rename_i h; exact (Classical.choose_spec h).1
  · exact .refl _
theorem sortF_eq {l ys : List Str} (h : ys.Perm l) (hs : sortedS ys = true) : ys = sortF l := by
  have hx : ∃ ys : List Str, ys.Perm l ∧ sortedS ys = true := ⟨ys, h, hs⟩
  unfold sortF
  rw [dif_pos hx]
  have := Classical.choose_spec hx
  exact sorted_one (h.trans this.1.symm) hs this.2
noncomputable def namesT (S : Sta) : Str := if (Txt.join " " (sortF (keysS S))).length != 0 then Txt.join " " (sortF (keysS S)) else "none"
theorem perm_sum {a b : List Nat} (h : a.Perm b) : a.sum = b.sum := by
  induction h with
  | nil => rfl
  | cons x _ ih => simp [ih]
  | swap x y l => simp; omega
  | trans _ _ i1 i2 => rw [i1, i2]
theorem sortF_short {S : Sta} (h : StaOk S) : ((sortF (keysS S)).map (·.length)).sum + (sortF (keysS S)).length * (" " : Str).length ≤ 1000 := by
  have h1 := sortF_perm (keysS S)
  have h2 : ((sortF (keysS S)).map (·.length)).sum = ((keysS S).map (·.length)).sum := perm_sum (h1.map _)
  have h3 : (sortF (keysS S)).length = S.length := by rw [h1.length_eq]; simp [keysS]
  have h4 : ∀ T : Sta, (∀ p ∈ T, NameOk p.1) → ((keysS T).map (·.length)).sum ≤ 12 * T.length := by
    intro T
    induction T with
    | nil => intro _; simp [keysS]
    | cons p T ih =>
      intro hT
      have a := ih fun q hq => hT q (List.mem_cons_of_mem _ hq)
      have b : p.1.length ≤ 12 := (hT p List.mem_cons_self).l12
      simp only [keysS, List.map_cons, List.sum_cons, List.length_cons] at a ⊢
      omega
  have h5 := h4 S h.names
  have h6 := h.few
  have e : (" " : Str).length = 1 := by decide +kernel
  rw [h2, h3, e]
  omega
end Tl
set_option maxHeartbeats 2000000
/-! D4: laid, of_two. -/
namespace Tl
open PySem L2 T3 TL PySem.Spec PyProof.Rows Ex3
local macro_rules | `(tactic| walk_at "len") => `(tactic| first | decide | (simp; done) | omega | (simp; omega))
theorem pairs_byte : ∀ {l : List Int}, (∀ x ∈ l, 0 ≤ x ∧ x ≤ 15) → ∀ b ∈ pairs l, Byte b
  | [], _, b, h => by simp [pairs] at h
  | [_], _, b, h => by simp [pairs] at h
  | x :: y :: r, hl, b, h => by
    have h1 := hl x (by simp)
    have h2 := hl y (by simp)
    rcases List.mem_cons.mp h with q | q
    · rw [q]; exact ⟨by omega, by omega⟩
    · exact pairs_byte (fun z hz => hl z (by simp [hz])) b q
theorem row_facts {t : Thing} (ok : t.Ok) : t.row.length ≤ 12 ∧ t.row ≠ [] ∧ ∀ b ∈ t.row, Byte b := by
  have g : Good t.f t.fs t.h := ok
  have h1 := g.ok.n1
  have h2 := g.ok.n12
  have e := rowW_length (f := t.f) (h := t.h) g.len
  have hev := hlen_even t.f
  have hl : 1 ≤ hlen t.f ∧ hlen t.f ≤ 24 := by
    unfold hlen
    split
    · omega
    · have a1 : ahead t.f ≤ 1 := by unfold ahead; omega
      have a2 : e01 t.f ≤ 1 := by unfold e01; cases t.f.sg <;> decide
      omega
  refine ⟨by show (rowW t.f t.fs t.h).length ≤ 12; omega, fun z => ?_, pairs_byte (halves_mem g.fig g.h10 g.h15)⟩
  have z : rowW t.f t.fs t.h = [] := z
  rw [z] at e
  simp at e
  omega
section
variable {X : Cx} {N : List Str} {sc : Scope} {P : Program} {w : World} {K : PySem.W.Frag} {mg : Str → Option Value} {base : Heap} {k : Nat}
variable {A : Anc} {M : List Cell} {ρ : Env3} {C CU CN : Addr} {R : Post} {rest : List Stmt} {p p2 p3 pos pos' : Pos}
/-! laid -/
def s_laid : Stmt := inClass (topS 95) 4
theorem sc_laid : FnScope ["self", "word", "name", "form", "text", "row"] ["self", "word", "name", "form", "text"] (defScope s_laid) := ⟨rfl, rfl, rfl, by decide +kernel, rfl, by decide +kernel, by decide +kernel⟩
def G_laid (s : DeskSt) (ds : List D) (out : Out) (s' : DeskSt) : Prop := ∃ (S : Sta) (x : Str) (t : Thing), S.length ≤ 100 ∧ t.Ok ∧ s.now = staD S ∧ s.past.length < 1000 ∧ ds = [.str "lay", .str x, formD t.f, .str (hexT t.row)] ∧ out = .ret (.str "done") ∧ s' = ⟨staD (putS S x t), s.past ++ [staD S], []⟩
theorem d_laid (T : Tops K mg) (DF : DeskF K C) (D_unhexed : Dfn P w K mg base "unhexed" 2 G_unhexed) (D_number_of : Dfn P w K mg base "number_of" 4 G_number_of) (D_done : MthD P w K mg base CX0 C CU CN "done" 1 G_done) {f : Addr} {fd : FuncData} (F : Fun K "laid" "Desk.laid" s_laid f fd) (hb : Binds K fd ["self", "word", "name", "form", "text"] []) (hm : Meth K C "laid" f) : MthD P w K mg base CX0 C CU CN "laid" 5 G_laid := by
  refine ⟨f, fd, _, fnD0 F sc_laid (fun s ds out s' h => ?_) ?_, hm, hb⟩
  · obtain ⟨_, _, _, _, _, _, _, rfl, _⟩ := h; rfl
  rintro X A hX hF hP hA s ds out s' ⟨S, x, t, hS, ok, e1, hp, rfl, rfl, rfl⟩
  obtain ⟨r1, r2, r3⟩ := row_facts ok
  refine sd_skip (et_is (et_cmp hX (ed_var hX 1 rfl rfl) ed_str o_eqS) (by decide +kernel)) ?_
  refine sd_set hX 5 rfl (ed_call hX D_unhexed (by decide) (eds_cons (ed_var hX 4 rfl rfl) eds_nil) ⟨t.row, r1, r2, r3, rfl, rfl⟩) ?_
  refine sd_expr (ed_call hX D_number_of (by decide) (eds_cons (ed_var hX 3 rfl rfl) (eds_cons (ed_var hX 5 rfl rfl) eds_nil)) ⟨t.f, t.fs, t.h, ok, rfl, rfl⟩) ?_
  refine sd_retM (em_meth (CX := CX0) (CU := CU) (CN := CN) (A0 := A) (out := .ret (.str "done")) (s' := ⟨staD (putS S x t), s.past ++ [staD S], []⟩) hX D_done (by decide) DF.cls (ec_var hX 0 rfl rfl) rfl (ds := [.lst [.tup [.str x, .tup [formD t.f, rowD t.row]]], .str "done"]) (eds_cons (ed_lst (eds_cons (ed_tup (eds_cons (ed_var hX 2 rfl rfl) (eds_cons (ed_tup (eds_cons (ed_var hX 3 rfl rfl) (eds_cons (ed_var hX 5 rfl rfl) eds_nil)) (by simp)) eds_nil)) (by simp)) eds_nil) (by simp)) (eds_cons ed_str eds_nil)) ⟨S, x, some t, "done", hS, (fun z => nomatch z), e1, hp, rfl, rfl, rfl⟩ rz0 .self) (fun d q => ⟨q, rfl⟩)
/-! of_two, for less -/
def s_of_two : Stmt := inClass (topS 95) 5
theorem sc_of_two : FnScope ["self", "word", "fresh", "standing", "one", "other", "number", "rows", "form", "row", "other_form", "other_row", "rest"] ["self", "word", "fresh", "standing"] (defScope s_of_two) := ⟨rfl, rfl, rfl, by decide +kernel, rfl, by decide +kernel, by decide +kernel⟩
def markS (f : Form) (x : Int) : Str := if fitsB f x then "0" else "1"
def lessT (a b : Thing) : Thing := thingK a.f (fold a.f (a.val - b.val))
def G_of_two (s : DeskSt) (ds : List D) (out : Out) (s' : DeskSt) : Prop := ∃ (S : Sta) (x : Str) (a b : Thing), S.length ≤ 100 ∧ a.Ok ∧ b.Ok ∧ s.now = staD S ∧ s.past.length < 1000 ∧ ds = [.str "less", .lst [.str x], .lst [a.d, b.d]] ∧
  out = (if a.f = b.f then .ret (.str (markS a.f (a.val - b.val))) else .unl) ∧ s' = if a.f = b.f then ⟨staD (putS S x (lessT a b)), s.past ++ [staD S], []⟩ else s
theorem rs_ret {X : Cx} {A0 : Anc} {M M' : List Cell} {out : Out} {d : D} (h : Rs X K CU CN A0 M out) : Rs X K CU CN A0 M' (.ret d) := by
  obtain ⟨W, tk, _⟩ := h
  exact ⟨W, tk, fun _ => trivial⟩
theorem d_of_two (T : Tops K mg) (DF : DeskF K C) (D_hold_like : DfnO P w K mg base CU CN "hold_like" 1 G_hold_like) (D_number_of : Dfn P w K mg base "number_of" 4 G_number_of) (D_mark_of : Dfn P w K mg base "mark_of" 4 G_mark_of) (D_answer_kept : Dfn P w K mg base "answer_kept" 5 G_answer_kept) (D_done : MthD P w K mg base CX0 C CU CN "done" 1 G_done)
    {f : Addr} {fd : FuncData} (F : Fun K "of_two" "Desk.of_two" s_of_two f fd) (hb : Binds K fd ["self", "word", "fresh", "standing"] []) (hm : Meth K C "of_two" f) : MthD P w K mg base (L2N.CX P w) C CU CN "of_two" 6 G_of_two := by
  refine ⟨f, fd, _, fnDX F sc_of_two (fun s ds out s' h => ?_) ?_, hm, hb⟩
  · obtain ⟨_, _, _, _, _, _, _, _, _, rfl, _⟩ := h; rfl
  rintro X A hX hF hP hA s ds out s' ⟨S, x, a, b, hS, oa, ob, e1, hp, rfl, rfl, rfl⟩ rs
  refine sd_asg (ed_var hX 3 rfl rfl) (tg_lst hX (tgs_cons (tg_tup hX (tgs_cons (tg_name hX 8 rfl) (tgs_cons (tg_name hX 9 rfl) tgs_nil)) rfl) (tgs_cons (tg_tup hX (tgs_cons (tg_name hX 10 rfl) (tgs_cons (tg_name hX 11 rfl) tgs_nil)) rfl) tgs_nil)) rfl) ?_
  refine sd_exprO hX D_hold_like (by decide) (out := if a.f = b.f then .ret .non else .unl) (eds_cons (ed_var hX 1 rfl rfl) (eds_cons (ed_var hX 8 rfl rfl) (eds_cons (ed_var hX 10 rfl rfl) eds_nil))) ⟨"less", a.f, b.f, .inl rfl, rfl, rfl⟩ (A0 := A) ?_ .self (fun d hd => ?_)
  · by_cases e : a.f = b.f
    · rw [if_pos e]; exact rs_ret rs
    · rw [if_neg e, if_neg e] at rs; rw [if_neg e]; exact rs
  have e : a.f = b.f := by
    by_cases e : a.f = b.f
    · exact e
    · rw [if_neg e] at hd; cases hd
  rw [if_pos e, if_pos e]
  refine sd_set hX 4 rfl (ed_call hX D_number_of (by decide) (eds_cons (ed_var hX 8 rfl rfl) (eds_cons (ed_var hX 9 rfl rfl) eds_nil)) ⟨a.f, a.fs, a.h, oa, rfl, rfl⟩) ?_
  refine sd_set hX 5 rfl (ed_call hX D_number_of (by decide) (eds_cons (ed_var hX 10 rfl rfl) (eds_cons (ed_var hX 11 rfl rfl) eds_nil)) ⟨b.f, b.fs, b.h, ob, rfl, rfl⟩) ?_
  refine sd_skip (et_is (et_cmp hX (ed_var hX 1 rfl rfl) ed_str o_eqS) (by decide +kernel)) ?_
  refine sd_set hX 6 rfl (ed_bin hX (ed_var hX 4 rfl rfl) (ed_var hX 5 rfl rfl) o_add) ?_
  refine sd_ifT (et_is (et_cmp hX (ed_var hX 1 rfl rfl) ed_str o_eqS) (by decide +kernel)) ?_
  refine sd_set hX 6 rfl (ed_bin hX (ed_var hX 4 rfl rfl) (ed_var hX 5 rfl rfl) o_sub) (sd_nil ?_)
  refine sd_skip (et_is (et_cmp hX (ed_var hX 1 rfl rfl) ed_str o_eqS) (by decide +kernel)) ?_
  refine sd_retM (em_meth (CX := CX0) (CU := CU) (CN := CN) (A0 := A) (out := .ret (.str (markS a.f (a.val - b.val)))) (s' := ⟨staD (putS S x (lessT a b)), s.past ++ [staD S], []⟩) hX D_done (by decide) DF.cls (ec_var hX 0 rfl rfl) rfl (ds := [.lst [.tup [.str x, (lessT a b).d]], .str (markS a.f (a.val - b.val))]) (eds_cons (ed_lst (eds_cons (ed_tup (eds_cons (ed_ix hX (ed_var hX 2 rfl rfl) ed_int (i_lst (d := .str x) rfl)) (eds_cons (ed_call hX D_answer_kept (by decide) (eds_cons (ed_var hX 8 rfl rfl) (eds_cons (ed_var hX 6 rfl rfl) eds_nil)) ⟨a.f, a.val - b.val, oa.ok, rfl, rfl⟩) eds_nil)) (by simp)) eds_nil) (by simp)) (eds_cons (ed_call hX D_mark_of (by decide) (eds_cons (ed_var hX 8 rfl rfl) (eds_cons (ed_var hX 6 rfl rfl) eds_nil)) ⟨a.f, a.val - b.val, oa.ok, rfl, rfl⟩) eds_nil)) ⟨S, x, some (lessT a b), _, hS, (fun z => nomatch z), e1, hp, rfl, rfl, rfl⟩ rz0 .self) (fun d q => ⟨q, rfl⟩)
end
end Tl
/-! D5: asked. -/
namespace Tl
open PySem L2 T3 TL PySem.Spec PyProof.Rows Ex3
local macro_rules | `(tactic| walk_at "len") => `(tactic| first | decide | (simp; done) | omega | (simp; omega))
section
variable {X : Cx} {N : List Str} {sc : Scope} {P : Program} {w : World} {K : PySem.W.Frag} {mg : Str → Option Value} {base : Heap} {k : Nat}
variable {A : Anc} {M : List Cell} {ρ : Env3} {C CU CN : Addr} {R : Post} {rest : List Stmt} {p p2 p3 pos pos' : Pos}
def ordS (x y : Int) : Str := if x < y then "less" else if y < x then "greater" else "alike"
inductive Asked (S : Sta) : List D → Out → Prop
  | names (p h : D) : Asked S [.str "names", p, h, .lst []] (.ret (.str (namesT S)))
  | bytes (p h : D) (t : Thing) (ok : t.Ok) : Asked S [.str "bytes", p, h, .lst [t.d]] (.ret (.str (hexT t.row)))
  | shape (p h : D) (t : Thing) (ok : t.Ok) : Asked S [.str "shape", p, h, .lst [t.d]] (.ret (.str (wordsF t.f)))
  | look (p h : D) (t : Thing) (ok : t.Ok) : Asked S [.str "show", p, h, .lst [t.d]] (.ret (.str (writ t.f t.val)))
  | order (p h : D) (a b : Thing) (oa : a.Ok) (ob : b.Ok) : Asked S [.str "order", p, h, .lst [a.d, b.d]] (if a.f = b.f then .ret (.str (ordS a.val b.val)) else .unl)
def G_asked (s : DeskSt) (ds : List D) (out : Out) (s' : DeskSt) : Prop := s' = s ∧ ∃ S : Sta, StaOk S ∧ s.now = staD S ∧ Asked S ds out
/-- ' '.join(sorted(list(x))) or 'none', x what stands -/
theorem ed_names (hX : XF X N sc P w K mg base k) (T : Tops K mg) {S : Sta} (ok : StaOk S) {e : Expr} {k1 k2 : Nat} {p1 p2 p3 p4 p5 p6 p7 p8 p9 : Pos} (h : ED X K A M ρ e (staD S)) (hg1 : GlS sc "sorted" := by rfl) (hg2 : GlS sc "list" := by rfl)
    (hs : starEach [.Call (.Name "sorted" p1) [.Call (.Name "list" p2) [e] [] p3] [] p4] X.env = [(false, eval (.Call (.Name "sorted" p1) [.Call (.Name "list" p2) [e] [] p3] [] p4) X.env)] := by exact star_cons rfl) (hst : isStar e = false := by rfl) (hbase : attributeBase (.Constant (.str " ") k1 p5) "join" X.env (eval (.Constant (.str " ") k1 p5) X.env) = eval (.Constant (.str " ") k1 p5) X.env := by rfl) (hline : (p6.endLine == p7.line) = true := by rfl) :
    ED X K A M ρ (.BoolOp .Or [.Call (.Attribute (.Constant (.str " ") k1 p5) "join" p6) [.Call (.Name "sorted" p1) [.Call (.Name "list" p2) [e] [] p3] [] p4] [] p7, .Constant (.str "none") k2 p8] p9) (.str (namesT S)) := by
  have hsh := sortF_short ok
  have hl : (Txt.join " " (sortF (keysS S))).length ≤ 100000 := by
    have hj := join_le " " (sortF (keysS S)) 12 (fun y hy => by
      have h1 := (sortF_perm (keysS S)).mem_iff.mp hy
      obtain ⟨p, hp, rfl⟩ := List.mem_map.mp h1
      exact (ok.names p hp).l12)
    have e : (" " : Str).length = 1 := by decide +kernel
    have e2 : (sortF (keysS S)).length = S.length := by rw [(sortF_perm (keysS S)).length_eq]; simp [keysS]
    have hf := ok.few
    rw [e, e2] at hj
    omega
  refine ed_orS (ed_join (ys := sortF (keysS S)) ed_str (ed_callB hX T.sorted b_sorted (eds_cons (ed_callTy hX T.list b_list (eds_cons h eds_nil (star_cons hst)) c_listD hg2 (by decide +kernel) (by decide +kernel) (star_cons hst) (star_plain rfl)) eds_nil) (c_sorted (by have := ok.few; simp [keysS]; omega) (fun ys hp hs => sortF_eq hp hs)) hg1) (by omega) hs hbase hline) hl (fun hz => ?_) (fun hz => ?_)
  · refine ed_one (ed_is ed_str ?_)
    rw [namesT, hz]
    rfl
  · rw [namesT, if_pos hz]
def s_asked : Stmt := inClass (topS 95) 7
theorem sc_asked : FnScope ["self", "word", "parts", "shapes", "standing", "number", "found", "form", "row", "many"] ["self", "word", "parts", "shapes", "standing"] (defScope s_asked) := ⟨rfl, rfl, rfl, by decide +kernel, rfl, by decide +kernel, by decide +kernel⟩
theorem d_asked (T : Tops K mg) (DF : DeskF K C) (D_hold_like : DfnO P w K mg base CU CN "hold_like" 1 G_hold_like) (D_number_of : Dfn P w K mg base "number_of" 4 G_number_of) (D_hexed : Dfn P w K mg base "hexed" 1 G_hexed) (D_written : Dfn P w K mg base "written" 4 G_written) (D_order_word : Dfn P w K mg base "order_word" 1 G_order_word)
    {f : Addr} {fd : FuncData} (F : Fun K "asked" "Desk.asked" s_asked f fd) (hb : Binds K fd ["self", "word", "parts", "shapes", "standing"] []) (hm : Meth K C "asked" f) : MthD P w K mg base (L2N.CX P w) C CU CN "asked" 5 G_asked := by
  refine ⟨f, fd, _, fnDX F sc_asked (fun s ds out s' h => ?_) ?_, hm, hb⟩
  · obtain ⟨_, _, _, _, h⟩ := h
    cases h <;> rfl
  rintro X A hX hF hP hA s ds out s' ⟨rfl, S, ok, e1, h⟩ rs
  have fx : ∀ t : Thing, t.Ok → fitsB t.f t.val = true := fun t ok => val_fits ok
  cases h with
  | names p h =>
    refine sd_ifT (et_is (et_cmp hX (ed_var hX 1 rfl rfl) ed_str o_eqS) (by decide +kernel)) ?_
    refine sd_ret (ed_names hX T ok (ed_is (ed_now hX DF (ec_var hX 0 rfl rfl) rfl) e1)) ⟨rfl, rfl⟩
  | bytes p h t ok =>
    refine sd_skip (et_is (et_cmp hX (ed_var hX 1 rfl rfl) ed_str o_eqS) (by decide +kernel)) ?_
    refine sd_skip (et_is (et_cmp hX (ed_var hX 1 rfl rfl) ed_str o_eqS) (by decide +kernel)) ?_
    refine sd_asg (ed_ix hX (ed_var hX 4 rfl rfl) ed_int (i_lst (d := t.d) rfl)) (tg_tup hX (tgs_cons (tg_name hX 7 rfl) (tgs_cons (tg_name hX 8 rfl) tgs_nil)) rfl) ?_
    obtain ⟨r1, r2, r3⟩ := row_facts ok
    exact sd_ifT (et_is (et_cmp hX (ed_var hX 1 rfl rfl) ed_str o_eqS) (by decide +kernel)) (sd_ret (ed_call hX D_hexed (by decide) (eds_cons (ed_var hX 8 rfl rfl) eds_nil) ⟨t.row, r1, r3, rfl, rfl⟩) ⟨rfl, rfl⟩)
  | shape p h t ok =>
    refine sd_skip (et_is (et_cmp hX (ed_var hX 1 rfl rfl) ed_str o_eqS) (by decide +kernel)) ?_
    refine sd_skip (et_is (et_cmp hX (ed_var hX 1 rfl rfl) ed_str o_eqS) (by decide +kernel)) ?_
    refine sd_asg (ed_ix hX (ed_var hX 4 rfl rfl) ed_int (i_lst (d := t.d) rfl)) (tg_tup hX (tgs_cons (tg_name hX 7 rfl) (tgs_cons (tg_name hX 8 rfl) tgs_nil)) rfl) ?_
    refine sd_skip (et_is (et_cmp hX (ed_var hX 1 rfl rfl) ed_str o_eqS) (by decide +kernel)) ?_
    refine sd_ifT (et_is (et_cmp hX (ed_var hX 1 rfl rfl) ed_str o_eqS) (by decide +kernel)) ?_
    have okf := ok.ok
    have h12 := okf.n12
    have hpt := okf.pt
    obtain ⟨k1, _⟩ := kindS_facts t.f.sp
    obtain ⟨k2, _⟩ := signS_facts t.f.sg
    obtain ⟨k3, _⟩ := numS_facts t.f.n h12
    obtain ⟨k4, _⟩ := numS_facts t.f.pt (by omega)
    have hlog : ∀ n : Nat, n ≤ 12 → ((n : Nat) : Int).natAbs.log2 < 1920 := by decide
    have hw := words_fold (kindS t.f.sp) (numS t.f.n) (signS t.f.sg) (numS t.f.pt)
    have hl : (wordsF t.f).length ≤ 100 := by
      have := join_le spS (shapeW t.f) 6 (by simp only [shapeW, List.mem_cons, List.not_mem_nil, or_false]; rintro y (rfl | rfl | rfl | rfl) <;> omega)
      have e : spS.length = 1 := by decide +kernel
      have e2 : (shapeW t.f).length = 4 := rfl
      rw [e, e2] at this
      unfold wordsF
      omega
    refine sd_ret (ed_is (ed_joined (xs := [kindS t.f.sp, " ", numS t.f.n, " ", signS t.f.sg, " ", numS t.f.pt]) (.cons (ed_fmt (ed_ix hX (ed_var hX 7 rfl rfl) ed_int (i_tup rfl)) rfl (fun _ z => nomatch z) (by omega)) (.cons ed_str (.cons (ed_fmt (ed_ix hX (ed_var hX 7 rfl rfl) ed_int (i_tup rfl)) rfl (fun i z => by cases z; exact hlog _ h12) (Nat.le_trans k3 (by decide))) (.cons ed_str (.cons (ed_fmt (ed_ix hX (ed_var hX 7 rfl rfl) ed_int (i_tup rfl)) rfl (fun _ z => nomatch z) (by omega)) (.cons ed_str (.cons (ed_fmt (ed_ix hX (ed_var hX 7 rfl rfl) ed_int (i_tup rfl)) rfl (fun i z => by cases z; exact hlog _ (by omega)) (Nat.le_trans k4 (by decide))) .nil))))))) (by rw [hw]; exact Nat.le_trans hl (by decide))) (by rw [hw]; rfl)) ⟨rfl, rfl⟩
  | look p h t ok =>
    refine sd_skip (et_is (et_cmp hX (ed_var hX 1 rfl rfl) ed_str o_eqS) (by decide +kernel)) ?_
    refine sd_skip (et_is (et_cmp hX (ed_var hX 1 rfl rfl) ed_str o_eqS) (by decide +kernel)) ?_
    refine sd_asg (ed_ix hX (ed_var hX 4 rfl rfl) ed_int (i_lst (d := t.d) rfl)) (tg_tup hX (tgs_cons (tg_name hX 7 rfl) (tgs_cons (tg_name hX 8 rfl) tgs_nil)) rfl) ?_
    refine sd_skip (et_is (et_cmp hX (ed_var hX 1 rfl rfl) ed_str o_eqS) (by decide +kernel)) ?_
    refine sd_skip (et_is (et_cmp hX (ed_var hX 1 rfl rfl) ed_str o_eqS) (by decide +kernel)) ?_
    refine sd_set hX 5 rfl (ed_call hX D_number_of (by decide) (eds_cons (ed_var hX 7 rfl rfl) (eds_cons (ed_var hX 8 rfl rfl) eds_nil)) ⟨t.f, t.fs, t.h, ok, rfl, rfl⟩) ?_
    exact sd_ifT (et_is (et_cmp hX (ed_var hX 1 rfl rfl) ed_str o_eqS) (by decide +kernel)) (sd_ret (ed_call hX D_written (by decide) (eds_cons (ed_var hX 7 rfl rfl) (eds_cons (ed_var hX 5 rfl rfl) eds_nil)) ⟨t.f, t.val, ok.ok, fx t ok, rfl, rfl⟩) ⟨rfl, rfl⟩)
  | order p h a b oa ob =>
    refine sd_skip (et_is (et_cmp hX (ed_var hX 1 rfl rfl) ed_str o_eqS) (by decide +kernel)) ?_
    refine sd_skip (et_is (et_cmp hX (ed_var hX 1 rfl rfl) ed_str o_eqS) (by decide +kernel)) ?_
    refine sd_asg (ed_ix hX (ed_var hX 4 rfl rfl) ed_int (i_lst (d := a.d) rfl)) (tg_tup hX (tgs_cons (tg_name hX 7 rfl) (tgs_cons (tg_name hX 8 rfl) tgs_nil)) rfl) ?_
    refine sd_skip (et_is (et_cmp hX (ed_var hX 1 rfl rfl) ed_str o_eqS) (by decide +kernel)) ?_
    refine sd_skip (et_is (et_cmp hX (ed_var hX 1 rfl rfl) ed_str o_eqS) (by decide +kernel)) ?_
    refine sd_set hX 5 rfl (ed_call hX D_number_of (by decide) (eds_cons (ed_var hX 7 rfl rfl) (eds_cons (ed_var hX 8 rfl rfl) eds_nil)) ⟨a.f, a.fs, a.h, oa, rfl, rfl⟩) ?_
    refine sd_skip (et_is (et_cmp hX (ed_var hX 1 rfl rfl) ed_str o_eqS) (by decide +kernel)) ?_
    refine sd_skip (et_is (et_cmp hX (ed_var hX 1 rfl rfl) ed_str o_eqS) (by decide +kernel)) ?_
    refine sd_exprO hX D_hold_like (by decide) (out := if a.f = b.f then .ret .non else .unl) (eds_cons (ed_var hX 1 rfl rfl) (eds_cons (ed_var hX 7 rfl rfl) (eds_cons (ed_ix hX (ed_ix hX (ed_var hX 4 rfl rfl) ed_int (i_lst (d := b.d) rfl)) ed_int (i_tup (d := formD b.f) rfl)) eds_nil))) ⟨"order", a.f, b.f, .inr rfl, rfl, rfl⟩ (A0 := A) ?_ .self (fun d hd => ?_)
    · by_cases e : a.f = b.f
      · rw [if_pos e]; exact rs_ret rs
      · rw [if_neg e] at rs; rw [if_neg e]; exact rs
    have e : a.f = b.f := by
      by_cases e : a.f = b.f
      · exact e
      · rw [if_neg e] at hd; cases hd
    rw [if_pos e]
    exact sd_ret (ed_call hX D_order_word (by decide) (eds_cons (ed_var hX 5 rfl rfl) (eds_cons (ed_call hX D_number_of (by decide) (eds_cons (ed_ix hX (ed_ix hX (ed_var hX 4 rfl rfl) ed_int (i_lst (d := b.d) rfl)) ed_int (i_tup (d := formD b.f) rfl)) (eds_cons (ed_ix hX (ed_ix hX (ed_var hX 4 rfl rfl) ed_int (i_lst (d := b.d) rfl)) ed_int (i_tup (d := rowD b.row) rfl)) eds_nil)) ⟨b.f, b.fs, b.h, ob, rfl, rfl⟩) eds_nil)) ⟨a.val, b.val, rfl, rfl⟩) ⟨rfl, rfl⟩
end
end Tl
/-! D6: the lines of the law. -/
namespace Tl
open PySem L2 T3 TL PySem.Spec PyProof.Rows Ex3
inductive Cmd where
  | lay (x : Str) (t : Thing) | less (x a b : Str) | drop (a : Str) | undo | again | names | bytes (a : Str) | shape (a : Str) | look (a : Str) | order (a b : Str)
def oneT (a : Str) : Tri := ⟨"one", [a], .str a⟩
def cmdW : Cmd → Str
  | .lay .. => "lay" | .less .. => "less" | .drop .. => "drop" | .undo => "undo" | .again => "again" | .names => "names" | .bytes _ => "bytes" | .shape _ => "shape" | .look _ => "show" | .order .. => "order"
def cmdT : Cmd → List Tri
  | .lay x t => [⟨"name", [x], .str x⟩, ⟨"shape", shapeW t.f, formD t.f⟩, ⟨"bytes", t.row.map hexB, .str (hexT t.row)⟩]
  | .less x a b => [⟨"name", [x], .str x⟩, oneT a, oneT b]
  | .drop a => [oneT a] | .undo => [] | .again => [] | .names => [] | .bytes a => [oneT a] | .shape a => [oneT a] | .look a => [oneT a] | .order a b => [oneT a, oneT b]
def cmdL (c : Cmd) : Str := Txt.join spS (cmdW c :: chunks (cmdT c))
def freshS : Cmd → List Str
  | .lay x _ => [x] | .less x _ _ => [x] | _ => []
def onesS : Cmd → List Str
  | .less _ a b => [a, b] | .drop a => [a] | .bytes a => [a] | .shape a => [a] | .look a => [a] | .order a b => [a, b] | _ => []
def formsS : Cmd → List Form
  | .lay _ t => [t.f] | _ => []
inductive CmdOk : Cmd → Prop
  | lay {x : Str} {t : Thing} (h : NameOk x) (ok : t.Ok) : CmdOk (.lay x t)
  | less {x a b : Str} (h : NameOk x) (ha : NameOk a) (hb : NameOk b) : CmdOk (.less x a b)
  | drop {a : Str} (ha : NameOk a) : CmdOk (.drop a)
  | undo : CmdOk .undo
  | again : CmdOk .again
  | names : CmdOk .names
  | bytes {a : Str} (ha : NameOk a) : CmdOk (.bytes a)
  | shape {a : Str} (ha : NameOk a) : CmdOk (.shape a)
  | look {a : Str} (ha : NameOk a) : CmdOk (.look a)
  | order {a b : Str} (ha : NameOk a) (hb : NameOk b) : CmdOk (.order a b)
/-- a word of a line -/
structure WordOk (x : Str) : Prop where
  sp : 32 ∉ tl x
  ne : x ≠ ""
  l : x.length ≤ 12
theorem ne_len {x : Str} (h : x.length ≠ 0) : x ≠ "" := fun z => h (by rw [z]; rfl)
theorem NameOk.word {x : Str} (h : NameOk x) : WordOk x := ⟨h.free, ne_len (by have := h.l1; omega), h.l12⟩
def cmdWs : List Str := ["lay", "less", "drop", "undo", "again", "names", "show", "bytes", "shape", "order"]
theorem cmdW_mem (c : Cmd) : cmdW c ∈ cmdWs := by
  cases c with
  | lay x t => exact List.mem_of_getElem? (i := 0) rfl
  | less x a b => exact List.mem_of_getElem? (i := 1) rfl
  | drop a => exact List.mem_of_getElem? (i := 2) rfl
  | undo => exact List.mem_of_getElem? (i := 3) rfl
  | again => exact List.mem_of_getElem? (i := 4) rfl
  | names => exact List.mem_of_getElem? (i := 5) rfl
  | look a => exact List.mem_of_getElem? (i := 6) rfl
  | bytes a => exact List.mem_of_getElem? (i := 7) rfl
  | shape a => exact List.mem_of_getElem? (i := 8) rfl
  | order a b => exact List.mem_of_getElem? (i := 9) rfl
theorem cmdW_word (c : Cmd) : WordOk (cmdW c) := by
  have h : ∀ w ∈ cmdWs, 32 ∉ tl w ∧ w ≠ "" ∧ w.length ≤ 12 := by decide +kernel
  obtain ⟨a, b, d⟩ := h _ (cmdW_mem c)
  exact ⟨a, b, d⟩
theorem shape_word (f : Form) (ok : f.Ok) : ∀ y ∈ shapeW f, WordOk y := by
  have h12 := ok.n12
  have hpt := ok.pt
  have k1 : ∀ b : Bool, (kindS b).length ≤ 12 ∧ 32 ∉ tl (kindS b) ∧ (kindS b).length ≠ 0 := by decide +kernel
  have k2 : ∀ s : Sg, (signS s).length ≤ 12 ∧ 32 ∉ tl (signS s) ∧ (signS s).length ≠ 0
    | .no => by decide +kernel
    | .en => by decide +kernel
    | .te => by decide +kernel
  have k3 : ∀ n, n ≤ 12 → WordOk (numS n) := fun n hn => by
    obtain ⟨q1, q2, _, _, q3, _⟩ := numS_facts n hn
    exact ⟨q3, ne_len (by simpa using q2), by omega⟩
  intro y hy
  simp only [shapeW, List.mem_cons, List.not_mem_nil, or_false] at hy
  rcases hy with rfl | rfl | rfl | rfl
  · obtain ⟨a, b, c⟩ := k1 f.sp; exact ⟨b, ne_len c, a⟩
  · exact k3 _ h12
  · obtain ⟨a, b, c⟩ := k2 f.sg; exact ⟨b, ne_len c, a⟩
  · exact k3 _ (by omega)
theorem hex_word {r : List Int} (h : ∀ b ∈ r, Byte b) : ∀ y ∈ r.map hexB, WordOk y := fun y hy => by
  obtain ⟨b, hb, rfl⟩ := List.mem_map.mp hy
  exact ⟨hexB_free (h b hb), ne_len (by rw [hexB_length]; decide), by rw [hexB_length]; decide⟩
theorem cmd_words {c : Cmd} (ok : CmdOk c) : ∀ y ∈ chunks (cmdT c), WordOk y := by
  have one : ∀ {a : Str}, NameOk a → ∀ y ∈ chunks [oneT a], WordOk y := fun {a} h y hy => by
    have e : chunks [oneT a] = [a] := rfl
    rw [e] at hy
    rw [List.mem_singleton.mp hy]; exact h.word
  cases ok with
  | @lay x t h ok =>
    intro y hy
    obtain ⟨_, _, r3⟩ := row_facts ok
    have e : chunks (cmdT (.lay x t)) = [x] ++ (shapeW t.f ++ t.row.map hexB) := by simp [chunks, cmdT]
    rw [e] at hy
    rcases List.mem_append.mp hy with q | q
    · rw [List.mem_singleton.mp q]; exact h.word
    · rcases List.mem_append.mp q with q | q
      · exact shape_word _ ok.ok y q
      · exact hex_word r3 y q
  | @less x a b h ha hb =>
    intro y hy
    have e : chunks (cmdT (.less x a b)) = [x, a, b] := rfl
    rw [e] at hy
    simp only [List.mem_cons, List.not_mem_nil, or_false] at hy
    rcases hy with rfl | rfl | rfl
    · exact h.word
    · exact ha.word
    · exact hb.word
  | drop ha => exact one ha
  | undo => intro y hy; cases hy
  | again => intro y hy; cases hy
  | names => intro y hy; cases hy
  | bytes ha => exact one ha
  | shape ha => exact one ha
  | look ha => exact one ha
  | @order a b ha hb =>
    intro y hy
    have e : chunks (cmdT (.order a b)) = [a, b] := rfl
    rw [e] at hy
    simp only [List.mem_cons, List.not_mem_nil, or_false] at hy
    rcases hy with rfl | rfl
    · exact ha.word
    · exact hb.word
theorem cmd_few {c : Cmd} (ok : CmdOk c) : (chunks (cmdT c)).length ≤ 17 := by
  cases ok with
  | @lay x t h ok =>
    obtain ⟨r1, _, _⟩ := row_facts ok
    have e : chunks (cmdT (.lay x t)) = [x] ++ (shapeW t.f ++ t.row.map hexB) := by simp [chunks, cmdT]
    have e2 : (shapeW t.f).length = 4 := rfl
    rw [e]
    simp [e2]
    omega
  | less => show 3 ≤ 17; decide
  | drop ha => show 1 ≤ 17; decide
  | undo => show 0 ≤ 17; decide
  | again => show 0 ≤ 17; decide
  | names => show 0 ≤ 17; decide
  | bytes ha => show 1 ≤ 17; decide
  | shape ha => show 1 ≤ 17; decide
  | look ha => show 1 ≤ 17; decide
  | order ha hb => show 2 ≤ 17; decide
theorem cmd_line {c : Cmd} (ok : CmdOk c) : LineOk (cmdW c) (cmdT c) := by
  have hw : ∀ y ∈ cmdW c :: chunks (cmdT c), WordOk y := fun y hy => by
    rcases List.mem_cons.mp hy with q | q
    · rw [q]; exact cmdW_word c
    · exact cmd_words ok y q
  have hl := cmd_few ok
  refine ⟨?_, ?_, ?_, fun y hy => ⟨(hw y hy).sp, (hw y hy).ne⟩, by omega, ?_⟩
  · cases c with
    | lay x t => exact List.mem_of_getElem? (i := 0) rfl
    | less x a b => exact List.mem_of_getElem? (i := 1) rfl
    | drop a => exact List.mem_of_getElem? (i := 2) rfl
    | undo => exact List.mem_of_getElem? (i := 3) rfl
    | again => exact List.mem_of_getElem? (i := 4) rfl
    | names => exact List.mem_of_getElem? (i := 5) rfl
    | look a => exact List.mem_of_getElem? (i := 6) rfl
    | bytes a => exact List.mem_of_getElem? (i := 7) rfl
    | shape a => exact List.mem_of_getElem? (i := 8) rfl
    | order a b => exact List.mem_of_getElem? (i := 9) rfl
  · have one : ∀ {a : Str}, NameOk a → PartOk (oneT a).p (oneT a).c (oneT a).d := fun h => .one _ h
    intro t ht
    cases ok with
    | @lay x u h ok =>
      obtain ⟨r1, r2, r3⟩ := row_facts ok
      simp only [cmdT, List.mem_cons, List.not_mem_nil, or_false] at ht
      rcases ht with rfl | rfl | rfl
      · exact .name _ h
      · exact .shape _ ok.ok
      · refine .bytes _ ?_ ?_
        · have := join_sum spS (u.row.map hexB) 2 (fun y hy => by obtain ⟨b, _, rfl⟩ := List.mem_map.mp hy; exact Nat.le_of_eq (hexB_length b))
          have e : spS.length = 1 := by decide +kernel
          rw [e, List.length_map] at this
          show ((u.row.map hexB).map (·.length)).sum + (u.row.map hexB).length * spS.length ≤ 100000
          rw [e, List.length_map]
          omega
        · rw [List.length_map]
          exact List.length_pos_iff.mpr r2
    | @less x a b h ha hb =>
      simp only [cmdT, List.mem_cons, List.not_mem_nil, or_false] at ht
      rcases ht with rfl | rfl | rfl
      · exact .name _ h
      · exact one ha
      · exact one hb
    | drop ha => rw [List.mem_singleton.mp ht]; exact one ha
    | undo => cases ht
    | again => cases ht
    | names => cases ht
    | bytes ha => rw [List.mem_singleton.mp ht]; exact one ha
    | shape ha => rw [List.mem_singleton.mp ht]; exact one ha
    | look ha => rw [List.mem_singleton.mp ht]; exact one ha
    | order ha hb =>
      simp only [cmdT, List.mem_cons, List.not_mem_nil, or_false] at ht
      rcases ht with rfl | rfl
      · exact one ha
      · exact one hb
  · have n1 : ("name" : Str) ≠ "bytes" := by decide +kernel
    have n2 : ("shape" : Str) ≠ "bytes" := by decide +kernel
    have n3 : ("one" : Str) ≠ "bytes" := by decide +kernel
    intro i t hi hp
    have hm := List.mem_of_getElem? hi
    cases c with
    | lay x u =>
      match i, hi with
      | 0, hi => cases hi; exact absurd hp n1
      | 1, hi => cases hi; exact absurd hp n2
      | 2, hi => rfl
      | i + 3, hi => simp [cmdT] at hi
    | less x a b =>
      simp only [cmdT, List.mem_cons, List.not_mem_nil, or_false] at hm
      rcases hm with rfl | rfl | rfl
      · exact absurd hp n1
      · exact absurd hp n3
      · exact absurd hp n3
    | drop a => rw [List.mem_singleton.mp hm] at hp; exact absurd hp n3
    | undo => cases hm
    | again => cases hm
    | names => cases hm
    | bytes a => rw [List.mem_singleton.mp hm] at hp; exact absurd hp n3
    | shape a => rw [List.mem_singleton.mp hm] at hp; exact absurd hp n3
    | look a => rw [List.mem_singleton.mp hm] at hp; exact absurd hp n3
    | order a b =>
      simp only [cmdT, List.mem_cons, List.not_mem_nil, or_false] at hm
      rcases hm with rfl | rfl
      · exact absurd hp n3
      · exact absurd hp n3
  · have := join_le spS (cmdW c :: chunks (cmdT c)) 12 (fun y hy => (hw y hy).l)
    have e : spS.length = 1 := by decide +kernel
    rw [e, List.length_cons] at this
    omega
/-! what only(..) tells -/
def pairsOf (c : Cmd) : List (Str × D) := (cmdT c).map fun t => (t.p, t.d)
theorem pairsOf_len {c : Cmd} : (pairsOf c).length ≤ 3 := by
  cases c <;> (show (_ : Nat) ≤ 3; first | exact Nat.le_refl 3 | exact (show 2 ≤ 3 by decide) | exact (show 1 ≤ 3 by decide) | exact (show 0 ≤ 3 by decide))
theorem pairsOf_d (c : Cmd) : (cmdT c).map Tri.pair = (pairsOf c).map fun p => D.tup [.str p.1, p.2] := by
  rw [pairsOf, List.map_map]
  rfl
theorem pick_name (c : Cmd) : ((pairsOf c).filterMap fun p => if p.1 = ("name" : Str) then some p.2 else none) = (freshS c).map .str := by
  have n2 : ¬ ("shape" : Str) = "name" := by decide +kernel
  have n3 : ¬ ("one" : Str) = "name" := by decide +kernel
  have n4 : ¬ ("bytes" : Str) = "name" := by decide +kernel
  cases c <;> simp [pairsOf, cmdT, freshS, oneT, n2, n3, n4]
theorem pick_one (c : Cmd) : ((pairsOf c).filterMap fun p => if p.1 = ("one" : Str) then some p.2 else none) = (onesS c).map .str := by
  have n2 : ¬ ("shape" : Str) = "one" := by decide +kernel
  have n3 : ¬ ("name" : Str) = "one" := by decide +kernel
  have n4 : ¬ ("bytes" : Str) = "one" := by decide +kernel
  cases c <;> simp [pairsOf, cmdT, onesS, oneT, n2, n3, n4]
theorem pick_shape (c : Cmd) : ((pairsOf c).filterMap fun p => if p.1 = ("shape" : Str) then some p.2 else none) = (formsS c).map formD := by
  have n2 : ¬ ("one" : Str) = "shape" := by decide +kernel
  have n3 : ¬ ("name" : Str) = "shape" := by decide +kernel
  have n4 : ¬ ("bytes" : Str) = "shape" := by decide +kernel
  cases c <;> simp [pairsOf, cmdT, formsS, oneT, n2, n3, n4]
theorem ones_len (c : Cmd) : (onesS c).length ≤ 2 := by
  cases c <;> simp [onesS]
theorem forms_len (c : Cmd) : (formsS c).length ≤ 1 := by
  cases c <;> simp [formsS]
theorem fresh_len (c : Cmd) : (freshS c).length ≤ 1 := by
  cases c <;> simp [freshS]
end Tl
set_option maxHeartbeats 4000000
/-! D7: tell. -/
namespace Tl
open PySem L2 T3 TL PySem.Spec PyProof.Rows Ex3
local macro_rules | `(tactic| walk_at "len") => `(tactic| first | decide | (simp; done) | omega | (simp; omega))
inductive Told (s : DeskSt) (S : Sta) : Cmd → Out → DeskSt → Prop
  | miss (c : Cmd) (z : Str) (h : ((onesS c).find? fun x => decide (x ∉ keysS S)) = some z) : Told s S c (.non z) s
  | lay (x : Str) (t : Thing) : Told s S (.lay x t) (.ret (.str "done")) ⟨staD (putS S x t), s.past ++ [staD S], []⟩
  | less (x a b : Str) (ta tb : Thing) (ha : getS S a = some ta) (hb : getS S b = some tb) : Told s S (.less x a b) (if ta.f = tb.f then .ret (.str (markS ta.f (ta.val - tb.val))) else .unl) (if ta.f = tb.f then ⟨staD (putS S x (lessT ta tb)), s.past ++ [staD S], []⟩ else s)
  | drop (a : Str) (ha : a ∈ keysS S) : Told s S (.drop a) (.ret (.str "done")) ⟨staD (dropS S a), s.past ++ [staD S], []⟩
  | undo (l : List D) (d : D) (h : s.past = l ++ [d]) : Told s S .undo (.ret (.str "done")) ⟨d, l, s.undone ++ [s.now]⟩
  | again (l : List D) (d : D) (h : s.undone = l ++ [d]) : Told s S .again (.ret (.str "done")) ⟨d, s.past ++ [s.now], l⟩
  | names : Told s S .names (.ret (.str (namesT S))) s
  | bytes (a : Str) (t : Thing) (h : getS S a = some t) : Told s S (.bytes a) (.ret (.str (hexT t.row))) s
  | shape (a : Str) (t : Thing) (h : getS S a = some t) : Told s S (.shape a) (.ret (.str (wordsF t.f))) s
  | look (a : Str) (t : Thing) (h : getS S a = some t) : Told s S (.look a) (.ret (.str (writ t.f t.val))) s
  | order (a b : Str) (ta tb : Thing) (ha : getS S a = some ta) (hb : getS S b = some tb) : Told s S (.order a b) (if ta.f = tb.f then .ret (.str (ordS ta.val tb.val)) else .unl) s
theorem get_key {S : Sta} {x : Str} {t : Thing} (h : getS S x = some t) : x ∈ keysS S ∧ (x, t) ∈ S := by
  unfold getS at h
  cases q : S.find? fun p => decide (p.1 = x) with
  | none => rw [q] at h; cases h
  | some p =>
    rw [q] at h
    cases h
    have e : p.1 = x := of_decide_eq_true (List.find?_some (p := fun p : Str × Thing => decide (p.1 = x)) q)
    have hm := List.mem_of_find?_eq_some q
    rw [← e]
    exact ⟨List.mem_map.mpr ⟨p, hm, rfl⟩, hm⟩
theorem told_miss {s s' : DeskSt} {S : Sta} {c : Cmd} {out : Out} (h : Told s S c out s') : (∃ z, ((onesS c).find? fun x => decide (x ∉ keysS S)) = some z ∧ out = .non z ∧ s' = s) ∨ (∀ z ∈ onesS c, z ∈ keysS S) := by
  cases h with
  | miss c z h => exact .inl ⟨z, h, rfl, rfl⟩
  | lay x t => exact .inr fun z hz => by cases hz
  | less x a b ta tb ha hb =>
    refine .inr fun z hz => ?_
    simp only [onesS, List.mem_cons, List.not_mem_nil, or_false] at hz
    rcases hz with rfl | rfl
    · exact (get_key ha).1
    · exact (get_key hb).1
  | drop a ha => exact .inr fun z hz => by rw [List.mem_singleton.mp hz]; exact ha
  | undo l d h => exact .inr fun z hz => by cases hz
  | again l d h => exact .inr fun z hz => by cases hz
  | names => exact .inr fun z hz => by cases hz
  | bytes a t h => exact .inr fun z hz => by rw [List.mem_singleton.mp hz]; exact (get_key h).1
  | shape a t h => exact .inr fun z hz => by rw [List.mem_singleton.mp hz]; exact (get_key h).1
  | look a t h => exact .inr fun z hz => by rw [List.mem_singleton.mp hz]; exact (get_key h).1
  | order a b ta tb ha hb =>
    refine .inr fun z hz => ?_
    simp only [onesS, List.mem_cons, List.not_mem_nil, or_false] at hz
    rcases hz with rfl | rfl
    · exact (get_key ha).1
    · exact (get_key hb).1
def dgetO (S : Sta) : D → Option D
  | .str z => dgetD (keysS S) (valsS S) z
  | _ => none
theorem dgetO_S (S : Sta) (z : Str) : dgetO S (.str z) = (getS S z).map Thing.d := dget_S z S
section
variable {X : Cx} {N : List Str} {sc : Scope} {P : Program} {w : World} {K : PySem.W.Frag} {mg : Str → Option Value} {base : Heap} {k : Nat}
variable {A A0 : Anc} {M : List Cell} {ρ : Env3} {C CU CN : Addr} {R : Post} {rest : List Stmt} {p p2 p3 p4 pos pos' : Pos} {a : Expr} {out : Out}
theorem rz_of {n : Nat} (hX : XF X N sc P w K mg base k) (h : Rs X K CU CN A0 M out) : Rz (L2N.CX P w) X K CU CN A0 M out n := by
  rw [← hX.eP, ← hX.ew]
  exact h.rz
/-- len(set(xs)), one text or none -/
theorem ed_lenSet (hX : XF X N sc P w K mg base k) (T : Tops K mg) {l : List Str} (h : ED X K A M ρ a (.lst (l.map .str))) (hl : l.length ≤ 1) (hg : GlS sc "len" := by rfl) (hg2 : GlS sc "set" := by rfl) (na : starEach [a] X.env = (false, eval a X.env) :: starEach [] X.env := by exact star_cons rfl) :
    ED X K A M ρ (.Call (.Name "len" p) [.Call (.Name "set" p2) [a] [] p3] [] pos) (.int l.length) := .mk fun fps σ Hs H hh => by
  refine wE_of (pe_lenSet hX.calm (hX.gl hg) (by rw [hX.em]; exact T.len) (hX.gl hg2) (by rw [hX.em]; exact T.set) pe_w na) ?_
  refine wE_mono (h _ _ _ _ hh) fun v H1 ⟨Hs1, s1, r1⟩ => ?_
  cases r1 with
  | lst h1 h2 =>
    have hv := h2.strs'
    subst hv
    exact ⟨_, l, rfl, .inl (SqL.of (s1.i _ _ h1)), hl, Hs1, s1, .int _⟩
def s_tell : Stmt := inClass (topS 95) 1
theorem sc_tell : FnScope ["self", "line", "fresh", "name", "shapes", "standing", "word", "parts", "number", "form"] ["self", "line"] (defScope s_tell) := ⟨rfl, rfl, rfl, by decide +kernel, rfl, by decide +kernel, by decide +kernel⟩
def G_tell (s : DeskSt) (ds : List D) (out : Out) (s' : DeskSt) : Prop := ∃ (S : Sta) (c : Cmd), StaOk S ∧ CmdOk c ∧ s.now = staD S ∧ s.past.length < 1000 ∧ s.undone.length < 1000 ∧ ds = [.str (cmdL c)] ∧ Told s S c out s'
theorem d_tell (T : Tops K mg) (DF : DeskF K C) (EF : ExF K mg CU CN) (NN : NNF P w K mg base CN 2) (D_parts_of : Dfn P w K mg base "parts_of_desk" 4 G_parts_of) (D_only : Dfn P w K mg base "only" 1 G_only) (D_shape : Dfn P w K mg base "shape" 1 G_shape)
    (D_moved : MthD P w K mg base CX0 C CU CN "moved" 1 G_moved) (D_laid : MthD P w K mg base CX0 C CU CN "laid" 5 G_laid) (D_done : MthD P w K mg base CX0 C CU CN "done" 1 G_done) (D_of_two : MthD P w K mg base (L2N.CX P w) C CU CN "of_two" 6 G_of_two) (D_asked : MthD P w K mg base (L2N.CX P w) C CU CN "asked" 5 G_asked)
    {f : Addr} {fd : FuncData} (F : Fun K "tell" "Desk.tell" s_tell f fd) (hb : Binds K fd ["self", "line"] []) (hm : Meth K C "tell" f) : MthD P w K mg base (L2N.CX P w) C CU CN "tell" 7 G_tell := by
  refine ⟨f, fd, _, fnDX F sc_tell (fun s ds out s' h => ?_) ?_, hm, hb⟩
  · obtain ⟨_, _, _, _, _, _, _, rfl, _⟩ := h; rfl
  rintro X A hX hF hP hA s ds out s' ⟨S, c, okS, ok, e1, hp, hu, rfl, h⟩ rs
  have hlen3 := pairsOf_len (c := c)
  refine sd_asg (ed_call hX D_parts_of (by decide) (eds_cons (ed_var hX 1 rfl rfl) eds_nil) ⟨cmdW c, cmdT c, cmd_line ok, rfl, rfl⟩) (tg_tup hX (tgs_cons (tg_name hX 6 rfl) (tgs_cons (tg_name hX 7 rfl) tgs_nil)) rfl) ?_
  refine sd_set hX 2 rfl (d := .lst ((freshS c).map .str)) (ed_is (ed_call hX D_only (by decide) (eds_cons (ed_is (ed_var hX 7 rfl rfl) (congrArg D.lst (pairsOf_d c))) (eds_cons ed_str eds_nil)) ⟨pairsOf c, "name", by omega, rfl, rfl⟩) (congrArg D.lst (pick_name c))) ?_
  refine sd_skip (et_is (et_cmp hX (ed_lenSet hX T (ed_var hX 2 rfl rfl) (fresh_len c)) (ed_callB hX T.len b_len (eds_cons (ed_var hX 2 rfl rfl) eds_nil) c_lenL) o_lt) (by rw [List.length_map]; exact decide_eq_false (by omega))) ?_
  refine sd_for hX (ei_lst hX (ed_is (ed_call hX D_only (by decide) (eds_cons (ed_is (ed_var hX 7 rfl rfl) (congrArg D.lst (pairsOf_d c))) (eds_cons ed_str eds_nil)) ⟨pairsOf c, "one", by omega, rfl, rfl⟩) (congrArg D.lst (pick_one c)))) (fun i M ρ => (M = [.desk C s] ∧ Wk [some (.cell 0), some (.sh (.str (cmdL c))), some (.sh (.lst ((freshS c).map .str))), none, none, none, some (.sh (.str (cmdW c))), some (.sh (.lst ((cmdT c).map Tri.pair))), none, none] ρ) ∧ ∀ m z, m < i → (onesS c)[m]? = some z → z ∈ keysS S) ⟨⟨rfl, rfl, rfl, rfl, rfl, rfl, trivial⟩, fun m z hm => absurd hm (Nat.not_lt_zero m)⟩ (fun A' le i d M ρ hd hI => ?_) (fun M ρ hI => ?_) hP
  · obtain ⟨⟨rfl, wk⟩, hall⟩ := hI
    obtain ⟨z, hz, rfl⟩ := map_get' hd
    refine ⟨_, _, tg_weak (tg_name hX 3 rfl) wk, ?_⟩
    refine sd_if (et_dni hX (ed_var hX 3 rfl rfl) (ed_is (ed_now hX DF (ec_var hX 0 rfl rfl) rfl) e1)) (fun ht => ?_) (fun ht => ?_)
    · have hno : z ∉ keysS S := by simpa using ht
      rcases told_miss h with ⟨z0, q1, q2, q3⟩ | hin
      · subst q2; subst q3
        obtain ⟨hp0, j, hj, ej, hbef⟩ := List.find?_eq_some_iff_getElem.mp q1
        have hz0 : z0 ∉ keysS S := of_decide_eq_true hp0
        have hj' : (onesS c)[j]? = some z0 := by rw [List.getElem?_eq_getElem hj, ej]
        have e2 : i = j := by
          rcases Nat.lt_trichotomy i j with q | q | q
          · exfalso
            have := hbef i q
            have e3 := (List.getElem?_eq_some_iff.mp hz)
            rw [e3.2] at this
            simp [hno] at this
          · exact q
          · exact absurd (hall j z0 q hj') hz0
        subst e2
        rw [hz] at hj'
        cases hj'
        exact sd_raiseN hX EF NN (by decide) (ed_var hX 3 rfl rfl) rs le
      · exact absurd (hin z (List.mem_of_getElem? hz)) hno
    · have hyes : z ∈ keysS S := by simpa using ht
      refine sd_nil (sd_nil ⟨⟨rfl, rfl, rfl, rfl, rfl, rfl, trivial⟩, fun m y hm hy => ?_⟩)
      rcases Nat.lt_succ_iff_lt_or_eq.mp hm with q | q
      · exact hall m y q hy
      · subst q
        rw [hz] at hy; cases hy
        exact hyes
  obtain ⟨⟨rfl, wk⟩, hall⟩ := hI
  refine sd_weak ?_ wk
  have hin : ∀ z ∈ onesS c, z ∈ keysS S := fun z hz => by
    obtain ⟨m, hm, rfl⟩ := List.mem_iff_getElem.mp hz
    exact hall m _ (by rw [List.length_map]; exact hm) (List.getElem?_eq_getElem hm)
  have hforms : ∀ f ∈ formsS c, f.Ok := by
    cases ok with
    | lay hx ok => intro f hf; rw [List.mem_singleton.mp hf]; exact ok.ok
    | _ => intro f hf; cases hf
  have hget : ∀ z ∈ onesS c, ∃ t, getS S z = some t ∧ (z, t) ∈ S := fun z hz => get_mem (hin z hz)
  refine sd_setLc hX [("form", 9)] 4 rfl (ei_lst hX (ed_is (ed_call hX D_only (by decide) (eds_cons (ed_is (ed_var hX 7 rfl rfl) (congrArg D.lst (pairsOf_d c))) (eds_cons ed_str eds_nil)) ⟨pairsOf c, "shape", by omega, rfl, rfl⟩) (congrArg D.lst (pick_shape c)))) (blkOk_by (by decide +kernel)) [9] (fun d => [some (.cell 0), some (.sh (.str (cmdL c))), some (.sh (.lst ((freshS c).map .str))), none, none, none, some (.sh (.str (cmdW c))), some (.sh (.lst ((cmdT c).map Tri.pair))), none, some (.sh d)]) (fun d => some d) (by rw [List.length_map]; have := forms_len c; omega) (fun X' hX' d hd => ?_) ?_ rfl (sw_true (by rw [hX.eS]; rfl) (by rw [hX.eS]; rfl) rfl (by decide +kernel))
  · obtain ⟨f, hf, rfl⟩ := List.mem_map.mp hd
    refine ⟨tg_nameL hX' 9 rfl, fun x hx => ?_, rfl⟩
    cases hx
    exact ed_call hX' D_shape (by decide) (eds_cons (ed_ix hX' (ed_var hX' 9 rfl rfl) ed_int (i_tup rfl)) (eds_cons (ed_ix hX' (ed_var hX' 9 rfl rfl) ed_int (i_tup rfl)) (eds_cons (ed_ix hX' (ed_var hX' 9 rfl rfl) ed_int (i_tup rfl)) (eds_cons (ed_ix hX' (ed_var hX' 9 rfl rfl) ed_int (i_tup rfl)) eds_nil)))) ⟨f, hforms f hf, rfl, rfl⟩
  rw [List.filterMap_some]
  refine sd_setLc hX [("name", 3)] 5 rfl (ei_lst hX (ed_is (ed_call hX D_only (by decide) (eds_cons (ed_is (ed_var hX 7 rfl rfl) (congrArg D.lst (pairsOf_d c))) (eds_cons ed_str eds_nil)) ⟨pairsOf c, "one", by omega, rfl, rfl⟩) (congrArg D.lst (pick_one c)))) (blkOk_by (by decide +kernel)) [3] (fun d => [some (.cell 0), some (.sh (.str (cmdL c))), some (.sh (.lst ((freshS c).map .str))), some (.sh d), some (.sh (.lst ((formsS c).map formD))), none, some (.sh (.str (cmdW c))), some (.sh (.lst ((cmdT c).map Tri.pair))), none, none]) (dgetO S) (by rw [List.length_map]; have := ones_len c; omega) (fun X' hX' d hd => ?_) ?_ rfl (sw_true (by rw [hX.eS]; rfl) (by rw [hX.eS]; rfl) rfl (by decide +kernel))
  · obtain ⟨z, hz, rfl⟩ := List.mem_map.mp hd
    obtain ⟨t, ht, _⟩ := hget z hz
    refine ⟨tg_nameL hX' 3 rfl, fun x hx => ?_, ?_⟩
    · exact ed_dget hX' (ed_is (ed_now hX' DF (ec_var hX' 0 rfl rfl) rfl) e1) (ed_var hX' 3 rfl rfl) hx
    · show (dgetO S (.str z)).isSome = true
      rw [dgetO_S, ht]; rfl
  have hok : ∀ (z : Str) (t : Thing), getS S z = some t → t.Ok := fun z t h => okS.things _ (get_key h).2
  have st1 : ∀ (z : Str) (t : Thing), getS S z = some t → ([z].map D.str).filterMap (dgetO S) = [t.d] := fun z t h => by simp [dgetO_S, h]
  have st2 : ∀ (y z : Str) (t u : Thing), getS S y = some t → getS S z = some u → ([y, z].map D.str).filterMap (dgetO S) = [t.d, u.d] := fun y z t u h1 h2 => by simp [dgetO_S, h1, h2]
  cases h with
  | miss c z h =>
    obtain ⟨hp0, j, hj, ej, _⟩ := List.find?_eq_some_iff_getElem.mp h
    exact absurd (hin z (by rw [← ej]; exact List.getElem_mem hj)) (of_decide_eq_true hp0)
  | lay x t =>
    have hw : cmdW (.lay x t) = ("lay" : Str) := rfl
    rw [hw]
    obtain ⟨hx, okt⟩ : NameOk x ∧ t.Ok := by cases ok with | lay a b => exact ⟨a, b⟩
    refine sd_skip (et_is (et_cmp hX (ed_var hX 6 rfl rfl) (ed_tup (eds_cons ed_str (eds_cons ed_str eds_nil)) (by decide)) (o_inTS ["undo", "again"])) (by decide +kernel)) ?_
    refine sd_ifT (et_is (et_cmp hX (ed_var hX 6 rfl rfl) (ed_tup (eds_cons ed_str (eds_cons ed_str eds_nil)) (by decide)) (o_inTS ["keep", "lay"])) (by decide +kernel)) ?_
    exact sd_retM (em_meth (CX := CX0) (CU := CU) (CN := CN) (A0 := A) (out := .ret (.str "done")) (s' := ⟨staD (putS S x t), s.past ++ [staD S], []⟩) hX D_laid (by decide) DF.cls (ec_var hX 0 rfl rfl) rfl (ds := [.str "lay", .str x, formD t.f, .str (hexT t.row)]) (eds_cons (ed_var hX 6 rfl rfl) (eds_cons (ed_ix hX (ed_var hX 2 rfl rfl) ed_int (i_lst (d := .str x) rfl)) (eds_cons (ed_ix hX (ed_var hX 4 rfl rfl) ed_int (i_lst (d := formD t.f) rfl)) (eds_cons (ed_ix hX (ed_ix hX (ed_var hX 7 rfl rfl) (ed_un hX ed_int u_neg) (i_lst (d := .tup [.str "bytes", .str (hexT t.row)]) rfl)) ed_int (i_tup (d := .str (hexT t.row)) rfl)) eds_nil)))) ⟨S, x, t, (by have := okS.few; omega), okt, e1, hp, rfl, rfl, rfl⟩ rz0 .self) (fun d q => ⟨q, rfl⟩)
  | less x a b ta tb ha hb =>
    have hw : cmdW (.less x a b) = ("less" : Str) := rfl
    rw [hw]
    have e5 := st2 a b ta tb ha hb
    rw [show onesS (.less x a b) = [a, b] from rfl, e5]
    refine sd_skip (et_is (et_cmp hX (ed_var hX 6 rfl rfl) (ed_tup (eds_cons ed_str (eds_cons ed_str eds_nil)) (by decide)) (o_inTS ["undo", "again"])) (by decide +kernel)) ?_
    refine sd_skip (et_is (et_cmp hX (ed_var hX 6 rfl rfl) (ed_tup (eds_cons ed_str (eds_cons ed_str eds_nil)) (by decide)) (o_inTS ["keep", "lay"])) (by decide +kernel)) ?_
    refine sd_ifT (et_is (et_cmp hX (ed_var hX 6 rfl rfl) (ed_tup (eds_cons ed_str (eds_cons ed_str (eds_cons ed_str (eds_cons ed_str eds_nil)))) (by decide)) (o_inTS ["sum", "less", "times", "over"])) (by decide +kernel)) ?_
    exact sd_retM (em_meth (CX := (L2N.CX P w)) (CU := CU) (CN := CN) (A0 := A) (out := _) (s' := _) hX D_of_two (by decide) DF.cls (ec_var hX 0 rfl rfl) rfl (ds := [.str "less", .lst [.str x], .lst [ta.d, tb.d]]) (eds_cons (ed_var hX 6 rfl rfl) (eds_cons (ed_var hX 2 rfl rfl) (eds_cons (ed_var hX 5 rfl rfl) eds_nil))) ⟨S, x, ta, tb, (by have := okS.few; omega), hok a ta ha, hok b tb hb, e1, hp, rfl, rfl, rfl⟩ (rz_of hX rs) .self) (fun d q => ⟨q, rfl⟩)
  | drop a ha =>
    have hw : cmdW (.drop a) = ("drop" : Str) := rfl
    rw [hw]
    refine sd_skip (et_is (et_cmp hX (ed_var hX 6 rfl rfl) (ed_tup (eds_cons ed_str (eds_cons ed_str eds_nil)) (by decide)) (o_inTS ["undo", "again"])) (by decide +kernel)) ?_
    refine sd_skip (et_is (et_cmp hX (ed_var hX 6 rfl rfl) (ed_tup (eds_cons ed_str (eds_cons ed_str eds_nil)) (by decide)) (o_inTS ["keep", "lay"])) (by decide +kernel)) ?_
    refine sd_skip (et_is (et_cmp hX (ed_var hX 6 rfl rfl) (ed_tup (eds_cons ed_str (eds_cons ed_str (eds_cons ed_str (eds_cons ed_str eds_nil)))) (by decide)) (o_inTS ["sum", "less", "times", "over"])) (by decide +kernel)) ?_
    refine sd_skip (et_is (et_cmp hX (ed_var hX 6 rfl rfl) ed_str o_eqS) (by decide +kernel)) ?_
    refine sd_skip (et_is (et_cmp hX (ed_var hX 6 rfl rfl) ed_str o_eqS) (by decide +kernel)) ?_
    refine sd_ifT (et_is (et_cmp hX (ed_var hX 6 rfl rfl) ed_str o_eqS) (by decide +kernel)) ?_
    exact sd_retM (em_meth (CX := CX0) (CU := CU) (CN := CN) (A0 := A) (out := .ret (.str "done")) (s' := ⟨staD (dropS S a), s.past ++ [staD S], []⟩) hX D_done (by decide) DF.cls (ec_var hX 0 rfl rfl) rfl (ds := [.lst [.tup [.str a, .non]], .str "done"]) (eds_cons (ed_lst (eds_cons (ed_tup (eds_cons (ed_ix hX (ed_ix hX (ed_var hX 7 rfl rfl) ed_int (i_lst (d := .tup [.str "one", .str a]) rfl)) ed_int (i_tup (d := .str a) rfl)) (eds_cons ed_non eds_nil)) (by simp)) eds_nil) (by simp)) (eds_cons ed_str eds_nil)) ⟨S, a, none, "done", (by have := okS.few; omega), (fun _ => ha), e1, hp, rfl, rfl, rfl⟩ rz0 .self) (fun d q => ⟨q, rfl⟩)
  | undo l d h =>
    have hw : cmdW (.undo) = ("undo" : Str) := rfl
    rw [hw]
    refine sd_ifT (et_is (et_cmp hX (ed_var hX 6 rfl rfl) (ed_tup (eds_cons ed_str (eds_cons ed_str eds_nil)) (by decide)) (o_inTS ["undo", "again"])) (by decide +kernel)) ?_
    exact sd_retM (em_meth (CX := CX0) (CU := CU) (CN := CN) (A0 := A) (out := .ret (.str "done")) (s' := ⟨d, l, s.undone ++ [s.now]⟩) hX D_moved (by decide) DF.cls (ec_var hX 0 rfl rfl) rfl (ds := [.str "undo"]) (eds_cons (ed_var hX 6 rfl rfl) eds_nil) ⟨l, d, hp, hu, rfl, .inl ⟨rfl, h, rfl⟩⟩ rz0 .self) (fun d q => ⟨q, rfl⟩)
  | again l d h =>
    have hw : cmdW (.again) = ("again" : Str) := rfl
    rw [hw]
    refine sd_ifT (et_is (et_cmp hX (ed_var hX 6 rfl rfl) (ed_tup (eds_cons ed_str (eds_cons ed_str eds_nil)) (by decide)) (o_inTS ["undo", "again"])) (by decide +kernel)) ?_
    exact sd_retM (em_meth (CX := CX0) (CU := CU) (CN := CN) (A0 := A) (out := .ret (.str "done")) (s' := ⟨d, s.past ++ [s.now], l⟩) hX D_moved (by decide) DF.cls (ec_var hX 0 rfl rfl) rfl (ds := [.str "again"]) (eds_cons (ed_var hX 6 rfl rfl) eds_nil) ⟨l, d, hp, hu, rfl, .inr ⟨rfl, h, rfl⟩⟩ rz0 .self) (fun d q => ⟨q, rfl⟩)
  | names =>
    have hw : cmdW (.names) = ("names" : Str) := rfl
    rw [hw]
    refine sd_skip (et_is (et_cmp hX (ed_var hX 6 rfl rfl) (ed_tup (eds_cons ed_str (eds_cons ed_str eds_nil)) (by decide)) (o_inTS ["undo", "again"])) (by decide +kernel)) ?_
    refine sd_skip (et_is (et_cmp hX (ed_var hX 6 rfl rfl) (ed_tup (eds_cons ed_str (eds_cons ed_str eds_nil)) (by decide)) (o_inTS ["keep", "lay"])) (by decide +kernel)) ?_
    refine sd_skip (et_is (et_cmp hX (ed_var hX 6 rfl rfl) (ed_tup (eds_cons ed_str (eds_cons ed_str (eds_cons ed_str (eds_cons ed_str eds_nil)))) (by decide)) (o_inTS ["sum", "less", "times", "over"])) (by decide +kernel)) ?_
    refine sd_skip (et_is (et_cmp hX (ed_var hX 6 rfl rfl) ed_str o_eqS) (by decide +kernel)) ?_
    refine sd_skip (et_is (et_cmp hX (ed_var hX 6 rfl rfl) ed_str o_eqS) (by decide +kernel)) ?_
    refine sd_skip (et_is (et_cmp hX (ed_var hX 6 rfl rfl) ed_str o_eqS) (by decide +kernel)) ?_
    exact sd_retM (em_meth (CX := (L2N.CX P w)) (CU := CU) (CN := CN) (A0 := A) (out := _) (s' := _) hX D_asked (by decide) DF.cls (ec_var hX 0 rfl rfl) rfl (ds := _) (eds_cons (ed_var hX 6 rfl rfl) (eds_cons (ed_var hX 7 rfl rfl) (eds_cons (ed_var hX 4 rfl rfl) (eds_cons (ed_var hX 5 rfl rfl) eds_nil)))) ⟨rfl, S, okS, e1, .names _ _⟩ (rz_of hX rs) .self) (fun d q => ⟨q, rfl⟩)
  | bytes a t h =>
    have hw : cmdW (.bytes a) = ("bytes" : Str) := rfl
    rw [hw]
    have e5 := st1 a t h
    rw [show onesS (.bytes a) = [a] from rfl, e5]
    refine sd_skip (et_is (et_cmp hX (ed_var hX 6 rfl rfl) (ed_tup (eds_cons ed_str (eds_cons ed_str eds_nil)) (by decide)) (o_inTS ["undo", "again"])) (by decide +kernel)) ?_
    refine sd_skip (et_is (et_cmp hX (ed_var hX 6 rfl rfl) (ed_tup (eds_cons ed_str (eds_cons ed_str eds_nil)) (by decide)) (o_inTS ["keep", "lay"])) (by decide +kernel)) ?_
    refine sd_skip (et_is (et_cmp hX (ed_var hX 6 rfl rfl) (ed_tup (eds_cons ed_str (eds_cons ed_str (eds_cons ed_str (eds_cons ed_str eds_nil)))) (by decide)) (o_inTS ["sum", "less", "times", "over"])) (by decide +kernel)) ?_
    refine sd_skip (et_is (et_cmp hX (ed_var hX 6 rfl rfl) ed_str o_eqS) (by decide +kernel)) ?_
    refine sd_skip (et_is (et_cmp hX (ed_var hX 6 rfl rfl) ed_str o_eqS) (by decide +kernel)) ?_
    refine sd_skip (et_is (et_cmp hX (ed_var hX 6 rfl rfl) ed_str o_eqS) (by decide +kernel)) ?_
    exact sd_retM (em_meth (CX := (L2N.CX P w)) (CU := CU) (CN := CN) (A0 := A) (out := _) (s' := _) hX D_asked (by decide) DF.cls (ec_var hX 0 rfl rfl) rfl (ds := _) (eds_cons (ed_var hX 6 rfl rfl) (eds_cons (ed_var hX 7 rfl rfl) (eds_cons (ed_var hX 4 rfl rfl) (eds_cons (ed_var hX 5 rfl rfl) eds_nil)))) ⟨rfl, S, okS, e1, .bytes _ _ t (hok a t h)⟩ (rz_of hX rs) .self) (fun d q => ⟨q, rfl⟩)
  | shape a t h =>
    have hw : cmdW (.shape a) = ("shape" : Str) := rfl
    rw [hw]
    have e5 := st1 a t h
    rw [show onesS (.shape a) = [a] from rfl, e5]
    refine sd_skip (et_is (et_cmp hX (ed_var hX 6 rfl rfl) (ed_tup (eds_cons ed_str (eds_cons ed_str eds_nil)) (by decide)) (o_inTS ["undo", "again"])) (by decide +kernel)) ?_
    refine sd_skip (et_is (et_cmp hX (ed_var hX 6 rfl rfl) (ed_tup (eds_cons ed_str (eds_cons ed_str eds_nil)) (by decide)) (o_inTS ["keep", "lay"])) (by decide +kernel)) ?_
    refine sd_skip (et_is (et_cmp hX (ed_var hX 6 rfl rfl) (ed_tup (eds_cons ed_str (eds_cons ed_str (eds_cons ed_str (eds_cons ed_str eds_nil)))) (by decide)) (o_inTS ["sum", "less", "times", "over"])) (by decide +kernel)) ?_
    refine sd_skip (et_is (et_cmp hX (ed_var hX 6 rfl rfl) ed_str o_eqS) (by decide +kernel)) ?_
    refine sd_skip (et_is (et_cmp hX (ed_var hX 6 rfl rfl) ed_str o_eqS) (by decide +kernel)) ?_
    refine sd_skip (et_is (et_cmp hX (ed_var hX 6 rfl rfl) ed_str o_eqS) (by decide +kernel)) ?_
    exact sd_retM (em_meth (CX := (L2N.CX P w)) (CU := CU) (CN := CN) (A0 := A) (out := _) (s' := _) hX D_asked (by decide) DF.cls (ec_var hX 0 rfl rfl) rfl (ds := _) (eds_cons (ed_var hX 6 rfl rfl) (eds_cons (ed_var hX 7 rfl rfl) (eds_cons (ed_var hX 4 rfl rfl) (eds_cons (ed_var hX 5 rfl rfl) eds_nil)))) ⟨rfl, S, okS, e1, .shape _ _ t (hok a t h)⟩ (rz_of hX rs) .self) (fun d q => ⟨q, rfl⟩)
  | look a t h =>
    have hw : cmdW (.look a) = ("show" : Str) := rfl
    rw [hw]
    have e5 := st1 a t h
    rw [show onesS (.look a) = [a] from rfl, e5]
    refine sd_skip (et_is (et_cmp hX (ed_var hX 6 rfl rfl) (ed_tup (eds_cons ed_str (eds_cons ed_str eds_nil)) (by decide)) (o_inTS ["undo", "again"])) (by decide +kernel)) ?_
    refine sd_skip (et_is (et_cmp hX (ed_var hX 6 rfl rfl) (ed_tup (eds_cons ed_str (eds_cons ed_str eds_nil)) (by decide)) (o_inTS ["keep", "lay"])) (by decide +kernel)) ?_
    refine sd_skip (et_is (et_cmp hX (ed_var hX 6 rfl rfl) (ed_tup (eds_cons ed_str (eds_cons ed_str (eds_cons ed_str (eds_cons ed_str eds_nil)))) (by decide)) (o_inTS ["sum", "less", "times", "over"])) (by decide +kernel)) ?_
    refine sd_skip (et_is (et_cmp hX (ed_var hX 6 rfl rfl) ed_str o_eqS) (by decide +kernel)) ?_
    refine sd_skip (et_is (et_cmp hX (ed_var hX 6 rfl rfl) ed_str o_eqS) (by decide +kernel)) ?_
    refine sd_skip (et_is (et_cmp hX (ed_var hX 6 rfl rfl) ed_str o_eqS) (by decide +kernel)) ?_
    exact sd_retM (em_meth (CX := (L2N.CX P w)) (CU := CU) (CN := CN) (A0 := A) (out := _) (s' := _) hX D_asked (by decide) DF.cls (ec_var hX 0 rfl rfl) rfl (ds := _) (eds_cons (ed_var hX 6 rfl rfl) (eds_cons (ed_var hX 7 rfl rfl) (eds_cons (ed_var hX 4 rfl rfl) (eds_cons (ed_var hX 5 rfl rfl) eds_nil)))) ⟨rfl, S, okS, e1, .look _ _ t (hok a t h)⟩ (rz_of hX rs) .self) (fun d q => ⟨q, rfl⟩)
  | order a b ta tb ha hb =>
    have hw : cmdW (.order a b) = ("order" : Str) := rfl
    rw [hw]
    have e5 := st2 a b ta tb ha hb
    rw [show onesS (.order a b) = [a, b] from rfl, e5]
    refine sd_skip (et_is (et_cmp hX (ed_var hX 6 rfl rfl) (ed_tup (eds_cons ed_str (eds_cons ed_str eds_nil)) (by decide)) (o_inTS ["undo", "again"])) (by decide +kernel)) ?_
    refine sd_skip (et_is (et_cmp hX (ed_var hX 6 rfl rfl) (ed_tup (eds_cons ed_str (eds_cons ed_str eds_nil)) (by decide)) (o_inTS ["keep", "lay"])) (by decide +kernel)) ?_
    refine sd_skip (et_is (et_cmp hX (ed_var hX 6 rfl rfl) (ed_tup (eds_cons ed_str (eds_cons ed_str (eds_cons ed_str (eds_cons ed_str eds_nil)))) (by decide)) (o_inTS ["sum", "less", "times", "over"])) (by decide +kernel)) ?_
    refine sd_skip (et_is (et_cmp hX (ed_var hX 6 rfl rfl) ed_str o_eqS) (by decide +kernel)) ?_
    refine sd_skip (et_is (et_cmp hX (ed_var hX 6 rfl rfl) ed_str o_eqS) (by decide +kernel)) ?_
    refine sd_skip (et_is (et_cmp hX (ed_var hX 6 rfl rfl) ed_str o_eqS) (by decide +kernel)) ?_
    exact sd_retM (em_meth (CX := (L2N.CX P w)) (CU := CU) (CN := CN) (A0 := A) (out := _) (s' := _) hX D_asked (by decide) DF.cls (ec_var hX 0 rfl rfl) rfl (ds := _) (eds_cons (ed_var hX 6 rfl rfl) (eds_cons (ed_var hX 7 rfl rfl) (eds_cons (ed_var hX 4 rfl rfl) (eds_cons (ed_var hX 5 rfl rfl) eds_nil)))) ⟨rfl, S, okS, e1, .order _ _ ta tb (hok a ta ha) (hok b tb hb)⟩ (rz_of hX rs) .self) (fun d q => ⟨q, rfl⟩)
end
end Tl
set_option maxHeartbeats 2000000
/-! E2: try with several clauses that each bind the one name; a clause names a class or two. -/
namespace Ex3
open PySem PySem.Spec PyProof.Rows L2 L2N
theorem flying_keeps {B h h' : Heap} {l : List Env} {a : Addr} {Z : Obj → Prop} (f : HandSPX.FlyingZ B l a Z h) (k : ∀ b o, h.get? b = some o → h'.get? b = some o) : HandSPX.FlyingZ B l a Z h' := by
  obtain ⟨k1, k2, k3, oe, vs, T, oT, ts, h1, h2, h3, h4, h5, h6, h7, h8, h9⟩ := f
  exact ⟨fun b o e => k b o (k1 b o e), k2, Heap.FunFrames.of_keeps (fun b o e _ => ⟨o, k b o e, rfl⟩) k3, oe, vs, T, oT, ts, k _ _ h1, h2, h3, h4, h5, h6, k _ _ h7, h8, h9⟩
/-- what a clause names -/
inductive Tst where
  | one (c : Value) | two (c1 c2 : Value)
def Tst.ans (K : PySem.W.Frag) (cls : Value) : Tst → Option Bool
  | .one c => PySem.W.exmOne K cls c
  | .two c1 c2 => PySem.W.exmAny K cls [c1, c2]
inductive TstOk (X : Cx) : Expr → Tst → Prop
  | one {x : Str} {np : Pos} {c : Value} (hc : Names X x c) : TstOk X (.Name x np) (.one c)
  | two {x1 x2 : Str} {p1 p2 tpos : Pos} {kk : Nat} {c1 c2 : Value} (h1 : Names X x1 c1) (h2 : Names X x2 c2) : TstOk X (.Tuple [.Name x1 p1, .Name x2 p2] kk tpos) (.two c1 c2)
abbrev Cls3 : Type := Tst × (Addr → Value → Option Addr → TS)
/-- what the clauses wish of an exception of the body; slot i is the name's -/
def wAll (K : PySem.W.Frag) (i : Nat) (Wout : WX) (D : Ends) : List Cls3 → WX
  | [] => Wout
  | (t, ts) :: r => fun cls d σ H => ∃ b, t.ans K cls = some b ∧
    (b = true → ∀ a, H a = none → ts a cls d { nx := fun σ' H' => D.nx (σ'.set i none) H', rt := D.rt, bk := fun σ' H' => D.bk (σ'.set i none) H', ct := fun σ' H' => D.ct (σ'.set i none) H' } (σ.set i (some (.ref a))) H) ∧ (b = false → wAll K i Wout D r cls d σ H)
inductive HdsA (X : Cx) (n : Str) : List ExceptHandler → List Cls3 → Prop
  | nil : HdsA X n [] []
  | cons {te : Expr} {t : Tst} {ts : Addr → Value → Option Addr → TS} {b₀ : Stmt} {suite : List Stmt} {pos' : Pos} {hds : List ExceptHandler} {l : List Cls3} (ht : TstOk X te t)
      (hsu : ∀ (a : Addr) (oe : Obj) (cls : Value) (d : Option Addr) (pn : List (Addr × Obj)), Zn cls d oe → (∃ vs, oe.data = .fields vs) → PSs (X.suite a ((a, oe) :: pn)) (b₀ :: suite) (ts a cls d)) (r : HdsA X n hds l) :
      HdsA X n (.ExceptHandler (some te) (some n) (b₀ :: suite) pos' :: hds) ((t, ts) :: l)
section
variable {X : Cx} {body : List Stmt} {h₀ : ExceptHandler} {hds : List ExceptHandler} {l : List Cls3} {pos : Pos} {tb : WX → TS} {Wout : WX} {n : Str} {i : Nat}
theorem ps_try_all (hs : X.stack = X.env :: X.outer) (hf : X.env.frame = some X.env.locals) (hN : X.N.Nodup) (hi : X.N[i]? = some n) (hln : X.env.kindOf n = some .local) (tk : L2N.Takes X Wout)
    (hb : ∀ (W : WX) (pn : List (Addr × Obj)) (xe : Value → Shared → Prop), L2N.Takes (X.tr pn xe) W → PassesOwn (model X.prog X.w) X.A X.env xe → PSs (X.tr pn xe) body (tb W))
    (hh : HdsA X n (h₀ :: hds) l) : PS X (.Try body (h₀ :: hds) [] [] pos) (fun D σ H => tb (wAll X.K i Wout D l) D σ H) := by
  refine ⟨fun pins s σ H D I h => ?_⟩
  have ok := I.ok
  have hfr : X.A.frames = some (X.env :: X.outer) := by rw [ok.frames, hs]
  have hloc : Loc X.env.scope n := .inl hln
  refine wpAny_Try_except ?_
  refine wpAny_mono ((hb (wAll X.K i Wout D l) (X.pn ++ pins) (fun e s₁ => wpAny (model X.prog X.w) X.A (noteFrame e X.env) (fun _ s₂ => wpAny (model X.prog X.w) X.A (setFlight e none) (fun _ s₃ =>
    wpAny (model X.prog X.w) X.A (handleBy e X.env (h₀ :: hds)) (SP X pins D) X.xe s₃) X.xe s₂) X.xe s₁) (fun u s' xx => ?_) PassesOwn.looking).run [] s σ H D (I.toTry _) h) (fun f s1 hsp => ?_) (fun e s1 he => he)
  · obtain ⟨a, B, sI, pins', σ', H', cls, d, rfl, J', nb, up, sky, na, os, ag, w⟩ := xx
    have J : Inv X pins σ' H' sI := J'.ofTry ok
    have sky' : Sky B (X.env :: X.outer) a (Zn cls d) X.env.locals s'.heap := by rw [← hs]; exact sky
    show wpAny (model X.prog X.w) X.A (noteFrame (.ref a) X.env) _ _ _
    refine L2N.Sky.land Zn.steady hfr hf sky' fun h3 fl3 up3 => ?_
    -- over the clauses, at any state in which the exception is on the ground
    have go : ∀ {hds' : List ExceptHandler} {l' : List Cls3}, HdsA X n hds' l' → wAll X.K i Wout D l' cls d σ' H' → ∀ s3 : Shared, HandSPX.FlyingZ B (X.env :: X.outer) a (Zn cls d) s3.heap → sI.heap.UpToSlots s3.heap → s3.os = sI.os → AllBare s3.gens →
        wpAny (model X.prog X.w) X.A (handleBy (.ref a) X.env hds') (SP X pins D) X.xe s3 := by
      intro hds' l' hk
      induction hk with
      | nil =>
        intro w s3 fl up os ag
        refine PX.no_clauseZ hf fl fun h4 hh4 up4 => tk _ _ ?_
        exact ⟨a, B, sI, pins, σ', H', cls, d, rfl, J, nb, up.trans up4, .inr (.inr (by rw [hs]; exact hh4)), na, os, ag, w⟩
      | @cons te t ts b₀ suite pos' hds2 l2 ht hsu r ih =>
        intro w s3 fl up os ag
        obtain ⟨b, hb1, hyes, hno⟩ := w
        have J3 : Inv X pins σ' H' s3 := J.landed nb fl.1 up os ag
        obtain ⟨oe3, vs3, he3, hz3, hd3⟩ := fl.there
        have notFr : ∀ {h : Heap} {o : Obj} {vs : Array Value}, h.FunFrames B (X.env :: X.outer) → h.get? a = some o → o.data = .fields vs → a ∉ frs (X.env :: X.outer) := fun {h o vs} ff e dd hm => by
          obtain ⟨_, o', e', hnf⟩ := ff.mem hm
          rw [e] at e'; cases e'
          exact hnf _ dd
        have nfr := notFr fl.2.2.1 he3 hd3
        have nL : a ≠ X.env.locals := fun z => nfr (List.mem_filterMap.mpr ⟨X.env, List.mem_cons_self, by rw [hf, z]⟩)
        have nF : a ∉ X.fs := fun hm => by
          obtain ⟨e, he, q⟩ := List.mem_filterMap.mp hm
          exact nfr (List.mem_filterMap.mpr ⟨e, List.mem_cons_of_mem _ he, q⟩)
        have S3 := J3.suite he3 hd3 na nL nF
        -- the suite, from any state behind the test
        have taken : b = true → ∀ s4 : Shared, HandSPX.FlyingZ B (X.env :: X.outer) a (Zn cls d) s4.heap → sI.heap.UpToSlots s4.heap → s4.os = sI.os → AllBare s4.gens →
            codeAny (model X.prog X.w) (X.A.mark (some (.ref a))) (.handlers (.ref a) [.ExceptHandler none (some n) (b₀ :: suite) pos'] X.env) (fun r s5 => match r with
              | .ok f => (match some n with
                | none => SP X pins D f s5
                | some n => wpAny (model X.prog X.w) X.A (do bindName X.env n .none; unbindBehindTheSuite X.env n pos') (fun _ s6 => SP X pins D f s6) X.xe s5)
              | .error x => cameBackBy (model X.prog X.w) X.A X.env X.xe x s5) s4 := by
          intro hb s4 fl4 up4 os4 ag4
          refine codeAny_handlers_suite_as ?_
          refine HandSPX.lands_againZ fl4 fun h5 fl5 up5 => ?_
          have J5 : Inv X pins σ' H' { s4 with heap := h5 } := J.landed nb fl5.1 (up4.trans up5) os4 ag4
          obtain ⟨oe5, vs5, he5, hz5, hd5⟩ := fl5.there
          have S5 := J5.suite he5 hd5 na nL nF
          refine store_ok (X := X.suite a ((a, oe5) :: (X.pn ++ pins))) (v := .ref a) S5 hN hi hloc rfl (fun s6 S6 => ?_) (.inr hln)
          refine wpAny_mono ((hsu a oe5 cls d (X.pn ++ pins) hz5 ⟨_, hd5⟩).run [] s6 _ H' _ S6 (hyes hb a na)) (fun f s7 hsp => ?_) (fun _ _ z => False.elim z)
          have end_ : ∀ {σ6 : L2.St} {H6 : Hp} {Q : Shared → Prop}, Inv (X.suite a ((a, oe5) :: (X.pn ++ pins))) [] σ6 H6 s7 → (∀ s8, Inv X pins (σ6.set i none) H6 s8 → Q s8) →
              wpAny (model X.prog X.w) X.A (do bindName X.env n .none; unbindBehindTheSuite X.env n pos') (fun _ s8 => Q s8) X.xe s7 := fun {σ6 H6 Q} S6 hq => gone_ok (S6.unsuite ok) hN hi hln hq
          cases f with
          | next =>
            obtain ⟨σ6, H6, S7, q6⟩ := hsp
            exact end_ S7 fun s8 J7 => ⟨_, _, J7, q6⟩
          | brk =>
            obtain ⟨σ6, H6, S7, q6⟩ := hsp
            exact end_ S7 fun s8 J7 => ⟨_, _, J7, q6⟩
          | cont =>
            obtain ⟨σ6, H6, S7, q6⟩ := hsp
            exact end_ S7 fun s8 J7 => ⟨_, _, J7, q6⟩
          | ret u =>
            obtain ⟨v6, σ6, H6, S7, r6, q6⟩ := hsp
            exact end_ S7 fun s8 J7 => ⟨_, _, _, J7, r6, q6⟩
        have name : ∀ {x : Str} {np : Pos} {c : Value} {Q : Value → Shared → Prop} {E : Value → Shared → Prop}, Names X x c → Q c s3 → wpAny (model X.prog X.w) (X.A.mark (some (.ref a))) (eval (.Name x np) X.env) Q E s3 := fun {x np c Q E} hc q => by
          obtain ⟨hg, hdbg, hm | ⟨hm, hv, hnn⟩⟩ := hc
          · exact ld_glob (X := X.suite a ((a, oe3) :: (X.pn ++ pins))) S3 hg hm q hdbg
          · exact ld_blt (X := X.suite a ((a, oe3) :: (X.pn ++ pins))) S3 hg hm hv q hnn hdbg
        have LT : PySem.W.Looks (model X.prog X.w) s3.heap (typeOf (.ref a)) cls := fun A Q E s k q => wpAny_typeOf_ref (k _ _ he3) (by rw [hz3.1]; exact q)
        refine wpAny_handleBy_cons (codeAny_handlers_test ?_) (by intro q; cases q)
        cases ht with
        | @one x np c hc =>
          have LM := PySem.W.exm_one (M := model X.prog X.w) (J3.kIn) LT hb1
          refine name hc (LM.here ?_)
          cases b with
          | true => exact taken rfl s3 fl up os ag
          | false => exact ih (hno rfl) s3 fl up os ag
        | @two x1 x2 p1 p2 tpos kk c1 c2 n1 n2 =>
          refine wpAny_Tuple ?_
          refine wpAny_items_cons (name n1 ?_)
          refine wpAny_items_cons (name n2 ?_)
          refine wpAny_items_nil ⟨by size_fits, ?_⟩
          have kp : ∀ q o, s3.heap.get? q = some o → (s3.heap.push { cls := .type "tuple", data := .seq [c1, c2].toArray }).get? q = some o := fun _ _ z => Heap.get?_push_of_some _ z
          have LM := PySem.W.exm_tup2 (M := model X.prog X.w) (J3.kIn.keeps kp) (LT.keeps kp) (Heap.get?_push_size s3.heap rfl) hb1
          refine LM.here ?_
          have up' := up.trans (Heap.UpToSlots.of_keeps kp)
          cases b with
          | true => exact taken rfl { s3 with heap := s3.heap.push { cls := .type "tuple", data := .seq [c1, c2].toArray } } (flying_keeps fl kp) up' os ag
          | false => exact ih (hno rfl) { s3 with heap := s3.heap.push { cls := .type "tuple", data := .seq [c1, c2].toArray } } (flying_keeps fl kp) up' os ag
    exact go hh w { s' with heap := h3 } fl3 (up.trans up3) os ag
  · cases f with
    | next =>
      obtain ⟨σ', H', J', q⟩ := hsp
      exact wpAny_execs_nil ⟨σ', H', J'.ofTry ok, q⟩
    | brk =>
      obtain ⟨σ', H', J', q⟩ := hsp
      exact ⟨σ', H', J'.ofTry ok, q⟩
    | cont =>
      obtain ⟨σ', H', J', q⟩ := hsp
      exact ⟨σ', H', J'.ofTry ok, q⟩
    | ret u =>
      obtain ⟨v, σ', H', J', r, q⟩ := hsp
      exact ⟨v, σ', H', J'.ofTry ok, r, q⟩
end
end Ex3
set_option maxHeartbeats 4000000
/-! E3: where an exception is handled: a list walked, a pair unpacked, a list comprehension. -/
namespace Ex3
open PySem PySem.Spec PyProof.Rows L2 L2H HotX
section
variable {prog : Program} {w : World} {A : Around} {E : Value → Shared → Prop} {s : Shared}
theorem next_list_end_hot {it l x1 : Addr} {i : Nat} {items : Array Value} {Q : Option Value → Shared → Prop} (hot : HotAt A x1 s.heap) (hne : x1 ≠ it) (hit : s.heap.IsListIter it l i) (hl : s.heap.IsList l items) (hx : items[i]? = none)
    (hQ : ∀ h', Heap.ExtBut it s.heap h' → Q none { s with heap := h' }) : wpAny (model prog w) A (pyNext (.ref it)) Q E s := by
  obtain ⟨o, ho, hc, hd⟩ := id hit
  obtain ⟨ol, hol, _, nl, hdl⟩ := hl
  obtain ⟨hh, o1, vs1, h1, d1, c1⟩ := hot
  unfold pyNext
  refine wpAny_bind (wpAny_attempt (wpAny_callSpecial?_slot (name := Str.ofString "__next__") hit.typeIs slot_listiter_next
    (wpAny_call_entry slot_listiter_next hit.typeIs entry_listiter_next ?_ (args_listiter_next _))))
  show wpAny _ _ (field (.ref it) 0 >>= _) _ _ s
  refine wpAny_bind (wpAny_field ho hd (x := .ref l) rfl ?_)
  show wpAny _ _ (if (Value.ref l == Value.none) = true then _ else _) _ _ s
  rw [if_neg (show ¬ ((Value.ref l == Value.none) = true) from Bool.false_ne_true)]
  show wpAny _ _ (field (.ref it) 1 >>= _) _ _ s
  refine wpAny_bind (wpAny_field ho hd (x := .int i 0) rfl ?_)
  show wpAny _ _ (seqItems? (.ref l) >>= _) _ _ s
  refine wpAny_bind (wpAny_seqItems hol hdl ?_)
  simp only [Int.toNat_natCast, hx]
  refine wpAny_bind (wpAny_rule (wpAny_bind (wpAny_setField ho hd (by simp) ?_)))
  show wpAny _ _ (newExc (.type "StopIteration") [] >>= _) _ _ _
  have g1 := (Heap.get?_update_other (h := s.heap) (f := Obj.mapFields (·.setIfInBounds 0 Value.none)) (a := it) (b := x1) hne.symm).trans h1
  refine wpAny_bind ?_
  simp only [newExc, newTuple]
  refine wpAny_bind (wpAny_newObj_type ?_ (by size_fits))
  refine wpAny_bind (m := firstArgMember _ _) (wpAny_of_eq (a := Value.none) (by first | rfl | (simp only [firstArgMember]; rfl)) ?_)
  refine wpAny_newObj_type ?_ (by size_fits)
  refine raiseNew_hot (x1 := x1) ⟨hh, o1, vs1, Heap.get?_push_of_some _ (Heap.get?_push_of_some _ g1), d1, c1⟩ (Nat.ne_of_lt (Heap.lt_size (Heap.get?_push_of_some _ g1))) (Heap.get?_push_size _ rfl) rfl (by first | (simp; done) | (simp; omega) | (simp only [Array.size_append]; simp; omega)) ?_
  refine wpAny_bind (wpAny_isInstance (T := "StopIteration") (b := true) ⟨_, Heap.get?_update_self _ (Heap.get?_push_size _ rfl) rfl, rfl⟩ isSubtype_stop ?_)
  refine wpAny_pure (hQ _ fun b o hb e => ?_)
  have e1 := (Heap.get?_update_other (h := s.heap) (f := Obj.mapFields (·.setIfInBounds 0 Value.none)) (a := it) (b := b) (Ne.symm hb)).trans e
  rw [Heap.get?_update_other _ _ (Nat.ne_of_gt (Heap.lt_size (Heap.get?_push_of_some _ e1)))]
  exact Heap.get?_push_of_some _ (Heap.get?_push_of_some _ e1)
theorem next_tuple_end_hot {it t x1 : Addr} {i : Nat} {items : Array Value} {Q : Option Value → Shared → Prop} (hot : HotAt A x1 s.heap) (hne : x1 ≠ it) (hit : IsTupIter s.heap it t i) (hl : IsTup s.heap t items) (hx : items[i]? = none)
    (hQ : ∀ h', Heap.ExtBut it s.heap h' → Q none { s with heap := h' }) : wpAny (model prog w) A (pyNext (.ref it)) Q E s := by
  obtain ⟨o, ho, hc, hd⟩ := id hit
  obtain ⟨ol, hol, _, nl, hdl⟩ := hl
  obtain ⟨hh, o1, vs1, h1, d1, c1⟩ := hot
  unfold pyNext
  refine wpAny_bind (wpAny_attempt (wpAny_callSpecial?_slot (name := Str.ofString "__next__") hit.typeIs slot_tupleiter_next
    (wpAny_call_entry slot_tupleiter_next hit.typeIs entry_tupleiter_next ?_ (args_tupleiter_next _))))
  show wpAny _ _ (field (.ref it) 0 >>= _) _ _ s
  refine wpAny_bind (wpAny_field ho hd (x := .ref t) rfl ?_)
  show wpAny _ _ (if (Value.ref t == Value.none) = true then _ else _) _ _ s
  rw [if_neg (show ¬ ((Value.ref t == Value.none) = true) from Bool.false_ne_true)]
  show wpAny _ _ (field (.ref it) 1 >>= _) _ _ s
  refine wpAny_bind (wpAny_field ho hd (x := .int i 0) rfl ?_)
  show wpAny _ _ (seqItems? (.ref t) >>= _) _ _ s
  refine wpAny_bind (wpAny_seqItems hol hdl ?_)
  simp only [Int.toNat_natCast, hx]
  refine wpAny_bind (wpAny_rule (wpAny_bind (wpAny_setField ho hd (by simp) ?_)))
  show wpAny _ _ (newExc (.type "StopIteration") [] >>= _) _ _ _
  have g1 := (Heap.get?_update_other (h := s.heap) (f := Obj.mapFields (·.setIfInBounds 0 Value.none)) (a := it) (b := x1) hne.symm).trans h1
  refine wpAny_bind ?_
  simp only [newExc, newTuple]
  refine wpAny_bind (wpAny_newObj_type ?_ (by size_fits))
  refine wpAny_bind (m := firstArgMember _ _) (wpAny_of_eq (a := Value.none) (by first | rfl | (simp only [firstArgMember]; rfl)) ?_)
  refine wpAny_newObj_type ?_ (by size_fits)
  refine raiseNew_hot (x1 := x1) ⟨hh, o1, vs1, Heap.get?_push_of_some _ (Heap.get?_push_of_some _ g1), d1, c1⟩ (Nat.ne_of_lt (Heap.lt_size (Heap.get?_push_of_some _ g1))) (Heap.get?_push_size _ rfl) rfl (by first | (simp; done) | (simp; omega) | (simp only [Array.size_append]; simp; omega)) ?_
  refine wpAny_bind (wpAny_isInstance (T := "StopIteration") (b := true) ⟨_, Heap.get?_update_self _ (Heap.get?_push_size _ rfl) rfl, rfl⟩ isSubtype_stop ?_)
  refine wpAny_pure (hQ _ fun b o hb e => ?_)
  have e1 := (Heap.get?_update_other (h := s.heap) (f := Obj.mapFields (·.setIfInBounds 0 Value.none)) (a := it) (b := b) (Ne.symm hb)).trans e
  rw [Heap.get?_update_other _ _ (Nat.ne_of_gt (Heap.lt_size (Heap.get?_push_of_some _ e1)))]
  exact Heap.get?_push_of_some _ (Heap.get?_push_of_some _ e1)

theorem unpackItems_hot {t x1 : Addr} {items : Array Value} {Q : List Value → Shared → Prop} (hot : HotAt A x1 s.heap) (ht : IsTup s.heap t items)
    (hQ : ∀ h', Heap.ExtBut s.heap.objs.size s.heap h' → Q items.toList { s with heap := h' }) : wpAny (model prog w) A (unpackItems (.ref t) items.size none) Q E s := by
  have hlt : t ≠ s.heap.objs.size := by obtain ⟨o, ho, _⟩ := ht; exact Nat.ne_of_lt (Heap.lt_size ho)
  obtain ⟨hh, o1, vs1, h1, d1, c1⟩ := hot
  have hx1 : x1 ≠ s.heap.objs.size := Nat.ne_of_lt (Heap.lt_size h1)
  unfold unpackItems
  refine wpAny_bind ?_
  · unfold notIterableAtAll
    refine wpAny_bind (wpAny_specialOf ht.typeIs slot_tuple_iter.lookup ?_)
    refine wpAny_pure ?_
    simp only [Bool.false_eq_true, if_false]
    refine wpAny_bind (wpAny_holding (iter_tuple ht ?_))
    refine wpAny_bind (wpAny_holding (draw_tuple hlt items.size 0 _ _ ⟨_, Heap.get?_push_size _ rfl, rfl, rfl⟩ (ht.push _) (by omega) fun h₁ hit₁ hs₁ => ?_))
    have hall : List.take items.size (List.drop 0 items.toList) = items.toList := by
      rw [List.drop_zero]; exact List.take_of_length_le (by simp)
    rw [hall]
    rw [if_neg (by simp)]
    have ht₁ : IsTup h₁ t items := (ht.push _).extBut hs₁.extBut hlt
    have g1 : h₁.get? x1 = some o1 := hs₁.extBut x1 o1 hx1 (Heap.get?_push_of_some _ h1)
    refine wpAny_bind (wpAny_holding (next_tuple_end_hot (x1 := x1) ⟨hh, o1, vs1, g1, d1, c1⟩ hx1 hit₁ ht₁ (by simp) fun h₂ he₂ => ?_))
    simp only [Option.isSome_none, Bool.false_eq_true, if_false]
    refine wpAny_pure (hQ h₂ fun b o hb e => he₂ b o hb (hs₁.extBut b o hb (Heap.get?_push_of_some _ e)))
theorem assign_tuple_hot {env : Env} {elts : List Expr} {x0} {pos : Pos} {t x1 : Addr} {items : Array Value} {Q : Unit → Shared → Prop} (hot : HotAt A x1 s.heap) (ht : IsTup s.heap t items)
    (hn : (assignEach elts env).length = items.size) (hstar : (assignEach elts env).findIdx? (·.1) = none)
    (h : ∀ h', Heap.ExtBut s.heap.objs.size s.heap h' → wpAny (model prog w) A (assignInOrder ((assignEach elts env).map (·.2)) items.toList) Q E { s with heap := h' }) :
    wpAny (model prog w) A (assign (.Tuple elts x0 pos) env (.ref t)) Q E s := by
  rw [assign_Tuple]
  refine wpAny_bind (wpAny_standAt ?_)
  unfold unpack
  rw [hn, hstar]
  exact wpAny_bind (wpAny_holding (unpackItems_hot hot ht h))
end
/-- at every state of the context the handled exception stands, its context None -/
def HotS (X : Cx) : Prop := ∃ x1 : Addr, ∀ (pins : List (Addr × Obj)) (σ : L2.St) (H : Hp) (s : Shared), Inv X pins σ H s → HotAt X.A x1 s.heap ∧ ∃ o, X.s_0.heap.get? x1 = some o
section
variable {X : Cx}
theorem pg_tupH {es : List Expr} {k : Nat} {pos : Pos} {t : TGs} {n : Nat} (hc : HotS X) (h : PGs X es t)
    (hn : (assignEach es X.env).length = n := by rfl) (hst : (assignEach es X.env).findIdx? (·.1) = none := by rfl) : PG X (.Tuple es k pos) (gTup X.K n t) := by
  refine ⟨fun pins s σ H v u Q I r hw => ?_⟩
  obtain ⟨a, xs, e1, hq, hl, hw⟩ := hw
  subst e1
  cases r
  obtain ⟨its, rv, ht, hz⟩ := I.tuple hq
  obtain ⟨x1, hx⟩ := hc
  refine assign_tuple_hot (hx _ _ _ _ I).1 ht (by simp [hn, ← hl, rv.length]) hst fun h' hx => ?_
  have I1 : Inv X pins σ H { s with heap := h' } := I.kept (t' := s.toks) fun b o e => hx b o (Nat.ne_of_lt (Heap.lt_size e)) e
  exact h.run pins _ σ H xs _ Q I1 (by simpa using rv) hw
/-- [elt for tg in l if ..], l a list, where an exception is handled -/
theorem pe_lcH {elt tg iter : Expr} {ifs : List Expr} {scope : Scope} {own : List (Str × Nat)} {pos : Pos} {tl : TE} {g : TG} {tt : TT} {te : TE} (hc : HotC X) (hN : X.N.Nodup) (hl : PE X iter tl) (ok : BlkOk X.N X.env.scope scope own)
    (hg : ∀ (s : Shared) (H : Hp) (C : Addr) (cl : List (Str × Addr)) (fp : List Addr), HotS (X.blk s H scope (compEnvC scope cl C X.env) fp) → PG (X.blk s H scope (compEnvC scope cl C X.env) fp) tg g) (ht : ∀ (s : Shared) (H : Hp) (C : Addr) (cl : List (Str × Addr)) (fp : List Addr), PTs (X.blk s H scope (compEnvC scope cl C X.env) fp) ifs tt)
    (he : ∀ (s : Shared) (H : Hp) (C : Addr) (cl : List (Str × Addr)) (fp : List Addr), PE (X.blk s H scope (compEnvC scope cl C X.env) fp) elt te) (hs : ∀ x, foldedSetIterable iter X.env x = pure x := by intro _; rfl) :
    PE X (.ListComp elt [⟨tg, iter, ifs, 0⟩] scope pos) (tLc (iList X.K tl) g tt te (own.map (·.2))) := by
  refine ⟨fun pins s σ H Q I h => ?_⟩
  rw [eval_ListComp]
  have hfree : ∀ y ∈ scope.names, y.2 = .free → ∃ c, X.env.cells.lookup y.1 = some c := fun y hy e => by
    rcases ok.free y hy e with k | k
    · exact I.ok.has _ (.inl k)
    · exact I.ok.has _ (.inr k)
  refine wpAny_comprehension_free (use := none) rfl hs (closure_ok hfree) ok.kind (fun y hy e => by rw [ok.uniq y hy, e]) ?_
  refine thn (hl.run pins s σ H _ I h) fun v s1 ⟨x, H2, I1, r1, a, e, ⟨xs0, hq0⟩, q⟩ => ?_
  subst e
  cases r1
  obtain ⟨its0, rv0, p0, hz0⟩ := I1.list hq0
  refine wpAny_pyIter_list p0.isList ?_
  obtain ⟨p, ⟨hh, v1, e1, c1⟩, hp⟩ := hc
  generalize hit : s1.heap.objs.size = it
  generalize hs2 : ({ s1 with heap := s1.heap.push { cls := .type "list_iterator", data := .fields #[.ref a, .int 0 0] } } : Shared) = s2
  have h2 : s2.heap = s1.heap.push { cls := .type "list_iterator", data := .fields #[.ref a, .int 0 0] } := by rw [← hs2]
  have I2 : Inv X pins σ H2 s2 := by
    rw [← hs2]
    exact I1.kept (t' := s1.toks) fun b o e => Heap.get?_push_of_some _ e
  have st2 : s2.heap.IsListIter it a 0 := by
    rw [h2, ← hit]
    exact ⟨_, Heap.get?_push_size _ rfl, rfl, rfl⟩
  have f2 : FpOk X pins H2 it := by
    rw [← hit]
    exact I1.fpOk (Nat.le_refl _) (I1.hok.fresh (Nat.le_refl _))
  have PX2 := I2.pin p (List.mem_append_left _ hp)
  refine wpAny_newObj_type (newEnv_comp ?_) (by show 0 ≤ sizeLine; decide)
  generalize hD : s2.heap.objs.size = D
  have hDn : H2 D = none := I2.hok.fresh (Nat.le_of_eq hD)
  obtain ⟨W, ⟨m0, w0⟩, turn⟩ := q D hDn
  generalize hs3 : ({ s2 with heap := s2.heap.push { cls := .type "list", data := .seq ([] : List Value).toArray } } : Shared) = s3
  have I3 : Inv X pins σ (upd H2 D (.lst [])) s3 := by
    rw [← hs3]
    refine I2.laid (t' := s2.toks) (fun b o e => Heap.get?_push_of_some _ e) (Nat.le_of_eq hD) ⟨Nat.zero_le _, [], 0, .nil, ?_⟩
    rw [← hD]
    exact Heap.get?_push_size _ rfl
  have h3 : s3.heap = s2.heap.push { cls := .type "list", data := .seq ([] : List Value).toArray } := by rw [← hs3]
  have sz : it < s2.heap.objs.size := by
    obtain ⟨o, e, _⟩ := st2
    exact Heap.lt_size e
  have f3 : FpOk X pins (upd H2 D (.lst [])) it ∧ it < s3.heap.objs.size := by
    refine ⟨⟨?_, f2.2⟩, by rw [h3, Heap.size_push]; exact Nat.lt_succ_of_lt sz⟩
    rw [upd_ne (by rw [← hD]; exact Nat.ne_of_lt sz)]
    exact f2.1
  have st3 : s3.heap.IsListIter it a 0 := st2.at fun o e => by rw [h3]; exact Heap.get?_push_of_some _ e
  have I4 := block_start (fp := [it]) I3 ok hN (fun b hb => by
    have e : b = it := by simpa using hb
    rw [e]; exact f3)
  have PX3 := I3.pin p (List.mem_append_left _ hp)
  have hot0 : HotS (X.blk s3 (upd H2 D (.lst [])) scope (compEnvC scope (cellsFrom (s3.heap.objs.size + 1) scope.names (cloFrom X.env.cells scope.names [])) s3.heap.objs.size X.env) [it]) := by
    refine ⟨p.1, fun pins' σ' H' s' J => ⟨⟨hh, p.2, v1, J.base.keep p.1 p.2 PX3.1 PX3.2.1 (fun z => ?_) (fun z => ?_), e1, c1⟩, p.2, PX3.1⟩⟩
    · exact (List.mem_cons.mp (I3.stkSub p.1 z)).elim PX3.2.2.1 PX3.2.2.2.1
    · have e : p.1 = it := by simpa using (show p.1 ∈ [it] from z)
      exact f3.1.2.2.2.2.2 p (List.mem_append_left _ hp) e
  have pg := hg s3 (upd H2 D (.lst [])) s3.heap.objs.size (cellsFrom (s3.heap.objs.size + 1) scope.names (cloFrom X.env.cells scope.names [])) [it] hot0
  have pt := ht s3 (upd H2 D (.lst [])) s3.heap.objs.size (cellsFrom (s3.heap.objs.size + 1) scope.names (cloFrom X.env.cells scope.names [])) [it]
  have pe := he s3 (upd H2 D (.lst [])) s3.heap.objs.size (cellsFrom (s3.heap.objs.size + 1) scope.names (cloFrom X.env.cells scope.names [])) [it]
  show codeAny _ _ (.compStart (.ListComp elt [⟨tg, iter, ifs, 0⟩] scope pos) 0 (.ref it) (.ref D) (compEnvC scope (cellsFrom (s3.heap.objs.size + 1) scope.names (cloFrom X.env.cells scope.names [])) s3.heap.objs.size X.env)) (compPost (model X.prog X.w) X.A X.xe none (EP X pins σ Q) (.ref D) s3.heap.objs.size) { s3 with heap := pushCells (s3.heap.push { cls := .type "dict", data := .dict #[] }) scope.names }
  have nfp : (upd H2 D (.lst [])) it = none := f3.1.1
  generalize hce : compEnvC scope (cellsFrom (s3.heap.objs.size + 1) scope.names (cloFrom X.env.cells scope.names [])) s3.heap.objs.size X.env = ce at I4 pg pt pe hot0 ⊢
  have cL : ce.locals = s3.heap.objs.size := by subst hce; rfl
  generalize hH3 : upd H2 D (.lst []) = H3 at I3 I4 pg pt pe w0 nfp f3 hot0
  generalize hs4 : ({ s3 with heap := pushCells (s3.heap.push { cls := .type "dict", data := .dict #[] }) scope.names } : Shared) = s4 at I4 ⊢
  have st4 : s4.heap.IsListIter it a 0 := st3.at fun o e => by rw [← hs4]; exact pushCells_keeps _ _ _ _ (Heap.get?_push_of_some _ e)
  have stat : ∀ {σ' : L2.St} {H' : Hp} {s' : Shared}, Inv (X.blk s3 H3 scope ce [it]) [] σ' H' s' → H' it = none → FpOk (X.blk s3 H3 scope ce [it]) [] H' it := fun {σ' H' s'} I' hn =>
    have hb : it ∈ [it] := List.mem_cons_self
    ⟨hn, (I'.ok.exf it hb).1, I'.ok.exfs it hb, .inl hb, fun x c e => (I'.ok.exf it hb).2 x c e, fun p hp => absurd (show p ∈ ([] : List (Addr × Obj)) ++ [] from hp) (by simp)⟩
  have nob : ∀ {i : Nat} {h : Heap}, h.IsListIter it a i → ∀ b ∈ [it], ∃ o, h.get? b = some o ∧ ∀ v, o.data ≠ .cell v := fun {i h} st b hb => by
    have e : b = it := by simpa using hb
    subst e
    obtain ⟨o, e, c, d⟩ := st
    exact ⟨o, e, fun v z => by rw [d] at z; cases z⟩
  have one : ∀ {P : Addr → Prop}, P it → ∀ b ∈ [it], P b := fun {P} h b hb => by
    have e : b = it := by simpa using hb
    rw [e]; exact h
  have loop : codeAny (model X.prog X.w) X.A (.compLoop (.ListComp elt [⟨tg, iter, ifs, 0⟩] scope pos) 0 (.ref it) (.ref D) ce) (compPost (model X.prog X.w) X.A X.xe none (EP X pins σ Q) (.ref D) s3.heap.objs.size) s4 := by
    refine compLoop_any (fun n s' => ∃ i H', Inv (X.blk s3 H3 scope ce [it]) [] (wipe σ (own.map (·.2))) H' s' ∧ s'.heap.IsListIter it a i ∧ H' it = none ∧ W i n H') ?_ m0 ⟨0, H3, I4, st4, nfp, w0⟩
    rintro n s5 ⟨i, H5, I5, st5, n5, w5⟩
    obtain ⟨f0, f1, f3', f4, f5, f6⟩ := stat I5 n5
    rcases turn i n H5 w5 with ⟨stop, qq⟩ | ⟨go, Nx, hNx, step⟩
    · obtain ⟨xs, hq, hx⟩ := stop
      obtain ⟨its, rv, pl, hz⟩ := I5.list hq
      have hln := rv.length
      obtain ⟨x1, hxx⟩ := hot0
      obtain ⟨hA, o0, ho0⟩ := hxx _ _ _ _ I5
      have hne : p.1 ≠ it := f2.2.2.2.2.2 p (List.mem_append_left _ hp)
      have hAp : HotAt X.A p.1 s5.heap := by
        have e2 : x1 = p.1 := by
          have z1 := hA.1
          rw [show (X.blk s3 H3 scope ce [it]).A.handled = X.A.handled from rfl, hh] at z1
          cases z1; rfl
        rw [e2] at hA
        exact hA
      have td : wpAny (model X.prog X.w) X.A (pyNext (.ref it)) (fun r s6 => r = none ∧ L2.Inv (X.blk s3 H3 scope ce [it]) [] (wipe σ (own.map (·.2))) H5 s6) (fun _ _ => False) s5 :=
        next_list_end_hot hAp hne st5 pl.isList (by simp; omega) fun h' eb => ⟨rfl, I5.turned (t' := s5.toks) (fun b o hb e => eb b o hb e) f0 f1 f4 f5 f6⟩
      refine thnF td fun r s6 ⟨hr, I6⟩ => ?_
      subst hr
      have I7 : Inv X pins σ H5 s6 := I3.call' (ch := [it]) I6.os I6.base I6.hok I6.bare (one ⟨f3.1.2.2.2.1, f3.1.2.1, f3.1.2.2.2.2.1, f3.1.2.2.2.2.2⟩)
      have nC : H5 s3.heap.objs.size = none := by
        have z : H5 ce.locals = none := I6.free
        rw [cL] at z
        exact z
      obtain ⟨m, hn, _⟩ := I6.loc
      have hn : s6.heap.Ns ce.locals m := hn
      rw [cL] at hn
      refine ⟨m, hn, fun h'' sb => ?_⟩
      obtain ⟨g0, g1, g2, g3, g4, g5⟩ := I3.fpOk (H' := H5) (Nat.le_refl _) nC
      exact ⟨.ref D, H5, I7.turned (t' := s6.toks) (fun b o hb e => (sb.2 b hb).trans e) g0 g1 g3 g4 g5, rfl, qq⟩
    · obtain ⟨xs, x, hq, hx⟩ := go
      obtain ⟨its, rv, pl, hz⟩ := I5.list hq
      obtain ⟨u, hu, ru⟩ := rv.get hx
      have ti : wpAny (model X.prog X.w) X.A (pyNext (.ref it)) (fun r s6 => r = some u ∧ L2.Inv (X.blk s3 H3 scope ce [it]) [] (wipe σ (own.map (·.2))) H5 s6 ∧ s6.heap.IsListIter it a (i + 1)) (fun _ _ => False) s5 :=
        wpAny_pyNext_list_item st5 pl.isList (x := u) (by simpa using hu) fun h' st' sb => ⟨rfl, I5.turned (t' := s5.toks) (fun b o hb e => (sb.2 b hb).trans e) f0 f1 f4 f5 f6, st'⟩
      refine thnF ti fun r s7 ⟨hr, I7, st7⟩ => ?_
      subst hr
      obtain ⟨o7, e7, c7, d7⟩ := id st7
      refine go_of e7 c7 d7 (by decide) ?_
      have y7 : (Itl X.K a).yld i H5 x H5 := ⟨rfl, fun ys hy => by rw [I5.list_inj hy hq]; exact hx⟩
      have I7' := I7.pinned (one (stat I7 n5)) (nob st7)
      refine thnF (pg.run _ s7 _ H5 x u _ I7' ru (step x H5 y7)) fun _ s8 ⟨σ8, H8, I8, hw8, q8⟩ => ?_
      refine thnF (pt.run _ s8 σ8 H8 _ I8 q8) fun b s9 ⟨H9, I9, q9⟩ => ?_
      have fin : ∀ {s' : Shared} {H' : Hp}, Inv (X.blk s3 H3 scope ce [it]) ([] ++ pinsAt [it] s7.heap) σ8 H' s' → Nx H' → ∃ m, m < n ∧ ∃ i H', Inv (X.blk s3 H3 scope ce [it]) [] (wipe σ (own.map (·.2))) H' s' ∧ s'.heap.IsListIter it a i ∧ H' it = none ∧ W i m H' := fun {s' H'} I' nx => by
        obtain ⟨m', hm, w'⟩ := hNx H' nx
        have pin' : ∀ o, s7.heap.get? it = some o → s'.heap.get? it = some o ∧ H' it = none := fun o e =>
          let z := I'.pin (it, o) (List.mem_append_right _ (List.mem_append_right _ (mem_pinsAt List.mem_cons_self e)))
          ⟨z.1, z.2.1⟩
        have hl8 : (wipe σ (own.map (·.2))).length = σ8.length := by rw [← hw8, wipe_length]
        refine ⟨m', hm, i + 1, H', (I'.unpinned (pins := [])).weak hl8 (fun j v e => ?_), st7.at fun o e => (pin' o e).1, (pin' o7 e7).2, w'⟩
        rw [← hw8] at e
        exact (wipe_some e).1
      cases b with
      | false =>
        simp only [Bool.false_eq_true, if_false] at q9 ⊢
        exact fin I9 q9
      | true =>
        simp only [if_true] at q9 ⊢
        refine thnF (pe.run _ s9 σ8 H9 _ I9 q9) fun z s10 ⟨yv, H10, I10, r10, acc, hD10, hz10, nx⟩ => ?_
        exact app_ok (X := X.blk s3 H3 scope ce [it]) I10 hD10 hz10 r10 fun s11 I11 => fin I11 nx
  exact codeAny_compStart_list loop (wpAny_pyIter_listiter st4 loop)
end
end Ex3
/-! E4: isinstance of the handled error, with a dict of its own or without; its fields. -/
namespace PySem.W
open PySem PySem.Spec PySem.Calls PyProof.Rows
section
variable {prog : Program} {w : World} {A : Around} {E : Value → Shared → Prop} {s : Shared} {K : Frag} {x D : Addr} {ox : Obj}
theorem findObj_data3 {C : Addr} {od : Option Obj} {name : Str} {a g : Value} (hc : (clsIn K C).isSome = true) (ha : findIn K (.ref C) name = some (some a)) (hg : specialIn K a "__get__" = some (some g)) (ht : takesIn K a = some true) : findObj K C od name = some (.bind g a) := by
  obtain ⟨cd, q⟩ := Option.isSome_iff_exists.mp hc
  unfold findObj
  simp [q, ha, hg, ht]
theorem kin_class3 {od : Option Obj} {Q : Option Value → Shared → Prop} (gA : findIn K (.ref D) "__getattribute__" = some (some (.builtin "BaseException.__getattribute__"))) (gB : findIn K (.ref D) "__getattr__" = some none) (sB : subIn K (.ref D) (.type "BaseException") = some true)
    (dC : hasDictIn K D = true) (ha : findIn K (.ref D) "__class__" = some (some (.builtin "object.__class__")))
    (hn : specialIn K (.builtin "object.__class__") "__get__" = some (some (.builtin "getset_descriptor.__get__"))) (htk : takesIn K (.builtin "object.__class__") = some true) (hm : mroIn K D (.type "object") = some true)
    (X : K.In s.heap) (I : InstAt s.heap x ox D od) (h : Q (some (.ref D)) { s with toks := s.toks + 1 }) : wpAny (model prog w) A (getAttr? (.ref x) "__class__") Q E s := by
  have hf : findObj K D od "__class__" = some (.bind (.builtin "getset_descriptor.__get__") (.builtin "object.__class__")) := findObj_data3 (by obtain ⟨cd, hc, _⟩ := any_some dC; rw [hc]; rfl) ha hn htk
  obtain ⟨hp, g, d, t, os⟩ := s
  have K0 := I.type (M := model prog w)
  have K1 := looks_findIn (M := model prog w) X gA
  have K2 := looks_findIn (M := model prog w) X gB
  have K3 := looks_find (M := model prog w) X I hf
  have sub : Looks (model prog w) hp (isInstance (.ref x) (.type "BaseException")) true := K0.andThen (looks_subIn X sB)
  have z0 : (false && onTheHeap (Value.builtin "BaseException.__getattribute__")) = false := rfl
  have z2 : (Value.builtin "BaseException.__getattribute__" == Value.builtin "object.__getattribute__") = false := by decide +kernel
  have z1 : (onTheHeap (Value.ref D) && Value.builtin "BaseException.__getattribute__" == Value.builtin "object.__getattribute__") = false := by rw [z2]; rfl
  unfold getAttr? getAttrBy? getAttrBy
  refine wpAny_bind (wpAny_mkText (wpAny_bind (wpAny_attempt (wpAny_holding (wpAny_bind (K0.at (wpAny_bind (K1.at ?_))))))))
  show wpAny _ _ (if (onTheHeap (Value.ref D) && Value.builtin "BaseException.__getattribute__" == Value.builtin "object.__getattribute__") = true then _ else _) _ _ _
  rw [z1, if_neg Bool.false_ne_true]
  unfold getAttrByItsOwn hookBefore
  refine wpAny_bind ?_
  rw [if_pos (show onTheHeap (Value.ref D) = true from rfl)]
  refine K2.at ?_
  refine wpAny_bind (wpAny_attempt (wpAny_holding ?_))
  unfold callGetattribute
  rw [z0, if_neg Bool.false_ne_true]
  unfold boundAndCalled
  rw [PySem.F.excAttr_ValueError.ga.bind (.ref x)]
  refine wpAny_bind (wpAny_pure ?_)
  show wpAny _ _ (call (.builtin "BaseException.__getattribute__") [.ref x, .str "__class__" t]) _ _ _
  refine wpAny_call (codeAny_call_builtin PySem.F.excAttr_ValueError.ga.plain PySem.F.entry_bexc_ga ?_)
  refine @check_slot (model prog w) _ _ ⟨hp, g, d, t + 1, os⟩ "BaseException.__getattribute__" "BaseException" "__getattribute__" (.ref x) [.str "__class__" t] [] _ (by decide +kernel) (by decide +kernel) sub (PySem.F.args_bexc_ga (.ref x) (.str "__class__" t)) ?_
  unfold Builtin.«object.__getattribute__»
  refine wpAny_bind (wpAny_of_eq (a := ((Value.ref x : Value), [Value.str "__class__" t])) (by first | rfl | (simp only [slotArgs]; rfl)) ?_)
  refine wpAny_bind (wpAny_pure (wpAny_bind (K0.at (wpAny_bind (K3.at ?_)))))
  show wpAny _ _ (holding [Value.builtin "object.__class__"] (call (.builtin "getset_descriptor.__get__") [.builtin "object.__class__", .ref x, .ref D]) >>= ret) _ _ _
  refine wpAny_bind (wpAny_holding (wpAny_call (class_get (s := ⟨hp, g, d, t + 1, os⟩) (ox := ox) (od := od) X I hm ?_)))
  refine wpAny_pure ?_
  show wpAny _ _ (handedOut (.ref D)) _ _ _
  rw [handedOut_of (v := .ref D) rfl]
  first
    | exact wpAny_pure (wpAny_pure h)
    | exact wpAny_pure h
    | exact wpAny_pure (wpAny_bind (wpAny_pure (wpAny_pure h)))
theorem kitx_exc3 {od : Option Obj} (C : L2.ExcC K D) : KitX K (.ref x) (.ref D) (fun h => InstAt h x ox D od) where
  ty := fun _ _ _ I => I.type
  it := fun _ _ X _ => by
    obtain ⟨cdD, hcD, _⟩ := any_some C.hd
    unfold clsIn at hcD
    split at hcD
    · rename_i c' d' cd' sl' ho
      intro A' Q' E' s' k q
      unfold isType loadHead
      exact wpAny_bind (wpAny_loadPart (k _ _ (X _ _ ho)) (wpAny_pure q))
    · cases hcD
  ne := fun h tp dd its n sl X htp => by
    obtain ⟨cdD, hcD, _⟩ := any_some C.hd
    refine Bool.eq_false_iff.mpr fun q => ?_
    have e : D = tp := Value.ref.inj (beq_iff_eq.mp q)
    subst e
    unfold clsIn at hcD
    split at hcD
    · rename_i c' d' cd' sl' ho
      have z := (X _ _ ho).symm.trans htp
      cases z
    · cases hcD
  ca := fun X I k => kin_class3 C.hg C.hk C.hs C.hd C.ha C.hn C.ht C.hm X I k
end
end PySem.W
namespace Ex3
open PySem PySem.Spec PyProof.Rows L2 L2H
/-- isinstance(e, c), e the handled error at a, of class D; d its dict -/
def rIsE3 (K : PySem.W.Frag) (D a : Addr) (d : Option Addr) : List V → Hp → VK → Prop := fun xs H Q => ∃ (c : V) (cv : Value) (b : Bool), xs = [.ref a, c] ∧ (∀ u, RelV c u → u = cv) ∧ PySem.W.kitOne K (.ref D) cv = some b ∧ (d = none ∨ ∃ (dd : Addr) (fs : List (Str × V)), d = some dd ∧ H dd = some (.xd fs)) ∧ Q (.bl b) H
theorem call_isE3 {X : Cx} {a D : Addr} {d : Option Addr} {oe : Obj} (C : ExcC X.K D) (hp : (a, oe) ∈ X.pn) (hz : Zc (.ref D) d oe) (hf : ∃ vs, oe.data = .fields vs) : CallR X (.builtin "isinstance") (rIsE3 X.K D a d) := by
  intro pins s σ H xs us Q I r h
  obtain ⟨c, cv, b, rfl, hcv, e, hd, q⟩ := h
  cases r with
  | cons rx rr =>
    cases rr with
    | cons rt rr =>
      cases rr
      cases rx
      have ec := hcv _ rt
      subst ec
      obtain ⟨hget, _⟩ := I.pin (a, oe) (List.mem_append_left _ hp)
      obtain ⟨vs, hv⟩ := hf
      have J : ∃ od : Option Obj, PySem.W.InstAt s.heap a oe D od := by
        rcases hd with rfl | ⟨dd, fs, rfl, hx⟩
        · refine ⟨none, ?_⟩
          obtain ⟨oc, od, oda, osl⟩ := oe
          obtain ⟨h1, h2⟩ := hz
          dsimp only at h1 h2 hv
          subst h1 h2 hv
          exact ⟨hget, rfl, rfl, trivial⟩
        · have hxo : ObjOk X.prog X.w H s.heap dd (.xd fs) := I.hok dd _ hx
          obtain ⟨mA, hns, hr⟩ := hxo
          obtain ⟨od, ho, hl⟩ := lookIn_ns hns
          exact ⟨some od, hget, hz.1, by unfold PySem.W.notCls; rw [hv] <;> rfl, by rw [hz.2]; exact ho⟩
      obtain ⟨od, J⟩ := J
      exact PySem.W.kia_one (PySem.W.kitx_exc3 C) I.kIn J e (fun z => nomatch z) fun tk => ⟨.bl b, H, I.kept (t' := tk) fun _ _ z => z, rfl, q⟩
end Ex3
/-! E5: a def called with the handled error. -/
namespace Ex3
open PySem PySem.Spec PyProof.Rows L2 L2H
/-- a promise that knows the handled error -/
abbrev SpE := (Addr × Obj) → List V → Hp → VK → XK → Prop
structure FnE (P : Program) (w : World) (K : PySem.W.Frag) (mg : Str → Option Value) (base : Heap) (CX : CXT) (k : Nat) (f : Addr) (fd : FuncData) (ps : List Str) (sp : SpE) : Prop where
  len : ∀ p vs H Q E, sp p vs H Q E → vs.length = ps.length
  run : ∀ (A : Around) (outer : List Env) (s : Shared) (H : Hp) (args : Args) (us : List Value) (vs : List V) (Q : VK) (E : XK) (p : Addr × Obj), RoomH k A → Hot1 A p → PinOk outer H s p → Env0 P w K mg base A outer s H → BindsTo s fd args (ps.zip us) → Vals vs us → sp p vs H Q E →
    codeAny (model P w) A (.call (.ref f) args) (CR CX outer P w H s Q E) s
theorem fn_ofE {CX : CXT} {P : Program} {w : World} {K : PySem.W.Frag} {mg : Str → Option Value} {base : Heap} {k : Nat} {f : Addr} {name qual : Str} {params : Arguments} {body : List Stmt} {scope : Scope} {dV kV doc pm cdv ct oc : Value} {an od : Option Addr}
    {osl : Array (Option Value)} {N ps : List Str} {sp : SpE} (lk : K.lookup f = some ⟨oc, od, .func (PySem.W.fnOf name qual params body scope dV kV doc pm an cdv ct), osl⟩) (hcd : PySem.W.codeIn K cdv qual = true) (S : FnScope N ps scope)
    (len : ∀ p vs H Q E, sp p vs H Q E → vs.length = ps.length)
    (hbody : ∀ (A : Around) (outer : List Env) (s : Shared) (H : Hp) (vs : List V) (Q : VK) (E : XK) (p : Addr × Obj), Hot1 A p → RoomH k (A.deeper (envOfC qual scope s.heap.objs.size f cdv)) → sp p vs H Q E →
      ∃ t, PSs (cxH CX P w K mg base N qual scope f cdv A outer s H E p) body t ∧ t { nx := fun _ H' => Q .non H', rt := Q } (L2.start N vs) H) :
    FnE P w K mg base CX (k + 1) f (PySem.W.fnOf name qual params body scope dV kV doc pm an cdv ct) ps sp := by
  refine ⟨len, fun A outer s H args us vs Q E p hr hot hpin e0 hb r hsp => ?_⟩
  have hl := len _ _ _ _ _ hsp
  have kin3 : K.In s.heap := e0.mod.kin.keeps fun b o e => (e0.bs b o e).1
  have lim : s.heap.NoLimit := e0.mod.nolimit.keeps fun b o e => (e0.bs b o e).1
  have hkd : ∀ y ∈ ps.zip us, scope.names.lookup y.1 = some .local ∨ (scope.names.lookup y.1 = some .cell ∧ ((cellsFrom (s.heap.objs.size + 1) scope.names []).lookup y.1).isSome = true) := fun ⟨n, v⟩ hy => by
    rcases S.par n (List.of_mem_zip hy).1 with q | q
    · exact .inl q
    · exact .inr ⟨q, PySem.W.cellsFrom_some _ _ _ (.inl q)⟩
  refine codeAny_call_function hr.depth (kin3 _ _ lk) rfl S.co S.gen rfl (PySem.W.codeRec_of kin3 hcd) (hb _ _ _ _ ?_)
  refine wpAny_newFunctionEnv_cells S.kind hkd fun env he s1 x => ?_
  subst he
  refine ⟨lim.keeps x.toInCall.keep, codeAny_func ?_⟩
  obtain ⟨t, ht, hq⟩ := hbody A outer s H vs Q E p hot (hr.deeper _) hsp
  have I : Inv (cxH CX P w K mg base N qual scope f cdv A outer s H E p) [] (L2.start N vs) H s1 := inv_startH S hpin e0 hl r x
  refine wpAny_mono (ht.run [] s1 (L2.start N vs) H _ I hq) (fun fl s' hs => ?_) fun e s' hs => hs
  have fin : ∀ {σ' : L2.St} {H' : Hp} {v : V} {u : Value}, Inv (cxH CX P w K mg base N qual scope f cdv A outer s H E p) [] σ' H' s' → RelV v u → Q v H' → CE outer P w H s Q u s' :=
    fun {σ' H' v u} J rv q => ⟨v, H', J.os, J.bare, J.base, J.hok, rv, q⟩
  cases fl with
  | ret u =>
    obtain ⟨v, σ', H', J, rv, q⟩ := hs
    exact fin J rv q
  | next =>
    obtain ⟨σ', H', J, q⟩ := hs
    exact fin (v := V.non) (u := Value.none) J rfl q
  | brk =>
    obtain ⟨_, _, _, q⟩ := hs
    exact False.elim q
  | cont =>
    obtain ⟨_, _, _, q⟩ := hs
    exact False.elim q

section
variable {X : Cx} {CX : CXT} {k : Nat} {f : Addr} {fd : FuncData} {ps : List Str} {sp : SpE} {x : Str} {q pos : Pos} {e : Expr} {es : List Expr} {t : TA} {p : Addr × Obj}
def tCallE (sp : SpE) (p : Addr × Obj) (t : TA) : TE := fun σ H Q => t σ H fun vs H1 => sp p vs H1 Q (fun _ _ _ => False)
theorem pe_callE (F : FnE X.prog X.w X.K X.mg X.base CX k f fd ps sp) (hr : RoomH k X.A) (hot : Hot1 X.A p) (hp : p ∈ X.pn) (hg : Gl X x) (hm : X.mg x = some (.ref f)) (hk : PySem.W.keepIn X.K (.ref f) = true) (hb : Binds X.K fd ps []) (hx : Passes CX X (fun _ _ _ => False))
    (ha : PA X (e :: es) t) (hdb : (x == ("__debug__" : Str)) = false := by decide +kernel) (he : starEach (e :: es) X.env = (false, eval e X.env) :: starEach es X.env := by rfl) (hpl : (backTo pos (starEach es X.env)).any (·.1) = false := by rfl) :
    PE X (.Call (.Name x q) (e :: es) [] pos) (tCallE sp p t) := by
  refine ⟨fun pins s σ H Q I h => ?_⟩
  refine wpAny_Call_Name_kw (ld_glob I hg hm ?_ hdb)
  refine PySem.W.callWith_K (h₀ := X.base) I.ok.mod.kin hk (thn (ha.run pos pins s σ H _ I h) fun us s1 ⟨vs, H1, I1, r, q⟩ => ⟨I1.kIn, ?_⟩) he hpl
  have hl : us.length = ps.length := by rw [← r.length]; exact F.len _ _ _ _ _ q
  have b := hb s1 us I1.kIn (by rw [List.append_nil]; exact hl)
  rw [List.append_nil] at b
  have P1 := I1.pin p (List.mem_append_left _ hp)
  have hpin : PinOk X.stack H1 s1 p := ⟨P1.1, P1.2.1, fun hm => (List.mem_cons.mp (I1.stkSub p.1 hm)).elim P1.2.2.1 P1.2.2.2.1, P1.2.2.2.2⟩
  refine wpAny_call (codeAny_mono (F.run X.A X.stack s1 H1 ⟨us, []⟩ us vs Q (fun _ _ _ => False) p hr hot hpin I1.env0 b r q) fun r s' hq => ?_)
  cases r with
  | error e => exact hx pins σ H1 s1 e s' I1 hq
  | ok fl =>
    cases fl with
    | ret u => exact I1.after hq
    | next => exact False.elim hq
    | brk => exact False.elim hq
    | cont => exact False.elim hq
end
end Ex3
/-! E6: the rules by data where an exception is handled; the law's word for its sort. -/
namespace T3
open PySem L2 PySem.Spec PyProof.Rows Ex3 L2H
section
variable {X : Cx} {N : List Str} {sc : Scope} {P : Program} {w : World} {K : PySem.W.Frag} {mg : Str → Option Value} {base : Heap} {k : Nat}
variable {A : Anc} {M : List Cell} {ρ ρ' : Env3} {a b c e tg : Expr} {es : List Expr} {d d1 d2 d3 : D} {ds fs : List D} {pos p p2 p3 p4 p5 p6 p7 apos : Pos} {st : Stmt} {sts rest : List Stmt} {R : Post} {i j : Int} {x y z : Str}
def wGh (X : Cx) (scope : Scope) (tg : Expr) : TG := fun v σ H Q => ∀ s H0 C cl fp, HotS (X.blk s H0 scope (compEnvC scope cl C X.env) fp) → wG (X.blk s H0 scope (compEnvC scope cl C X.env) fp) tg v σ H Q
theorem pg_wh {scope : Scope} (s : Shared) (H : Hp) (C : Addr) (cl : List (Str × Addr)) (fp : List Addr) (hot : HotS (X.blk s H scope (compEnvC scope cl C X.env) fp)) : PG (X.blk s H scope (compEnvC scope cl C X.env) fp) tg (wGh X scope tg) := ⟨fun pins s' σ H' v u Q I r h => h s H C cl fp hot pins s' u I r⟩
theorem lc_readH {scope : Scope} {own : List (Str × Nat)} {elt : Expr} {ifs : List Expr} {wi : TI} {fps : List (List Addr)} {σ : L2.St} {Hs H : Hp} {Q : VK} (pl : List Nat) (ρf : D → Env3) (g : D → Option D) (hQ : ∀ v H', (∃ Hs', Step Hs H Hs' H' ∧ Rep K Hs' (.lst (ds.filterMap g)) v) → Q v H')
    (hw : ∀ (R : It → Hp → Prop), (∀ J Hs' H', Step Hs H Hs' H' → Walk K J ds Hs' → R J H') → wi σ H R) (hh : StA K A M ρ fps σ Hs H) (hlen : ds.length ≤ 100000) (hpl : ∀ x ∈ pl, x ∈ own.map (·.2))
    (ht : ∀ s H0 C cl fp, HotS (X.blk s H0 scope (compEnvC scope cl C X.env) fp) → ∀ d, d ∈ ds → TGt (X.blk s H0 scope (compEnvC scope cl C X.env) fp) K tg d pl (wipeE ρ (own.map (·.2))) (ρf d))
    (hs : ∀ s H0 C cl fp, ∀ d, d ∈ ds → (∀ x, g d = some x → ED (X.blk s H0 scope (compEnvC scope cl C X.env) fp) K A M (ρf d) elt x) ∧ ifOk (X.blk s H0 scope (compEnvC scope cl C X.env) fp) K A M (ρf d) ifs (g d).isSome) :
    tLc wi (wGh X scope tg) (ttOf X scope ifs) (wEb X scope elt) (own.map (·.2)) σ H Q := by
  refine hw _ fun J Hs1 H1 s1 wk => fun Dl hD => ?_
  have hh1 := hh.step s1
  refine ⟨fun i m H' => m = ds.length - i ∧ i ≤ ds.length ∧ ∃ Hs', Step Hs1 H1 Hs' H' ∧ Hs' Dl = none ∧ ∃ acc, H' Dl = some (.lst acc) ∧ Reps K Hs' ((ds.take i).filterMap g) acc,
    ⟨ds.length, by simp, Nat.zero_le _, Hs1, .own s1.i hD, s1.i.back hD, [], upd_same, .nil⟩, ?_⟩
  rintro i m H' ⟨rfl, hil, Hs2, s2, n2, acc, ha, ra⟩
  obtain ⟨wgo, wstop, wy⟩ := wk i Hs2 H' s2.s s2.i
  by_cases hlt : i < ds.length
  · refine .inr ⟨wgo hlt, fun H' => ∃ Hs', Step Hs1 H1 Hs' H' ∧ Hs' Dl = none ∧ ∃ acc, H' Dl = some (.lst acc) ∧ Reps K Hs' ((ds.take (i + 1)).filterMap g) acc, fun H'' q => ⟨ds.length - (i + 1), by omega, rfl, hlt, q⟩, fun x H3 y => ?_⟩
    obtain ⟨Hs3, d, s3, hd, r3⟩ := wy x H3 hlt y
    have hmem : d ∈ ds := List.mem_of_getElem? hd
    have hout : (ds.take (i + 1)).filterMap g = (ds.take i).filterMap g ++ (g d).toList := by
      rw [List.take_succ, hd, List.filterMap_append]
      cases ez : g d with
      | none => simp [ez]
      | some z => simp [ez]
    have hh3 := (hh1.step s2).step s3
    have n3 : Hs3 Dl = none := s3.n Dl (by rw [ha]; exact fun z => nomatch z) n2
    have a3 := s3.h _ _ ha
    intro s0 H0 C cl fp hot
    have tgt := ht s0 H0 C cl fp hot d hmem
    refine wG_mono (tgt _ _ _ _ x s3.i (hh3.st.slots.wipe _) r3) fun σ4 H4 ⟨e4, sl4, l4, o4⟩ => ?_
    subst e4
    refine ⟨wipe_back l4 o4 hpl, ?_⟩
    have hh4 := hh3.slots sl4
    have fin : ∀ z, g d = some z → ∀ Hs5 H5, Step Hs3 H4 Hs5 H5 → ∀ s H0 C cl fp, wE (X.blk s H0 scope (compEnvC scope cl C X.env) fp) elt σ4 H5 fun y H6 => ∃ acc, H6 Dl = some (.lst acc) ∧ acc.length < sizeLine ∧ ∃ Hs', Step Hs1 H1 Hs' (upd H6 Dl (.lst (acc ++ [y]))) ∧ Hs' Dl = none ∧ ∃ acc', (upd H6 Dl (.lst (acc ++ [y]))) Dl = some (.lst acc') ∧ Reps K Hs' ((ds.take (i + 1)).filterMap g) acc' := by
      intro z ez Hs5 H5 s5 s' H0' C' cl' fp'
      obtain ⟨hz, _⟩ := hs s' H0' C' cl' fp' d hmem
      refine wE_mono (hz z ez _ _ _ _ (hh4.step s5)) fun y H6 ⟨Hs6, s6, r6⟩ => ?_
      have s56 := s5.trans s6
      have n6 : Hs6 Dl = none := s56.n Dl (by rw [a3]; exact fun z => nomatch z) n3
      have nl : acc.length ≤ i := by
        rw [ra.length]
        exact Nat.le_trans (List.length_filterMap_le _ _) (by rw [List.length_take]; omega)
      refine ⟨acc, s56.h _ _ a3, Nat.lt_of_le_of_lt nl (Nat.lt_of_lt_of_le (by omega : i < 100001) (by decide)), Hs6, ?_, n6, _, upd_same, ?_⟩
      · have s16 := (s2.trans s3).trans s56
        refine ⟨s16.s, fun b u hb => ?_, fun b u hb => ?_, s16.n⟩
        · rw [upd_ne (ne_of_none hb hD)]; exact s16.h b u hb
        · rw [upd_ne (ne_of_none hb n6)]; exact s16.i b u hb
      · rw [hout, ez]; exact (ra.mono (s3.s.trans s56.s)).append (.one r6)
    have fin0 : g d = none → ∀ Hs5 H5, Step Hs3 H4 Hs5 H5 → ∃ Hs', Step Hs1 H1 Hs' H5 ∧ Hs' Dl = none ∧ ∃ acc, H5 Dl = some (.lst acc) ∧ Reps K Hs' ((ds.take (i + 1)).filterMap g) acc := by
      intro ez Hs5 H5 s5
      refine ⟨Hs5, (s2.trans s3).trans s5, s5.n Dl (by rw [a3]; exact fun z => nomatch z) n3, acc, s5.h _ _ a3, ?_⟩
      rw [hout, ez]
      simpa using ra.mono (s3.s.trans s5.s)
    match ifs, hs, fin, fin0 with
    | [], hs, fin, fin0 =>
      obtain ⟨_, hb⟩ := hs s0 H0 C cl fp d hmem
      have hb : (g d).isSome = true := hb
      obtain ⟨z, ez⟩ := Option.isSome_iff_exists.mp hb
      exact fin z ez Hs3 H4 (.refl s3.i)
    | c :: r, hs, fin, fin0 =>
      intro s' H0' C' cl' fp'
      obtain ⟨_, hb⟩ := hs s' H0' C' cl' fp' d hmem
      refine wT_mono ((show ET _ _ _ _ _ _ _ from hb) _ _ _ _ hh4) fun b H5 ⟨eb, Hs5, s5⟩ => ?_
      cases ez : g d with
      | none =>
        rw [ez] at eb
        subst eb
        exact fin0 ez Hs5 H5 s5
      | some z =>
        rw [ez] at eb
        subst eb
        exact fin z ez Hs5 H5 s5
  · have e : i = ds.length := by omega
    subst e
    rw [List.take_length] at ra
    refine .inl ⟨wstop (Nat.le_refl _), hQ _ _ ⟨upd Hs2 Dl (.lst acc), s1.trans ⟨s2.s.trans (.new n2), s2.h, fun b u hb => ?_, fun b h1 h2 => ?_⟩, .lst upd_same (ra.mono (.new n2))⟩⟩
    · by_cases z : b = Dl
      · subst z; rw [upd_same] at hb; cases hb; exact ha
      · rw [upd_ne z] at hb; exact s2.i b u hb
    · rw [upd_ne (fun z => h1 (by rw [z]; exact hD))]; exact s2.n b h1 h2

/-- [elt for tg in l (if c)], l a list -/
theorem ed_lcH (hc : HotC X) (hN : X.N.Nodup) (eK : X.K = K) (own : List (Str × Nat)) {scope : Scope} {elt : Expr} {ifs : List Expr} (hi : ED X K A M ρ e (.lst ds)) (ok : BlkOk X.N X.env.scope scope own) (pl : List Nat) (ρf : D → Env3) (g : D → Option D) (hlen : ds.length ≤ 100000)
    (ht : ∀ s H0 C cl fp, HotS (X.blk s H0 scope (compEnvC scope cl C X.env) fp) → ∀ d, d ∈ ds → TGt (X.blk s H0 scope (compEnvC scope cl C X.env) fp) K tg d pl (wipeE ρ (own.map (·.2))) (ρf d))
    (hs : ∀ s H0 C cl fp, ∀ d, d ∈ ds → (∀ x, g d = some x → ED (X.blk s H0 scope (compEnvC scope cl C X.env) fp) K A M (ρf d) elt x) ∧ ifOk (X.blk s H0 scope (compEnvC scope cl C X.env) fp) K A M (ρf d) ifs (g d).isSome)
    (hpl : ∀ x ∈ pl, x ∈ own.map (·.2) := by decide) (hif : ifs.length ≤ 1 := by decide) (hf : ∀ x, foldedSetIterable e X.env x = pure x := by intro _; rfl) :
    ED X K A M ρ (.ListComp elt [⟨tg, e, ifs, 0⟩] scope pos) (.lst (ds.filterMap g)) := .mk fun fps σ Hs H hh => by
  refine wE_of (pe_lcH (own := own) hc hN pe_w ok pg_wh (pts_w hif) pe_wb hf) ?_
  refine lc_readH pl ρf g (fun v H' q => q) (fun R q => ?_) hh hlen hpl ht hs
  refine wE_mono (hi _ _ _ _ hh) fun v H' ⟨Hs', s, r⟩ => ?_
  cases r with
  | lst h1 h2 => exact ⟨_, rfl, ⟨_, by rw [eK]; exact SqL.of (s.i _ _ h1)⟩, by rw [eK]; exact q _ Hs' H' s (walk_lst (SqL.of h1) h2)⟩
theorem hd_var (eN : X.N = N) (eS : X.env.scope = sc) (n : Nat) (hN : N[n]? = some x) (hr : ρ[n]? = some (some (.sh d))) (hv : Vis sc x := by first | exact Or.inl rfl | exact Or.inr (Or.inl rfl) | exact Or.inr (Or.inr rfl))
    (hd : (x == ("__debug__" : Str)) = false := by decide +kernel) (hcd : (x == ("__classdict__" : Str)) = false := by decide +kernel) : ED X K A M ρ (.Name x pos) d := .mk fun fps σ Hs H h => by
  obtain ⟨v, h1, h2⟩ := h.st.slots.get hr
  exact wE_of (pe_var (i := n) (by rw [eN]; exact hN) (by rw [eS]; exact hv) hd hcd) ⟨v, h1, Hs, .refl h.st.e, h2⟩
theorem hd_cat (ha : ED X K A M ρ a (.lst ds)) (hb : ED X K A M ρ b (.lst fs)) (hl : ds.length + fs.length ≤ 100000) : ED X K A M ρ (.BinOp a .Add b pos) (.lst (ds ++ fs)) := .mk fun fps σ Hs H h => by
  refine wE_of (pe_op op_cat pe_w pe_w) ?_
  refine wE_mono (ha _ _ _ _ h) fun v H1 ⟨Hs1, s1, r1⟩ => ?_
  refine wE_mono (hb _ _ _ _ (h.step s1)) fun v2 H2 ⟨Hs2, s2, r2⟩ => ?_
  have r1 := r1.mono s2.s
  cases r1 with
  | lst h1 h2 =>
    cases r2 with
    | lst h3 h4 =>
      refine ⟨_, _, _, _, rfl, rfl, s2.i _ _ h1, s2.i _ _ h3, by rw [h2.length, h4.length]; exact Nat.le_trans hl (by decide), fun q hq => ?_⟩
      exact newL (Q := fun v H' => ∃ Hs', Step Hs H Hs' H' ∧ Rep K Hs' (.lst (ds ++ fs)) v) (fun v Hs' H' s r => ⟨Hs', (s1.trans s2).trans s, r⟩) s2.i hq (h2.append h4)
theorem hs_set (eN : X.N = N) (eS : X.env.scope = sc) (nd : N.Nodup) (hF : ∀ x, X.fn x = true) (n : Nat) (hN : N[n]? = some x) (h : ED X K A M ρ e d) (q : SD X K A M (ρ.set n (some (.sh d))) rest R) (hl : Loc sc x := by first | exact .inl rfl | exact .inr rfl)
    (hs : swapsWith e (some (.Name x p)) pos.line X.env = pure false := by rfl) : SD X K A M ρ (.Assign [.Name x p] e pos :: rest) R := sd_cons <| .mk fun fps σ Hs H hh => by
  refine wS_of (ps_set (i := n) (by rw [eN]; exact nd) (by rw [eN]; exact hN) (by rw [eS]; exact hl) pe_w hs (.inl (hF x))) ?_
  refine wE_mono (h _ _ _ _ hh) fun v H' ⟨Hs', s, r⟩ => ?_
  exact ⟨M, _, fps, Hs', (hh.step s).slots ((hh.step s).st.slots.set n (s := .sh d) r), q⟩
/-- the handled error: its class, its dict, what stands of it -/
structure HErr (X : Cx) (K : PySem.W.Frag) (A : Anc) (a D : Addr) (od : Option Addr) (oe : Obj) : Prop where
  pin : (a, oe) ∈ X.pn
  z : Zc (.ref D) od oe
  f : ∃ vs, oe.data = .fields vs
  d : od = none ∨ ∃ (dd : Addr) (fs : List (Str × V)), od = some dd ∧ A.H dd = some (.xd fs) ∧ dd ∉ A.fps.flatten
/-- isinstance(e, C), e the handled error -/
theorem hd_isi {ad D : Addr} {od : Option Addr} {oe : Obj} {cv : Value} {v : V} {t : Bool} {te : TE} (eN : X.N = N) (eS : X.env.scope = sc) (eK : X.K = K) (em : X.mg = mg) (E : HErr X K A ad D od oe) (C : ExcC K D) (n : Nat) (hN : N[n]? = some x) (hr : ρ[n]? = some (some (.raw (.ref ad))))
    (hm : mg "isinstance" = none) (hc : PE X c te) (hte : ∀ σ H Q, Q v H → te σ H Q) (hv : ∀ u, RelV v u → u = cv) (hk : PySem.W.kitOne K (.ref D) cv = some t) (hg : GlS sc "isinstance" := by rfl) (hvs : Vis sc x := by first | exact Or.inl rfl | exact Or.inr (Or.inl rfl) | exact Or.inr (Or.inr rfl))
    (hd : (x == ("__debug__" : Str)) = false := by decide +kernel) (hcd : (x == ("__classdict__" : Str)) = false := by decide +kernel)
    (h1 : starEach [.Name x p3, c] X.env = (false, eval (.Name x p3) X.env) :: starEach [c] X.env := by exact star_cons rfl) (h2 : starEach [c] X.env = (false, eval c X.env) :: starEach [] X.env := by exact star_cons rfl) (hpl : (backTo pos (starEach [c] X.env)).any (·.1) = false := by exact star_plain rfl) :
    ED X K A M ρ (.Call (.Name "isinstance" p2) [.Name x p3, c] [] pos) (.bl t) := .mk fun fps σ Hs H h => by
  subst eK
  refine wE_of (pe_callB (call_isE3 (D := D) (d := od) C E.pin E.z E.f) (show GlS X.env.scope "isinstance" by rw [eS]; exact hg) (by rw [em]; exact hm) Tl.b_isinstance (pa_cons (pe_var (i := n) (by rw [eN]; exact hN) (by rw [eS]; exact hvs) hd hcd) (pa_cons hc pa_nil h2) h1) (by decide +kernel) (by decide +kernel) h1 hpl) ?_
  obtain ⟨u, q1, q2⟩ := h.st.slots.get hr
  have q2 : u = .ref ad := q2
  subst q2
  refine ⟨_, q1, hte _ _ _ ⟨v, cv, t, rfl, hv, hk, ?_, Hs, .refl h.st.e, .bl t⟩⟩
  rcases E.d with q | ⟨dd, fs, q3, q4, q5⟩
  · exact .inl q
  · exact .inr ⟨dd, fs, q3, h.an.f dd _ q4 q5⟩
end
end T3
/-! S1: the law's word for a refusal's class. -/
namespace T3
open PySem L2 PySem.Spec PyProof.Rows Ex3 L2H
section
variable {X : Cx} {N : List Str} {sc : Scope} {P : Program} {w : World} {K : PySem.W.Frag} {mg : Str → Option Value} {base : Heap} {k : Nat}
variable {A : Anc} {M : List Cell} {ρ ρ' : Env3} {a b c e tg : Expr} {es : List Expr} {d d1 d2 d3 : D} {ds fs : List D} {pos p p2 p3 p4 p5 p6 p7 apos : Pos} {st : Stmt} {sts rest : List Stmt} {R : Post} {i j : Int} {x y z : Str}
def sortNs : List Str := [("NoShape" : Str), "NoFit", "Wrong", "NoTable", "NoRow", "BadLine", "TooLong", "NoRule", "NoDeed", "NoName", "NoText", "Nought", "Unlike", "NoLine", "NothingDone"]
/-- what the law's classes say of the class D, named nm -/
structure SortF (K : PySem.W.Frag) (mg : Str → Option Value) (D : Addr) (nm : Str) : Prop where
  exc : ExcC K D
  one : ∀ x ∈ sortNs, ∃ c, mg x = some (.ref c) ∧ PySem.W.kitOne K (.ref D) (.ref c) = some (decide (x = nm))
  loft : ∃ c, mg "LoftError" = some (.ref c) ∧ PySem.W.kitOne K (.ref D) (.ref c) = some true
  val : PySem.W.kitOne K (.ref D) (.type "ValueError") = some true
  vErr : mg "ValueError" = none
  isi : mg "isinstance" = none
  mem : nm ∈ sortNs
theorem b_valueError : bootBuiltins "ValueError" = some (.type "ValueError") := by decide +kernel
theorem hd_isC {ad D : Addr} {od : Option Addr} {oe : Obj} {t : Bool} (eN : X.N = N) (eS : X.env.scope = sc) (eK : X.K = K) (em : X.mg = mg) (E : HErr X K A ad D od oe) (C : ExcC K D) (n : Nat) (hN : N[n]? = some x) (hr : ρ[n]? = some (some (.raw (.ref ad))))
    (hm : mg "isinstance" = none) (hc : ∃ c, mg y = some (.ref c) ∧ PySem.W.kitOne K (.ref D) (.ref c) = some t) (hg : GlS sc "isinstance" := by rfl) (hgy : GlS sc y := by rfl) (hvs : Vis sc x := by first | exact Or.inl rfl | exact Or.inr (Or.inl rfl) | exact Or.inr (Or.inr rfl))
    (hdy : (y == ("__debug__" : Str)) = false := by decide +kernel) (hd : (x == ("__debug__" : Str)) = false := by decide +kernel) (hcd : (x == ("__classdict__" : Str)) = false := by decide +kernel) : ED X K A M ρ (.Call (.Name "isinstance" p2) [.Name x p3, .Name y p4] [] pos) (.bl t) := by
  obtain ⟨c, h1, h2⟩ := hc
  exact hd_isi (cv := .ref c) (v := .ref c) eN eS eK em E C n hN hr hm (pe_glob (v := .ref c) (u := .ref c) (show GlS X.env.scope y by rw [eS]; exact hgy) (by rw [em]; exact h1) rfl hdy) (fun σ H Q q => q) (fun u r => r) h2 hg hvs hd hcd
theorem hd_isV {ad D : Addr} {od : Option Addr} {oe : Obj} {t : Bool} (eN : X.N = N) (eS : X.env.scope = sc) (eK : X.K = K) (em : X.mg = mg) (E : HErr X K A ad D od oe) (C : ExcC K D) (n : Nat) (hN : N[n]? = some x) (hr : ρ[n]? = some (some (.raw (.ref ad))))
    (hm : mg "isinstance" = none) (hv : mg "ValueError" = none) (hk : PySem.W.kitOne K (.ref D) (.type "ValueError") = some t) (hg : GlS sc "isinstance" := by rfl) (hgy : GlS sc "ValueError" := by rfl) (hvs : Vis sc x := by first | exact Or.inl rfl | exact Or.inr (Or.inl rfl) | exact Or.inr (Or.inr rfl))
    (hd : (x == ("__debug__" : Str)) = false := by decide +kernel) (hcd : (x == ("__classdict__" : Str)) = false := by decide +kernel) : ED X K A M ρ (.Call (.Name "isinstance" p2) [.Name x p3, .Name "ValueError" p4] [] pos) (.bl t) :=
  hd_isi (cv := .type "ValueError") (v := .ty "ValueError") eN eS eK em E C n hN hr hm (pe_bltn (v := .ty "ValueError") (u := .type "ValueError") (show GlS X.env.scope "ValueError" by rw [eS]; exact hgy) (by rw [em]; exact hv) b_valueError rfl (by decide +kernel) (by decide +kernel)) (fun σ H Q q => q) (fun u r => r) hk hg hvs hd hcd
theorem hd_tup (hc : HotS X) (eK : X.K = K) {n : Nat} {kk : Nat} {pl : List Nat} (h : TGs X K es ds pl ρ ρ') (hl : ds.length = n) (hn : (assignEach es X.env).length = n := by rfl) (hst : (assignEach es X.env).findIdx? (·.1) = none := by rfl) : TGt X K (.Tuple es kk pos) (.tup ds) pl ρ ρ' := .mk fun fps σ Hs H v e0 hs r => by
  obtain ⟨t, ht, q⟩ := h
  refine wG_of (pg_tupH hc ht hn hst) ?_
  cases r with
  | tup h1 h2 =>
    refine ⟨_, _, rfl, by rw [eK]; exact e0.st h1, by rw [h2.length, hl], ?_⟩
    exact q fps σ Hs H _ _ e0 hs h2 fun σ' h' l' o' => ⟨rfl, h', l', o'⟩
theorem hd_name (eN : X.N = N) (nd : N.Nodup) (eS : X.env.scope = sc) (i : Nat) (hN : N[i]? = some x) (hl : sc.names.lookup x = some .local := by rfl) : TGt X K (.Name x pos) d [i] ρ (ρ.set i (some (.sh d))) :=
  tg_of_name (pg_name (i := i) (by rw [eN]; exact nd) (by rw [eN]; exact hN) (by rw [eS]; exact .inl hl) (.inr (by rw [eS]; exact hl)))
end
end T3
namespace Tl
open PySem L2 T3 PySem.Spec PyProof.Rows Ex3 L2H
section
variable {P : Program} {w : World} {K : PySem.W.Frag} {mg : Str → Option Value} {base : Heap} {CX : CXT}
def s_l_sorts : Stmt := topS 111
theorem sc_l_sorts : FnScope ["_law_e", "_law_sorts_here", "_law_word", "_law_here"] ["_law_e"] (defScope s_l_sorts) := ⟨rfl, rfl, rfl, by decide +kernel, rfl, by decide +kernel, by decide +kernel⟩
/-- the handled error p is handed in; the answer is its class's name -/
def spSorts (K : PySem.W.Frag) (mg : Str → Option Value) : SpE := fun p vs H Q _ => ∃ (a D : Addr) (od : Option Addr) (oe : Obj) (nm : Str) (Hs : Hp), p = (a, oe) ∧ vs = [.ref a] ∧ Zc (.ref D) od oe ∧ (∃ us, oe.data = .fields us) ∧
  (od = none ∨ ∃ (dd : Addr) (fs : List (Str × V)), od = some dd ∧ H dd = some (.xd fs)) ∧ SortF K mg D nm ∧ Ex Hs H ∧ ∀ Hs' H', Step Hs H Hs' H' → Q (.str nm) H'
theorem srt_form {nm : Str} {d : D} (h : d ∈ ((sortNs.map fun x => D.tup [.str x, .bl (decide (x = nm))]) ++ [D.tup [.str "no LoftError", .bl false], D.tup [.str "no ValueError", .bl false]])) : ∃ y b, d = .tup [.str y, .bl b] := by
  rcases List.mem_append.mp h with h | h
  · obtain ⟨x, _, rfl⟩ := List.mem_map.mp h
    exact ⟨_, _, rfl⟩
  · simp only [List.mem_cons, List.not_mem_nil, or_false] at h
    rcases h with rfl | rfl <;> exact ⟨_, _, rfl⟩
theorem srt_len {nm : Str} (h : nm ∈ sortNs) : nm.length ≤ 100 := by
  have h2 : ∀ x ∈ sortNs, x.length ≤ 100 := by decide +kernel
  exact h2 nm h
theorem join_one {z x : Str} : Txt.join z [x] = x := by
  unfold Txt.join
  rfl
def srt (nm : Str) (l : List Str) : List D := l.map fun x => .tup [.str x, .bl (decide (x = nm))]
theorem srt_join {nm : Str} (h : nm ∈ sortNs) : ((srt nm sortNs ++ [D.tup [.str "no LoftError", .bl false], D.tup [.str "no ValueError", .bl false]]).filterMap fun d => match d with | .tup [.str x, .bl true] => some (D.str x) | _ => none) = [nm].map D.str := by
  have : sortNs = [("NoShape" : Str), "NoFit", "Wrong", "NoTable", "NoRow", "BadLine", "TooLong", "NoRule", "NoDeed", "NoName", "NoText", "Nought", "Unlike", "NoLine", "NothingDone"] := rfl
  rw [this] at h
  simp only [List.mem_cons, List.not_mem_nil, or_false] at h
  rcases h with rfl | rfl | rfl | rfl | rfl | rfl | rfl | rfl | rfl | rfl | rfl | rfl | rfl | rfl | rfl <;> rfl
theorem d_l_sorts {f : Addr} {fd : FuncData} (F' : Fun K "_law_sorts" "_law_sorts" s_l_sorts f fd) : FnE P w K mg base CX 2 f fd ["_law_e"] (spSorts K mg) := by
  obtain ⟨oc, ox, kV, doc, pm, an, cdv, ct, osl, rfl, lk, hcd⟩ := F'.ex
  refine fn_ofE lk hcd sc_l_sorts (fun p vs H Q E h => ?_) fun A outer s H vs Q E p hot hr h => ?_
  · obtain ⟨a, D, od, oe, nm, Hs, rfl, rfl, _⟩ := h; rfl
  obtain ⟨a, Dc, od, oe, nm, Hs, rfl, rfl, hz, hf, hd, F, he, q⟩ := h
  refine ⟨_, pss_w, ?_⟩
  have hHot : HotC (cxH CX P w K mg base ["_law_e", "_law_sorts_here", "_law_word", "_law_here"] "_law_sorts" (defScope s_l_sorts) f cdv A outer s H E (a, oe)) := ⟨(a, oe), hot, List.mem_singleton.mpr rfl⟩
  have hE : HErr (cxH CX P w K mg base ["_law_e", "_law_sorts_here", "_law_word", "_law_here"] "_law_sorts" (defScope s_l_sorts) f cdv A outer s H E (a, oe)) K ⟨[], Hs, H⟩ a Dc od oe := by
    refine ⟨List.mem_singleton.mpr rfl, hz, hf, ?_⟩
    rcases hd with hd | ⟨dd, fs, h1, h2⟩
    · exact .inl hd
    · exact .inr ⟨dd, fs, h1, h2, by simp⟩
  have hst : StA K ⟨[], Hs, H⟩ [] [some (.raw (.ref a)), none, none, none] [] (L2.start ["_law_e", "_law_sorts_here", "_law_word", "_law_here"] [.ref a]) Hs H := ⟨⟨he, by simp, fun a ha => by simp at ha, trivial, ⟨rfl, trivial⟩⟩, .self⟩
  have fin : ∀ fps Hs' H', StepA ⟨[], Hs, H⟩ fps Hs' H' → Ex Hs' H' → Step Hs H Hs' H' := fun fps Hs' H' h e' => ⟨h.s, fun a o ho => h.f a o ho (by simp), e', fun a h1 h2 => h.n a h1 (by simp) h2⟩
  suffices hb : SD (cxH CX P w K mg base ["_law_e", "_law_sorts_here", "_law_word", "_law_here"] "_law_sorts" (defScope s_l_sorts) f cdv A outer s H E (a, oe)) K ⟨[], Hs, H⟩ [] [some (.raw (.ref a)), none, none, none] (defBody s_l_sorts) ⟨fun _ _ => False, fun _ d => d = .str nm, fun _ _ => False, fun _ _ => False⟩ by
    refine wSs_mono (hb _ _ _ _ hst) ?_ ?_ (fun _ _ ⟨_, _, _, _, _, z⟩ => False.elim z) (fun _ _ ⟨_, _, _, _, _, z⟩ => False.elim z)
    · rintro σ' H' ⟨M', ρ', fps', Hs', h1, h2⟩
      exact False.elim h2
    · rintro v H' ⟨M', d', fps', Hs', h1, h2, h3⟩
      have h3 : d' = .str nm := h3
      subst h3
      cases h2
      exact q Hs' H' (fin _ _ _ h1.an h1.st.e)
  refine hs_set rfl rfl sc_l_sorts.nd (fun _ => rfl) 1 rfl (d := .lst (srt nm ["NoShape", "NoFit", "Wrong"])) (ed_lst (eds_cons (ed_tup (eds_cons ed_str (eds_cons (hd_isC rfl rfl rfl rfl hE F.exc 0 rfl rfl F.isi (F.one "NoShape" (by decide))) eds_nil)) (Nat.le_of_ble_eq_true rfl)) (eds_cons (ed_tup (eds_cons ed_str (eds_cons (hd_isC rfl rfl rfl rfl hE F.exc 0 rfl rfl F.isi (F.one "NoFit" (by decide))) eds_nil)) (Nat.le_of_ble_eq_true rfl)) (eds_cons (ed_tup (eds_cons ed_str (eds_cons (hd_isC rfl rfl rfl rfl hE F.exc 0 rfl rfl F.isi (F.one "Wrong" (by decide))) eds_nil)) (Nat.le_of_ble_eq_true rfl)) eds_nil))) (Nat.le_of_ble_eq_true rfl)) ?_
  refine hs_set rfl rfl sc_l_sorts.nd (fun _ => rfl) 1 rfl (d := .lst (srt nm ["NoShape", "NoFit", "Wrong", "NoTable", "NoRow"])) (ed_is (hd_cat (hd_var rfl rfl 1 rfl rfl) (ed_lst (eds_cons (ed_tup (eds_cons ed_str (eds_cons (hd_isC rfl rfl rfl rfl hE F.exc 0 rfl rfl F.isi (F.one "NoTable" (by decide))) eds_nil)) (Nat.le_of_ble_eq_true rfl)) (eds_cons (ed_tup (eds_cons ed_str (eds_cons (hd_isC rfl rfl rfl rfl hE F.exc 0 rfl rfl F.isi (F.one "NoRow" (by decide))) eds_nil)) (Nat.le_of_ble_eq_true rfl)) eds_nil)) (Nat.le_of_ble_eq_true rfl)) (Nat.le_of_ble_eq_true rfl)) rfl) ?_
  refine hs_set rfl rfl sc_l_sorts.nd (fun _ => rfl) 1 rfl (d := .lst (srt nm ["NoShape", "NoFit", "Wrong", "NoTable", "NoRow", "BadLine", "TooLong"])) (ed_is (hd_cat (hd_var rfl rfl 1 rfl rfl) (ed_lst (eds_cons (ed_tup (eds_cons ed_str (eds_cons (hd_isC rfl rfl rfl rfl hE F.exc 0 rfl rfl F.isi (F.one "BadLine" (by decide))) eds_nil)) (Nat.le_of_ble_eq_true rfl)) (eds_cons (ed_tup (eds_cons ed_str (eds_cons (hd_isC rfl rfl rfl rfl hE F.exc 0 rfl rfl F.isi (F.one "TooLong" (by decide))) eds_nil)) (Nat.le_of_ble_eq_true rfl)) eds_nil)) (Nat.le_of_ble_eq_true rfl)) (Nat.le_of_ble_eq_true rfl)) rfl) ?_
  refine hs_set rfl rfl sc_l_sorts.nd (fun _ => rfl) 1 rfl (d := .lst (srt nm ["NoShape", "NoFit", "Wrong", "NoTable", "NoRow", "BadLine", "TooLong", "NoRule", "NoDeed"])) (ed_is (hd_cat (hd_var rfl rfl 1 rfl rfl) (ed_lst (eds_cons (ed_tup (eds_cons ed_str (eds_cons (hd_isC rfl rfl rfl rfl hE F.exc 0 rfl rfl F.isi (F.one "NoRule" (by decide))) eds_nil)) (Nat.le_of_ble_eq_true rfl)) (eds_cons (ed_tup (eds_cons ed_str (eds_cons (hd_isC rfl rfl rfl rfl hE F.exc 0 rfl rfl F.isi (F.one "NoDeed" (by decide))) eds_nil)) (Nat.le_of_ble_eq_true rfl)) eds_nil)) (Nat.le_of_ble_eq_true rfl)) (Nat.le_of_ble_eq_true rfl)) rfl) ?_
  refine hs_set rfl rfl sc_l_sorts.nd (fun _ => rfl) 1 rfl (d := .lst (srt nm ["NoShape", "NoFit", "Wrong", "NoTable", "NoRow", "BadLine", "TooLong", "NoRule", "NoDeed", "NoName", "NoText"])) (ed_is (hd_cat (hd_var rfl rfl 1 rfl rfl) (ed_lst (eds_cons (ed_tup (eds_cons ed_str (eds_cons (hd_isC rfl rfl rfl rfl hE F.exc 0 rfl rfl F.isi (F.one "NoName" (by decide))) eds_nil)) (Nat.le_of_ble_eq_true rfl)) (eds_cons (ed_tup (eds_cons ed_str (eds_cons (hd_isC rfl rfl rfl rfl hE F.exc 0 rfl rfl F.isi (F.one "NoText" (by decide))) eds_nil)) (Nat.le_of_ble_eq_true rfl)) eds_nil)) (Nat.le_of_ble_eq_true rfl)) (Nat.le_of_ble_eq_true rfl)) rfl) ?_
  refine hs_set rfl rfl sc_l_sorts.nd (fun _ => rfl) 1 rfl (d := .lst (srt nm ["NoShape", "NoFit", "Wrong", "NoTable", "NoRow", "BadLine", "TooLong", "NoRule", "NoDeed", "NoName", "NoText", "Nought", "Unlike"])) (ed_is (hd_cat (hd_var rfl rfl 1 rfl rfl) (ed_lst (eds_cons (ed_tup (eds_cons ed_str (eds_cons (hd_isC rfl rfl rfl rfl hE F.exc 0 rfl rfl F.isi (F.one "Nought" (by decide))) eds_nil)) (Nat.le_of_ble_eq_true rfl)) (eds_cons (ed_tup (eds_cons ed_str (eds_cons (hd_isC rfl rfl rfl rfl hE F.exc 0 rfl rfl F.isi (F.one "Unlike" (by decide))) eds_nil)) (Nat.le_of_ble_eq_true rfl)) eds_nil)) (Nat.le_of_ble_eq_true rfl)) (Nat.le_of_ble_eq_true rfl)) rfl) ?_
  refine hs_set rfl rfl sc_l_sorts.nd (fun _ => rfl) 1 rfl (d := .lst (srt nm ["NoShape", "NoFit", "Wrong", "NoTable", "NoRow", "BadLine", "TooLong", "NoRule", "NoDeed", "NoName", "NoText", "Nought", "Unlike", "NoLine", "NothingDone"])) (ed_is (hd_cat (hd_var rfl rfl 1 rfl rfl) (ed_lst (eds_cons (ed_tup (eds_cons ed_str (eds_cons (hd_isC rfl rfl rfl rfl hE F.exc 0 rfl rfl F.isi (F.one "NoLine" (by decide))) eds_nil)) (Nat.le_of_ble_eq_true rfl)) (eds_cons (ed_tup (eds_cons ed_str (eds_cons (hd_isC rfl rfl rfl rfl hE F.exc 0 rfl rfl F.isi (F.one "NothingDone" (by decide))) eds_nil)) (Nat.le_of_ble_eq_true rfl)) eds_nil)) (Nat.le_of_ble_eq_true rfl)) (Nat.le_of_ble_eq_true rfl)) rfl) ?_
  refine hs_set rfl rfl sc_l_sorts.nd (fun _ => rfl) 1 rfl (d := .lst (srt nm sortNs ++ [D.tup [.str "no LoftError", .bl false], D.tup [.str "no ValueError", .bl false]])) (ed_is (hd_cat (hd_var rfl rfl 1 rfl rfl) (ed_lst (eds_cons (ed_tup (eds_cons ed_str (eds_cons (ed_not (hd_isC rfl rfl rfl rfl hE F.exc 0 rfl rfl F.isi F.loft)) eds_nil)) (Nat.le_of_ble_eq_true rfl)) (eds_cons (ed_tup (eds_cons ed_str (eds_cons (ed_not (hd_isV rfl rfl rfl rfl hE F.exc 0 rfl rfl F.isi F.vErr F.val)) eds_nil)) (Nat.le_of_ble_eq_true rfl)) eds_nil)) (Nat.le_of_ble_eq_true rfl)) (Nat.le_of_ble_eq_true rfl)) rfl) ?_
  refine sd_ret (d := .str nm) (ed_is (ed_join ed_str (ys := [nm]) (ed_is (ed_lcH hHot sc_l_sorts.nd rfl [("_law_word", 2), ("_law_here", 3)] (hd_var rfl rfl 1 rfl rfl) (show BlkOk ["_law_e", "_law_sorts_here", "_law_word", "_law_here"] (defScope s_l_sorts) _ _ from blkOk_by (by decide +kernel)) [2, 3] (fun d => [some (.raw (.ref a)), some (.sh (.lst (srt nm sortNs ++ [D.tup [.str "no LoftError", .bl false], D.tup [.str "no ValueError", .bl false]]))), some (.sh (match d with | .tup [y, _] => y | _ => .non)), some (.sh (match d with | .tup [_, y] => y | _ => .non))]) (fun d => match d with | .tup [.str x, .bl true] => some (D.str x) | _ => none) (Nat.le_of_ble_eq_true rfl) (fun s0 H0 C cl fp hot d hd => ?_) (fun s0 H0 C cl fp d hd => ?_)) (congrArg D.lst (srt_join F.mem))) ?_) ?_) rfl
  · obtain ⟨y, b, rfl⟩ := srt_form hd
    exact hd_tup hot rfl (tgs_cons (hd_name rfl sc_l_sorts.nd rfl 2 rfl) (tgs_cons (hd_name rfl sc_l_sorts.nd rfl 3 rfl) tgs_nil)) rfl
  · obtain ⟨y, b, rfl⟩ := srt_form hd
    cases b with
    | false => exact ⟨fun x hx => (nomatch hx), (et_val (hd_var rfl rfl 3 rfl rfl) : ET _ _ _ _ _ _ false)⟩
    | true =>
      refine ⟨fun x hx => ?_, (et_val (hd_var rfl rfl 3 rfl rfl) : ET _ _ _ _ _ _ true)⟩
      cases hx
      exact hd_var rfl rfl 2 rfl rfl
  · have := srt_len F.mem
    have h1 : (" " : Str).length = 1 := by decide +kernel
    show nm.length + 0 + 1 * (" " : Str).length ≤ 100000
    omega
  · show D.str (Txt.join " " [nm]) = D.str nm
    rw [join_one]
end
end Tl
/-! T5: the law's telling: a try with its clauses. -/
namespace T3
open PySem L2 PySem.Spec PyProof.Rows Ex3 L2H
/-- what the clauses say of the two classes -/
structure TrF (K : PySem.W.Frag) (mg : Str → Option Value) (CU CN : Addr) : Prop where
  ex : ∃ c1 c2 c3 c4 c5 : Addr, mg "NoShape" = some (.ref c1) ∧ mg "TooLong" = some (.ref c2) ∧ mg "NoFit" = some (.ref c3) ∧ mg "Wrong" = some (.ref c4) ∧ mg "LoftError" = some (.ref c5) ∧ PySem.W.exmOne K (.ref CU) (.ref CN) = some false ∧ PySem.W.exmOne K (.ref CU) (.ref c1) = some false ∧
    PySem.W.exmAny K (.ref CU) [.ref c2, .ref c3] = some false ∧ PySem.W.exmOne K (.ref CU) (.ref c4) = some false ∧ PySem.W.exmOne K (.ref CU) (.ref c5) = some true ∧ PySem.W.exmOne K (.ref CN) (.ref CN) = some true
  xN : XfC K CN
section
variable {X : Cx} {N : List Str} {sc : Scope} {P : Program} {w : World} {K : PySem.W.Frag} {mg : Str → Option Value} {base : Heap} {k : Nat}
variable {A A0 : Anc} {M : List Cell} {ρ ρ' : Env3} {a b c e o o2 tg : Expr} {es : List Expr} {d d1 d2 d3 : D} {ds fs : List D} {pos p p2 p3 p4 p5 apos cpos : Pos} {st : Stmt} {sts rest : List Stmt} {R : Post} {i j : Int} {x y z : Str} {CX : CXT} {C CU CN : Addr} {out : Out} {s s' : DeskSt} {jc : Nat}
theorem XF.tr (hX : XF X N sc P w K mg base k) (pn : List (Addr × Obj)) (xe : Value → Shared → Prop) : XF (X.tr pn xe) N sc P w K mg base k := ⟨hX.eN, hX.eS, hX.eP, hX.ew, hX.eK, hX.em, hX.eb, hX.calm, hX.rm, hX.nd⟩
/-- a suite's context -/
structure SuF (X : Cx) (K : PySem.W.Frag) (A : Anc) (ad Dc : Addr) (od : Option Addr) (oe : Obj) : Prop where
  z : Zc (.ref Dc) od oe
  f : ∃ vs, oe.data = .fields vs
  c : PXN.CtxN oe
  d : od = none ∨ ∃ (dd : Addr) (fs : List (Str × V)), od = some dd ∧ A.H dd = some (.xd fs) ∧ dd ∉ A.fps.flatten
/-- f(e), e the handled error -/
theorem hd_sorts {ad Dc : Addr} {od : Option Addr} {oe : Obj} {pn : List (Addr × Obj)} {f : Addr} {fd : FuncData} {nm : Str} (hX : XF X N sc P w K mg base k) (S : SuF X K A ad Dc od oe) (F : FnE P w K mg base CX0 2 f fd ["_law_e"] (Tl.spSorts K mg)) (hm : mg "_law_sorts" = some (.ref f)) (hk : PySem.W.keepIn K (.ref f) = true) (hb : Binds K fd ["_law_e"] []) (hj : 2 ≤ k) (SF : SortF K mg Dc nm)
    (n : Nat) (hN : N[n]? = some x) (hr : ρ[n]? = some (some (.raw (.ref ad)))) (hg : GlS sc "_law_sorts" := by rfl) (hvs : Vis sc x := by first | exact Or.inl rfl | exact Or.inr (Or.inl rfl) | exact Or.inr (Or.inr rfl))
    (hd : (x == ("__debug__" : Str)) = false := by decide +kernel) (hcd : (x == ("__classdict__" : Str)) = false := by decide +kernel) :
    ED (X.suite ad ((ad, oe) :: pn)) K A M ρ (.Call (.Name "_law_sorts" p) [.Name x p2] [] pos) (.str nm) := .mk fun fps σ Hs H h => by
  obtain ⟨rfl, rfl, rfl, rfl, rfl, rfl, rfl, _, rm, _⟩ := id hX
  have r2 := roomH_of (rm.mono hj)
  obtain ⟨vs, hvs'⟩ := id S.f
  refine wE_of (pe_callE (X := X.suite ad ((ad, oe) :: pn)) (p := (ad, oe)) F ⟨r2.dp, r2.un⟩ ⟨rfl, vs, hvs', S.c vs hvs'⟩ List.mem_cons_self (show _ = _ from hg) hm hk hb (fun _ _ _ _ _ _ _ h => h.elim) (pa_cons (pe_var (i := n) hN hvs hd hcd) pa_nil (star_cons rfl)) (by decide +kernel) (star_cons rfl) (star_plain rfl)) ?_
  obtain ⟨u, q1, q2⟩ := h.st.slots.get hr
  have q2 : u = .ref ad := q2
  subst q2
  refine ⟨_, q1, ad, Dc, od, oe, nm, Hs, rfl, rfl, S.z, S.f, ?_, SF, h.st.e, fun Hs' H' s => ⟨Hs', s, .str _⟩⟩
  rcases S.d with q | ⟨dd, fs, q3, q4, q5⟩
  · exact .inl q
  · exact .inr ⟨dd, fs, q3, h.an.f dd _ q4 q5⟩
/-- e.name, e the handled error -/
theorem hd_name1 {ad Dc dd : Addr} {oe : Obj} {pn : List (Addr × Obj)} {fs : List (Str × V)} (hX : XF X N sc P w K mg base k) (hz : Zc (.ref Dc) (some dd) oe) (hf : ∃ vs, oe.data = .fields vs) (T : XfC K Dc) (hno : PySem.W.findIn K (.ref Dc) "name" = some none) (hA : A.H dd = some (.xd fs)) (hnf : dd ∉ A.fps.flatten) (hl : fs.lookup ("name" : Str) = some (V.str z))
    (n : Nat) (hN : N[n]? = some x) (hr : ρ[n]? = some (some (.raw (.ref ad)))) (hvs : Vis sc x := by first | exact Or.inl rfl | exact Or.inr (Or.inl rfl) | exact Or.inr (Or.inr rfl))
    (hd : (x == ("__debug__" : Str)) = false := by decide +kernel) (hcd : (x == ("__classdict__" : Str)) = false := by decide +kernel) :
    ED (X.suite ad ((ad, oe) :: pn)) K A M ρ (.Attribute (.Name x p2) "name" pos) (.str z) := .mk fun fps σ Hs H h => by
  obtain ⟨rfl, rfl, rfl, rfl, rfl, rfl, rfl, _, rm, _⟩ := id hX
  refine wE_of (pe_xf T hno hz hf (pe_var (i := n) hN hvs hd hcd)) ?_
  obtain ⟨u, q1, q2⟩ := h.st.slots.get hr
  have q2 : u = .ref ad := q2
  subst q2
  exact ⟨_, q1, rfl, rfl, dd, fs, _, rfl, h.an.f dd _ hA hnf, hl, Hs, .refl h.st.e, .str _⟩
/-- with what stands about the frame -/
theorem fnD0s {f : Addr} {fd : FuncData} {x qual : Str} {N ps : List Str} {G : DeskSt → List D → Out → DeskSt → Prop} (F : Fun K x qual st f fd) (S : FnScope N ps (defScope st)) (len : ∀ s ds out s', G s ds out s' → ds.length + 1 = ps.length)
    (body : ∀ (X : Cx) (A : Anc), XF X N (defScope st) P w K mg base k → (∀ x, X.fn x = true) → PassesOwn (model X.prog X.w) X.A X.env X.xe → X.stack = X.env :: X.outer → X.env.frame = some X.env.locals → A.fps.length ≤ 1 → ∀ s ds out s', G s ds out s' →
      SD X K A [.desk C s] (some (.cell 0) :: (ds.map (fun d => some (.sh d)) ++ List.replicate (N.length - ps.length) none)) (defBody st) (deskPost C s' out)) : FnOk P w K mg base CX0 (k + 1) f fd ps (spD K C CU CN G) := by
  refine F.ok S (spD_len len) fun cdv A outer s H vs Q E hr h => ?_
  refine ⟨_, pss_w, ?_⟩
  have hX : XF (cxOf CX0 P w K mg base N qual (defScope st) f cdv A outer s H E).nox N (defScope st) P w K mg base k := ⟨rfl, rfl, rfl, rfl, rfl, rfl, rfl, rfl, hr, S.nd⟩
  exact desk_body h (spD_len len _ _ _ _ h) fun A' hA s ds out s' g _ => body _ A' hX (fun _ => rfl) PassesOwn.never rfl rfl hA s ds out s' g
end
end T3
namespace Tl
open PySem L2 T3 TL PySem.Spec PyProof.Rows Ex3 L2H
section
variable {X : Cx} {N : List Str} {sc : Scope} {P : Program} {w : World} {K : PySem.W.Frag} {mg : Str → Option Value} {base : Heap} {k : Nat} {C CU CN : Addr} {R : Post} {A A0 : Anc}
def s_l_tell : Stmt := topS 119
theorem sc_l_tell : FnScope ["_law_desk", "_law_line", "_law_found", "_law_e"] ["_law_desk", "_law_line"] (defScope s_l_tell) := ⟨rfl, rfl, rfl, by decide +kernel, rfl, by decide +kernel, by decide +kernel⟩
def tellD : Out → D
  | .ret d => .tup [.str "told", d]
  | .unl => .tup [.str "Unlike", .int 0]
  | .non z => .tup [.str "NoName", .str z]
def G_l_tell (s : DeskSt) (ds : List D) (out : Out) (s' : DeskSt) : Prop := ∃ out0, G_tell s ds out0 s' ∧ out = .ret (tellD out0)
def suT (X : Cx) (st : Stmt) : Addr → Value → Option Addr → TS := fun a cls d D σ H => ∀ oe pn, L2N.Zn cls d oe → (∃ vs, oe.data = .fields vs) → wSs (X.suite a ((a, oe) :: pn)) [st] D σ H
theorem suT_ok {st : Stmt} : ∀ (a : Addr) (oe : Obj) (cls : Value) (d : Option Addr) (pn : List (Addr × Obj)), L2N.Zn cls d oe → (∃ vs, oe.data = .fields vs) → PSs (X.suite a ((a, oe) :: pn)) [st] (suT X st a cls d) :=
  fun a oe cls d pn hz hf => ⟨fun pins s σ H D I h => h oe pn hz hf pins s I⟩
/-- the suite sets slot 2, the rest follows -/
theorem suite_run {e : Expr} {pos p : Pos} {rest : List Stmt} {d : D} {s' : DeskSt} {ad : Addr} {Dc : Value} {od : Option Addr} {σ : L2.St} {fps : List (List Addr)} {Hs H : Hp} (hX : XF X ["_law_desk", "_law_line", "_law_found", "_law_e"] (defScope s_l_tell) P w K mg base k) (hF : ∀ x, X.fn x = true) (hA : StA K A [.desk C s'] [] fps [] Hs H) (hl : σ.length = 4)
    (he : ∀ oe pn, L2N.Zn Dc od oe → (∃ vs, oe.data = .fields vs) → ED (X.suite ad ((ad, oe) :: pn)) K ⟨fps, Hs, H⟩ [.desk C s'] [none, none, none, some (.raw (.ref ad))] e d)
    (hr : SD X K A [.desk C s'] [none, none, some (.sh d), none] rest R) (hs : ∀ oe pn, swapsWith e (some (.Name "_law_found" p)) pos.line (X.suite ad ((ad, oe) :: pn)).env = pure false := by intro _ _; rfl) :
    suT X (.Assign [.Name "_law_found" p] e pos) ad Dc od { nx := fun σ' H' => (endsOf K A (R.then X K A rest)).nx (σ'.set 3 none) H', rt := (endsOf K A (R.then X K A rest)).rt, bk := fun σ' H' => (endsOf K A (R.then X K A rest)).bk (σ'.set 3 none) H', ct := fun σ' H' => (endsOf K A (R.then X K A rest)).ct (σ'.set 3 none) H' } (σ.set 3 (some (.ref ad))) H := by
  intro oe pn hz hf
  have le : Anc.le A ⟨fps, Hs, H⟩ := hA.an
  have sd : SD (X.suite ad ((ad, oe) :: pn)) K ⟨fps, Hs, H⟩ [.desk C s'] [none, none, none, some (.raw (.ref ad))] [.Assign [.Name "_law_found" p] e pos] ⟨fun M ρ => M = [.desk C s'] ∧ ρ = [none, none, some (.sh d), some (.raw (.ref ad))], fun _ _ => False, fun _ _ => False, fun _ _ => False⟩ :=
    hs_set hX.eN hX.eS hX.nd hF 2 rfl (he oe pn hz hf) (sd_nil ⟨rfl, rfl⟩) (hs := hs oe pn)
  have slots : Slots K Hs fps [none, none, none, some (.raw (.ref ad))] (σ.set 3 (some (.ref ad))) := by
    match σ, hl with
    | [_, _, _, _], _ => exact ⟨rfl, trivial⟩
  refine wSs_mono (sd fps _ Hs H ⟨⟨hA.st.e, hA.st.nd, hA.st.own, hA.st.cells, slots⟩, .self⟩) ?_ (fun _ _ ⟨_, _, _, _, _, _, z⟩ => False.elim z) (fun _ _ ⟨_, _, _, _, _, z⟩ => False.elim z) (fun _ _ ⟨_, _, _, _, _, z⟩ => False.elim z)
  rintro σ' H' ⟨M', ρ', fps', Hs', h1, rfl, rfl⟩
  exact ⟨_, _, fps', Hs', (h1.up le).slots (h1.st.slots.setNone 3), hr⟩
theorem not_own {fps : List (List Addr)} {Hs H : Hp} {s' : DeskSt} {dd : Addr} {fs : List (Str × V)} (hA : StA K A [.desk C s'] [] fps [] Hs H) (hd : H dd = some (.xd fs)) : dd ∉ fps.flatten := by
  match fps, hA with
  | [f], hA =>
    obtain ⟨x, l1, l2, dx, vn, xs1, xs2, rfl, g1, _, g3, _, g5, _⟩ := desk_ins hA.st.cells.1
    intro z
    simp only [List.flatten_cons, List.flatten_nil, List.append_nil, List.mem_cons, List.not_mem_nil, or_false] at z
    rcases z with rfl | rfl | rfl
    · rw [g1] at hd; cases hd
    · rw [g3] at hd; cases hd
    · rw [g5] at hd; cases hd
  | [], hA => exact hA.st.cells.elim
  | _ :: _ :: _, hA => exact hA.st.cells.2.elim
theorem rz_try {W : WX} {n : Nat} {M : List Cell} {out : Out} (hX : XF X N sc P w K mg base k) (tk : L2N.Takes X W) (h : ∀ σ, σ.length = n → XOk K CU CN A0 M out (WE W σ)) : Rz (L2N.CX P w) X K CU CN A0 M out n := by
  refine ⟨WE W, fun σ => ?_, h⟩
  have := L2N.passAt tk σ
  rw [hX.eP, hX.ew] at this
  exact this
theorem d_l_tell (T : Tops K mg) (DF : DeskF K C) (EF : ExF K mg CU CN) (TF : TrF K mg CU CN) (SU : SortF K mg CU "Unlike") (SN : SortF K mg CN "NoName") (D_tell : MthD P w K mg base (L2N.CX P w) C CU CN "tell" 7 G_tell)
    {fs : Addr} {fds : FuncData} (FS : FnE P w K mg base CX0 2 fs fds ["_law_e"] (spSorts K mg)) (hms : mg "_law_sorts" = some (.ref fs)) (hks : PySem.W.keepIn K (.ref fs) = true) (hbs : Binds K fds ["_law_e"] [])
    {f : Addr} {fd : FuncData} (F : Fun K "_law_tell" "_law_tell" s_l_tell f fd) (hb : Binds K fd ["_law_desk", "_law_line"] []) (hm : mg "_law_tell" = some (.ref f)) : DfnD P w K mg base CX0 C CU CN "_law_tell" 8 G_l_tell := by
  refine ⟨f, fd, _, fnD0s F sc_l_tell (fun s ds out s' h => ?_) ?_, hm, F.kp, hb⟩
  · obtain ⟨_, ⟨_, _, _, _, _, _, _, rfl, _⟩, _⟩ := h; rfl
  rintro X A hX hF hP hst hfr hA s ds out s' ⟨out0, g, rfl⟩
  obtain ⟨S, c, okS, ok, e1, hp, hu, rfl, h⟩ := id g
  obtain ⟨c1, c2, c3, c4, c5, m1, m2, m3, m4, m5, u1, u2, u3, u4, u5, n1⟩ := TF.ex
  have em := hX.em
  have eK := hX.eK
  have gl : ∀ x, GlS (defScope s_l_tell) x → Gl X x := fun x hx => hX.gl hx
  refine sd_set hX 2 rfl ed_non ?_
  have hrest : ∀ (p pos : Pos) (r : List Stmt) (d : D), d = tellD out0 → SD X K A [.desk C s'] [none, none, some (.sh d), none] (.Return (some (.Name "_law_found" p)) pos :: r) (deskPost C s' (.ret (tellD out0))) := fun p pos r d e => sd_ret (ed_var hX 2 rfl rfl) ⟨by rw [e], rfl⟩
  refine sd_cons <| .mk fun fps σ Hs H hh => ?_
  refine wS_of (ps_try_all (Wout := fun _ _ _ _ => False) (i := 3) (tb := fun W D σ H => ∀ pn xe, L2N.Takes (X.tr pn xe) W → PassesOwn (model X.prog X.w) X.A X.env xe → wSs (X.tr pn xe) _ D σ H) hst hfr (by rw [hX.eN]; exact hX.nd) (by rw [hX.eN]; rfl) (by show X.env.scope.names.lookup _ = _; rw [hX.eS]; rfl) (fun _ _ ⟨_, _, _, _, _, _, _, _, _, _, _, _, _, _, _, _, z⟩ => False.elim z) (fun W pn xe tk hpo => ⟨fun pins s σ H D I h => h pn xe tk hpo pins s I⟩)
    (.cons (.one ⟨gl _ rfl, by decide +kernel, .inl (by rw [em]; exact EF.mN)⟩) suT_ok (.cons (.one ⟨gl _ rfl, by decide +kernel, .inl (by rw [em]; exact m1)⟩) suT_ok (.cons (.two ⟨gl _ rfl, by decide +kernel, .inl (by rw [em]; exact m2)⟩ ⟨gl _ rfl, by decide +kernel, .inl (by rw [em]; exact m3)⟩) suT_ok
      (.cons (.one ⟨gl _ rfl, by decide +kernel, .inl (by rw [em]; exact m4)⟩) suT_ok (.cons (.one ⟨gl _ rfl, by decide +kernel, .inl (by rw [em]; exact m5)⟩) suT_ok .nil)))))) ?_
  intro pn xe tk hpo
  have hX' := hX.tr pn xe
  refine (sd_setM (R := (deskPost C s' (.ret (tellD out0))).then X K A _) hX' 2 rfl (em_tup2 ed_str (em_meth (CX := L2N.CX P w) (CU := CU) (CN := CN) (A0 := A) (out := out0) (s' := s') hX' D_tell (by decide) DF.cls (ec_var hX' 0 rfl rfl) rfl (ds := [.str (cmdL c)]) (eds_cons (ed_var hX' 1 rfl rfl) eds_nil) ⟨S, c, okS, ok, e1, hp, hu, rfl, h⟩ ?_ .self)) (fun d q => sd_nil ?_)).run fps σ Hs H hh
  · refine rz_try hX' tk fun σ hl => ?_
    · cases out0 with
      | ret d => trivial
      | unl =>
        intro fps1 Hs1 H1 h1
        refine ⟨false, by rw [eK]; exact u1, (fun z => nomatch z), fun _ => ⟨false, by rw [eK]; exact u2, (fun z => nomatch z), fun _ => ⟨false, by rw [eK]; exact u3, (fun z => nomatch z), fun _ => ⟨false, by rw [eK]; exact u4, (fun z => nomatch z), fun _ => ⟨true, by rw [eK]; exact u5, fun _ ad had => ?_, fun z => nomatch z⟩⟩⟩⟩⟩
        refine suite_run hX hF h1 hl (fun oe pn hz hf => ?_) (hrest _ _ _ _ rfl)
        have sf : SuF X K ⟨fps1, Hs1, H1⟩ ad CU none oe := ⟨hz.zc, hf, hz.2.2, .inl rfl⟩
        exact ed_tup (eds_cons (hd_sorts hX sf FS hms hks hbs (by decide) SU 3 rfl rfl) (eds_cons ed_int eds_nil)) (Nat.le_of_ble_eq_true rfl)
      | non z =>
        intro fps1 Hs1 H1 dd fs h1 q1 q2
        refine ⟨true, by rw [eK]; exact n1, fun _ ad had => ?_, fun z => nomatch z⟩
        refine suite_run hX hF h1 hl (fun oe pn hz hf => ?_) (hrest _ _ _ _ rfl)
        have sf : SuF X K ⟨fps1, Hs1, H1⟩ ad CN (some dd) oe := ⟨hz.zc, hf, hz.2.2, .inr ⟨dd, fs, rfl, q1, not_own h1 q1⟩⟩
        exact ed_tup (eds_cons (hd_sorts hX sf FS hms hks hbs (by decide) SN 3 rfl rfl) (eds_cons (hd_name1 hX hz.zc hf TF.xN EF.aN q1 (not_own h1 q1) q2 3 rfl rfl) eds_nil)) (Nat.le_of_ble_eq_true rfl)
  · cases out0 with
    | ret d0 =>
      cases q
      exact sd_weak (hrest _ _ _ _ rfl) ⟨rfl, trivial⟩
    | unl => cases q
    | non z => cases q
end
end Tl
/-! F1: an answer held against what is due. -/
namespace Tl
open PySem L2 T3 TL PySem.Spec PyProof.Rows Ex3
local macro_rules | `(tactic| walk_at "len") => `(tactic| first | decide | (simp; done) | omega | (simp; omega))
theorem told_str {s s' : DeskSt} {S : Sta} {c : Cmd} {out : Out} (h : Told s S c out s') : (∃ z, out = .ret (.str z)) ∨ out = .unl ∨ ∃ z, out = .non z := by
  cases h with
  | miss c z h => exact .inr (.inr ⟨z, rfl⟩)
  | less x a b ta tb ha hb =>
    by_cases e : ta.f = tb.f
    · rw [if_pos e]; exact .inl ⟨_, rfl⟩
    · rw [if_neg e]; exact .inr (.inl rfl)
  | order a b ta tb ha hb =>
    by_cases e : ta.f = tb.f
    · rw [if_pos e]; exact .inl ⟨_, rfl⟩
    · rw [if_neg e]; exact .inr (.inl rfl)
  | _ => exact .inl ⟨_, rfl⟩
section
variable {X : Cx} {N : List Str} {sc : Scope} {P : Program} {w : World} {K : PySem.W.Frag} {mg : Str → Option Value} {base : Heap} {k : Nat} {C CU CN : Addr} {R : Post} {A A0 : Anc} {M : List Cell} {ρ : Env3}
def s_l_answered : Stmt := topS 120
theorem sc_l_answered : FnScope ["_law_desk", "_law_line", "_law_due_here", "_law_found"] ["_law_desk", "_law_line", "_law_due_here"] (defScope s_l_answered) := ⟨rfl, rfl, rfl, by decide +kernel, rfl, by decide +kernel, by decide +kernel⟩
def G_l_answered (s : DeskSt) (ds : List D) (out : Out) (s' : DeskSt) : Prop := ∃ out0 z, G_tell s [.str z] out0 s' ∧ ds = [.str z, tellD out0] ∧ out = .ret (.bl true)
theorem d_l_answered (T : Tops K mg) (D_l_tell : DfnD P w K mg base CX0 C CU CN "_law_tell" 8 G_l_tell) {f : Addr} {fd : FuncData} (F : Fun K "_law_answered" "_law_answered" s_l_answered f fd) (hb : Binds K fd ["_law_desk", "_law_line", "_law_due_here"] []) (hm : mg "_law_answered" = some (.ref f)) : DfnD P w K mg base CX0 C CU CN "_law_answered" 9 G_l_answered := by
  refine ⟨f, fd, _, fnD0 F sc_l_answered (fun s ds out s' h => ?_) ?_, hm, F.kp, hb⟩
  · obtain ⟨_, _, _, rfl, _⟩ := h; rfl
  rintro X A hX hF hP hA s ds out s' ⟨out0, z, g, rfl, rfl⟩
  have hs : (∃ y, out0 = .ret (.str y)) ∨ out0 = .unl ∨ ∃ z, out0 = .non z := by
    obtain ⟨S, c, _, _, _, _, _, _, h⟩ := g
    exact told_str h
  refine sd_setM hX 3 rfl (em_call (CX := CX0) (CU := CU) (CN := CN) (A0 := A) (s' := s') (out := .ret (tellD out0)) hX D_l_tell (by decide) (ec_var hX 0 rfl rfl) rfl (ds := [.str z]) (eds_cons (ed_var hX 1 rfl rfl) eds_nil) ⟨out0, g, rfl⟩ rz0 .self) (fun d q => ?_)
  cases q
  rcases hs with ⟨y, rfl⟩ | rfl | ⟨y, rfl⟩
  · refine sd_skip (et_is (et_cmp hX (ed_isStr hX T.isinstance T.str b_isinstance b_str (ed_ix hX (ed_var hX 3 rfl rfl) ed_int (i_tup (d := .str y) rfl)) (x := y) (i := 0) (.inl rfl)) (ed_isStr hX T.isinstance T.str b_isinstance b_str (ed_ix hX (ed_var hX 2 rfl rfl) ed_int (i_tup (d := .str y) rfl)) (x := y) (i := 0) (.inl rfl)) o_neB) (by simp)) ?_
    exact sd_ret (ed_is (ed_and (t := true) (u := true) (ed_is (ed_cmp hX (ed_ix hX (ed_var hX 3 rfl rfl) ed_int (i_tup (d := .str "told") rfl)) (ed_ix hX (ed_var hX 2 rfl rfl) ed_int (i_tup (d := .str "told") rfl)) o_eqS) (by simp)) (fun _ => ed_one (ed_is (ed_cmp hX (ed_ix hX (ed_var hX 3 rfl rfl) ed_int (i_tup (d := .str y) rfl)) (ed_ix hX (ed_var hX 2 rfl rfl) ed_int (i_tup (d := .str y) rfl)) o_eqS) (by simp)))) rfl) ⟨rfl, rfl⟩
  · refine sd_skip (et_is (et_cmp hX (ed_isStr hX T.isinstance T.str b_isinstance b_str (ed_ix hX (ed_var hX 3 rfl rfl) ed_int (i_tup (d := .int 0) rfl)) (x := "") (i := 0) (.inr rfl)) (ed_isStr hX T.isinstance T.str b_isinstance b_str (ed_ix hX (ed_var hX 2 rfl rfl) ed_int (i_tup (d := .int 0) rfl)) (x := "") (i := 0) (.inr rfl)) o_neB) (by decide)) ?_
    exact sd_ret (ed_is (ed_and (t := true) (u := true) (ed_is (ed_cmp hX (ed_ix hX (ed_var hX 3 rfl rfl) ed_int (i_tup (d := .str "Unlike") rfl)) (ed_ix hX (ed_var hX 2 rfl rfl) ed_int (i_tup (d := .str "Unlike") rfl)) o_eqS) (by simp)) (fun _ => ed_one (ed_is (ed_cmp hX (ed_ix hX (ed_var hX 3 rfl rfl) ed_int (i_tup (d := .int 0) rfl)) (ed_ix hX (ed_var hX 2 rfl rfl) ed_int (i_tup (d := .int 0) rfl)) o_eqI) (by simp)))) rfl) ⟨rfl, rfl⟩
  · refine sd_skip (et_is (et_cmp hX (ed_isStr hX T.isinstance T.str b_isinstance b_str (ed_ix hX (ed_var hX 3 rfl rfl) ed_int (i_tup (d := .str y) rfl)) (x := y) (i := 0) (.inl rfl)) (ed_isStr hX T.isinstance T.str b_isinstance b_str (ed_ix hX (ed_var hX 2 rfl rfl) ed_int (i_tup (d := .str y) rfl)) (x := y) (i := 0) (.inl rfl)) o_neB) (by simp)) ?_
    exact sd_ret (ed_is (ed_and (t := true) (u := true) (ed_is (ed_cmp hX (ed_ix hX (ed_var hX 3 rfl rfl) ed_int (i_tup (d := .str "NoName") rfl)) (ed_ix hX (ed_var hX 2 rfl rfl) ed_int (i_tup (d := .str "NoName") rfl)) o_eqS) (by simp)) (fun _ => ed_one (ed_is (ed_cmp hX (ed_ix hX (ed_var hX 3 rfl rfl) ed_int (i_tup (d := .str y) rfl)) (ed_ix hX (ed_var hX 2 rfl rfl) ed_int (i_tup (d := .str y) rfl)) o_eqS) (by simp)))) rfl) ⟨rfl, rfl⟩
end
end Tl
/-! F2: what is due to a question. -/
namespace Tl
open PySem L2 T3 TL PySem.Spec PyProof.Rows Ex3
local macro_rules | `(tactic| walk_at "len") => `(tactic| first | decide | (simp; done) | omega | (simp; omega))
/-- a question: its word, two names -/
inductive Qw where | show | bytes | shape | order | names
def qS : Qw → Str
  | .show => "show" | .bytes => "bytes" | .shape => "shape" | .order => "order" | .names => "names"
def qCmd (q : Qw) (a b : Str) : Cmd := match q with
  | .show => .look a | .bytes => .bytes a | .shape => .shape a | .order => .order a b | .names => .names
noncomputable def qOut (S : Sta) (q : Qw) (a b : Str) : Out := match (onesS (qCmd q a b)).find? fun x => decide (x ∉ keysS S) with
  | some z => .non z
  | none => match q, getS S a, getS S b with
    | .names, _, _ => .ret (.str (namesT S))
    | .show, some t, _ => .ret (.str (writ t.f t.val))
    | .bytes, some t, _ => .ret (.str (hexT t.row))
    | .shape, some t, _ => .ret (.str (wordsF t.f))
    | .order, some t, some u => if t.f = u.f then .ret (.str (ordS t.val u.val)) else .unl
    | _, _, _ => .unl
theorem find_no {l : List Str} {S : Sta} (h : (l.find? fun x => decide (x ∉ keysS S)) = none) : ∀ x ∈ l, x ∈ keysS S := fun x hx => by
  have := List.find?_eq_none.mp h x hx
  simpa using this
theorem q_told (s : DeskSt) (S : Sta) (q : Qw) (a b : Str) : Told s S (qCmd q a b) (qOut S q a b) s := by
  unfold qOut
  cases h : (onesS (qCmd q a b)).find? fun x => decide (x ∉ keysS S) with
  | some z => exact .miss _ z h
  | none =>
    have hn := find_no h
    cases q with
    | names => exact .names
    | «show» =>
      obtain ⟨t, ht, _⟩ := get_mem (hn a (by simp [onesS, qCmd]))
      rw [ht]
      exact .look a t ht
    | bytes =>
      obtain ⟨t, ht, _⟩ := get_mem (hn a (by simp [onesS, qCmd]))
      rw [ht]
      exact .bytes a t ht
    | shape =>
      obtain ⟨t, ht, _⟩ := get_mem (hn a (by simp [onesS, qCmd]))
      rw [ht]
      exact .shape a t ht
    | order =>
      obtain ⟨t, ht, _⟩ := get_mem (hn a (by simp [onesS, qCmd]))
      obtain ⟨u, hu, _⟩ := get_mem (hn b (by simp [onesS, qCmd]))
      rw [ht, hu]
      exact .order a b t u ht hu
theorem q_ok (q : Qw) {a b : Str} (ha : NameOk a) (hb : NameOk b) : CmdOk (qCmd q a b) := by
  cases q with
  | «show» => exact .look ha
  | bytes => exact .bytes ha
  | shape => exact .shape ha
  | order => exact .order ha hb
  | names => exact .names
theorem str_assoc (a b c : Str) : a ++ b ++ c = a ++ (b ++ c) := by
  refine tl_inj ?_
  rw [tl_append, tl_append, tl_append, tl_append, List.append_assoc]
/-- two texts under two keys, then asked -/
theorem ed_disp3 {X : Cx} {K : PySem.W.Frag} {A : Anc} {M : List Cell} {ρ : Env3} {e1 e2 e3 : Expr} {k1 k2 k3 x1 x2 x3 : Str} {i1 i2 i3 : Nat} {p1 p2 p3 pos : Pos} (h1 : ED X K A M ρ e1 (.str x1)) (h2 : ED X K A M ρ e2 (.str x2)) (h3 : ED X K A M ρ e3 (.str x3)) (n1 : k1 ≠ k2) (n2 : k1 ≠ k3) (n3 : k2 ≠ k3) :
    ED X K A M ρ (.Dict [some (.Constant (.str k1) i1 p1), some (.Constant (.str k2) i2 p2), some (.Constant (.str k3) i3 p3)] [e1, e2, e3] pos) (.dct [k1, k2, k3] [.str x1, .str x2, .str x3]) := .mk fun fps σ Hs H hh => by
  refine wE_of (pe_disp (pps_cons pe_str pe_w (pps_cons pe_str pe_w (pps_cons pe_str pe_w pps_nil))) rfl rfl (by simp) (show 3 ≤ 15 by decide)) ?_
  intro p hp
  have h' := hh.step (.own (o := .dK []) hh.st.e hp)
  refine wE_mono (h1 _ _ _ _ h') fun v H1 ⟨Hs1, s1, r1⟩ => ?_
  refine wE_mono (h2 _ _ _ _ (h'.step s1)) fun v2 H2 ⟨Hs2, s2, r2⟩ => ?_
  refine wE_mono (h3 _ _ _ _ ((h'.step s1).step s2)) fun v3 H3 ⟨Hs3, s3, r3⟩ => ?_
  cases r1; cases r2; cases r3
  have s13 := (s1.trans s2).trans s3
  have hp3 : H3 p = some (.dK []) := s13.h p _ upd_same
  have hn : Hs3 p = none := s13.n p (by rw [upd_same]; exact fun z => nomatch z) (hh.st.e.back hp)
  refine ⟨hp3, [(.inr k1, .str x1), (.inr k2, .str x2), (.inr k3, .str x3)], rfl, show 3 ≤ 15 by decide, ?_⟩
  have em : mergeK [] [((.inr k1 : Key), V.str x1), (.inr k2, .str x2), (.inr k3, .str x3)] = [(.inr k1, .str x1), (.inr k2, .str x2), (.inr k3, .str x3)] := by
    simp [mergeK, putK, n1, n2, n3]
  rw [em]
  refine ⟨upd Hs3 p (.dK [(.inr k1, .str x1), (.inr k2, .str x2), (.inr k3, .str x3)]), ⟨(s13.s).trans (.new hn), fun b o hb => ?_, fun b o hb => ?_, fun b hb1 hb2 => ?_⟩, .dct (Rd.of upd_same) rfl (.cons (.str _) (.cons (.str _) (.one (.str _))))⟩
  · have ne : b ≠ p := fun z => by rw [z, hp] at hb; cases hb
    rw [upd_ne ne]
    exact s13.h b o (by rw [upd_ne ne]; exact hb)
  · by_cases z : b = p
    · subst z; rw [upd_same] at hb ⊢; exact hb
    · rw [upd_ne z] at hb ⊢
      exact s13.i b o hb
  · have ne : b ≠ p := fun z => hb1 (by rw [z]; exact hp)
    rw [upd_ne ne]
    exact s13.n b (by rw [upd_ne ne]; exact hb1) hb2
end Tl
/-! F3: what is due to a question: the def. -/
namespace Tl
open PySem L2 T3 TL PySem.Spec PyProof.Rows Ex3
local macro_rules | `(tactic| walk_at "len") => `(tactic| first | decide | (simp; done) | omega | (simp; omega))
theorem sapp_len (a b : Str) : (a ++ b).length = a.length + b.length := by
  show (a.cps ++ b.cps).size = a.cps.size + b.cps.size
  exact Array.size_append
theorem qo_miss {S : Sta} {q : Qw} {a b z : Str} (h : ((onesS (qCmd q a b)).find? fun x => decide (x ∉ keysS S)) = some z) : qOut S q a b = .non z := by
  unfold qOut
  rw [h]
theorem qo_show {S : Sta} {a b : Str} {t : Thing} (h : ((onesS (qCmd .show a b)).find? fun x => decide (x ∉ keysS S)) = none) (ht : getS S a = some t) : qOut S .show a b = .ret (.str (writ t.f t.val)) := by
  unfold qOut
  rw [h, ht]
theorem qo_bytes {S : Sta} {a b : Str} {t : Thing} (h : ((onesS (qCmd .bytes a b)).find? fun x => decide (x ∉ keysS S)) = none) (ht : getS S a = some t) : qOut S .bytes a b = .ret (.str (hexT t.row)) := by
  unfold qOut
  rw [h, ht]
theorem qo_shape {S : Sta} {a b : Str} {t : Thing} (h : ((onesS (qCmd .shape a b)).find? fun x => decide (x ∉ keysS S)) = none) (ht : getS S a = some t) : qOut S .shape a b = .ret (.str (wordsF t.f)) := by
  unfold qOut
  rw [h, ht]
theorem qo_order {S : Sta} {a b : Str} {t u : Thing} (h : ((onesS (qCmd .order a b)).find? fun x => decide (x ∉ keysS S)) = none) (ht : getS S a = some t) (hu : getS S b = some u) : qOut S .order a b = if t.f = u.f then .ret (.str (ordS t.val u.val)) else .unl := by
  unfold qOut
  rw [h, ht, hu]
theorem ord_line (a b : Str) : ("order" : Str) ++ (" " : Str) ++ a ++ (" " : Str) ++ b = cmdL (.order a b) := by
  show _ = Txt.join spS [("order" : Str), a, b]
  refine tl_inj ?_
  rw [join_eq]
  show _ = tl (("order" : Str) ++ spS ++ (a ++ spS ++ b))
  simp only [tl_append, List.append_assoc]
theorem dget3_0 (x y z : D) : dgetD [("show" : Str), "bytes", "shape"] [x, y, z] "show" = some x := by
  simp [dgetD]
theorem dget3_1 (x y z : D) : dgetD [("show" : Str), "bytes", "shape"] [x, y, z] "bytes" = some y := by
  have h : ¬ ("show" : Str) = "bytes" := by decide +kernel
  simp [dgetD, h]
theorem dget3_2 (x y z : D) : dgetD [("show" : Str), "bytes", "shape"] [x, y, z] "shape" = some z := by
  have h : ¬ ("show" : Str) = "shape" := by decide +kernel
  have h2 : ¬ ("bytes" : Str) = "shape" := by decide +kernel
  simp [dgetD, h, h2]
theorem wd_len (q : Qw) : (qS q).length ≤ 5 := by
  cases q <;> decide +kernel
theorem cut1 (a b : D) : cutD [a, b] none (some (1 + if false = true then 1 else 0)) = [a] := rfl
theorem cut2 (a b : D) : cutD [a, b] none (some (1 + if true = true then 1 else 0)) = [a, b] := rfl
theorem ord_pick (x y : Int) : L2.atI ([("less" : Str), "alike", "greater"].map D.str) ((if decide (y ≤ x) = true then 1 else 0) + (if decide (y < x) = true then 1 else 0)) = some (.str (ordS x y)) := by
  unfold ordS
  by_cases h1 : x < y
  · rw [decide_eq_false (show ¬ y ≤ x by omega), decide_eq_false (show ¬ y < x by omega), if_pos h1]; rfl
  · by_cases h2 : y < x
    · rw [decide_eq_true (show y ≤ x by omega), decide_eq_true h2, if_neg h1, if_pos h2]; rfl
    · rw [decide_eq_true (show y ≤ x by omega), decide_eq_false h2, if_neg h1, if_neg h2]; rfl
section
variable {X : Cx} {N : List Str} {sc : Scope} {P : Program} {w : World} {K : PySem.W.Frag} {mg : Str → Option Value} {base : Heap} {k : Nat} {C CU CN : Addr} {R : Post} {A A0 : Anc} {M : List Cell} {ρ : Env3}
def s_l_due : Stmt := topS 127
theorem sc_l_due : FnScope ["_law_standing", "_law_question", "_law_line", "_law_amiss", "_law_number_here", "_law_some", "_law_word", "_law_one", "_law_other", "_law_form_here", "_law_row", "_law_second"] ["_law_standing", "_law_question"] (defScope s_l_due) := ⟨rfl, rfl, rfl, by decide +kernel, rfl, by decide +kernel, by decide +kernel⟩
def G_l_due (ds : List D) (d : D) : Prop := ∃ (S : Sta) (q : Qw) (a b : Str), StaOk S ∧ NameOk a ∧ NameOk b ∧ ds = [staD S, .tup [.str (qS q), .str a, .str b]] ∧ d = .tup [.str (cmdL (qCmd q a b)), tellD (qOut S q a b)]
theorem d_l_due (T : Tops K mg) (D_l_missing : Dfn P w K mg base "_law_missing" 1 G_l_missing) (D_l_read_row : Dfn P w K mg base "_law_read_row" 2 G_l_read_row) (D_l_written : Dfn P w K mg base "_law_written" 1 G_l_written) (D_l_hexed : Dfn P w K mg base "_law_hexed" 1 G_l_hexed) (D_l_words : Dfn P w K mg base "_law_words" 1 G_l_words)
    {f : Addr} {fd : FuncData} (F : Fun K "_law_due" "_law_due" s_l_due f fd) (hb : Binds K fd ["_law_standing", "_law_question"] []) (hm : mg "_law_due" = some (.ref f)) : Dfn P w K mg base "_law_due" 3 G_l_due := by
  refine dfn_of F sc_l_due hb hm (fun ds d h => ?_) ?_
  · obtain ⟨_, _, _, _, _, _, _, rfl, _⟩ := h; rfl
  rintro X A hX hF hP ds d ⟨S, q, a, b, okS, ha, hb', rfl, rfl⟩
  have la := ha.l12
  have lb := hb'.l12
  have e1 : (" " : Str).length = 1 := by decide +kernel
  have hok : ∀ (z : Str) (t : Thing), getS S z = some t → t.Ok := fun z t h => okS.things _ (get_key h).2
  refine sd_asg (ed_var hX 1 rfl rfl) (tg_tup hX (tgs_cons (tg_name hX 6 rfl) (tgs_cons (tg_name hX 7 rfl) (tgs_cons (tg_name hX 8 rfl) tgs_nil))) rfl) ?_
  cases q with
  | names =>
    refine sd_ifT (et_is (et_cmp hX (ed_var hX 6 rfl rfl) ed_str o_eqS) (show decide (("names" : Str) = "names") = true by decide +kernel)) ?_
    exact sd_ret (ed_tup (eds_cons ed_str (eds_cons (ed_tup (eds_cons ed_str (eds_cons (ed_names hX T okS (ed_var hX 0 rfl rfl)) eds_nil)) (Nat.le_of_ble_eq_true rfl)) eds_nil)) (Nat.le_of_ble_eq_true rfl)) rfl
  | «show» =>
    have wl : ("show" : Str).length ≤ 5 := by decide +kernel
    refine sd_skip (et_is (et_cmp hX (ed_var hX 6 rfl rfl) ed_str o_eqS) (show decide (("show" : Str) = "names") = false by decide +kernel)) ?_
    refine sd_set hX 2 rfl (ed_bin hX (ed_bin hX (ed_var hX 6 rfl rfl) ed_str (o_addS (show ("show" : Str).length + (" " : Str).length ≤ 100000 by omega))) (ed_var hX 7 rfl rfl) (o_addS (show (("show" : Str) ++ (" " : Str)).length + a.length ≤ 100000 by rw [sapp_len]; omega))) ?_
    refine sd_skip (et_is (et_cmp hX (ed_var hX 6 rfl rfl) ed_str o_eqS) (show decide (("show" : Str) = "order") = false by decide +kernel)) ?_
    refine sd_set hX 3 rfl (ed_call hX D_l_missing (by decide) (eds_cons (ed_var hX 0 rfl rfl) (eds_cons (ed_is (ed_slice hX (ed_tup (eds_cons (ed_var hX 7 rfl rfl) (eds_cons (ed_var hX 8 rfl rfl) eds_nil)) (Nat.le_of_ble_eq_true rfl)) eo_none (eo_some (ed_bin hX ed_int (ed_callTy hX T.int b_int (eds_cons (ed_is (ed_cmp hX (ed_var hX 6 rfl rfl) ed_str o_eqS) (show D.bl (decide (("show" : Str) = "order")) = D.bl false by rw [show decide (("show" : Str) = "order") = false by decide +kernel])) eds_nil) c_intB) o_add)) l_tup) (congrArg D.tup (cut1 (.str a) (.str b)))) eds_nil)) (d := missF (keysS S) [a]) ⟨keysS S, valsS S, [a], rfl, rfl⟩) ?_
    have hq : onesS (qCmd .«show» a b) = [a] := rfl
    cases hf : ([a] : List Str).find? fun x => decide (x ∉ keysS S) with
    | some z =>
      have em : missF (keysS S) [a] = .tup [.str "NoName", .str z] := by rw [missF, hf]
      have eo : qOut S .«show» a b = .non z := qo_miss (by rw [hq]; exact hf)
      rw [em, eo]
      exact sd_ifT (et_cmp hX (ed_var hX 3 rfl rfl) ed_non o_notN) (sd_ret (ed_tup (eds_cons (ed_var hX 2 rfl rfl) (eds_cons (ed_var hX 3 rfl rfl) eds_nil)) (Nat.le_of_ble_eq_true rfl)) rfl)
    | none =>
      have em : missF (keysS S) [a] = .non := by rw [missF, hf]
      have hn := find_no hf
      obtain ⟨t, ht, _⟩ := get_mem (hn a (by simp))
      have okt := hok a t ht
      obtain ⟨r1, r2, r3⟩ := row_facts okt
      rw [em]
      refine sd_skip (et_cmp hX (ed_var hX 3 rfl rfl) ed_non o_notN) ?_
      refine sd_asg (ed_dget hX (ed_var hX 0 rfl rfl) (ed_var hX 7 rfl rfl) (d := t.d) (by rw [dget_S, ht]; rfl)) (tg_tup hX (tgs_cons (tg_name hX 9 rfl) (tgs_cons (tg_name hX 10 rfl) tgs_nil)) rfl) ?_
      refine sd_set hX 4 rfl (ed_call hX D_l_read_row (by decide) (eds_cons (ed_var hX 9 rfl rfl) (eds_cons (ed_var hX 10 rfl rfl) eds_nil)) ⟨t.f, t.fs, t.h, okt, rfl, rfl⟩) ?_
      have eo : qOut S .«show» a b = .ret (.str (writ t.f t.val)) := qo_show (by rw [hq]; exact hf) ht
      rw [eo]
      refine sd_skip (et_is (et_cmp hX (ed_var hX 6 rfl rfl) ed_str o_eqS) (show decide (("show" : Str) = "order") = false by decide +kernel)) ?_
      refine sd_set hX 5 rfl (ed_disp3 (ed_call hX D_l_written (by decide) (eds_cons (ed_var hX 9 rfl rfl) (eds_cons (ed_var hX 4 rfl rfl) eds_nil)) ⟨t.f, t.val, okt.ok, val_fits okt, rfl, rfl⟩) (ed_call hX D_l_hexed (by decide) (eds_cons (ed_var hX 10 rfl rfl) eds_nil) ⟨t.row, r1, r3, rfl, rfl⟩) (ed_call hX D_l_words (by decide) (eds_cons (ed_var hX 9 rfl rfl) eds_nil) ⟨t.f, okt.ok, rfl, rfl⟩) (by decide +kernel) (by decide +kernel) (by decide +kernel)) ?_
      exact sd_ret (ed_tup (eds_cons (ed_var hX 2 rfl rfl) (eds_cons (ed_tup (eds_cons ed_str (eds_cons (ed_dget hX (ed_var hX 5 rfl rfl) (ed_var hX 6 rfl rfl) (d := .str (writ t.f t.val)) (dget3_0 _ _ _)) eds_nil)) (Nat.le_of_ble_eq_true rfl)) eds_nil)) (Nat.le_of_ble_eq_true rfl)) rfl
  | bytes =>
    have wl : ("bytes" : Str).length ≤ 5 := by decide +kernel
    refine sd_skip (et_is (et_cmp hX (ed_var hX 6 rfl rfl) ed_str o_eqS) (show decide (("bytes" : Str) = "names") = false by decide +kernel)) ?_
    refine sd_set hX 2 rfl (ed_bin hX (ed_bin hX (ed_var hX 6 rfl rfl) ed_str (o_addS (show ("bytes" : Str).length + (" " : Str).length ≤ 100000 by omega))) (ed_var hX 7 rfl rfl) (o_addS (show (("bytes" : Str) ++ (" " : Str)).length + a.length ≤ 100000 by rw [sapp_len]; omega))) ?_
    refine sd_skip (et_is (et_cmp hX (ed_var hX 6 rfl rfl) ed_str o_eqS) (show decide (("bytes" : Str) = "order") = false by decide +kernel)) ?_
    refine sd_set hX 3 rfl (ed_call hX D_l_missing (by decide) (eds_cons (ed_var hX 0 rfl rfl) (eds_cons (ed_is (ed_slice hX (ed_tup (eds_cons (ed_var hX 7 rfl rfl) (eds_cons (ed_var hX 8 rfl rfl) eds_nil)) (Nat.le_of_ble_eq_true rfl)) eo_none (eo_some (ed_bin hX ed_int (ed_callTy hX T.int b_int (eds_cons (ed_is (ed_cmp hX (ed_var hX 6 rfl rfl) ed_str o_eqS) (show D.bl (decide (("bytes" : Str) = "order")) = D.bl false by rw [show decide (("bytes" : Str) = "order") = false by decide +kernel])) eds_nil) c_intB) o_add)) l_tup) (congrArg D.tup (cut1 (.str a) (.str b)))) eds_nil)) (d := missF (keysS S) [a]) ⟨keysS S, valsS S, [a], rfl, rfl⟩) ?_
    have hq : onesS (qCmd .bytes a b) = [a] := rfl
    cases hf : ([a] : List Str).find? fun x => decide (x ∉ keysS S) with
    | some z =>
      have em : missF (keysS S) [a] = .tup [.str "NoName", .str z] := by rw [missF, hf]
      have eo : qOut S .bytes a b = .non z := qo_miss (by rw [hq]; exact hf)
      rw [em, eo]
      exact sd_ifT (et_cmp hX (ed_var hX 3 rfl rfl) ed_non o_notN) (sd_ret (ed_tup (eds_cons (ed_var hX 2 rfl rfl) (eds_cons (ed_var hX 3 rfl rfl) eds_nil)) (Nat.le_of_ble_eq_true rfl)) rfl)
    | none =>
      have em : missF (keysS S) [a] = .non := by rw [missF, hf]
      have hn := find_no hf
      obtain ⟨t, ht, _⟩ := get_mem (hn a (by simp))
      have okt := hok a t ht
      obtain ⟨r1, r2, r3⟩ := row_facts okt
      rw [em]
      refine sd_skip (et_cmp hX (ed_var hX 3 rfl rfl) ed_non o_notN) ?_
      refine sd_asg (ed_dget hX (ed_var hX 0 rfl rfl) (ed_var hX 7 rfl rfl) (d := t.d) (by rw [dget_S, ht]; rfl)) (tg_tup hX (tgs_cons (tg_name hX 9 rfl) (tgs_cons (tg_name hX 10 rfl) tgs_nil)) rfl) ?_
      refine sd_set hX 4 rfl (ed_call hX D_l_read_row (by decide) (eds_cons (ed_var hX 9 rfl rfl) (eds_cons (ed_var hX 10 rfl rfl) eds_nil)) ⟨t.f, t.fs, t.h, okt, rfl, rfl⟩) ?_
      have eo : qOut S .bytes a b = .ret (.str (hexT t.row)) := qo_bytes (by rw [hq]; exact hf) ht
      rw [eo]
      refine sd_skip (et_is (et_cmp hX (ed_var hX 6 rfl rfl) ed_str o_eqS) (show decide (("bytes" : Str) = "order") = false by decide +kernel)) ?_
      refine sd_set hX 5 rfl (ed_disp3 (ed_call hX D_l_written (by decide) (eds_cons (ed_var hX 9 rfl rfl) (eds_cons (ed_var hX 4 rfl rfl) eds_nil)) ⟨t.f, t.val, okt.ok, val_fits okt, rfl, rfl⟩) (ed_call hX D_l_hexed (by decide) (eds_cons (ed_var hX 10 rfl rfl) eds_nil) ⟨t.row, r1, r3, rfl, rfl⟩) (ed_call hX D_l_words (by decide) (eds_cons (ed_var hX 9 rfl rfl) eds_nil) ⟨t.f, okt.ok, rfl, rfl⟩) (by decide +kernel) (by decide +kernel) (by decide +kernel)) ?_
      exact sd_ret (ed_tup (eds_cons (ed_var hX 2 rfl rfl) (eds_cons (ed_tup (eds_cons ed_str (eds_cons (ed_dget hX (ed_var hX 5 rfl rfl) (ed_var hX 6 rfl rfl) (d := .str (hexT t.row)) (dget3_1 _ _ _)) eds_nil)) (Nat.le_of_ble_eq_true rfl)) eds_nil)) (Nat.le_of_ble_eq_true rfl)) rfl
  | shape =>
    have wl : ("shape" : Str).length ≤ 5 := by decide +kernel
    refine sd_skip (et_is (et_cmp hX (ed_var hX 6 rfl rfl) ed_str o_eqS) (show decide (("shape" : Str) = "names") = false by decide +kernel)) ?_
    refine sd_set hX 2 rfl (ed_bin hX (ed_bin hX (ed_var hX 6 rfl rfl) ed_str (o_addS (show ("shape" : Str).length + (" " : Str).length ≤ 100000 by omega))) (ed_var hX 7 rfl rfl) (o_addS (show (("shape" : Str) ++ (" " : Str)).length + a.length ≤ 100000 by rw [sapp_len]; omega))) ?_
    refine sd_skip (et_is (et_cmp hX (ed_var hX 6 rfl rfl) ed_str o_eqS) (show decide (("shape" : Str) = "order") = false by decide +kernel)) ?_
    refine sd_set hX 3 rfl (ed_call hX D_l_missing (by decide) (eds_cons (ed_var hX 0 rfl rfl) (eds_cons (ed_is (ed_slice hX (ed_tup (eds_cons (ed_var hX 7 rfl rfl) (eds_cons (ed_var hX 8 rfl rfl) eds_nil)) (Nat.le_of_ble_eq_true rfl)) eo_none (eo_some (ed_bin hX ed_int (ed_callTy hX T.int b_int (eds_cons (ed_is (ed_cmp hX (ed_var hX 6 rfl rfl) ed_str o_eqS) (show D.bl (decide (("shape" : Str) = "order")) = D.bl false by rw [show decide (("shape" : Str) = "order") = false by decide +kernel])) eds_nil) c_intB) o_add)) l_tup) (congrArg D.tup (cut1 (.str a) (.str b)))) eds_nil)) (d := missF (keysS S) [a]) ⟨keysS S, valsS S, [a], rfl, rfl⟩) ?_
    have hq : onesS (qCmd .shape a b) = [a] := rfl
    cases hf : ([a] : List Str).find? fun x => decide (x ∉ keysS S) with
    | some z =>
      have em : missF (keysS S) [a] = .tup [.str "NoName", .str z] := by rw [missF, hf]
      have eo : qOut S .shape a b = .non z := qo_miss (by rw [hq]; exact hf)
      rw [em, eo]
      exact sd_ifT (et_cmp hX (ed_var hX 3 rfl rfl) ed_non o_notN) (sd_ret (ed_tup (eds_cons (ed_var hX 2 rfl rfl) (eds_cons (ed_var hX 3 rfl rfl) eds_nil)) (Nat.le_of_ble_eq_true rfl)) rfl)
    | none =>
      have em : missF (keysS S) [a] = .non := by rw [missF, hf]
      have hn := find_no hf
      obtain ⟨t, ht, _⟩ := get_mem (hn a (by simp))
      have okt := hok a t ht
      obtain ⟨r1, r2, r3⟩ := row_facts okt
      rw [em]
      refine sd_skip (et_cmp hX (ed_var hX 3 rfl rfl) ed_non o_notN) ?_
      refine sd_asg (ed_dget hX (ed_var hX 0 rfl rfl) (ed_var hX 7 rfl rfl) (d := t.d) (by rw [dget_S, ht]; rfl)) (tg_tup hX (tgs_cons (tg_name hX 9 rfl) (tgs_cons (tg_name hX 10 rfl) tgs_nil)) rfl) ?_
      refine sd_set hX 4 rfl (ed_call hX D_l_read_row (by decide) (eds_cons (ed_var hX 9 rfl rfl) (eds_cons (ed_var hX 10 rfl rfl) eds_nil)) ⟨t.f, t.fs, t.h, okt, rfl, rfl⟩) ?_
      have eo : qOut S .shape a b = .ret (.str (wordsF t.f)) := qo_shape (by rw [hq]; exact hf) ht
      rw [eo]
      refine sd_skip (et_is (et_cmp hX (ed_var hX 6 rfl rfl) ed_str o_eqS) (show decide (("shape" : Str) = "order") = false by decide +kernel)) ?_
      refine sd_set hX 5 rfl (ed_disp3 (ed_call hX D_l_written (by decide) (eds_cons (ed_var hX 9 rfl rfl) (eds_cons (ed_var hX 4 rfl rfl) eds_nil)) ⟨t.f, t.val, okt.ok, val_fits okt, rfl, rfl⟩) (ed_call hX D_l_hexed (by decide) (eds_cons (ed_var hX 10 rfl rfl) eds_nil) ⟨t.row, r1, r3, rfl, rfl⟩) (ed_call hX D_l_words (by decide) (eds_cons (ed_var hX 9 rfl rfl) eds_nil) ⟨t.f, okt.ok, rfl, rfl⟩) (by decide +kernel) (by decide +kernel) (by decide +kernel)) ?_
      exact sd_ret (ed_tup (eds_cons (ed_var hX 2 rfl rfl) (eds_cons (ed_tup (eds_cons ed_str (eds_cons (ed_dget hX (ed_var hX 5 rfl rfl) (ed_var hX 6 rfl rfl) (d := .str (wordsF t.f)) (dget3_2 _ _ _)) eds_nil)) (Nat.le_of_ble_eq_true rfl)) eds_nil)) (Nat.le_of_ble_eq_true rfl)) rfl
  | order =>
    have wl : ("order" : Str).length ≤ 5 := by decide +kernel
    refine sd_skip (et_is (et_cmp hX (ed_var hX 6 rfl rfl) ed_str o_eqS) (show decide (("order" : Str) = "names") = false by decide +kernel)) ?_
    refine sd_set hX 2 rfl (ed_bin hX (ed_bin hX (ed_var hX 6 rfl rfl) ed_str (o_addS (show ("order" : Str).length + (" " : Str).length ≤ 100000 by omega))) (ed_var hX 7 rfl rfl) (o_addS (show (("order" : Str) ++ (" " : Str)).length + a.length ≤ 100000 by rw [sapp_len]; omega))) ?_
    refine sd_ifT (et_is (et_cmp hX (ed_var hX 6 rfl rfl) ed_str o_eqS) (show decide (("order" : Str) = "order") = true by decide +kernel)) ?_
    refine sd_set hX 2 rfl (ed_is (ed_bin hX (ed_bin hX (ed_var hX 2 rfl rfl) ed_str (o_addS (show (("order" : Str) ++ (" " : Str) ++ a).length + (" " : Str).length ≤ 100000 by rw [sapp_len, sapp_len]; omega))) (ed_var hX 8 rfl rfl) (o_addS (show (("order" : Str) ++ (" " : Str) ++ a ++ (" " : Str)).length + b.length ≤ 100000 by rw [sapp_len, sapp_len, sapp_len]; omega))) (show D.str (("order" : Str) ++ (" " : Str) ++ a ++ (" " : Str) ++ b) = D.str (cmdL (.order a b)) from congrArg D.str (ord_line a b))) (sd_nil ?_)
    refine sd_set hX 3 rfl (ed_call hX D_l_missing (by decide) (eds_cons (ed_var hX 0 rfl rfl) (eds_cons (ed_is (ed_slice hX (ed_tup (eds_cons (ed_var hX 7 rfl rfl) (eds_cons (ed_var hX 8 rfl rfl) eds_nil)) (Nat.le_of_ble_eq_true rfl)) eo_none (eo_some (ed_bin hX ed_int (ed_callTy hX T.int b_int (eds_cons (ed_is (ed_cmp hX (ed_var hX 6 rfl rfl) ed_str o_eqS) (show D.bl (decide (("order" : Str) = "order")) = D.bl true by rw [show decide (("order" : Str) = "order") = true by decide +kernel])) eds_nil) c_intB) o_add)) l_tup) (congrArg D.tup (cut2 (.str a) (.str b)))) eds_nil)) (d := missF (keysS S) [a, b]) ⟨keysS S, valsS S, [a, b], rfl, rfl⟩) ?_
    have hq : onesS (qCmd .order a b) = [a, b] := rfl
    cases hf : ([a, b] : List Str).find? fun x => decide (x ∉ keysS S) with
    | some z =>
      have em : missF (keysS S) [a, b] = .tup [.str "NoName", .str z] := by rw [missF, hf]
      have eo : qOut S .order a b = .non z := qo_miss (by rw [hq]; exact hf)
      rw [em, eo]
      exact sd_ifT (et_cmp hX (ed_var hX 3 rfl rfl) ed_non o_notN) (sd_ret (ed_tup (eds_cons (ed_var hX 2 rfl rfl) (eds_cons (ed_var hX 3 rfl rfl) eds_nil)) (Nat.le_of_ble_eq_true rfl)) rfl)
    | none =>
      have em : missF (keysS S) [a, b] = .non := by rw [missF, hf]
      have hn := find_no hf
      obtain ⟨t, ht, _⟩ := get_mem (hn a (by simp))
      have okt := hok a t ht
      obtain ⟨r1, r2, r3⟩ := row_facts okt
      rw [em]
      refine sd_skip (et_cmp hX (ed_var hX 3 rfl rfl) ed_non o_notN) ?_
      refine sd_asg (ed_dget hX (ed_var hX 0 rfl rfl) (ed_var hX 7 rfl rfl) (d := t.d) (by rw [dget_S, ht]; rfl)) (tg_tup hX (tgs_cons (tg_name hX 9 rfl) (tgs_cons (tg_name hX 10 rfl) tgs_nil)) rfl) ?_
      refine sd_set hX 4 rfl (ed_call hX D_l_read_row (by decide) (eds_cons (ed_var hX 9 rfl rfl) (eds_cons (ed_var hX 10 rfl rfl) eds_nil)) ⟨t.f, t.fs, t.h, okt, rfl, rfl⟩) ?_
      obtain ⟨u, hu, _⟩ := get_mem (hn b (by simp))
      have oku := hok b u hu
      refine sd_ifT (et_is (et_cmp hX (ed_var hX 6 rfl rfl) ed_str o_eqS) (show decide (("order" : Str) = "order") = true by decide +kernel)) ?_
      refine sd_set hX 11 rfl (ed_call hX D_l_read_row (by decide) (eds_cons (ed_ix hX (ed_dget hX (ed_var hX 0 rfl rfl) (ed_var hX 8 rfl rfl) (d := u.d) (by rw [dget_S, hu]; rfl)) ed_int (i_tup (d := formD u.f) rfl)) (eds_cons (ed_ix hX (ed_dget hX (ed_var hX 0 rfl rfl) (ed_var hX 8 rfl rfl) (d := u.d) (by rw [dget_S, hu]; rfl)) ed_int (i_tup (d := rowD u.row) rfl)) eds_nil)) ⟨u.f, u.fs, u.h, oku, rfl, rfl⟩) ?_
      refine sd_if (t := !decide (t.f = u.f)) (et_is (et_cmp hX (ed_var hX 9 rfl rfl) (ed_ix hX (ed_dget hX (ed_var hX 0 rfl rfl) (ed_var hX 8 rfl rfl) (d := u.d) (by rw [dget_S, hu]; rfl)) ed_int (i_tup (d := formD u.f) rfl)) (o_neT (form_flat t.f) (form_flat u.f) (form_shaped t.f) (form_shaped u.f))) (by show (!eqvs (formL t.f) (formL u.f)) = _; rw [eqvs_form])) (fun hc => ?_) (fun hc => ?_)
      · have e : t.f ≠ u.f := by simpa using hc
        have eo : qOut S .order a b = .unl := by rw [qo_order (by rw [hq]; exact hf) ht hu, if_neg e]
        rw [eo]
        exact sd_ret (ed_tup (eds_cons (ed_var hX 2 rfl rfl) (eds_cons (ed_tup (eds_cons ed_str (eds_cons ed_int eds_nil)) (Nat.le_of_ble_eq_true rfl)) eds_nil)) (Nat.le_of_ble_eq_true rfl)) rfl
      · have e : t.f = u.f := by simpa using hc
        have eo : qOut S .order a b = .ret (.str (ordS t.val u.val)) := by rw [qo_order (by rw [hq]; exact hf) ht hu, if_pos e]
        rw [eo]
        exact sd_nil (sd_ret (ed_tup (eds_cons (ed_var hX 2 rfl rfl) (eds_cons (ed_tup (eds_cons ed_str (eds_cons (ed_ix hX (ed_tup (eds_cons ed_str (eds_cons ed_str (eds_cons ed_str eds_nil))) (Nat.le_of_ble_eq_true rfl)) (ed_bin hX (ed_callTy hX T.int b_int (eds_cons (ed_cmp hX (ed_var hX 4 rfl rfl) (ed_var hX 11 rfl rfl) o_ge) eds_nil) c_intB) (ed_callTy hX T.int b_int (eds_cons (ed_cmp hX (ed_var hX 4 rfl rfl) (ed_var hX 11 rfl rfl) o_gt) eds_nil) c_intB) o_add) (i_tup (ord_pick t.val u.val))) eds_nil)) (Nat.le_of_ble_eq_true rfl)) eds_nil)) (Nat.le_of_ble_eq_true rfl)) rfl)
end
end Tl
/-! F4: what is due to a difference. -/
namespace Tl
open PySem L2 T3 TL PySem.Spec PyProof.Rows Ex3
local macro_rules | `(tactic| walk_at "len") => `(tactic| first | decide | (simp; done) | omega | (simp; omega))
noncomputable def lessO (S : Sta) (a b : Str) : Out := match ([a, b].find? fun x => decide (x ∉ keysS S)), getS S a, getS S b with
  | some z, _, _ => .non z
  | none, some t, some u => if t.f = u.f then .ret (.str (markS t.f (t.val - u.val))) else .unl
  | _, _, _ => .unl
noncomputable def lessS (S : Sta) (x a b : Str) : Sta := match getS S a, getS S b with
  | some t, some u => if t.f = u.f then putS S x (lessT t u) else S
  | _, _ => S
theorem lo_miss {S : Sta} {a b z : Str} (h : ([a, b].find? fun x => decide (x ∉ keysS S)) = some z) : lessO S a b = .non z := by
  unfold lessO
  rw [h]
theorem lo_some {S : Sta} {a b : Str} {t u : Thing} (h : ([a, b].find? fun x => decide (x ∉ keysS S)) = none) (ht : getS S a = some t) (hu : getS S b = some u) : lessO S a b = if t.f = u.f then .ret (.str (markS t.f (t.val - u.val))) else .unl := by
  unfold lessO
  rw [h, ht, hu]
theorem ls_some {S : Sta} {x a b : Str} {t u : Thing} (ht : getS S a = some t) (hu : getS S b = some u) : lessS S x a b = if t.f = u.f then putS S x (lessT t u) else S := by
  unfold lessS
  rw [ht, hu]
theorem get_none {S : Sta} {x : Str} (h : x ∉ keysS S) : getS S x = none := by
  cases q : getS S x with
  | none => rfl
  | some t => exact absurd (get_key q).1 h
theorem ls_miss {S : Sta} {x a b z : Str} (h : ([a, b].find? fun x => decide (x ∉ keysS S)) = some z) : lessS S x a b = S := by
  obtain ⟨hp0, j, hj, ej, _⟩ := List.find?_eq_some_iff_getElem.mp h
  have hz : z ∉ keysS S := of_decide_eq_true hp0
  have hm : z ∈ [a, b] := by rw [← ej]; exact List.getElem_mem hj
  simp only [List.mem_cons, List.not_mem_nil, or_false] at hm
  unfold lessS
  rcases hm with rfl | rfl
  · rw [get_none hz]
  · rw [get_none hz]
    cases getS S a <;> rfl
section
variable {X : Cx} {N : List Str} {sc : Scope} {P : Program} {w : World} {K : PySem.W.Frag} {mg : Str → Option Value} {base : Heap} {k : Nat} {C CU CN : Addr} {R : Post} {A A0 : Anc} {M : List Cell} {ρ : Env3}
def s_l_sum_due : Stmt := topS 126
theorem sc_l_sum_due : FnScope ["_law_standing", "_law_word", "_law_name_here", "_law_one", "_law_other", "_law_amiss", "_law_number_here", "_law_more", "_law_form_here", "_law_row"] ["_law_standing", "_law_word", "_law_name_here", "_law_one", "_law_other"] (defScope s_l_sum_due) := ⟨rfl, rfl, rfl, by decide +kernel, rfl, by decide +kernel, by decide +kernel⟩
def G_l_sum_due (ds : List D) (d : D) : Prop := ∃ (S : Sta) (x a b : Str), StaOk S ∧ ds = [staD S, .str "less", .str x, .str a, .str b] ∧ d = .tup [tellD (lessO S a b), staD (lessS S x a b)]
theorem d_l_sum_due (T : Tops K mg) (D_l_missing : Dfn P w K mg base "_law_missing" 1 G_l_missing) (D_l_read_row : Dfn P w K mg base "_law_read_row" 2 G_l_read_row) (D_l_mark : Dfn P w K mg base "_law_mark" 4 G_l_mark) (D_l_kept_of : Dfn P w K mg base "_law_kept_of" 5 G_l_kept_of) (D_l_with : Dfn P w K mg base "_law_with" 1 G_l_with)
    {f : Addr} {fd : FuncData} (F : Fun K "_law_sum_due" "_law_sum_due" s_l_sum_due f fd) (hb : Binds K fd ["_law_standing", "_law_word", "_law_name_here", "_law_one", "_law_other"] []) (hm : mg "_law_sum_due" = some (.ref f)) : Dfn P w K mg base "_law_sum_due" 6 G_l_sum_due := by
  refine dfn_of F sc_l_sum_due hb hm (fun ds d h => ?_) ?_
  · obtain ⟨_, _, _, _, _, rfl, _⟩ := h; rfl
  rintro X A hX hF hP ds d ⟨S, x, a, b, okS, rfl, rfl⟩
  have hok : ∀ (z : Str) (t : Thing), getS S z = some t → t.Ok := fun z t h => okS.things _ (get_key h).2
  have hfew := okS.few
  refine sd_set hX 5 rfl (ed_call hX D_l_missing (by decide) (eds_cons (ed_var hX 0 rfl rfl) (eds_cons (ed_tup (eds_cons (ed_var hX 3 rfl rfl) (eds_cons (ed_var hX 4 rfl rfl) eds_nil)) (Nat.le_of_ble_eq_true rfl)) eds_nil)) (d := missF (keysS S) [a, b]) ⟨keysS S, valsS S, [a, b], rfl, rfl⟩) ?_
  cases hf : ([a, b] : List Str).find? fun x => decide (x ∉ keysS S) with
  | some z =>
    have em : missF (keysS S) [a, b] = .tup [.str "NoName", .str z] := by rw [missF, hf]
    rw [em, lo_miss hf, ls_miss hf]
    exact sd_ifT (et_cmp hX (ed_var hX 5 rfl rfl) ed_non o_notN) (sd_ret (ed_tup (eds_cons (ed_var hX 5 rfl rfl) (eds_cons (ed_var hX 0 rfl rfl) eds_nil)) (Nat.le_of_ble_eq_true rfl)) rfl)
  | none =>
    have em : missF (keysS S) [a, b] = .non := by rw [missF, hf]
    have hn := find_no hf
    obtain ⟨t, ht, _⟩ := get_mem (hn a (by simp))
    obtain ⟨u, hu, _⟩ := get_mem (hn b (by simp))
    have okt := hok a t ht
    have oku := hok b u hu
    rw [em, lo_some hf ht hu, ls_some ht hu]
    refine sd_skip (et_cmp hX (ed_var hX 5 rfl rfl) ed_non o_notN) ?_
    refine sd_asg (ed_dget hX (ed_var hX 0 rfl rfl) (ed_var hX 3 rfl rfl) (d := t.d) (by rw [dget_S, ht]; rfl)) (tg_tup hX (tgs_cons (tg_name hX 8 rfl) (tgs_cons (tg_name hX 9 rfl) tgs_nil)) rfl) ?_
    refine sd_if (t := !decide (t.f = u.f)) (et_is (et_cmp hX (ed_var hX 8 rfl rfl) (ed_ix hX (ed_dget hX (ed_var hX 0 rfl rfl) (ed_var hX 4 rfl rfl) (d := u.d) (by rw [dget_S, hu]; rfl)) ed_int (i_tup (d := formD u.f) rfl)) (o_neT (form_flat t.f) (form_flat u.f) (form_shaped t.f) (form_shaped u.f))) (by show (!eqvs (formL t.f) (formL u.f)) = _; rw [eqvs_form])) (fun hc => ?_) (fun hc => ?_)
    · have e : t.f ≠ u.f := by simpa using hc
      rw [if_neg e, if_neg e]
      exact sd_ret (ed_tup (eds_cons (ed_tup (eds_cons ed_str (eds_cons ed_int eds_nil)) (Nat.le_of_ble_eq_true rfl)) (eds_cons (ed_var hX 0 rfl rfl) eds_nil)) (Nat.le_of_ble_eq_true rfl)) rfl
    · have e : t.f = u.f := by simpa using hc
      rw [if_pos e, if_pos e]
      refine sd_nil ?_
      refine sd_set hX 6 rfl (ed_call hX D_l_read_row (by decide) (eds_cons (ed_var hX 8 rfl rfl) (eds_cons (ed_var hX 9 rfl rfl) eds_nil)) ⟨t.f, t.fs, t.h, okt, rfl, rfl⟩) ?_
      refine sd_set hX 7 rfl (ed_call hX D_l_read_row (by decide) (eds_cons (ed_var hX 8 rfl rfl) (eds_cons (ed_ix hX (ed_dget hX (ed_var hX 0 rfl rfl) (ed_var hX 4 rfl rfl) (d := u.d) (by rw [dget_S, hu]; rfl)) ed_int (i_tup (d := rowD u.row) rfl)) eds_nil)) ⟨u.f, u.fs, u.h, oku, by rw [e]; rfl, rfl⟩) ?_
      refine sd_ifT (et_is (et_cmp hX (ed_var hX 1 rfl rfl) ed_str o_eqS) (by decide +kernel)) ?_
      refine sd_set hX 7 rfl (ed_bin hX ed_int (ed_var hX 7 rfl rfl) o_sub) (sd_nil ?_)
      have es : t.val + (0 - u.val) = t.val - u.val := by omega
      exact sd_ret (ed_tup (eds_cons (ed_call hX D_l_mark (by decide) (eds_cons (ed_var hX 8 rfl rfl) (eds_cons (ed_is (ed_bin hX (ed_var hX 6 rfl rfl) (ed_var hX 7 rfl rfl) o_add) (congrArg D.int es)) eds_nil)) ⟨t.f, t.val - u.val, okt.ok, rfl, rfl⟩) (eds_cons (ed_call hX D_l_with (by decide) (eds_cons (ed_var hX 0 rfl rfl) (eds_cons (ed_lst (eds_cons (ed_tup (eds_cons (ed_var hX 2 rfl rfl) (eds_cons (ed_call hX D_l_kept_of (by decide) (eds_cons (ed_var hX 8 rfl rfl) (eds_cons (ed_is (ed_bin hX (ed_var hX 6 rfl rfl) (ed_var hX 7 rfl rfl) o_add) (congrArg D.int es)) eds_nil)) ⟨t.f, t.val - u.val, okt.ok, rfl, rfl⟩) eds_nil)) (Nat.le_of_ble_eq_true rfl)) eds_nil) (Nat.le_of_ble_eq_true rfl)) eds_nil)) ⟨S, x, lessT t u, by omega, rfl, rfl⟩) eds_nil)) (Nat.le_of_ble_eq_true rfl)) rfl
end
end Tl
/-! F5: what stands, copied: a dict of one's own handed back. -/
namespace Tl
open PySem L2 T3 TL PySem.Spec PyProof.Rows Ex3
section
variable {X : Cx} {N : List Str} {sc : Scope} {P : Program} {w : World} {K : PySem.W.Frag} {mg : Str → Option Value} {base : Heap} {k : Nat} {C CU CN : Addr} {R : Post} {A A0 : Anc} {M : List Cell} {ρ : Env3} {e e2 : Expr} {rest : List Stmt} {p p2 pos pos' : Pos}
/-- with(what stands, []): a new dict, its caller's own -/
def spW (K : PySem.W.Frag) : Sp := fun vs H Q _ => ∃ (Hs : Hp) (S : Sta) (v1 v2 : V), vs = [v1, v2] ∧ Ex Hs H ∧ Rep K Hs (staD S) v1 ∧ Rep K Hs (.lst []) v2 ∧
  ∀ p ws Hs' H', Step Hs H Hs' H' → H p = none → Hs' p = none → H' p = some (.dK ws) → ws.map (·.1) = (keysS S).map Sum.inr → Reps K Hs' (valsS S) (ws.map (·.2)) → Q (.ref p) H'
theorem d_l_withN (T : Tops K mg) {f : Addr} {fd : FuncData} (F : Fun K "_law_with" "_law_with" s_l_with f fd) : FnOk P w K mg base CX0 2 f fd ["_law_standing", "_law_rows"] (spW K) := by
  refine F.ok sc_l_with (fun vs H Q E h => ?_) fun cdv A outer s H vs Q E hr h => ?_
  · obtain ⟨_, _, _, _, rfl, _⟩ := h; rfl
  obtain ⟨Hs, S, v1, v2, rfl, e, r1, r2, q⟩ := h
  refine ⟨_, pss_cons (ps_set (i := 2) sc_l_with.nd rfl (.inl rfl) (pe_callTy call_dictD (show _ = _ from rfl) T.dict b_dict (pa_cons (pe_var (i := 0) rfl (.inl rfl)) pa_nil) (by decide) (by decide) (star_cons rfl) (star_plain rfl)) rfl (.inl rfl))
    (pss_cons (ps_for PassesOwn.never rfl (pi_list (pe_var (i := 1) rfl (.inl rfl))) pg_w pss_w (by intro _; rfl)) (pss_cons (ps_ret (pe_var (i := 2) rfl (.inl rfl))) pss_nil)), ?_⟩
  cases r1 with
  | @dct a ws _ _ q1 q2 q3 =>
    cases r2 with
    | @lst a2 xs _ g1 g2 =>
      cases g2
      refine ⟨_, rfl, a, ws, rfl, e.rd q1, fun p hp => ?_⟩
      refine ⟨_, rfl, a2, rfl, ⟨[], SqL.of (by rw [upd_ne (fun z => by rw [z] at g1; rw [e.back hp] at g1; cases g1)]; exact e _ _ g1)⟩, ?_⟩
      have h2 : SqL K (upd H p (.dK ws)) a2 [] := SqL.of (by rw [upd_ne (fun z => by rw [z] at g1; rw [e.back hp] at g1; cases g1)]; exact e _ _ g1)
      refine ⟨fun i m σ' H' => i = 0 ∧ σ' = [some (.ref a), some (.ref a2), some (.ref p), none, none] ∧ H' = upd H p (.dK ws), ⟨0, rfl, rfl, rfl⟩, ?_⟩
      rintro i m σ' H' ⟨rfl, rfl, rfl⟩
      exact .inl ⟨⟨[], h2, Nat.le_refl _⟩, _, rfl, q p ws Hs _ (.own e hp) hp (e.back hp) upd_same q2 q3⟩
/-- x = with(what stands, []), one's own -/
theorem sd_setW (hX : XF X N sc P w K mg base k) (i : Nat) {x : Str} {S : Sta} {f : Addr} {fd : FuncData} (F : FnOk P w K mg base CX0 2 f fd ["_law_standing", "_law_rows"] (spW K)) (hm : mg "_law_with" = some (.ref f)) (hk : PySem.W.keepIn K (.ref f) = true) (hb : Binds K fd ["_law_standing", "_law_rows"] []) (hj : 2 ≤ k) (hN : N[i]? = some x)
    (h1 : ED X K A M ρ e (staD S)) (h2 : ED X K A M ρ e2 (.lst [])) (q : SD X K A (M ++ [.dct (keysS S) (valsS S)]) (ρ.set i (some (.cell M.length))) rest R) (hl : Loc sc x := by first | exact .inl rfl | exact .inr rfl)
    (hg : GlS sc "_law_with" := by rfl) (hs : swapsWith (.Call (.Name "_law_with" p) [e, e2] [] p2) (some (.Name x pos')) pos.line X.env = pure false := by rfl) (hF : ∀ x, X.fn x = true := by assumption)
    (he : starEach [e, e2] X.env = (false, eval e X.env) :: starEach [e2] X.env := by exact star_cons rfl) (he2 : starEach [e2] X.env = (false, eval e2 X.env) :: starEach [] X.env := by exact star_cons rfl) (hpl : (backTo p2 (starEach [e2] X.env)).any (·.1) = false := by exact star_plain rfl) :
    SD X K A M ρ (.Assign [.Name x pos'] (.Call (.Name "_law_with" p) [e, e2] [] p2) pos :: rest) R := sd_cons <| .mk fun fps σ Hs H hh => by
  obtain ⟨_, _, rfl, rfl, rfl, rfl, rfl, _, rm, nd⟩ := id hX
  refine wS_of (ps_set (i := i) (by rw [hX.eN]; exact nd) (by rw [hX.eN]; exact hN) (hX.loc hl) (pe_call (E := E0) F (rm.mono hj) (hX.gl hg) hm hk hb .nil pass0 (pa_cons pe_w (pa_cons pe_w pa_nil he2) he) (by decide +kernel) he hpl) hs (hX.sto hF hl)) ?_
  refine wE_mono (h1 _ _ _ _ hh) fun v H1 ⟨Hs1, s1, r1⟩ => ?_
  refine wE_mono (h2 _ _ _ _ (hh.step s1)) fun v2 H2 ⟨Hs2, s2, r2⟩ => ?_
  have hh2 := hh.step (s1.trans s2)
  refine ⟨Hs2, S, v, v2, rfl, s2.i, r1.mono s2.s, r2, fun p ws Hs' H' s hp hp' hx k1 k2 => ?_⟩
  have h' := hh2.push s (c := .dct (keysS S) (valsS S)) hp hp' (by rw [hx]; exact fun z => nomatch z) ⟨ws, hx, k1, k2⟩
  refine ⟨_, _, _, Hs', h'.slots (h'.st.slots.set i (s := .cell M.length) ⟨p, [], ?_, rfl⟩), q⟩
  rw [← hh.st.cells.length, List.getElem?_append_right (Nat.le_refl _), Nat.sub_self]
  rfl
end
end Tl
/-! F6: a deed. -/
namespace Tl
open PySem L2 T3 TL PySem.Spec PyProof.Rows Ex3
local macro_rules | `(tactic| walk_at "len") => `(tactic| first | decide | (simp; done) | omega | (simp; omega))
theorem join_cons (x : Str) {l : List Str} (h : l ≠ []) : Txt.join spS (x :: l) = x ++ spS ++ Txt.join spS l := by
  cases l with
  | nil => exact absurd rfl h
  | cons y l =>
    refine tl_inj ?_
    rw [join_eq, join_eq]
    rfl
theorem join_app : ∀ {a b : List Str}, a ≠ [] → b ≠ [] → Txt.join spS (a ++ b) = Txt.join spS a ++ spS ++ Txt.join spS b
  | [], _, h, _ => absurd rfl h
  | [x], b, _, h => by
    rw [List.singleton_append, join_cons x h, join_one]
  | x :: y :: a, b, _, h => by
    rw [List.cons_append, join_cons x (by simp), join_app (a := y :: a) (by simp) h, join_cons x (l := y :: a) (by simp)]
    refine tl_inj ?_
    simp only [tl_append, List.append_assoc]
theorem lay_line (x : Str) (t : Thing) (h : t.row ≠ []) : ("lay " : Str) ++ x ++ (" " : Str) ++ wordsF t.f ++ (" " : Str) ++ hexT t.row = cmdL (.lay x t) := by
  have e : chunks (cmdT (.lay x t)) = [x] ++ (shapeW t.f ++ t.row.map hexB) := by simp [chunks, cmdT]
  have hr : t.row.map hexB ≠ [] := fun z => h (List.map_eq_nil_iff.mp z)
  rw [cmdL, e, List.singleton_append, join_cons _ (by simp), join_cons _ (by simp [hr]), join_app (show shapeW t.f ≠ [] from by simp [shapeW]) hr]
  refine tl_inj ?_
  have e2 : tl ("lay " : Str) = tl ("lay" : Str) ++ tl spS := by decide +kernel
  have e3 : tl (" " : Str) = tl spS := rfl
  have e4 : cmdW (.lay x t) = ("lay" : Str) := rfl
  simp only [tl_append, e2, e3, e4, wordsF, hexT, List.append_assoc]
theorem less_line (x a b : Str) : ("less " : Str) ++ x ++ (" " : Str) ++ a ++ (" " : Str) ++ b = cmdL (.less x a b) := by
  have e : chunks (cmdT (.less x a b)) = [x, a, b] := rfl
  rw [cmdL, e, join_cons _ (by simp), join_cons _ (by simp), join_cons _ (by simp), join_one]
  refine tl_inj ?_
  have e2 : tl ("less " : Str) = tl ("less" : Str) ++ tl spS := by decide +kernel
  have e3 : tl (" " : Str) = tl spS := rfl
  have e4 : cmdW (.less x a b) = ("less" : Str) := rfl
  simp only [tl_append, e2, e3, e4, List.append_assoc]
theorem drop_line (a : Str) : ("drop " : Str) ++ a = cmdL (.drop a) := by
  have e : chunks (cmdT (.drop a)) = [a] := rfl
  rw [cmdL, e, join_cons _ (by simp), join_one]
  refine tl_inj ?_
  have e2 : tl ("drop " : Str) = tl ("drop" : Str) ++ tl spS := by decide +kernel
  have e4 : cmdW (.drop a) = ("drop" : Str) := rfl
  simp only [tl_append, e2, e4, List.append_assoc]
def dws : List Int := [4, 3, 3, 3]
theorem dws_pos : ∀ j, j < dws.length → 0 < dws.getD j 1 := by decide
theorem dws_small : ∀ j, j < dws.length → dws.getD j 1 < 2 ^ 62 := by decide
noncomputable abbrev ddr (sc : List Int) (at_ : Nat) (j : Nat) : Nat := dr (cellF sc at_) 541 dws j
theorem ddraws_eq (sc : List Int) (a : Nat) : (drawsF (cellF sc a) 541 dws).map D.int = [.int (ddr sc a 0), .int (ddr sc a 1), .int (ddr sc a 2), .int (ddr sc a 3)] := by
  rw [draws_eq dws_pos]
  rfl
theorem ddr_lt (sc : List Int) (a : Nat) {j : Nat} (hj : j < 4) : (ddr sc a j : Int) < dws.getD j 1 := (dr_get dws_pos (show j < dws.length from hj)).2
theorem ddr3 (sc : List Int) (a : Nat) {j : Nat} (h0 : 0 < j) (hj : j < 4) : ddr sc a j < 3 := by
  have := ddr_lt sc a hj
  have e : dws.getD j 1 = 3 := by
    match j, h0, hj with
    | 1, _, _ => rfl
    | 2, _, _ => rfl
    | 3, _, _ => rfl
  rw [e] at this
  omega
noncomputable def nmAt (names : List Str) (sc : List Int) (a j : Nat) : Str := names.getD (ddr sc a j) ""
noncomputable def deedC (sc : List Int) (a : Nat) (names : List Str) (b : Form) (S : Sta) : Cmd :=
  if nmAt names sc a 2 ∉ keysS S ∨ ddr sc a 0 = 0 then .lay (nmAt names sc a 1) (thingF (cellF sc (a + 1)) 543 b)
  else if ddr sc a 0 < 3 then .less (nmAt names sc a 1) (nmAt names sc a 2) (nmAt names sc a 3) else .drop (nmAt names sc a 2)
noncomputable def cmdO (S : Sta) : Cmd → Out
  | .less _ a b => lessO S a b
  | _ => .ret (.str "done")
noncomputable def cmdS (S : Sta) : Cmd → Sta
  | .lay x t => putS S x t
  | .less x a b => lessS S x a b
  | .drop a => dropS S a
  | _ => S
theorem nmAt_get {names : List Str} (hl : names.length = 3) (sc : List Int) (a : Nat) {j : Nat} (h0 : 0 < j) (hj : j < 4) : L2.atI (names.map D.str) ((ddr sc a j : Nat) : Int) = some (.str (nmAt names sc a j)) := by
  have := ddr3 sc a h0 hj
  refine atI_nat ?_
  rw [List.getElem?_map, nmAt, List.getD_eq_getElem?_getD, List.getElem?_eq_getElem (by omega)]
  rfl
theorem nmAt_mem {names : List Str} (hl : names.length = 3) (sc : List Int) (a : Nat) {j : Nat} (h0 : 0 < j) (hj : j < 4) : nmAt names sc a j ∈ names := by
  have := ddr3 sc a h0 hj
  rw [nmAt, List.getD_eq_getElem?_getD, List.getElem?_eq_getElem (by omega)]
  exact List.getElem_mem _
section
variable {X : Cx} {N : List Str} {sc : Scope} {P : Program} {w : World} {K : PySem.W.Frag} {mg : Str → Option Value} {base : Heap} {k : Nat} {C CU CN : Addr} {R : Post} {A A0 : Anc} {M : List Cell} {ρ : Env3} {e e2 : Expr} {rest : List Stmt} {p p2 pos pos' : Pos}
def s_l_deed : Stmt := topS 128
theorem sc_l_deed : FnScope ["_law_script", "_law_at", "_law_names_here", "_law_base", "_law_standing", "_law_name_here", "_law_one", "_law_fresh", "_law_word", "_law_which", "_law_other", "_law_line", "_law_form_here", "_law_row", "_law_due_here"] ["_law_script", "_law_at", "_law_names_here", "_law_base", "_law_standing"] (defScope s_l_deed) := ⟨rfl, rfl, rfl, by decide +kernel, rfl, by decide +kernel, by decide +kernel⟩
def G_l_deed (ds : List D) (d : D) : Prop := ∃ (sc : List Int) (a : Nat) (names : List Str) (b : Form) (S : Sta), sc.length ≤ 63 ∧ a + 1 < 1000 ∧ names.length = 3 ∧ (∀ x ∈ names, NameOk x) ∧ b.Ok ∧ StaOk S ∧ ds = [.ro (sc.map .int), .int (a : Nat), .lst (names.map .str), formD b, staD S] ∧
  d = .tup [.str (cmdL (deedC sc a names b S)), tellD (cmdO S (deedC sc a names b S)), staD (cmdS S (deedC sc a names b S))]
end
end Tl
/-! F7: a deed: the def. -/
namespace Tl
open PySem L2 T3 TL PySem.Spec PyProof.Rows Ex3
local macro_rules | `(tactic| walk_at "len") => `(tactic| first | decide | (simp; done) | omega | (simp; omega))
section
variable {X : Cx} {N : List Str} {sc : Scope} {P : Program} {w : World} {K : PySem.W.Frag} {mg : Str → Option Value} {base : Heap} {k : Nat} {C CU CN : Addr} {R : Post} {A A0 : Anc} {M : List Cell} {ρ : Env3} {e e2 : Expr} {rest : List Stmt} {p p2 pos pos' : Pos}
theorem words_short {f : Form} (ok : f.Ok) : (wordsF f).length ≤ 100 := by
  have h12 := ok.n12
  have hpt := ok.pt
  obtain ⟨k1, _⟩ := kindS_facts f.sp
  obtain ⟨k2, _⟩ := signS_facts f.sg
  obtain ⟨k3, _⟩ := numS_facts f.n h12
  obtain ⟨k4, _⟩ := numS_facts f.pt (by omega)
  have := join_le spS (shapeW f) 6 (by simp only [shapeW, List.mem_cons, List.not_mem_nil, or_false]; rintro y (rfl | rfl | rfl | rfl) <;> omega)
  have e : spS.length = 1 := by decide +kernel
  have e2 : (shapeW f).length = 4 := rfl
  rw [e, e2] at this
  unfold wordsF
  omega
theorem hex_short {r : List Int} (h : r.length ≤ 12) : (hexT r).length ≤ 100 := by
  have := join_le spS (r.map hexB) 2 (fun y hy => by obtain ⟨b, _, rfl⟩ := List.mem_map.mp hy; exact Nat.le_of_eq (hexB_length b))
  have e : spS.length = 1 := by decide +kernel
  rw [e, List.length_map] at this
  unfold hexT
  omega
theorem d_l_deed (T : Tops K mg) (D_l_cell : Dfn P w K mg base "_law_cell" 1 G_l_cell) (D_l_draws : Dfn P w K mg base "_law_draws" 2 G_l_draws) (D_l_thing_by : Dfn P w K mg base "_law_thing_by" 5 G_l_thing_by) (D_l_words : Dfn P w K mg base "_law_words" 1 G_l_words) (D_l_hexed : Dfn P w K mg base "_law_hexed" 1 G_l_hexed)
    (D_l_with : Dfn P w K mg base "_law_with" 1 G_l_with) (D_l_sum_due : Dfn P w K mg base "_law_sum_due" 6 G_l_sum_due) {fw : Addr} {fdw : FuncData} (FW : FnOk P w K mg base CX0 2 fw fdw ["_law_standing", "_law_rows"] (spW K)) (hmw : mg "_law_with" = some (.ref fw)) (hkw : PySem.W.keepIn K (.ref fw) = true) (hbw : Binds K fdw ["_law_standing", "_law_rows"] [])
    {f : Addr} {fd : FuncData} (F : Fun K "_law_deed" "_law_deed" s_l_deed f fd) (hb : Binds K fd ["_law_script", "_law_at", "_law_names_here", "_law_base", "_law_standing"] []) (hm : mg "_law_deed" = some (.ref f)) : Dfn P w K mg base "_law_deed" 7 G_l_deed := by
  refine dfn_of F sc_l_deed hb hm (fun ds d h => ?_) ?_
  · obtain ⟨_, _, _, _, _, _, _, _, _, _, _, rfl, _⟩ := h; rfl
  rintro X A hX hF hP ds d ⟨sc, a, names, b, S, hsc, ha, hn3, hnm, okb, okS, rfl, rfl⟩
  have hfew := okS.few
  have x1 := hnm _ (nmAt_mem hn3 sc a (j := 1) (by decide) (by decide))
  have x2 := hnm _ (nmAt_mem hn3 sc a (j := 2) (by decide) (by decide))
  have x3 := hnm _ (nmAt_mem hn3 sc a (j := 3) (by decide) (by decide))
  have l1 := x1.l12
  have l2 := x2.l12
  have l3 := x3.l12
  have e1 : (" " : Str).length = 1 := by decide +kernel
  have ly : ("lay " : Str).length = 4 := by decide +kernel
  have ls : ("less " : Str).length = 5 := by decide +kernel
  have ld : ("drop " : Str).length = 5 := by decide +kernel
  refine sd_asg (d := .lst [.int (ddr sc a 0), .int (ddr sc a 1), .int (ddr sc a 2), .int (ddr sc a 3)]) (ed_is (ed_call hX D_l_draws (by decide) (eds_cons (ed_call hX D_l_cell (by decide) (eds_cons (ed_var hX 0 rfl rfl) (eds_cons (ed_var hX 1 rfl rfl) eds_nil)) ⟨sc, a, hsc, by omega, rfl, rfl⟩) (eds_cons ed_int (eds_cons (ed_lst (eds_cons ed_int (eds_cons ed_int (eds_cons ed_int (eds_cons ed_int eds_nil)))) (Nat.le_of_ble_eq_true rfl)) eds_nil))) ⟨cellF sc a, 541, dws, by decide, by decide, by decide, dws_pos, dws_small, rfl, rfl⟩) (congrArg D.lst (ddraws_eq sc a)))
    (tg_lst hX (tgs_cons (tg_name hX 8 rfl) (tgs_cons (tg_name hX 9 rfl) (tgs_cons (tg_name hX 6 rfl) (tgs_cons (tg_name hX 10 rfl) tgs_nil)))) rfl) ?_
  refine sd_set hX 5 rfl (ed_ix hX (ed_var hX 2 rfl rfl) (ed_var hX 9 rfl rfl) (i_lst (nmAt_get hn3 sc a (j := 1) (by decide) (by decide)))) ?_
  refine sd_set hX 6 rfl (ed_ix hX (ed_var hX 2 rfl rfl) (ed_var hX 6 rfl rfl) (i_lst (nmAt_get hn3 sc a (j := 2) (by decide) (by decide)))) ?_
  refine sd_if (t := decide (nmAt names sc a 2 ∉ keysS S ∨ ddr sc a 0 = 0)) (et_is (et_w (ew_or (et_dni hX (ed_var hX 6 rfl rfl) (ed_var hX 4 rfl rfl)) (fun _ => ew_or1 (et_cmp hX (ed_var hX 8 rfl rfl) ed_int o_eqI)))) ?_) (fun hc => ?_) (fun hc => ?_)
  · rw [Bool.eq_iff_iff]; simp
  · have hc : nmAt names sc a 2 ∉ keysS S ∨ ddr sc a 0 = 0 := of_decide_eq_true hc
    have ec : deedC sc a names b S = .lay (nmAt names sc a 1) (thingF (cellF sc (a + 1)) 543 b) := by rw [deedC, if_pos hc]
    rw [ec]
    generalize ht : thingF (cellF sc (a + 1)) 543 b = t
    have okt : t.Ok := by rw [← ht]; exact thingF_ok _ _ okb
    obtain ⟨r1, r2, r3⟩ := row_facts okt
    have w1 := words_short okt.ok
    have w2 := hex_short r1
    generalize nmAt names sc a 1 = x at l1
    refine sd_asg (ed_call hX D_l_thing_by (by decide) (eds_cons (ed_call hX D_l_cell (by decide) (eds_cons (ed_var hX 0 rfl rfl) (eds_cons (ed_bin hX (ed_var hX 1 rfl rfl) ed_int o_add) eds_nil)) ⟨sc, a + 1, hsc, by omega, rfl, rfl⟩) (eds_cons ed_int (eds_cons (ed_var hX 3 rfl rfl) eds_nil))) (d := t.d) ⟨cellF sc (a + 1), 543, b, by decide, by decide, okb, rfl, by rw [ht]⟩) (tg_tup hX (tgs_cons (tg_name hX 12 rfl) (tgs_cons (tg_name hX 13 rfl) tgs_nil)) rfl) ?_
    refine sd_set hX 11 rfl (ed_is (ed_bin hX (ed_bin hX (ed_bin hX (ed_bin hX (ed_bin hX ed_str (ed_var hX 5 rfl rfl) (o_addS ?_)) ed_str (o_addS ?_)) (ed_call hX D_l_words (by decide) (eds_cons (ed_var hX 12 rfl rfl) eds_nil) ⟨t.f, okt.ok, rfl, rfl⟩) (o_addS ?_)) ed_str (o_addS ?_)) (ed_call hX D_l_hexed (by decide) (eds_cons (ed_var hX 13 rfl rfl) eds_nil) ⟨t.row, r1, r3, rfl, rfl⟩) (o_addS ?_)) (congrArg D.str (lay_line x t r2))) ?_
    · omega
    · rw [sapp_len]; omega
    · rw [sapp_len, sapp_len]; omega
    · rw [sapp_len, sapp_len, sapp_len]; omega
    · rw [sapp_len, sapp_len, sapp_len, sapp_len]; omega
    exact sd_ret (ed_tup (eds_cons (ed_var hX 11 rfl rfl) (eds_cons (ed_tup (eds_cons ed_str (eds_cons ed_str eds_nil)) (Nat.le_of_ble_eq_true rfl)) (eds_cons (ed_call hX D_l_with (by decide) (eds_cons (ed_var hX 4 rfl rfl) (eds_cons (ed_lst (eds_cons (ed_tup (eds_cons (ed_var hX 5 rfl rfl) (eds_cons (ed_tup (eds_cons (ed_var hX 12 rfl rfl) (eds_cons (ed_var hX 13 rfl rfl) eds_nil)) (Nat.le_of_ble_eq_true rfl)) eds_nil)) (Nat.le_of_ble_eq_true rfl)) eds_nil) (Nat.le_of_ble_eq_true rfl)) eds_nil)) ⟨S, x, t, by omega, rfl, rfl⟩) eds_nil))) (Nat.le_of_ble_eq_true rfl)) rfl
  · have hc : ¬ (nmAt names sc a 2 ∉ keysS S ∨ ddr sc a 0 = 0) := of_decide_eq_false hc
    have hin : nmAt names sc a 2 ∈ keysS S := by
      by_cases q : nmAt names sc a 2 ∈ keysS S
      · exact q
      · exact absurd (.inl q) hc
    refine sd_nil ?_
    refine sd_if (t := decide (ddr sc a 0 < 3)) (et_is (et_cmp hX (ed_var hX 8 rfl rfl) ed_int o_lt) ?_) (fun h3 => ?_) (fun h3 => ?_)
    · rw [Bool.eq_iff_iff, decide_eq_true_iff, decide_eq_true_iff]; omega
    · have h3 : ddr sc a 0 < 3 := of_decide_eq_true h3
      have ec : deedC sc a names b S = .less (nmAt names sc a 1) (nmAt names sc a 2) (nmAt names sc a 3) := by rw [deedC, if_neg hc, if_pos h3]
      rw [ec]
      have g3 := nmAt_get hn3 sc a (j := 3) (by decide) (by decide)
      generalize nmAt names sc a 1 = x at *
      generalize nmAt names sc a 2 = y at *
      generalize nmAt names sc a 3 = z at *
      refine sd_asg (ed_call hX D_l_sum_due (by decide) (eds_cons (ed_var hX 4 rfl rfl) (eds_cons ed_str (eds_cons (ed_var hX 5 rfl rfl) (eds_cons (ed_var hX 6 rfl rfl) (eds_cons (ed_ix hX (ed_var hX 2 rfl rfl) (ed_var hX 10 rfl rfl) (i_lst g3)) eds_nil))))) ⟨S, x, y, z, okS, rfl, rfl⟩) (tg_tup hX (tgs_cons (tg_name hX 14 rfl) (tgs_cons (tg_name hX 7 rfl) tgs_nil)) rfl) ?_
      refine sd_ret (ed_tup (eds_cons (ed_is (ed_bin hX (ed_bin hX (ed_bin hX (ed_bin hX (ed_bin hX ed_str (ed_var hX 5 rfl rfl) (o_addS ?_)) ed_str (o_addS ?_)) (ed_var hX 6 rfl rfl) (o_addS ?_)) ed_str (o_addS ?_)) (ed_ix hX (ed_var hX 2 rfl rfl) (ed_var hX 10 rfl rfl) (i_lst g3)) (o_addS ?_)) (congrArg D.str (less_line x y z))) (eds_cons (ed_var hX 14 rfl rfl) (eds_cons (ed_var hX 7 rfl rfl) eds_nil))) (Nat.le_of_ble_eq_true rfl)) rfl
      · omega
      · rw [sapp_len]; omega
      · rw [sapp_len, sapp_len]; omega
      · rw [sapp_len, sapp_len, sapp_len]; omega
      · rw [sapp_len, sapp_len, sapp_len, sapp_len]; omega
    · have h3 : ¬ ddr sc a 0 < 3 := of_decide_eq_false h3
      have ec : deedC sc a names b S = .drop (nmAt names sc a 2) := by rw [deedC, if_neg hc, if_neg h3]
      rw [ec]
      generalize nmAt names sc a 2 = y at *
      refine sd_nil ?_
      refine sd_setW hX 7 FW hmw hkw hbw (by decide) rfl (ed_var hX 4 rfl rfl) (ed_lst eds_nil (Nat.zero_le _)) ?_
      refine sd_dpop hX (ec_var hX 7 rfl rfl) (ed_var hX 6 rfl rfl) rfl hin ?_
      refine sd_freezeD 7 0 rfl rfl rfl ?_
      refine sd_ret (ed_tup (eds_cons (ed_is (ed_bin hX ed_str (ed_var hX 6 rfl rfl) (o_addS ?_)) (congrArg D.str (drop_line y))) (eds_cons (ed_tup (eds_cons ed_str (eds_cons ed_str eds_nil)) (Nat.le_of_ble_eq_true rfl)) (eds_cons (ed_var hX 7 rfl rfl) eds_nil))) (Nat.le_of_ble_eq_true rfl)) ?_
      · omega
      · show D.tup [.str (cmdL (.drop y)), _, .dct (dropD (keysS S) (valsS S) y).1 (dropD (keysS S) (valsS S) y).2] = D.tup [_, _, staD (dropS S y)]
        rw [drop_S]
        rfl
end
end Tl
/-! F8: all questions told. -/
namespace Tl
open PySem L2 T3 TL PySem.Spec PyProof.Rows Ex3
local macro_rules | `(tactic| walk_at "len") => `(tactic| first | decide | (simp; done) | omega | (simp; omega))
structure Quest where
  q : Qw
  a : Str
  b : Str
def Quest.d (x : Quest) : D := .tup [.str (qS x.q), .str x.a, .str x.b]
def Quest.Ok (x : Quest) : Prop := NameOk x.a ∧ NameOk x.b
section
variable {X : Cx} {N : List Str} {sc : Scope} {P : Program} {w : World} {K : PySem.W.Frag} {mg : Str → Option Value} {base : Heap} {k : Nat} {C CU CN : Addr} {R : Post} {A A0 : Anc} {M : List Cell} {ρ : Env3} {e e2 : Expr} {rest : List Stmt} {p p2 pos pos' : Pos}
def s_l_all : Stmt := topS 129
theorem sc_l_all : FnScope ["_law_desk", "_law_questions", "_law_standing", "_law_question", "_law_line", "_law_due_here"] ["_law_desk", "_law_questions", "_law_standing"] (defScope s_l_all) := ⟨rfl, rfl, rfl, by decide +kernel, rfl, by decide +kernel, by decide +kernel⟩
def G_l_all (s : DeskSt) (ds : List D) (out : Out) (s' : DeskSt) : Prop := ∃ (S : Sta) (qs : List Quest), StaOk S ∧ (∀ x ∈ qs, x.Ok) ∧ s.now = staD S ∧ s.past.length < 1000 ∧ s.undone.length < 1000 ∧ ds = [.lst (qs.map Quest.d), staD S] ∧ out = .ret (.bl true) ∧ s' = s
theorem d_l_all (T : Tops K mg) (D_l_due : Dfn P w K mg base "_law_due" 3 G_l_due) (D_l_answered : DfnD P w K mg base CX0 C CU CN "_law_answered" 9 G_l_answered) {f : Addr} {fd : FuncData} (F : Fun K "_law_all_told" "_law_all_told" s_l_all f fd) (hb : Binds K fd ["_law_desk", "_law_questions", "_law_standing"] []) (hm : mg "_law_all_told" = some (.ref f)) : DfnD P w K mg base CX0 C CU CN "_law_all_told" 10 G_l_all := by
  refine ⟨f, fd, _, fnD0 F sc_l_all (fun s ds out s' h => ?_) ?_, hm, F.kp, hb⟩
  · obtain ⟨_, _, _, _, _, _, _, rfl, _⟩ := h; rfl
  rintro X A hX hF hP hA s ds out s' ⟨S, qs, okS, okq, e1, hp, hu, rfl, rfl, rfl⟩
  refine sd_forL hX 3 (ed_var hX 1 rfl rfl) (fun _ => [.desk C s']) (fun _ => [some (.cell 0), some (.sh (.lst (qs.map Quest.d))), some (.sh (staD S)), none, none, none]) ⟨rfl, rfl, rfl, rfl, trivial⟩ rfl ?_ ?_ hP
  · intro A' le i d hd
    obtain ⟨x, hx, rfl⟩ := map_get' hd
    obtain ⟨oa, ob⟩ := okq x (List.mem_of_getElem? hx)
    refine sd_asg (ed_call hX D_l_due (by decide) (eds_cons (ed_var hX 2 rfl rfl) (eds_cons (ed_var hX 3 rfl rfl) eds_nil)) ⟨S, x.q, x.a, x.b, okS, oa, ob, rfl, rfl⟩) (tg_tup hX (tgs_cons (tg_name hX 4 rfl) (tgs_cons (tg_name hX 5 rfl) tgs_nil)) rfl) ?_
    have g : G_l_answered s' [.str (cmdL (qCmd x.q x.a x.b)), tellD (qOut S x.q x.a x.b)] (.ret (.bl true)) s' := ⟨_, _, ⟨S, qCmd x.q x.a x.b, okS, q_ok x.q oa ob, e1, hp, hu, rfl, q_told s' S x.q x.a x.b⟩, rfl, rfl⟩
    refine sd_skipM (M' := [.desk C s']) (tm_or2 (M1 := [.desk C s']) (tm_not (t := true) (tm_val (em_call (M := [.desk C s']) (jc := 0) (s := s') (CX := CX0) (CU := CU) (CN := CN) (A0 := A') (s' := s') (out := .ret (.bl true)) hX D_l_answered (by decide) (ec_var hX 0 rfl rfl) rfl (eds_cons (ed_var hX 4 rfl rfl) (eds_cons (ed_var hX 5 rfl rfl) eds_nil)) g rz0 .self))) (tm_not (t := true) (tm_val (em_call (M := [.desk C s']) (jc := 0) (s := s') (CX := CX0) (CU := CU) (CN := CN) (A0 := A') (s' := s') (out := .ret (.bl true)) hX D_l_answered (by decide) (ec_var hX 0 rfl rfl) rfl (eds_cons (ed_var hX 4 rfl rfl) (eds_cons (ed_var hX 5 rfl rfl) eds_nil)) g rz0 .self)))) ?_
    exact sd_nil ⟨rfl, rfl, rfl, rfl, trivial⟩
  · exact sd_ret ed_bl ⟨rfl, rfl⟩
end
end Tl
/-! F9a: a pair of constants to two names. -/
namespace T3
open PySem L2
theorem sw_const {x y a b c : Str} {px py pt p1 p2 p3 p4 p5 : Pos} {kt k1 k2 k3 k4 k5 : Nat} {env : Env} :
    swappedStores [.Tuple [.Name x px, .Name y py] kt pt] (.Tuple [.Constant (.str a) k1 p1, .Tuple [.Constant (.str b) k2 p2, .Constant (.str c) k3 p3] k4 p4] k5 p5) env = pure none := by
  unfold swappedStores
  have h : ([Expr.Constant (.str a) k1 p1, .Tuple [.Constant (.str b) k2 p2, .Constant (.str c) k3 p3] k4 p4].all (foldedForSure 8)) = true := by rfl
  simp only [h]
  split
  · rfl
  · split
    · rfl
    · split
      · rfl
      · rfl
end T3
/-! F9b: the mirror of the law: its steps. -/
namespace Tl
open PySem L2 T3 TL PySem.Spec PyProof.Rows Ex3
/-- the piles and the place that stands -/
structure Pil where
  l : List Sta
  h : Nat
def Pil.at_ (P : Pil) : Sta := P.l.getD P.h []
def deskOf (P : Pil) : DeskSt := ⟨staD P.at_, (P.l.take P.h).map staD, ((P.l.drop (P.h + 1)).map staD).reverse⟩
def wws : List Int := [8]
theorem wws_pos : ∀ j, j < wws.length → 0 < wws.getD j 1 := by decide
theorem wws_small : ∀ j, j < wws.length → wws.getD j 1 < 2 ^ 62 := by decide
noncomputable abbrev wdr (sc : List Int) (i : Nat) : Nat := dr (cellF sc (9 + 3 * i)) 547 wws 0
theorem wdraws_eq (sc : List Int) (i : Nat) : (drawsF (cellF sc (9 + 3 * i)) 547 wws).map D.int = [.int (wdr sc i)] := by
  rw [draws_eq wws_pos]
  rfl
section
variable (sc : List Int) (names : List Str) (b : Form) (i : Nat) (P : Pil)
/-- the three ways of a step -/
inductive Way where | back | fore | deed
noncomputable def wayF : Way := if 5 < wdr sc i ∧ 0 < P.h then .back else if wdr sc i = 5 ∧ P.h + 1 < P.l.length then .fore else .deed
noncomputable def deedF : Cmd := deedC sc (10 + 3 * i) names b P.at_
def isTold : Out → Bool
  | .ret _ => true
  | _ => false
noncomputable def stepC : Cmd := match wayF sc i P with
  | .back => .undo
  | .fore => .again
  | .deed => deedF sc names b i P
noncomputable def stepO : Out := match wayF sc i P with
  | .deed => cmdO P.at_ (deedF sc names b i P)
  | _ => .ret (.str "done")
noncomputable def stepP : Pil := match wayF sc i P with
  | .back => ⟨P.l, P.h - 1⟩
  | .fore => ⟨P.l, P.h + 1⟩
  | .deed => if isTold (cmdO P.at_ (deedF sc names b i P)) then ⟨P.l.take (P.h + 1) ++ [cmdS P.at_ (deedF sc names b i P)], P.h + 1⟩ else P
end
structure PilOk (P : Pil) (n : Nat) : Prop where
  h : P.h < P.l.length
  len : P.l.length ≤ n + 1
  ok : ∀ S ∈ P.l, StaOk S
  few : ∀ S ∈ P.l, S.length ≤ n
theorem Pil.mem {P : Pil} {n : Nat} (ok : PilOk P n) : P.at_ ∈ P.l := by
  have := ok.h
  rw [Pil.at_, List.getD_eq_getElem?_getD, List.getElem?_eq_getElem this]
  exact List.getElem_mem this
theorem deed_ok {sc : List Int} {names : List Str} {b : Form} {i : Nat} {S : Sta} (okb : b.Ok) (hl : names.length = 3) (hn : ∀ x ∈ names, NameOk x) : CmdOk (deedC sc i names b S) := by
  have x1 := hn _ (nmAt_mem hl sc i (j := 1) (by decide) (by decide))
  have x2 := hn _ (nmAt_mem hl sc i (j := 2) (by decide) (by decide))
  have x3 := hn _ (nmAt_mem hl sc i (j := 3) (by decide) (by decide))
  unfold deedC
  split
  · exact .lay x1 (thingF_ok _ _ okb)
  · split
    · exact .less x1 x2 x3
    · exact .drop x2
theorem deed_told {sc : List Int} {names : List Str} {b : Form} {i : Nat} {S : Sta} (s : DeskSt) : Told s S (deedC sc i names b S) (cmdO S (deedC sc i names b S)) (if isTold (cmdO S (deedC sc i names b S)) then ⟨staD (cmdS S (deedC sc i names b S)), s.past ++ [staD S], []⟩ else s) := by
  unfold deedC
  split
  · exact .lay _ _
  · rename_i hc
    have hin : nmAt names sc i 2 ∈ keysS S := by
      by_cases q : nmAt names sc i 2 ∈ keysS S
      · exact q
      · exact absurd (.inl q) hc
    split
    · generalize nmAt names sc i 1 = x
      generalize nmAt names sc i 2 = y
      generalize nmAt names sc i 3 = z
      show Told s S (.less x y z) (lessO S y z) (if isTold (lessO S y z) then ⟨staD (lessS S x y z), s.past ++ [staD S], []⟩ else s)
      cases hf : ([y, z] : List Str).find? fun x => decide (x ∉ keysS S) with
      | some v =>
        rw [lo_miss hf]
        exact .miss _ v hf
      | none =>
        have hn := find_no hf
        obtain ⟨t, ht, _⟩ := get_mem (hn y (by simp))
        obtain ⟨u, hu, _⟩ := get_mem (hn z (by simp))
        rw [lo_some hf ht hu, ls_some ht hu]
        have h0 := Told.less (s := s) x y z t u ht hu
        by_cases e : t.f = u.f
        · rw [if_pos e, if_pos e] at h0
          rw [if_pos e, if_pos e]
          exact h0
        · rw [if_neg e, if_neg e] at h0
          rw [if_neg e]
          exact h0
    · exact .drop _ hin
theorem cmdS_ok {sc : List Int} {names : List Str} {b : Form} {i n : Nat} {S : Sta} (okb : b.Ok) (hl : names.length = 3) (hn : ∀ x ∈ names, NameOk x) (ok : StaOk S) (hS : S.length ≤ n) (h60 : n < 60) : StaOk (cmdS S (deedC sc i names b S)) ∧ (cmdS S (deedC sc i names b S)).length ≤ n + 1 := by
  have x1 := hn _ (nmAt_mem hl sc i (j := 1) (by decide) (by decide))
  unfold deedC
  split
  · exact ⟨put_ok ok x1 (thingF_ok _ _ okb) (by omega), Nat.le_trans (put_len _ _ _) (by omega)⟩
  · split
    · show StaOk (lessS S _ _ _) ∧ (lessS S _ _ _).length ≤ _
      unfold lessS
      split
      · rename_i t u ht hu
        have okt := ok.things _ (get_key ht).2
        split
        · exact ⟨put_ok ok x1 (thingK_ok okt.ok _) (by omega), Nat.le_trans (put_len _ _ _) (by omega)⟩
        · exact ⟨ok, by omega⟩
      · exact ⟨ok, by omega⟩
    · exact ⟨drop_ok ok, Nat.le_trans (drop_len _ _) (by omega)⟩
end Tl
/-! F9c: a step keeps what stands. -/
namespace Tl
open PySem L2 T3 TL PySem.Spec PyProof.Rows Ex3
theorem at_get {P : Pil} (h : P.h < P.l.length) : P.l[P.h]? = some P.at_ := by
  rw [Pil.at_, List.getD_eq_getElem?_getD, List.getElem?_eq_getElem h]
  rfl
theorem take_map {l : List Sta} {h : Nat} {S : Sta} (e : l[h]? = some S) : (l.take (h + 1)).map staD = (l.take h).map staD ++ [staD S] := by
  rw [List.take_succ, e, List.map_append]
  rfl
theorem drop_map {l : List Sta} {h : Nat} {S : Sta} (e : l[h]? = some S) : ((l.drop h).map staD).reverse = ((l.drop (h + 1)).map staD).reverse ++ [staD S] := by
  obtain ⟨h1, h2⟩ := List.getElem?_eq_some_iff.mp e
  rw [List.drop_eq_getElem_cons h1, h2, List.map_cons, List.reverse_cons]
theorem back_desk {P : Pil} (h : P.h < P.l.length) (h0 : 0 < P.h) : ∃ l d, (deskOf P).past = l ++ [d] ∧ deskOf ⟨P.l, P.h - 1⟩ = ⟨d, l, (deskOf P).undone ++ [(deskOf P).now]⟩ := by
  obtain ⟨L, n⟩ := P
  have h : n < L.length := h
  have h0 : 0 < n := h0
  obtain ⟨m, rfl⟩ : ∃ m, n = m + 1 := ⟨n - 1, by omega⟩
  have e1 : L[m]? = some (L.getD m []) := by rw [List.getD_eq_getElem?_getD, List.getElem?_eq_getElem (by omega)]; rfl
  have e2 : L[m + 1]? = some (L.getD (m + 1) []) := by rw [List.getD_eq_getElem?_getD, List.getElem?_eq_getElem (by omega)]; rfl
  refine ⟨(L.take m).map staD, staD (L.getD m []), take_map e1, ?_⟩
  show DeskSt.mk (staD (L.getD m [])) ((L.take m).map staD) (((L.drop (m + 1)).map staD).reverse) = _
  rw [drop_map e2]
  rfl
theorem fore_desk {P : Pil} (h : P.h < P.l.length) (h0 : P.h + 1 < P.l.length) : ∃ l d, (deskOf P).undone = l ++ [d] ∧ deskOf ⟨P.l, P.h + 1⟩ = ⟨d, (deskOf P).past ++ [(deskOf P).now], l⟩ := by
  obtain ⟨L, n⟩ := P
  have h : n < L.length := h
  have h0 : n + 1 < L.length := h0
  have e1 : L[n]? = some (L.getD n []) := by rw [List.getD_eq_getElem?_getD, List.getElem?_eq_getElem h]; rfl
  have e2 : L[n + 1]? = some (L.getD (n + 1) []) := by rw [List.getD_eq_getElem?_getD, List.getElem?_eq_getElem h0]; rfl
  refine ⟨((L.drop (n + 1 + 1)).map staD).reverse, staD (L.getD (n + 1) []), drop_map e2, ?_⟩
  show DeskSt.mk (staD (L.getD (n + 1) [])) ((L.take (n + 1)).map staD) (((L.drop (n + 1 + 1)).map staD).reverse) = _
  rw [take_map e1]
  rfl
theorem new_desk {P : Pil} (h : P.h < P.l.length) (S : Sta) : deskOf ⟨P.l.take (P.h + 1) ++ [S], P.h + 1⟩ = ⟨staD S, (deskOf P).past ++ [staD P.at_], []⟩ := by
  have hl : (P.l.take (P.h + 1)).length = P.h + 1 := by rw [List.length_take]; omega
  have e1 := at_get h
  have ea : (Pil.mk (P.l.take (P.h + 1) ++ [S]) (P.h + 1)).at_ = S := by
    show (P.l.take (P.h + 1) ++ [S]).getD (P.h + 1) [] = S
    rw [List.getD_eq_getElem?_getD, List.getElem?_append_right (by omega), hl, Nat.sub_self]
    rfl
  unfold deskOf
  rw [ea]
  show DeskSt.mk _ (((P.l.take (P.h + 1) ++ [S]).take (P.h + 1)).map staD) ((((P.l.take (P.h + 1) ++ [S]).drop (P.h + 1 + 1)).map staD).reverse) = _
  rw [List.take_left' hl, List.drop_eq_nil_of_le (by simp; omega), take_map e1]
  rfl
theorem step_ok {sc : List Int} {names : List Str} {b : Form} {i n : Nat} {P : Pil} (okb : b.Ok) (hl : names.length = 3) (hn : ∀ x ∈ names, NameOk x) (ok : PilOk P n) (h60 : n < 60) :
    CmdOk (stepC sc names b i P) ∧ Told (deskOf P) P.at_ (stepC sc names b i P) (stepO sc names b i P) (deskOf (stepP sc names b i P)) ∧ PilOk (stepP sc names b i P) (n + 1) := by
  have hm := Pil.mem ok
  have okS := ok.ok _ hm
  have hh := ok.h
  unfold stepC stepO stepP
  cases hw : wayF sc i P with
  | back =>
    have h0 : 0 < P.h := by
      unfold wayF at hw
      split at hw
      · rename_i q; exact q.2
      · split at hw <;> cases hw
    obtain ⟨l, d, e1, e2⟩ := back_desk hh h0
    refine ⟨.undo, ?_, ⟨by show P.h - 1 < P.l.length; omega, by have := ok.len; show P.l.length ≤ _; omega, ok.ok, fun S hS => by have := ok.few S hS; omega⟩⟩
    show Told (deskOf P) P.at_ .undo (.ret (.str "done")) (deskOf ⟨P.l, P.h - 1⟩)
    rw [e2]
    exact .undo l d e1
  | fore =>
    have h0 : P.h + 1 < P.l.length := by
      unfold wayF at hw
      split at hw
      · cases hw
      · split at hw
        · rename_i q; exact q.2
        · cases hw
    obtain ⟨l, d, e1, e2⟩ := fore_desk hh h0
    refine ⟨.again, ?_, ⟨h0, by have := ok.len; show P.l.length ≤ _; omega, ok.ok, fun S hS => by have := ok.few S hS; omega⟩⟩
    show Told (deskOf P) P.at_ .again (.ret (.str "done")) (deskOf ⟨P.l, P.h + 1⟩)
    rw [e2]
    exact .again l d e1
  | deed =>
    have t := deed_told (sc := sc) (names := names) (b := b) (i := 10 + 3 * i) (S := P.at_) (deskOf P)
    have c := cmdS_ok (sc := sc) (i := 10 + 3 * i) okb hl hn okS (ok.few _ hm) h60
    refine ⟨deed_ok okb hl hn, ?_, ?_⟩
    · show Told (deskOf P) P.at_ (deedF sc names b i P) (cmdO P.at_ (deedF sc names b i P)) (deskOf (if isTold (cmdO P.at_ (deedF sc names b i P)) then ⟨P.l.take (P.h + 1) ++ [cmdS P.at_ (deedF sc names b i P)], P.h + 1⟩ else P))
      unfold deedF
      by_cases q : isTold (cmdO P.at_ (deedC sc (10 + 3 * i) names b P.at_)) = true
      · rw [if_pos q] at t ⊢
        rw [new_desk hh]
        exact t
      · rw [if_neg q] at t ⊢
        exact t
    · show PilOk (if isTold (cmdO P.at_ (deedF sc names b i P)) then ⟨P.l.take (P.h + 1) ++ [cmdS P.at_ (deedF sc names b i P)], P.h + 1⟩ else P) (n + 1)
      split
      · refine ⟨?_, ?_, fun S hS => ?_, fun S hS => ?_⟩
        · show P.h + 1 < (P.l.take (P.h + 1) ++ [_]).length
          rw [List.length_append, List.length_take]; simp; omega
        · show (P.l.take (P.h + 1) ++ [_]).length ≤ _
          have := ok.len
          rw [List.length_append, List.length_take]; simp; omega
        · rcases List.mem_append.mp hS with q | q
          · exact ok.ok S (List.mem_of_mem_take q)
          · rw [List.mem_singleton.mp q]; exact c.1
        · rcases List.mem_append.mp hS with q | q
          · have := ok.few S (List.mem_of_mem_take q); omega
          · rw [List.mem_singleton.mp q]; exact c.2
      · exact ⟨hh, by have := ok.len; omega, ok.ok, fun S hS => by have := ok.few S hS; omega⟩
end Tl
/-! F9d: the law. -/
namespace Tl
open PySem L2 T3 TL PySem.Spec PyProof.Rows Ex3
local macro_rules | `(tactic| walk_at "len") => `(tactic| first | decide | (simp; done) | omega | (simp; omega))
def qws : List Int := [7, 3, 3]
theorem qws_pos : ∀ j, j < qws.length → 0 < qws.getD j 1 := by decide
theorem qws_small : ∀ j, j < qws.length → qws.getD j 1 < 2 ^ 62 := by decide
noncomputable abbrev qdr (sc : List Int) (j i : Nat) : Nat := dr (cellF sc (6 + j)) 545 qws i
theorem qdraws_eq (sc : List Int) (j : Nat) : (drawsF (cellF sc (6 + j)) 545 qws).map D.int = [.int (qdr sc j 0), .int (qdr sc j 1), .int (qdr sc j 2)] := by
  rw [draws_eq qws_pos]
  rfl
theorem qdr0 (sc : List Int) (j : Nat) : qdr sc j 0 < 7 := by
  have := (dr_get (c := cellF sc (6 + j)) (s := 545) qws_pos (show 0 < qws.length by decide)).2
  have e : qws.getD 0 1 = 7 := rfl
  rw [e] at this
  show dr (cellF sc (6 + j)) 545 qws 0 < 7
  omega
theorem qdr1 (sc : List Int) (j : Nat) : qdr sc j 1 < 3 := by
  have := (dr_get (c := cellF sc (6 + j)) (s := 545) qws_pos (show 1 < qws.length by decide)).2
  have e : qws.getD 1 1 = 3 := rfl
  rw [e] at this
  show dr (cellF sc (6 + j)) 545 qws 1 < 3
  omega
theorem qdr2 (sc : List Int) (j : Nat) : qdr sc j 2 < 3 := by
  have := (dr_get (c := cellF sc (6 + j)) (s := 545) qws_pos (show 2 < qws.length by decide)).2
  have e : qws.getD 2 1 = 3 := rfl
  rw [e] at this
  show dr (cellF sc (6 + j)) 545 qws 2 < 3
  omega
def wordQ : Nat → Qw
  | 0 => .show | 1 => .bytes | 2 => .shape | 3 => .order | 4 => .names | 5 => .order | _ => .show
theorem wordQ_get : ∀ {n : Nat}, n < 7 → L2.atI ([("show" : Str), "bytes", "shape", "order", "names", "order", "show"].map D.str) ((n : Nat) : Int) = some (.str (qS (wordQ n)))
  | 0, _ => rfl | 1, _ => rfl | 2, _ => rfl | 3, _ => rfl | 4, _ => rfl | 5, _ => rfl | 6, _ => rfl
  | n + 7, h => by omega
noncomputable def questF (sc : List Int) (names : List Str) (j : Nat) : Quest := ⟨wordQ (qdr sc j 0), names.getD (qdr sc j 1) "", names.getD (qdr sc j 2) ""⟩
noncomputable def questsF (sc : List Int) (names : List Str) (n : Nat) : List Quest := (List.range n).map (questF sc names)
theorem questsF_succ (sc : List Int) (names : List Str) (n : Nat) : questsF sc names (n + 1) = questsF sc names n ++ [questF sc names n] := by
  rw [questsF, List.range_succ, List.map_append]
  rfl
theorem getD_mem {names : List Str} {n : Nat} (h : n < names.length) : names.getD n "" ∈ names := by
  rw [List.getD_eq_getElem?_getD, List.getElem?_eq_getElem h]
  exact List.getElem_mem _
theorem getD_at {names : List Str} {n : Nat} (h : n < names.length) : L2.atI (names.map D.str) ((n : Nat) : Int) = some (.str (names.getD n "")) := by
  refine atI_nat ?_
  rw [List.getElem?_map, List.getD_eq_getElem?_getD, List.getElem?_eq_getElem h]
  rfl
theorem questsF_ok {sc : List Int} {names : List Str} (hl : names.length = 3) (hn : ∀ x ∈ names, NameOk x) (n : Nat) : ∀ q ∈ questsF sc names n, q.Ok := fun q hq => by
  obtain ⟨j, _, rfl⟩ := List.mem_map.mp hq
  exact ⟨hn _ (getD_mem (by rw [hl]; exact qdr1 sc j)), hn _ (getD_mem (by rw [hl]; exact qdr2 sc j))⟩
theorem sta_nil : StaOk [] := ⟨fun p hp => (by cases hp), fun p hp => (by cases hp), by decide⟩
noncomputable def pilF (sc : List Int) (names : List Str) (b : Form) : Nat → Pil
  | 0 => ⟨[[]], 0⟩
  | i + 1 => stepP sc names b i (pilF sc names b i)
theorem pilF_ok {sc : List Int} {names : List Str} {b : Form} (okb : b.Ok) (hl : names.length = 3) (hn : ∀ x ∈ names, NameOk x) : ∀ i, i ≤ 20 → PilOk (pilF sc names b i) i
  | 0, _ => ⟨by show 0 < 1; decide, by show 1 ≤ 1; decide, fun S hS => by rw [List.mem_singleton.mp hS]; exact sta_nil, fun S hS => by rw [List.mem_singleton.mp hS]; exact Nat.le_refl _⟩
  | i + 1, h => (step_ok okb hl hn (pilF_ok okb hl hn i (by omega)) (by omega)).2.2
def bws : List Int := [2, 12, 3, 13]
theorem bws_pos : ∀ j, j < bws.length → 0 < bws.getD j 1 := by decide
theorem bws_small : ∀ j, j < bws.length → bws.getD j 1 < 2 ^ 62 := by decide
noncomputable abbrev bdr (sc : List Int) (j : Nat) : Nat := dr (cellF sc 3) 517 bws j
theorem bdraws_eq (sc : List Int) : (drawsF (cellF sc 3) 517 bws).map D.int = [.int (bdr sc 0), .int (bdr sc 1), .int (bdr sc 2), .int (bdr sc 3)] := by
  rw [draws_eq bws_pos]
  rfl
theorem bdr_lt (sc : List Int) {j : Nat} (hj : j < 4) : (bdr sc j : Int) < bws.getD j 1 := (dr_get bws_pos (show j < bws.length from hj)).2
theorem bdr0 (sc : List Int) : bdr sc 0 < 2 := by have := bdr_lt sc (j := 0) (by decide); rw [show bws.getD 0 1 = 2 from rfl] at this; omega
theorem bdr1 (sc : List Int) : bdr sc 1 < 12 := by have := bdr_lt sc (j := 1) (by decide); rw [show bws.getD 1 1 = 12 from rfl] at this; omega
theorem bdr2 (sc : List Int) : bdr sc 2 < 3 := by have := bdr_lt sc (j := 2) (by decide); rw [show bws.getD 2 1 = 3 from rfl] at this; omega
noncomputable def baseF (sc : List Int) : Form := pointF (formF (bdr sc 0) (bdr sc 1) (bdr sc 2)) (bdr sc 3)
theorem baseF_ok (sc : List Int) : (baseF sc).Ok := pointF_ok (formF_ok (bdr1 sc)) _
end Tl
/-! F9e: the law: its def. -/
namespace Tl
open PySem L2 T3 TL PySem.Spec PyProof.Rows Ex3
local macro_rules | `(tactic| walk_at "len") => `(tactic| first | decide | (simp; done) | omega | (simp; omega))
theorem cut_to {xs : List D} {n : Nat} (h : n ≤ xs.length) : T3.cutD xs none (some ((n : Nat) : Int)) = xs.take n := by
  unfold T3.cutD
  rw [HT.sIx_nat, Nat.min_eq_left h]
  show (xs.drop 0).take (n - 0) = _
  rw [List.drop_zero, Nat.sub_zero]
section
variable {X : Cx} {N : List Str} {sc : Scope} {P : Program} {w : World} {K : PySem.W.Frag} {mg : Str → Option Value} {base : Heap} {k : Nat} {C CU CN : Addr} {R : Post} {A A0 : Anc} {M : List Cell} {ρ : Env3} {e e2 : Expr} {rest : List Stmt} {p p2 pos pos' : Pos}
def s_law : Stmt := topS 130
theorem sc_law : FnScope ["_law_script", "_law_names_here", "_law_desk", "_law_base", "_law_questions", "_law_k", "_law_piles", "_law_here", "_law_word", "_law_way", "_law_one", "_law_other", "_law_line", "_law_due_here", "_law_fresh"] ["_law_script"] (defScope s_law) := ⟨rfl, rfl, rfl, by decide +kernel, rfl, by decide +kernel, by decide +kernel⟩
def G_law (ds : List D) (d : D) : Prop := ∃ sc : List Int, sc.length ≤ 63 ∧ ds = [.ro (sc.map .int)] ∧ d = .bl true
theorem d_law (T : Tops K mg) (DM : DeskMk P w K mg base C 2) (D_l_cell : Dfn P w K mg base "_law_cell" 1 G_l_cell) (D_l_draws : Dfn P w K mg base "_law_draws" 2 G_l_draws) (D_l_pointed : Dfn P w K mg base "_law_pointed" 2 G_l_pointed) (D_l_names : Dfn P w K mg base "_law_names" 4 G_l_names) (D_l_deed : Dfn P w K mg base "_law_deed" 7 G_l_deed)
    (D_l_answered : DfnD P w K mg base CX0 C CU CN "_law_answered" 9 G_l_answered) (D_l_all : DfnD P w K mg base CX0 C CU CN "_law_all_told" 10 G_l_all) {f : Addr} {fd : FuncData} (F : Fun K "law" "law" s_law f fd) : FnOk P w K mg base CX0 11 f fd ["_law_script"] (spG K G_law) := by
  refine fnok_of F sc_law (fun ds d h => ?_) ?_
  · obtain ⟨_, _, rfl, _⟩ := h; rfl
  rintro X A hX hF hP ds d ⟨sc, hsc, rfl, rfl⟩
  have hn3 : (namesF sc 3).length = 3 := namesF_len sc 3
  have hnm : ∀ x ∈ namesF sc 3, NameOk x := namesF_ok sc 3 (by decide)
  refine sd_set hX 1 rfl (ed_call hX D_l_names (by decide) (eds_cons (ed_var hX 0 rfl rfl) (eds_cons ed_int (eds_cons ed_int eds_nil))) ⟨sc, hsc, rfl, rfl⟩) ?_
  refine sd_setDesk hX 2 DM (by decide) rfl ?_
  refine sd_set hX 3 rfl (d := formD (baseF sc)) (ed_call hX D_l_pointed (by decide) (eds_cons (ed_is (ed_call hX D_l_draws (by decide) (eds_cons (ed_call hX D_l_cell (by decide) (eds_cons (ed_var hX 0 rfl rfl) (eds_cons ed_int eds_nil)) ⟨sc, 3, hsc, by decide, rfl, rfl⟩) (eds_cons ed_int (eds_cons (ed_lst (eds_cons ed_int (eds_cons ed_int (eds_cons ed_int (eds_cons ed_int eds_nil)))) (Nat.le_of_ble_eq_true rfl)) eds_nil))) ⟨cellF sc 3, 517, bws, by decide, by decide, by decide, bws_pos, bws_small, rfl, rfl⟩) (congrArg D.lst (bdraws_eq sc))) eds_nil) ⟨bdr sc 0, bdr sc 1, bdr sc 2, bdr sc 3, [], bdr0 sc, bdr1 sc, bdr2 sc, rfl, rfl⟩) ?_
  refine sd_setF hX 4 rfl (ef_lst eds_nil (Nat.zero_le _)) ?_
  have r0 : (none : Option Slot) = none := rfl
  refine sd_forR hX 3 5 T.range (ed_is ed_int rfl) (by decide) (fun i => [.desk C ⟨.dct [] [], [], []⟩, .lst ((questsF sc (namesF sc 3) i).map Quest.d)]) (fun _ => [some (.sh (.ro (sc.map .int))), some (.sh (.lst ((namesF sc 3).map .str))), some (.cell 0), some (.sh (formD (baseF sc))), some (.cell 1), none, none, none, none, none, none, none, none, none, none]) ⟨rfl, rfl, rfl, rfl, rfl, rfl, trivial⟩ rfl ?_ ?_ hP
  · intro A' le i hi
    refine sd_asg (d := .lst [.int (qdr sc i 0), .int (qdr sc i 1), .int (qdr sc i 2)]) (ed_is (ed_call hX D_l_draws (by decide) (eds_cons (ed_call hX D_l_cell (by decide) (eds_cons (ed_var hX 0 rfl rfl) (eds_cons (ed_is (ed_bin hX ed_int (ed_var hX 5 rfl rfl) o_add) (show D.int (6 + ((i : Nat) : Int)) = D.int ((6 + i : Nat) : Int) from congrArg D.int (by omega))) eds_nil)) ⟨sc, 6 + i, hsc, by omega, rfl, rfl⟩) (eds_cons ed_int (eds_cons (ed_lst (eds_cons ed_int (eds_cons ed_int (eds_cons ed_int eds_nil))) (Nat.le_of_ble_eq_true rfl)) eds_nil))) ⟨cellF sc (6 + i), 545, qws, by decide, by decide, by decide, qws_pos, qws_small, rfl, rfl⟩) (congrArg D.lst (qdraws_eq sc i)))
      (tg_lst hX (tgs_cons (tg_name hX 8 rfl) (tgs_cons (tg_name hX 10 rfl) (tgs_cons (tg_name hX 11 rfl) tgs_nil))) rfl) ?_
    refine sd_set hX 8 rfl (ed_ix hX (ed_tup (eds_cons ed_str (eds_cons ed_str (eds_cons ed_str (eds_cons ed_str (eds_cons ed_str (eds_cons ed_str (eds_cons ed_str eds_nil))))))) (Nat.le_of_ble_eq_true rfl)) (ed_var hX 8 rfl rfl) (i_tup (wordQ_get (qdr0 sc i)))) ?_
    refine sd_append hX (ec_var hX 4 rfl rfl) rfl (d := (questF sc (namesF sc 3) i).d) (eds_cons (ed_tup (eds_cons (ed_var hX 8 rfl rfl) (eds_cons (ed_ix hX (ed_var hX 1 rfl rfl) (ed_var hX 10 rfl rfl) (i_lst (getD_at (by rw [hn3]; exact qdr1 sc i)))) (eds_cons (ed_ix hX (ed_var hX 1 rfl rfl) (ed_var hX 11 rfl rfl) (i_lst (getD_at (by rw [hn3]; exact qdr2 sc i)))) eds_nil))) (Nat.le_of_ble_eq_true rfl)) eds_nil) (by rw [List.length_map, questsF, List.length_map, List.length_range]; omega) ?_
    refine sd_nil ⟨?_, rfl, rfl, rfl, rfl, rfl, trivial⟩
    rw [questsF_succ, List.map_append]
    rfl
  refine sd_freeze 4 1 rfl rfl rfl ?_
  refine sd_set hX 6 rfl (d := .lst ((pilF sc (namesF sc 3) (baseF sc) 0).l.map staD)) (ed_lst (eds_cons ed_dnew eds_nil) (Nat.le_of_ble_eq_true rfl)) ?_
  refine sd_set hX 7 rfl ed_int ?_
  refine sd_forR hX 10 5 T.range (ed_is ed_int rfl) (by decide) (fun i => [.desk C (deskOf (pilF sc (namesF sc 3) (baseF sc) i)), .gone]) (fun i => [some (.sh (.ro (sc.map .int))), some (.sh (.lst ((namesF sc 3).map .str))), some (.cell 0), some (.sh (formD (baseF sc))), some (.sh (.lst ((questsF sc (namesF sc 3) 3).map Quest.d))), none, some (.sh (.lst ((pilF sc (namesF sc 3) (baseF sc) i).l.map staD))), some (.sh (.int (((pilF sc (namesF sc 3) (baseF sc) i).h : Nat) : Int))), none, none, none, none, none, none, none]) ⟨rfl, rfl, rfl, rfl, rfl, rfl, rfl, rfl, trivial⟩ rfl ?_ ?_ hP
  · intro A' le i hi
    have okP := pilF_ok (sc := sc) (baseF_ok sc) hn3 hnm i (by omega)
    have es : pilF sc (namesF sc 3) (baseF sc) (i + 1) = stepP sc (namesF sc 3) (baseF sc) i (pilF sc (namesF sc 3) (baseF sc) i) := rfl
    rw [es]
    generalize pilF sc (namesF sc 3) (baseF sc) i = P at *
    obtain ⟨okc, told, okN⟩ := step_ok (sc := sc) (i := i) (baseF_ok sc) hn3 hnm okP (by omega)
    have hh := okP.h
    have hlen := okP.len
    refine sd_set hX 9 rfl (d := .int (wdr sc i)) (ed_ix hX (ed_is (ed_call hX D_l_draws (by decide) (eds_cons (ed_call hX D_l_cell (by decide) (eds_cons (ed_var hX 0 rfl rfl) (eds_cons (ed_is (ed_bin hX ed_int (ed_bin hX ed_int (ed_var hX 5 rfl rfl) (o_mul (mulOk (by decide) (by omega)))) o_add) (show D.int (9 + 3 * ((i : Nat) : Int)) = D.int ((9 + 3 * i : Nat) : Int) from congrArg D.int (by omega))) eds_nil)) ⟨sc, 9 + 3 * i, hsc, by omega, rfl, rfl⟩) (eds_cons ed_int (eds_cons (ed_lst (eds_cons ed_int eds_nil) (Nat.le_of_ble_eq_true rfl)) eds_nil))) ⟨cellF sc (9 + 3 * i), 547, wws, by decide, by decide, by decide, wws_pos, wws_small, rfl, rfl⟩) (congrArg D.lst (wdraws_eq sc i))) ed_int (i_lst rfl)) ?_
    refine sd_join (fun M ρ => M = [.desk C (deskOf P), .gone] ∧ Wk [some (.sh (.ro (sc.map .int))), some (.sh (.lst ((namesF sc 3).map .str))), some (.cell 0), some (.sh (formD (baseF sc))), some (.sh (.lst ((questsF sc (namesF sc 3) 3).map Quest.d))), none, some (.sh (.lst ((stepP sc (namesF sc 3) (baseF sc) i P).l.map staD))), some (.sh (.int (((stepP sc (namesF sc 3) (baseF sc) i P).h : Nat) : Int))), none, none, none, none, some (.sh (.str (cmdL (stepC sc (namesF sc 3) (baseF sc) i P)))), some (.sh (tellD (stepO sc (namesF sc 3) (baseF sc) i P))), none] ρ) (t := decide (5 < wdr sc i ∧ 0 < P.h)) (et_is (et_w (ew_and (et_cmp hX (ed_var hX 9 rfl rfl) ed_int o_gt) (fun _ => ew_and1 (et_cmp hX (ed_var hX 7 rfl rfl) ed_int o_gt)))) ?_) (fun hc => ?_) (fun hc => ?_) (fun M ρ hI => ?_)
    · rw [Bool.eq_iff_iff]; simp; intro _; omega
    · have hc : 5 < wdr sc i ∧ 0 < P.h := of_decide_eq_true hc
      have hw : wayF sc i P = .back := by rw [wayF, if_pos hc]
      have e1 : stepC sc (namesF sc 3) (baseF sc) i P = .undo := by rw [stepC, hw]
      have e2 : stepO sc (namesF sc 3) (baseF sc) i P = .ret (.str "done") := by rw [stepO, hw]
      have e3 : stepP sc (namesF sc 3) (baseF sc) i P = ⟨P.l, P.h - 1⟩ := by rw [stepP, hw]
      rw [e1, e2, e3]
      refine sd_set hX 7 rfl (ed_is (ed_bin hX (ed_var hX 7 rfl rfl) ed_int o_sub) (show D.int (((P.h : Nat) : Int) - 1) = D.int ((P.h - 1 : Nat) : Int) from congrArg D.int (by have := hc.2; omega))) ?_
      refine sd_asg (d := .tup [.str "undo", .tup [.str "told", .str "done"]]) (ed_tup (eds_cons ed_str (eds_cons (ed_tup (eds_cons ed_str (eds_cons ed_str eds_nil)) (Nat.le_of_ble_eq_true rfl)) eds_nil)) (Nat.le_of_ble_eq_true rfl)) (tg_tup hX (tgs_cons (tg_name hX 12 rfl) (tgs_cons (tg_name hX 13 rfl) tgs_nil)) rfl) (hw := sw_const) ?_
      exact sd_nil ⟨rfl, rfl, rfl, rfl, rfl, rfl, rfl, rfl, rfl, rfl, trivial⟩
    · have hc : ¬ (5 < wdr sc i ∧ 0 < P.h) := of_decide_eq_false hc
      refine sd_if (t := decide (wdr sc i = 5 ∧ P.h + 1 < P.l.length)) (et_is (et_w (ew_and (et_cmp hX (ed_var hX 9 rfl rfl) ed_int o_eqI) (fun _ => ew_and1 (et_cmp hX (ed_bin hX (ed_var hX 7 rfl rfl) ed_int o_add) (ed_callB hX T.len b_len (eds_cons (ed_var hX 6 rfl rfl) eds_nil) c_lenL) o_lt)))) ?_) (fun hd => ?_) (fun hd => ?_)
      · rw [Bool.eq_iff_iff]; simp; omega
      · have hd : wdr sc i = 5 ∧ P.h + 1 < P.l.length := of_decide_eq_true hd
        have hw : wayF sc i P = .fore := by rw [wayF, if_neg hc, if_pos hd]
        have e1 : stepC sc (namesF sc 3) (baseF sc) i P = .again := by rw [stepC, hw]
        have e2 : stepO sc (namesF sc 3) (baseF sc) i P = .ret (.str "done") := by rw [stepO, hw]
        have e3 : stepP sc (namesF sc 3) (baseF sc) i P = ⟨P.l, P.h + 1⟩ := by rw [stepP, hw]
        rw [e1, e2, e3]
        refine sd_set hX 7 rfl (ed_is (ed_bin hX (ed_var hX 7 rfl rfl) ed_int o_add) (show D.int (((P.h : Nat) : Int) + 1) = D.int ((P.h + 1 : Nat) : Int) from congrArg D.int (by omega))) ?_
        refine sd_asg (d := .tup [.str "again", .tup [.str "told", .str "done"]]) (ed_tup (eds_cons ed_str (eds_cons (ed_tup (eds_cons ed_str (eds_cons ed_str eds_nil)) (Nat.le_of_ble_eq_true rfl)) eds_nil)) (Nat.le_of_ble_eq_true rfl)) (tg_tup hX (tgs_cons (tg_name hX 12 rfl) (tgs_cons (tg_name hX 13 rfl) tgs_nil)) rfl) (hw := sw_const) ?_
        exact sd_nil (sd_nil ⟨rfl, rfl, rfl, rfl, rfl, rfl, rfl, rfl, rfl, rfl, trivial⟩)
      · have hd : ¬ (wdr sc i = 5 ∧ P.h + 1 < P.l.length) := of_decide_eq_false hd
        have hw : wayF sc i P = .deed := by rw [wayF, if_neg hc, if_neg hd]
        have e1 : stepC sc (namesF sc 3) (baseF sc) i P = deedF sc (namesF sc 3) (baseF sc) i P := by rw [stepC, hw]
        have e2 : stepO sc (namesF sc 3) (baseF sc) i P = cmdO P.at_ (deedF sc (namesF sc 3) (baseF sc) i P) := by rw [stepO, hw]
        have e3 : stepP sc (namesF sc 3) (baseF sc) i P = if isTold (cmdO P.at_ (deedF sc (namesF sc 3) (baseF sc) i P)) then ⟨P.l.take (P.h + 1) ++ [cmdS P.at_ (deedF sc (namesF sc 3) (baseF sc) i P)], P.h + 1⟩ else P := by rw [stepP, hw]
        rw [e1, e2, e3]
        refine sd_asg (ed_call hX D_l_deed (by decide) (eds_cons (ed_var hX 0 rfl rfl) (eds_cons (ed_is (ed_bin hX ed_int (ed_bin hX ed_int (ed_var hX 5 rfl rfl) (o_mul (mulOk (by decide) (by omega)))) o_add) (show D.int (10 + 3 * ((i : Nat) : Int)) = D.int ((10 + 3 * i : Nat) : Int) from congrArg D.int (by omega))) (eds_cons (ed_var hX 1 rfl rfl) (eds_cons (ed_var hX 3 rfl rfl) (eds_cons (ed_ix hX (ed_var hX 6 rfl rfl) (ed_var hX 7 rfl rfl) (i_lst (d := staD P.at_) (atI_nat (by rw [List.getElem?_map, at_get hh]; rfl)))) eds_nil)))))
          (d := .tup [.str (cmdL (deedF sc (namesF sc 3) (baseF sc) i P)), tellD (cmdO P.at_ (deedF sc (namesF sc 3) (baseF sc) i P)), staD (cmdS P.at_ (deedF sc (namesF sc 3) (baseF sc) i P))]) ⟨sc, 10 + 3 * i, namesF sc 3, baseF sc, P.at_, hsc, by omega, hn3, hnm, baseF_ok sc, okP.ok _ (Pil.mem okP), rfl, rfl⟩)
          (tg_tup hX (tgs_cons (tg_name hX 12 rfl) (tgs_cons (tg_name hX 13 rfl) (tgs_cons (tg_name hX 14 rfl) tgs_nil))) rfl) ?_
        generalize deedF sc (namesF sc 3) (baseF sc) i P = c
        generalize cmdO P.at_ c = o
        generalize cmdS P.at_ c = S2
        cases o with
        | ret d =>
          refine sd_ifT (et_is (et_cmp hX (ed_ix hX (ed_var hX 13 rfl rfl) ed_int (i_tup (d := .str "told") rfl)) ed_str o_eqS) (by decide +kernel)) ?_
          refine sd_set hX 6 rfl (d := .lst ((P.l.take (P.h + 1) ++ [S2]).map staD)) (ed_is (ed_bin hX (ed_slice hX (ed_var hX 6 rfl rfl) eo_none (eo_some (ed_bin hX (ed_var hX 7 rfl rfl) ed_int o_add)) l_lst) (ed_lst (eds_cons (ed_var hX 14 rfl rfl) eds_nil) (Nat.le_of_ble_eq_true rfl)) (o_catL ?_)) ?_) ?_
          · rw [show ((P.h : Nat) : Int) + 1 = ((P.h + 1 : Nat) : Int) by omega, cut_to (by rw [List.length_map]; omega), List.length_take, List.length_map]
            show min _ _ + 1 ≤ 100000
            omega
          · rw [show ((P.h : Nat) : Int) + 1 = ((P.h + 1 : Nat) : Int) by omega, cut_to (by rw [List.length_map]; omega), List.map_append, List.map_take]
            rfl
          refine sd_set hX 7 rfl (ed_is (ed_bin hX (ed_var hX 7 rfl rfl) ed_int o_add) (show D.int (((P.h : Nat) : Int) + 1) = D.int ((P.h + 1 : Nat) : Int) from congrArg D.int (by omega))) ?_
          exact sd_nil (sd_nil (sd_nil ⟨rfl, rfl, rfl, rfl, rfl, rfl, rfl, rfl, rfl, rfl, trivial⟩))
        | unl =>
          refine sd_skip (et_is (et_cmp hX (ed_ix hX (ed_var hX 13 rfl rfl) ed_int (i_tup (d := .str "Unlike") rfl)) ed_str o_eqS) (by decide +kernel)) ?_
          exact sd_nil (sd_nil ⟨rfl, rfl, rfl, rfl, rfl, rfl, rfl, rfl, rfl, rfl, trivial⟩)
        | non z =>
          refine sd_skip (et_is (et_cmp hX (ed_ix hX (ed_var hX 13 rfl rfl) ed_int (i_tup (d := .str "NoName") rfl)) ed_str o_eqS) (by decide +kernel)) ?_
          exact sd_nil (sd_nil ⟨rfl, rfl, rfl, rfl, rfl, rfl, rfl, rfl, rfl, rfl, trivial⟩)
    · obtain ⟨rfl, wk⟩ := hI
      refine sd_weak ?_ wk
      have okS := okP.ok _ (Pil.mem okP)
      have okS2 := okN.ok _ (Pil.mem okN)
      have hh2 := okN.h
      have hlen2 := okN.len
      have lp : ∀ Q : Pil, Q.l.length ≤ 20 → (deskOf Q).past.length < 1000 ∧ (deskOf Q).undone.length < 1000 := fun Q hq => by
        refine ⟨?_, ?_⟩
        · show ((Q.l.take Q.h).map staD).length < 1000
          rw [List.length_map, List.length_take]; omega
        · show (((Q.l.drop (Q.h + 1)).map staD).reverse).length < 1000
          rw [List.length_reverse, List.length_map, List.length_drop]; omega
      obtain ⟨p1, p2⟩ := lp P (by omega)
      generalize stepC sc (namesF sc 3) (baseF sc) i P = c at *
      generalize stepO sc (namesF sc 3) (baseF sc) i P = o at *
      generalize stepP sc (namesF sc 3) (baseF sc) i P = Q at *
      obtain ⟨p3, p4⟩ := lp Q (by omega)
      have g : G_l_answered (deskOf P) [.str (cmdL c), tellD o] (.ret (.bl true)) (deskOf Q) := ⟨o, cmdL c, ⟨P.at_, c, okS, okc, rfl, p1, p2, rfl, told⟩, rfl, rfl⟩
      have g2 : G_l_all (deskOf Q) [.lst ((questsF sc (namesF sc 3) 3).map Quest.d), staD Q.at_] (.ret (.bl true)) (deskOf Q) := ⟨Q.at_, _, okS2, questsF_ok hn3 hnm 3, rfl, p3, p4, rfl, rfl, rfl⟩
      refine sd_skipM (M' := [.desk C (deskOf Q), .gone]) (tm_or2 (M1 := [.desk C (deskOf Q), .gone]) (tm_not (t := true) (tm_val (em_call (M := [.desk C (deskOf P), .gone]) (jc := 0) (s := deskOf P) (CX := CX0) (CU := CU) (CN := CN) (A0 := A') (s' := deskOf Q) (out := .ret (.bl true)) hX D_l_answered (by decide) (ec_var hX 2 rfl rfl) rfl (eds_cons (ed_var hX 12 rfl rfl) (eds_cons (ed_var hX 13 rfl rfl) eds_nil)) g rz0 .self)))
        (tm_not (t := true) (tm_val (em_call (M := [.desk C (deskOf Q), .gone]) (jc := 0) (s := deskOf Q) (CX := CX0) (CU := CU) (CN := CN) (A0 := A') (s' := deskOf Q) (out := .ret (.bl true)) hX D_l_all (by decide) (ec_var hX 2 rfl rfl) rfl (eds_cons (ed_var hX 4 rfl rfl) (eds_cons (ed_ix hX (ed_var hX 6 rfl rfl) (ed_var hX 7 rfl rfl) (i_lst (d := staD Q.at_) (atI_nat (by rw [List.getElem?_map, at_get hh2]; rfl)))) eds_nil)) g2 rz0 .self)))) ?_
      exact sd_nil ⟨rfl, rfl, rfl, rfl, rfl, rfl, rfl, rfl, trivial⟩
  · exact sd_ret ed_bl rfl
end
end Tl
set_option maxHeartbeats 0

/-! H2: the head's facts, the chain of the promises. -/
namespace Hd
open PySem PySem.Spec PyProof.Rows L2 T3 Tl TL Ex3
section
variable {P : Program} {w : World} {K : PySem.W.Frag} {h : Heap} {mg : Str → Option Value} {base : Heap}
theorem fun_of {x q : Str} {st : Stmt} {f : Addr} {fd : FuncData} (F : FunD K x q (defArgs st) (defBody st) (defScope st) [] [] f fd) : Fun K x q st f fd := by
  obtain ⟨oc, od, dV, kV, doc, pm, an, cdv, ct, osl, e, lk, hcd, hD, _⟩ := F.ex
  rcases hD with ⟨_, rfl⟩ | ⟨z, _⟩
  · exact ⟨⟨oc, od, kV, doc, pm, an, cdv, ct, osl, e, lk, hcd⟩, F.kp⟩
  · exact absurd rfl z
theorem SaysY.t (c : SaysY fa fn ts ex w K) : He.SaysT fa fn ts w K := congrArg (fun z : AlY => z.1) c
theorem SaysY.e (c : SaysY fa fn ts ex w K) (i : Nat) {f : PySem.W.Frag → Bool} (hi : ex[i]? = some f) : f K = true := by
  have e : (ex.all fun f => f K) = true := congrArg (fun z : AlY => z.2) c
  exact List.all_eq_true.mp e f (List.mem_of_getElem? hi)
theorem SaysY.a (c : SaysY fa fn ts ex w K) (i : Nat) {f : He.Fa} (hi : fa[i]? = some f) : f.ok K = true := c.t.d.fact i hi
theorem gF (X : K.In h) (G : h.Ns mainGlobals mg) (c : SaysY fa fn ts ex w K) (i j : Nat) {x nm : Str} {st : Stmt} (hi : fn[i]? = some (dG x nm st)) (hj : fa[j]? = some (.glo x)) : ∃ fd, Fun K nm nm st (He.ga K x) fd ∧ mg x = some (.ref (He.ga K x)) := by
  obtain ⟨fd, F⟩ := c.t.d.def_ i hi
  exact ⟨fd, fun_of F, He.glo_ok X G (c.a j hj)⟩
theorem gM (c : SaysY fa fn ts ex w K) (i : Nat) {C m q : Str} {st : Stmt} (hi : fn[i]? = some (dM C m q st)) : ∃ fd, Fun K m q st (He.ma K (He.ga K C) m) fd := by
  obtain ⟨fd, F⟩ := c.t.d.def_ i hi
  exact ⟨fd, fun_of F⟩
theorem gc_int {x : Str} {i : Int} (hm : ∃ t, mg x = some (.int i t)) : GC K mg x (.int i) := by
  obtain ⟨t, e⟩ := hm
  exact ⟨_, .int i, e, ⟨t, rfl⟩, fun _ => .int i⟩
theorem gc_str {x z : Str} (hm : ∃ t, mg x = some (.str z t)) : GC K mg x (.str z) := by
  obtain ⟨t, e⟩ := hm
  exact ⟨_, .str z, e, ⟨t, rfl⟩, fun _ => .str z⟩
theorem gc_tupS {x : Str} {zs : List Str} (hm : mg x = some (.ref (He.ga K x))) (h : He.tupB K x (zs.map He.Dv.str) = true) : GC K mg x (.tup (zs.map D.str)) :=
  ⟨_, .ref (He.ga K x), hm, rfl, fun H => .tup (He.tupB_ok h H) (by rw [List.map_map]; exact Reps.strs zs)⟩
theorem gc_tupI {x : Str} {zs : List Int} (hm : mg x = some (.ref (He.ga K x))) (h : He.tupB K x (zs.map He.Dv.int) = true) : GC K mg x (.tup (zs.map D.int)) :=
  ⟨_, .ref (He.ga K x), hm, rfl, fun H => .tup (He.tupB_ok h H) (by rw [List.map_map]; exact Reps.ints zs)⟩
theorem rowB_ok {x : Str} {es : Array DictEntry} {n : Nat} (D : KDict K w (He.ga K x) es n) (hm : mg x = some (.ref (He.ga K x))) {q : Str × List Str} (hq : rowB K x q = true) : KTab K w mg x q.1 (.tup (q.2.map .str)) := by
  unfold rowB at hq
  split at hq
  · rename_i a e
    split at hq
    · rename_i cc od its m osl lk
      obtain ⟨h1, h2⟩ := He.ba hq
      obtain ⟨h3, h4⟩ := He.ba h2
      exact ⟨_, .ref a, hm, D.low, ⟨es, n, .ref a, D.at_, D.lit, e, rfl⟩, fun H => .tup (.inr ⟨_, its, m, lk, congrArg Value.type (of_decide_eq_true h1), rfl, of_decide_eq_true h3, He.relAll_ok h4⟩) (Reps.strs q.2)⟩
    · cases hq
  · cases hq
theorem oexB_ok {C : Addr} (hq : oexB K C = true) : OexC K C := by
  obtain ⟨h0, h1⟩ := He.ba hq
  obtain ⟨h1, h2⟩ := He.ba h1
  obtain ⟨h2, h3⟩ := He.ba h2
  obtain ⟨h3, h4⟩ := He.ba h3
  refine ⟨?_, He.eqO_ok h1, of_decide_eq_true h2, of_decide_eq_true h3, h4⟩
  split at h0
  · rename_i dd cd sl ho
    split at h0
    · rename_i C' bm k0 k1 k2 k3 n k5 hm hs
      obtain ⟨g1, y1⟩ := He.ba h0
      obtain ⟨g2, y2⟩ := He.ba y1
      obtain ⟨g3, y3⟩ := He.ba y2
      obtain ⟨g4, g5⟩ := He.ba y3
      clear h0 y1 y2 y3
      obtain rfl := of_decide_eq_true g1
      obtain rfl := of_decide_eq_true g2
      obtain ⟨nm, bs, mro, ns, qn, hd, sn, sub, ab, col, del⟩ := cd
      dsimp only at hm g3 g4
      subst hm g3
      have gd : del = false := by cases del <;> first | rfl | cases g4
      subst gd
      have hsl : sl = #[k0, k1, k2, k3, some (.builtin "ValueError.__new__"), k5] := by
        obtain ⟨l⟩ := sl
        simp only at hs
        rw [hs]
      subst hsl
      exact ⟨nm, qn, ns, bs, bm, sn, sub, ab, col, dd, k0, k1, k2, k3, k5, ho, g5⟩
    · cases h0
  · cases h0
theorem excCB_ok {D : Addr} (hq : excCB K D = true) : ExcC K D := by
  obtain ⟨h1, hq⟩ := He.ba hq
  obtain ⟨h2, hq⟩ := He.ba hq
  obtain ⟨h3, hq⟩ := He.ba hq
  obtain ⟨h4, hq⟩ := He.ba hq
  obtain ⟨h5, hq⟩ := He.ba hq
  obtain ⟨h6, hq⟩ := He.ba hq
  obtain ⟨h7, h8⟩ := He.ba hq
  exact ⟨He.eqO_ok h1, He.eqO_ok h2, of_decide_eq_true h3, h4, He.eqO_ok h5, He.eqO_ok h6, of_decide_eq_true h7, of_decide_eq_true h8⟩
theorem ownB_ok {L : Addr} (hq : ownB K L = true) : OwnInit K L := by
  obtain ⟨h1, hq⟩ := He.ba hq
  obtain ⟨h2, h3⟩ := He.ba hq
  refine ⟨He.eqO_ok h1, h2, ?_⟩
  split at h3
  · rename_i n e
    rw [of_decide_eq_true h3] at e
    exact e
  · cases h3
theorem sorts_eq : sortNs = sorts := rfl
theorem tops_ok (X : K.In h) (G : h.Ns mainGlobals mg) (c : SaysY fa fn ts ex w K) : Tops K mg := ⟨He.free_ok X G (c.a 0 (f := .free (PySem.Str.ofString "range")) rfl), He.free_ok X G (c.a 1 (f := .free (PySem.Str.ofString "len")) rfl), He.free_ok X G (c.a 2 (f := .free (PySem.Str.ofString "abs")) rfl), He.free_ok X G (c.a 3 (f := .free (PySem.Str.ofString "int")) rfl), He.free_ok X G (c.a 4 (f := .free (PySem.Str.ofString "str")) rfl), He.free_ok X G (c.a 5 (f := .free (PySem.Str.ofString "tuple")) rfl), He.free_ok X G (c.a 6 (f := .free (PySem.Str.ofString "all")) rfl), He.free_ok X G (c.a 7 (f := .free (PySem.Str.ofString "enumerate")) rfl), He.free_ok X G (c.a 8 (f := .free (PySem.Str.ofString "zip")) rfl), He.free_ok X G (c.a 9 (f := .free (PySem.Str.ofString "max")) rfl), He.free_ok X G (c.a 10 (f := .free (PySem.Str.ofString "min")) rfl), He.free_ok X G (c.a 11 (f := .free (PySem.Str.ofString "isinstance")) rfl), He.free_ok X G (c.a 12 (f := .free (PySem.Str.ofString "dict")) rfl), He.free_ok X G (c.a 13 (f := .free (PySem.Str.ofString "list")) rfl), He.free_ok X G (c.a 14 (f := .free (PySem.Str.ofString "sorted")) rfl), He.free_ok X G (c.a 15 (f := .free (PySem.Str.ofString "set")) rfl), gc_tupS (zs := [(PySem.Str.ofString "packed"), (PySem.Str.ofString "spread")]) (He.glo_ok X G (c.a 26 (f := .glo (PySem.Str.ofString "KINDS")) rfl)) (c.e 0 rfl), gc_tupS (zs := [(PySem.Str.ofString "none"), (PySem.Str.ofString "end"), (PySem.Str.ofString "tens")]) (He.glo_ok X G (c.a 27 (f := .glo (PySem.Str.ofString "SIGNS")) rfl)) (c.e 1 rfl), gc_int (He.int_ok X G (c.a 17 (f := .int (PySem.Str.ofString "MOST_FIGURES_shapes") 12) rfl)), gc_int (He.int_ok X G (c.a 18 (f := .int (PySem.Str.ofString "PLUS_HALF") 12) rfl)), gc_int (He.int_ok X G (c.a 19 (f := .int (PySem.Str.ofString "MINUS_HALF") 13) rfl)), gc_int (He.int_ok X G (c.a 20 (f := .int (PySem.Str.ofString "ZONE_HALF") 15) rfl)), gc_tupI (zs := [11, 13]) (He.glo_ok X G (c.a 28 (f := .glo (PySem.Str.ofString "MINUS_HALVES")) rfl)) (c.e 2 rfl), gc_str (He.str_ok X G (c.a 23 (f := .str (PySem.Str.ofString "SIGNS_OF_HALVES") (PySem.Str.ofString "0123456789ABCDEF")) rfl)), gc_str (He.str_ok X G (c.a 24 (f := .str (PySem.Str.ofString "LETTERS") (PySem.Str.ofString "abcdefghijklmnopqrstuvwxyz")) rfl)), gc_str (He.str_ok X G (c.a 25 (f := .str (PySem.Str.ofString "FIGURES_desk") (PySem.Str.ofString "0123456789")) rfl)), gc_int (He.int_ok X G (c.a 21 (f := .int (PySem.Str.ofString "MOST_LETTERS") 12) rfl)), gc_int (He.int_ok X G (c.a 22 (f := .int (PySem.Str.ofString "MOST_FIGURES_desk") 12) rfl))⟩
theorem tabs_ok (X : K.In h) (G : h.Ns mainGlobals mg) (c : SaysY fa fn ts ex w K) : Tabs2 K w mg := by
  obtain ⟨es, n, DF⟩ := c.t.tab 0 (t := (fun K => He.ga K (PySem.Str.ofString "FORMS"), [(PySem.Str.ofString "keep"), (PySem.Str.ofString "lay"), (PySem.Str.ofString "sum"), (PySem.Str.ofString "less"), (PySem.Str.ofString "times"), (PySem.Str.ofString "over"), (PySem.Str.ofString "move"), (PySem.Str.ofString "turn"), (PySem.Str.ofString "drop"), (PySem.Str.ofString "undo"), (PySem.Str.ofString "again"), (PySem.Str.ofString "names"), (PySem.Str.ofString "show"), (PySem.Str.ofString "bytes"), (PySem.Str.ofString "shape"), (PySem.Str.ofString "order"), (PySem.Str.ofString "look"), (PySem.Str.ofString "twos")])) rfl
  obtain ⟨es2, n2, DR⟩ := c.t.tab 1 (t := (fun K => He.ga K (PySem.Str.ofString "READERS"), [(PySem.Str.ofString "name"), (PySem.Str.ofString "one"), (PySem.Str.ofString "by"), (PySem.Str.ofString "many"), (PySem.Str.ofString "rule")])) rfl
  have mF := He.glo_ok X G (c.a 29 (f := .glo (PySem.Str.ofString "FORMS")) rfl)
  have mR := He.glo_ok X G (c.a 30 (f := .glo (PySem.Str.ofString "READERS")) rfl)
  have mN := He.glo_ok X G (c.a 72 (f := .glo (PySem.Str.ofString "read_name")) rfl)
  have r := c.e 4 (f := readersB) rfl
  have rr : ∀ k ∈ [Str.ofString "name", Str.ofString "one"], KFun K w mg (PySem.Str.ofString "READERS") k (PySem.Str.ofString "read_name") := fun k hk => by
    have e := He.eqO_ok (List.all_eq_true.mp r k hk)
    exact ⟨_, _, mR, ⟨es2, n2, _, DR.at_, DR.lit, e, rfl⟩, mN⟩
  exact ⟨fun p hp => rowB_ok DF mF (List.all_eq_true.mp (c.e 3 (f := formsB) rfl) p hp), rr _ (by simp), rr _ (by simp)⟩

theorem deskF_ok (c : SaysY fa fn ts ex w K) : DeskF K (He.ga K (PySem.Str.ofString "Desk")) := ⟨He.cls_ok (c.a 113 (f := .cls (PySem.Str.ofString "Desk")) rfl), He.noat_ok (c.a 114 (f := .noat (PySem.Str.ofString "Desk") (PySem.Str.ofString "names")) rfl), He.noat_ok (c.a 115 (f := .noat (PySem.Str.ofString "Desk") (PySem.Str.ofString "past")) rfl), He.noat_ok (c.a 116 (f := .noat (PySem.Str.ofString "Desk") (PySem.Str.ofString "undone")) rfl)⟩
theorem exF_ok (X : K.In h) (G : h.Ns mainGlobals mg) (c : SaysY fa fn ts ex w K) : ExF K mg (He.ga K (PySem.Str.ofString "Unlike")) (He.ga K (PySem.Str.ofString "NoName")) := by
  obtain ⟨e1, e2, e3, e4⟩ := He.exc_ok (c.a 125 (f := .exc (PySem.Str.ofString "Unlike")) rfl)
  exact ⟨He.glo_ok X G (c.a 45 (f := .glo (PySem.Str.ofString "Unlike")) rfl), e2, e1, e3, e4, He.glo_ok X G (c.a 42 (f := .glo (PySem.Str.ofString "NoName")) rfl), oexB_ok (c.e 5 rfl), He.noat_ok (c.a 126 (f := .noat (PySem.Str.ofString "NoName") (PySem.Str.ofString "name")) rfl)⟩
theorem trF_ok (X : K.In h) (G : h.Ns mainGlobals mg) (c : SaysY fa fn ts ex w K) : TrF K mg (He.ga K (PySem.Str.ofString "Unlike")) (He.ga K (PySem.Str.ofString "NoName")) := ⟨⟨_, _, _, _, _, He.glo_ok X G (c.a 33 (f := .glo (PySem.Str.ofString "NoShape")) rfl), He.glo_ok X G (c.a 39 (f := .glo (PySem.Str.ofString "TooLong")) rfl), He.glo_ok X G (c.a 34 (f := .glo (PySem.Str.ofString "NoFit")) rfl), He.glo_ok X G (c.a 35 (f := .glo (PySem.Str.ofString "Wrong")) rfl), He.glo_ok X G (c.a 32 (f := .glo (PySem.Str.ofString "LoftError")) rfl), He.exm_ok (c.a 127 (f := .exm (PySem.Str.ofString "Unlike") (PySem.Str.ofString "NoName") false) rfl), He.exm_ok (c.a 128 (f := .exm (PySem.Str.ofString "Unlike") (PySem.Str.ofString "NoShape") false) rfl), of_decide_eq_true (c.e 6 (f := fun K => decide (PySem.W.exmAny K (.ref (He.ga K (PySem.Str.ofString "Unlike"))) [.ref (He.ga K (PySem.Str.ofString "TooLong")), .ref (He.ga K (PySem.Str.ofString "NoFit"))] = some false)) rfl), He.exm_ok (c.a 129 (f := .exm (PySem.Str.ofString "Unlike") (PySem.Str.ofString "Wrong") false) rfl), He.exm_ok (c.a 130 (f := .exm (PySem.Str.ofString "Unlike") (PySem.Str.ofString "LoftError") true) rfl), He.exm_ok (c.a 131 (f := .exm (PySem.Str.ofString "NoName") (PySem.Str.ofString "NoName") true) rfl)⟩, xfB_ok (c.e 7 rfl)⟩
theorem sortF_Unlike (X : K.In h) (G : h.Ns mainGlobals mg) (c : SaysY fa fn ts ex w K) : SortF K mg (He.ga K (PySem.Str.ofString "Unlike")) (PySem.Str.ofString "Unlike") := by
  obtain ⟨h1, h2⟩ := He.ba (c.e 8 (f := fun K => sortB K (PySem.Str.ofString "Unlike")) rfl)
  obtain ⟨h2, h3⟩ := He.ba h2
  obtain ⟨h3, h4⟩ := He.ba h3
  exact ⟨excCB_ok h1, fun x hx => by
    obtain ⟨a1, a2⟩ := He.ba (List.all_eq_true.mp h2 x hx)
    exact ⟨_, He.glo_ok X G a1, of_decide_eq_true a2⟩, ⟨_, He.glo_ok X G (c.a 32 (f := .glo (PySem.Str.ofString "LoftError")) rfl), of_decide_eq_true h3⟩, of_decide_eq_true h4, He.free_ok X G (c.a 16 (f := .free (PySem.Str.ofString "ValueError")) rfl), He.free_ok X G (c.a 11 (f := .free (PySem.Str.ofString "isinstance")) rfl), by decide +kernel⟩
theorem sortF_NoName (X : K.In h) (G : h.Ns mainGlobals mg) (c : SaysY fa fn ts ex w K) : SortF K mg (He.ga K (PySem.Str.ofString "NoName")) (PySem.Str.ofString "NoName") := by
  obtain ⟨h1, h2⟩ := He.ba (c.e 9 (f := fun K => sortB K (PySem.Str.ofString "NoName")) rfl)
  obtain ⟨h2, h3⟩ := He.ba h2
  obtain ⟨h3, h4⟩ := He.ba h3
  exact ⟨excCB_ok h1, fun x hx => by
    obtain ⟨a1, a2⟩ := He.ba (List.all_eq_true.mp h2 x hx)
    exact ⟨_, He.glo_ok X G a1, of_decide_eq_true a2⟩, ⟨_, He.glo_ok X G (c.a 32 (f := .glo (PySem.Str.ofString "LoftError")) rfl), of_decide_eq_true h3⟩, of_decide_eq_true h4, He.free_ok X G (c.a 16 (f := .free (PySem.Str.ofString "ValueError")) rfl), He.free_ok X G (c.a 11 (f := .free (PySem.Str.ofString "isinstance")) rfl), by decide +kernel⟩
theorem f_halves_of (X : K.In h) (G : h.Ns mainGlobals mg) (c : SaysY fa fn ts ex w K) : ∃ fd, Fun K (PySem.Str.ofString "halves_of") (PySem.Str.ofString "halves_of") s_halves_of (He.ga K (PySem.Str.ofString "halves_of")) fd ∧ Binds K fd [(PySem.Str.ofString "form")] [] ∧ mg (PySem.Str.ofString "halves_of") = some (.ref (He.ga K (PySem.Str.ofString "halves_of"))) := by
  obtain ⟨fd, F, m⟩ := gF X G c 0 48 (x := (PySem.Str.ofString "halves_of")) (nm := (PySem.Str.ofString "halves_of")) (st := s_halves_of) rfl rfl
  exact ⟨fd, F, F.binds fun _ _ _ _ _ _ us hl => match us, hl with | [_], _ => rfl, m⟩
theorem f_power (X : K.In h) (G : h.Ns mainGlobals mg) (c : SaysY fa fn ts ex w K) : ∃ fd, Fun K (PySem.Str.ofString "power") (PySem.Str.ofString "power") s_power (He.ga K (PySem.Str.ofString "power")) fd ∧ Binds K fd [(PySem.Str.ofString "base"), (PySem.Str.ofString "many")] [] ∧ mg (PySem.Str.ofString "power") = some (.ref (He.ga K (PySem.Str.ofString "power"))) := by
  obtain ⟨fd, F, m⟩ := gF X G c 1 49 (x := (PySem.Str.ofString "power")) (nm := (PySem.Str.ofString "power")) (st := s_power) rfl rfl
  exact ⟨fd, F, F.binds fun _ _ _ _ _ _ us hl => match us, hl with | [_, _], _ => rfl, m⟩
theorem f_figures_of (X : K.In h) (G : h.Ns mainGlobals mg) (c : SaysY fa fn ts ex w K) : ∃ fd, Fun K (PySem.Str.ofString "figures_of") (PySem.Str.ofString "figures_of") s_figures_of (He.ga K (PySem.Str.ofString "figures_of")) fd ∧ Binds K fd [(PySem.Str.ofString "number"), (PySem.Str.ofString "many")] [] ∧ mg (PySem.Str.ofString "figures_of") = some (.ref (He.ga K (PySem.Str.ofString "figures_of"))) := by
  obtain ⟨fd, F, m⟩ := gF X G c 2 50 (x := (PySem.Str.ofString "figures_of")) (nm := (PySem.Str.ofString "figures_of")) (st := s_figures_of) rfl rfl
  exact ⟨fd, F, F.binds fun _ _ _ _ _ _ us hl => match us, hl with | [_, _], _ => rfl, m⟩
theorem f_number_by (X : K.In h) (G : h.Ns mainGlobals mg) (c : SaysY fa fn ts ex w K) : ∃ fd, Fun K (PySem.Str.ofString "number_by") (PySem.Str.ofString "number_by") s_number_by (He.ga K (PySem.Str.ofString "number_by")) fd ∧ Binds K fd [(PySem.Str.ofString "base"), (PySem.Str.ofString "digits")] [] ∧ mg (PySem.Str.ofString "number_by") = some (.ref (He.ga K (PySem.Str.ofString "number_by"))) := by
  obtain ⟨fd, F, m⟩ := gF X G c 3 51 (x := (PySem.Str.ofString "number_by")) (nm := (PySem.Str.ofString "number_by")) (st := s_number_by) rfl rfl
  exact ⟨fd, F, F.binds fun _ _ _ _ _ _ us hl => match us, hl with | [_, _], _ => rfl, m⟩
theorem f_shape (X : K.In h) (G : h.Ns mainGlobals mg) (c : SaysY fa fn ts ex w K) : ∃ fd, Fun K (PySem.Str.ofString "shape") (PySem.Str.ofString "shape") s_shape (He.ga K (PySem.Str.ofString "shape")) fd ∧ Binds K fd [(PySem.Str.ofString "kind"), (PySem.Str.ofString "figures"), (PySem.Str.ofString "sign"), (PySem.Str.ofString "point")] [] ∧ mg (PySem.Str.ofString "shape") = some (.ref (He.ga K (PySem.Str.ofString "shape"))) := by
  obtain ⟨fd, F, m⟩ := gF X G c 4 52 (x := (PySem.Str.ofString "shape")) (nm := (PySem.Str.ofString "shape")) (st := s_shape) rfl rfl
  exact ⟨fd, F, F.binds fun _ _ _ _ _ _ us hl => match us, hl with | [_, _, _, _], _ => rfl, m⟩
theorem f_least_of (X : K.In h) (G : h.Ns mainGlobals mg) (c : SaysY fa fn ts ex w K) : ∃ fd, Fun K (PySem.Str.ofString "least_of") (PySem.Str.ofString "least_of") s_least_of (He.ga K (PySem.Str.ofString "least_of")) fd ∧ Binds K fd [(PySem.Str.ofString "form")] [] ∧ mg (PySem.Str.ofString "least_of") = some (.ref (He.ga K (PySem.Str.ofString "least_of"))) := by
  obtain ⟨fd, F, m⟩ := gF X G c 5 53 (x := (PySem.Str.ofString "least_of")) (nm := (PySem.Str.ofString "least_of")) (st := s_least_of) rfl rfl
  exact ⟨fd, F, F.binds fun _ _ _ _ _ _ us hl => match us, hl with | [_], _ => rfl, m⟩
theorem f_most_of (X : K.In h) (G : h.Ns mainGlobals mg) (c : SaysY fa fn ts ex w K) : ∃ fd, Fun K (PySem.Str.ofString "most_of") (PySem.Str.ofString "most_of") s_most_of (He.ga K (PySem.Str.ofString "most_of")) fd ∧ Binds K fd [(PySem.Str.ofString "form")] [] ∧ mg (PySem.Str.ofString "most_of") = some (.ref (He.ga K (PySem.Str.ofString "most_of"))) := by
  obtain ⟨fd, F, m⟩ := gF X G c 6 54 (x := (PySem.Str.ofString "most_of")) (nm := (PySem.Str.ofString "most_of")) (st := s_most_of) rfl rfl
  exact ⟨fd, F, F.binds fun _ _ _ _ _ _ us hl => match us, hl with | [_], _ => rfl, m⟩
theorem f_folded (X : K.In h) (G : h.Ns mainGlobals mg) (c : SaysY fa fn ts ex w K) : ∃ fd, Fun K (PySem.Str.ofString "folded") (PySem.Str.ofString "folded") s_folded (He.ga K (PySem.Str.ofString "folded")) fd ∧ Binds K fd [(PySem.Str.ofString "form"), (PySem.Str.ofString "number")] [] ∧ mg (PySem.Str.ofString "folded") = some (.ref (He.ga K (PySem.Str.ofString "folded"))) := by
  obtain ⟨fd, F, m⟩ := gF X G c 7 55 (x := (PySem.Str.ofString "folded")) (nm := (PySem.Str.ofString "folded")) (st := s_folded) rfl rfl
  exact ⟨fd, F, F.binds fun _ _ _ _ _ _ us hl => match us, hl with | [_, _], _ => rfl, m⟩
theorem f_fits (X : K.In h) (G : h.Ns mainGlobals mg) (c : SaysY fa fn ts ex w K) : ∃ fd, Fun K (PySem.Str.ofString "fits") (PySem.Str.ofString "fits") s_fits (He.ga K (PySem.Str.ofString "fits")) fd ∧ Binds K fd [(PySem.Str.ofString "form"), (PySem.Str.ofString "number")] [] ∧ mg (PySem.Str.ofString "fits") = some (.ref (He.ga K (PySem.Str.ofString "fits"))) := by
  obtain ⟨fd, F, m⟩ := gF X G c 8 56 (x := (PySem.Str.ofString "fits")) (nm := (PySem.Str.ofString "fits")) (st := s_fits) rfl rfl
  exact ⟨fd, F, F.binds fun _ _ _ _ _ _ us hl => match us, hl with | [_, _], _ => rfl, m⟩
theorem f_sign_half (X : K.In h) (G : h.Ns mainGlobals mg) (c : SaysY fa fn ts ex w K) : ∃ fd, Fun K (PySem.Str.ofString "sign_half") (PySem.Str.ofString "sign_half") s_sign_half (He.ga K (PySem.Str.ofString "sign_half")) fd ∧ Binds K fd [(PySem.Str.ofString "number")] [] ∧ mg (PySem.Str.ofString "sign_half") = some (.ref (He.ga K (PySem.Str.ofString "sign_half"))) := by
  obtain ⟨fd, F, m⟩ := gF X G c 9 57 (x := (PySem.Str.ofString "sign_half")) (nm := (PySem.Str.ofString "sign_half")) (st := s_sign_half) rfl rfl
  exact ⟨fd, F, F.binds fun _ _ _ _ _ _ us hl => match us, hl with | [_], _ => rfl, m⟩
theorem f_kept_halves (X : K.In h) (G : h.Ns mainGlobals mg) (c : SaysY fa fn ts ex w K) : ∃ fd, Fun K (PySem.Str.ofString "kept_halves") (PySem.Str.ofString "kept_halves") s_kept_halves (He.ga K (PySem.Str.ofString "kept_halves")) fd ∧ Binds K fd [(PySem.Str.ofString "form"), (PySem.Str.ofString "number")] [] ∧ mg (PySem.Str.ofString "kept_halves") = some (.ref (He.ga K (PySem.Str.ofString "kept_halves"))) := by
  obtain ⟨fd, F, m⟩ := gF X G c 10 58 (x := (PySem.Str.ofString "kept_halves")) (nm := (PySem.Str.ofString "kept_halves")) (st := s_kept_halves) rfl rfl
  exact ⟨fd, F, F.binds fun _ _ _ _ _ _ us hl => match us, hl with | [_, _], _ => rfl, m⟩
theorem f_kept (X : K.In h) (G : h.Ns mainGlobals mg) (c : SaysY fa fn ts ex w K) : ∃ fd, Fun K (PySem.Str.ofString "kept") (PySem.Str.ofString "kept") s_kept (He.ga K (PySem.Str.ofString "kept")) fd ∧ Binds K fd [(PySem.Str.ofString "form"), (PySem.Str.ofString "number")] [] ∧ mg (PySem.Str.ofString "kept") = some (.ref (He.ga K (PySem.Str.ofString "kept"))) := by
  obtain ⟨fd, F, m⟩ := gF X G c 11 59 (x := (PySem.Str.ofString "kept")) (nm := (PySem.Str.ofString "kept")) (st := s_kept) rfl rfl
  exact ⟨fd, F, F.binds fun _ _ _ _ _ _ us hl => match us, hl with | [_, _], _ => rfl, m⟩
theorem f_halves_in (X : K.In h) (G : h.Ns mainGlobals mg) (c : SaysY fa fn ts ex w K) : ∃ fd, Fun K (PySem.Str.ofString "halves_in") (PySem.Str.ofString "halves_in") s_halves_in (He.ga K (PySem.Str.ofString "halves_in")) fd ∧ Binds K fd [(PySem.Str.ofString "row")] [] ∧ mg (PySem.Str.ofString "halves_in") = some (.ref (He.ga K (PySem.Str.ofString "halves_in"))) := by
  obtain ⟨fd, F, m⟩ := gF X G c 12 60 (x := (PySem.Str.ofString "halves_in")) (nm := (PySem.Str.ofString "halves_in")) (st := s_halves_in) rfl rfl
  exact ⟨fd, F, F.binds fun _ _ _ _ _ _ us hl => match us, hl with | [_], _ => rfl, m⟩
theorem f_duties (X : K.In h) (G : h.Ns mainGlobals mg) (c : SaysY fa fn ts ex w K) : ∃ fd, Fun K (PySem.Str.ofString "duties") (PySem.Str.ofString "duties") s_duties (He.ga K (PySem.Str.ofString "duties")) fd ∧ Binds K fd [(PySem.Str.ofString "form")] [] ∧ mg (PySem.Str.ofString "duties") = some (.ref (He.ga K (PySem.Str.ofString "duties"))) := by
  obtain ⟨fd, F, m⟩ := gF X G c 13 61 (x := (PySem.Str.ofString "duties")) (nm := (PySem.Str.ofString "duties")) (st := s_duties) rfl rfl
  exact ⟨fd, F, F.binds fun _ _ _ _ _ _ us hl => match us, hl with | [_], _ => rfl, m⟩
theorem f_half_right (X : K.In h) (G : h.Ns mainGlobals mg) (c : SaysY fa fn ts ex w K) : ∃ fd, Fun K (PySem.Str.ofString "half_right") (PySem.Str.ofString "half_right") s_half_right (He.ga K (PySem.Str.ofString "half_right")) fd ∧ Binds K fd [(PySem.Str.ofString "duty"), (PySem.Str.ofString "half")] [] ∧ mg (PySem.Str.ofString "half_right") = some (.ref (He.ga K (PySem.Str.ofString "half_right"))) := by
  obtain ⟨fd, F, m⟩ := gF X G c 14 62 (x := (PySem.Str.ofString "half_right")) (nm := (PySem.Str.ofString "half_right")) (st := s_half_right) rfl rfl
  exact ⟨fd, F, F.binds fun _ _ _ _ _ _ us hl => match us, hl with | [_, _], _ => rfl, m⟩
theorem f_caught (X : K.In h) (G : h.Ns mainGlobals mg) (c : SaysY fa fn ts ex w K) : ∃ fd, Fun K (PySem.Str.ofString "caught") (PySem.Str.ofString "caught") s_caught (He.ga K (PySem.Str.ofString "caught")) fd ∧ Binds K fd [(PySem.Str.ofString "form"), (PySem.Str.ofString "row")] [] ∧ mg (PySem.Str.ofString "caught") = some (.ref (He.ga K (PySem.Str.ofString "caught"))) := by
  obtain ⟨fd, F, m⟩ := gF X G c 15 63 (x := (PySem.Str.ofString "caught")) (nm := (PySem.Str.ofString "caught")) (st := s_caught) rfl rfl
  exact ⟨fd, F, F.binds fun _ _ _ _ _ _ us hl => match us, hl with | [_, _], _ => rfl, m⟩
theorem f_number_of (X : K.In h) (G : h.Ns mainGlobals mg) (c : SaysY fa fn ts ex w K) : ∃ fd, Fun K (PySem.Str.ofString "number_of") (PySem.Str.ofString "number_of") s_number_of (He.ga K (PySem.Str.ofString "number_of")) fd ∧ Binds K fd [(PySem.Str.ofString "form"), (PySem.Str.ofString "row")] [] ∧ mg (PySem.Str.ofString "number_of") = some (.ref (He.ga K (PySem.Str.ofString "number_of"))) := by
  obtain ⟨fd, F, m⟩ := gF X G c 16 64 (x := (PySem.Str.ofString "number_of")) (nm := (PySem.Str.ofString "number_of")) (st := s_number_of) rfl rfl
  exact ⟨fd, F, F.binds fun _ _ _ _ _ _ us hl => match us, hl with | [_, _], _ => rfl, m⟩
theorem f_written (X : K.In h) (G : h.Ns mainGlobals mg) (c : SaysY fa fn ts ex w K) : ∃ fd, Fun K (PySem.Str.ofString "written") (PySem.Str.ofString "written") s_written (He.ga K (PySem.Str.ofString "written")) fd ∧ Binds K fd [(PySem.Str.ofString "form"), (PySem.Str.ofString "number")] [] ∧ mg (PySem.Str.ofString "written") = some (.ref (He.ga K (PySem.Str.ofString "written"))) := by
  obtain ⟨fd, F, m⟩ := gF X G c 17 65 (x := (PySem.Str.ofString "written")) (nm := (PySem.Str.ofString "written")) (st := s_written) rfl rfl
  exact ⟨fd, F, F.binds fun _ _ _ _ _ _ us hl => match us, hl with | [_, _], _ => rfl, m⟩
theorem f_hexed (X : K.In h) (G : h.Ns mainGlobals mg) (c : SaysY fa fn ts ex w K) : ∃ fd, Fun K (PySem.Str.ofString "hexed") (PySem.Str.ofString "hexed") s_hexed (He.ga K (PySem.Str.ofString "hexed")) fd ∧ Binds K fd [(PySem.Str.ofString "row")] [] ∧ mg (PySem.Str.ofString "hexed") = some (.ref (He.ga K (PySem.Str.ofString "hexed"))) := by
  obtain ⟨fd, F, m⟩ := gF X G c 18 66 (x := (PySem.Str.ofString "hexed")) (nm := (PySem.Str.ofString "hexed")) (st := s_hexed) rfl rfl
  exact ⟨fd, F, F.binds fun _ _ _ _ _ _ us hl => match us, hl with | [_], _ => rfl, m⟩
theorem f_byte_told (X : K.In h) (G : h.Ns mainGlobals mg) (c : SaysY fa fn ts ex w K) : ∃ fd, Fun K (PySem.Str.ofString "byte_told") (PySem.Str.ofString "byte_told") s_byte_told (He.ga K (PySem.Str.ofString "byte_told")) fd ∧ Binds K fd [(PySem.Str.ofString "word")] [] ∧ mg (PySem.Str.ofString "byte_told") = some (.ref (He.ga K (PySem.Str.ofString "byte_told"))) := by
  obtain ⟨fd, F, m⟩ := gF X G c 19 67 (x := (PySem.Str.ofString "byte_told")) (nm := (PySem.Str.ofString "byte_told")) (st := s_byte_told) rfl rfl
  exact ⟨fd, F, F.binds fun _ _ _ _ _ _ us hl => match us, hl with | [_], _ => rfl, m⟩
theorem f_unhexed (X : K.In h) (G : h.Ns mainGlobals mg) (c : SaysY fa fn ts ex w K) : ∃ fd, Fun K (PySem.Str.ofString "unhexed") (PySem.Str.ofString "unhexed") s_unhexed (He.ga K (PySem.Str.ofString "unhexed")) fd ∧ Binds K fd [(PySem.Str.ofString "text")] [] ∧ mg (PySem.Str.ofString "unhexed") = some (.ref (He.ga K (PySem.Str.ofString "unhexed"))) := by
  obtain ⟨fd, F, m⟩ := gF X G c 20 68 (x := (PySem.Str.ofString "unhexed")) (nm := (PySem.Str.ofString "unhexed")) (st := s_unhexed) rfl rfl
  exact ⟨fd, F, F.binds fun _ _ _ _ _ _ us hl => match us, hl with | [_], _ => rfl, m⟩
theorem f_order_word (X : K.In h) (G : h.Ns mainGlobals mg) (c : SaysY fa fn ts ex w K) : ∃ fd, Fun K (PySem.Str.ofString "order_word") (PySem.Str.ofString "order_word") s_order_word (He.ga K (PySem.Str.ofString "order_word")) fd ∧ Binds K fd [(PySem.Str.ofString "one"), (PySem.Str.ofString "other")] [] ∧ mg (PySem.Str.ofString "order_word") = some (.ref (He.ga K (PySem.Str.ofString "order_word"))) := by
  obtain ⟨fd, F, m⟩ := gF X G c 21 69 (x := (PySem.Str.ofString "order_word")) (nm := (PySem.Str.ofString "order_word")) (st := s_order_word) rfl rfl
  exact ⟨fd, F, F.binds fun _ _ _ _ _ _ us hl => match us, hl with | [_, _], _ => rfl, m⟩
theorem f_mark_of (X : K.In h) (G : h.Ns mainGlobals mg) (c : SaysY fa fn ts ex w K) : ∃ fd, Fun K (PySem.Str.ofString "mark_of") (PySem.Str.ofString "mark_of") s_mark_of (He.ga K (PySem.Str.ofString "mark_of")) fd ∧ Binds K fd [(PySem.Str.ofString "form"), (PySem.Str.ofString "number")] [] ∧ mg (PySem.Str.ofString "mark_of") = some (.ref (He.ga K (PySem.Str.ofString "mark_of"))) := by
  obtain ⟨fd, F, m⟩ := gF X G c 22 70 (x := (PySem.Str.ofString "mark_of")) (nm := (PySem.Str.ofString "mark_of")) (st := s_mark_of) rfl rfl
  exact ⟨fd, F, F.binds fun _ _ _ _ _ _ us hl => match us, hl with | [_, _], _ => rfl, m⟩
theorem f_answer_kept (X : K.In h) (G : h.Ns mainGlobals mg) (c : SaysY fa fn ts ex w K) : ∃ fd, Fun K (PySem.Str.ofString "answer_kept") (PySem.Str.ofString "answer_kept") s_answer_kept (He.ga K (PySem.Str.ofString "answer_kept")) fd ∧ Binds K fd [(PySem.Str.ofString "form"), (PySem.Str.ofString "number")] [] ∧ mg (PySem.Str.ofString "answer_kept") = some (.ref (He.ga K (PySem.Str.ofString "answer_kept"))) := by
  obtain ⟨fd, F, m⟩ := gF X G c 23 71 (x := (PySem.Str.ofString "answer_kept")) (nm := (PySem.Str.ofString "answer_kept")) (st := s_answer_kept) rfl rfl
  exact ⟨fd, F, F.binds fun _ _ _ _ _ _ us hl => match us, hl with | [_, _], _ => rfl, m⟩
theorem f_read_name (X : K.In h) (G : h.Ns mainGlobals mg) (c : SaysY fa fn ts ex w K) : ∃ fd, Fun K (PySem.Str.ofString "read_name") (PySem.Str.ofString "read_name") s_read_name (He.ga K (PySem.Str.ofString "read_name")) fd ∧ Binds K fd [(PySem.Str.ofString "word")] [] ∧ mg (PySem.Str.ofString "read_name") = some (.ref (He.ga K (PySem.Str.ofString "read_name"))) := by
  obtain ⟨fd, F, m⟩ := gF X G c 24 72 (x := (PySem.Str.ofString "read_name")) (nm := (PySem.Str.ofString "read_name")) (st := s_read_name) rfl rfl
  exact ⟨fd, F, F.binds fun _ _ _ _ _ _ us hl => match us, hl with | [_], _ => rfl, m⟩
theorem f_read_whole (X : K.In h) (G : h.Ns mainGlobals mg) (c : SaysY fa fn ts ex w K) : ∃ fd, Fun K (PySem.Str.ofString "read_whole") (PySem.Str.ofString "read_whole") s_read_whole (He.ga K (PySem.Str.ofString "read_whole")) fd ∧ Binds K fd [(PySem.Str.ofString "word")] [] ∧ mg (PySem.Str.ofString "read_whole") = some (.ref (He.ga K (PySem.Str.ofString "read_whole"))) := by
  obtain ⟨fd, F, m⟩ := gF X G c 25 73 (x := (PySem.Str.ofString "read_whole")) (nm := (PySem.Str.ofString "read_whole")) (st := s_read_whole) rfl rfl
  exact ⟨fd, F, F.binds fun _ _ _ _ _ _ us hl => match us, hl with | [_], _ => rfl, m⟩
theorem f_read_shape (X : K.In h) (G : h.Ns mainGlobals mg) (c : SaysY fa fn ts ex w K) : ∃ fd, Fun K (PySem.Str.ofString "read_shape") (PySem.Str.ofString "read_shape") s_read_shape (He.ga K (PySem.Str.ofString "read_shape")) fd ∧ Binds K fd [(PySem.Str.ofString "words")] [] ∧ mg (PySem.Str.ofString "read_shape") = some (.ref (He.ga K (PySem.Str.ofString "read_shape"))) := by
  obtain ⟨fd, F, m⟩ := gF X G c 26 74 (x := (PySem.Str.ofString "read_shape")) (nm := (PySem.Str.ofString "read_shape")) (st := s_read_shape) rfl rfl
  exact ⟨fd, F, F.binds fun _ _ _ _ _ _ us hl => match us, hl with | [_], _ => rfl, m⟩
theorem f_only (X : K.In h) (G : h.Ns mainGlobals mg) (c : SaysY fa fn ts ex w K) : ∃ fd, Fun K (PySem.Str.ofString "only") (PySem.Str.ofString "only") s_only (He.ga K (PySem.Str.ofString "only")) fd ∧ Binds K fd [(PySem.Str.ofString "parts"), (PySem.Str.ofString "kind")] [] ∧ mg (PySem.Str.ofString "only") = some (.ref (He.ga K (PySem.Str.ofString "only"))) := by
  obtain ⟨fd, F, m⟩ := gF X G c 27 75 (x := (PySem.Str.ofString "only")) (nm := (PySem.Str.ofString "only")) (st := s_only) rfl rfl
  exact ⟨fd, F, F.binds fun _ _ _ _ _ _ us hl => match us, hl with | [_, _], _ => rfl, m⟩
theorem f_read_part (X : K.In h) (G : h.Ns mainGlobals mg) (c : SaysY fa fn ts ex w K) : ∃ fd, Fun K (PySem.Str.ofString "read_part") (PySem.Str.ofString "read_part") s_read_part (He.ga K (PySem.Str.ofString "read_part")) fd ∧ Binds K fd [(PySem.Str.ofString "part"), (PySem.Str.ofString "words")] [] ∧ mg (PySem.Str.ofString "read_part") = some (.ref (He.ga K (PySem.Str.ofString "read_part"))) := by
  obtain ⟨fd, F, m⟩ := gF X G c 28 76 (x := (PySem.Str.ofString "read_part")) (nm := (PySem.Str.ofString "read_part")) (st := s_read_part) rfl rfl
  exact ⟨fd, F, F.binds fun _ _ _ _ _ _ us hl => match us, hl with | [_, _], _ => rfl, m⟩
theorem f_parts_of_desk (X : K.In h) (G : h.Ns mainGlobals mg) (c : SaysY fa fn ts ex w K) : ∃ fd, Fun K (PySem.Str.ofString "parts_of") (PySem.Str.ofString "parts_of") s_parts_of (He.ga K (PySem.Str.ofString "parts_of_desk")) fd ∧ Binds K fd [(PySem.Str.ofString "line")] [] ∧ mg (PySem.Str.ofString "parts_of_desk") = some (.ref (He.ga K (PySem.Str.ofString "parts_of_desk"))) := by
  obtain ⟨fd, F, m⟩ := gF X G c 29 77 (x := (PySem.Str.ofString "parts_of_desk")) (nm := (PySem.Str.ofString "parts_of")) (st := s_parts_of) rfl rfl
  exact ⟨fd, F, F.binds fun _ _ _ _ _ _ us hl => match us, hl with | [_], _ => rfl, m⟩
theorem f_hold_like (X : K.In h) (G : h.Ns mainGlobals mg) (c : SaysY fa fn ts ex w K) : ∃ fd, Fun K (PySem.Str.ofString "hold_like") (PySem.Str.ofString "hold_like") s_hold_like (He.ga K (PySem.Str.ofString "hold_like")) fd ∧ Binds K fd [(PySem.Str.ofString "word"), (PySem.Str.ofString "first"), (PySem.Str.ofString "second")] [] ∧ mg (PySem.Str.ofString "hold_like") = some (.ref (He.ga K (PySem.Str.ofString "hold_like"))) := by
  obtain ⟨fd, F, m⟩ := gF X G c 30 78 (x := (PySem.Str.ofString "hold_like")) (nm := (PySem.Str.ofString "hold_like")) (st := s_hold_like) rfl rfl
  exact ⟨fd, F, F.binds fun _ _ _ _ _ _ us hl => match us, hl with | [_, _, _], _ => rfl, m⟩
theorem f_l_cell (X : K.In h) (G : h.Ns mainGlobals mg) (c : SaysY fa fn ts ex w K) : ∃ fd, Fun K (PySem.Str.ofString "_law_cell") (PySem.Str.ofString "_law_cell") s_l_cell (He.ga K (PySem.Str.ofString "_law_cell")) fd ∧ Binds K fd [(PySem.Str.ofString "_law_script"), (PySem.Str.ofString "_law_k")] [] ∧ mg (PySem.Str.ofString "_law_cell") = some (.ref (He.ga K (PySem.Str.ofString "_law_cell"))) := by
  obtain ⟨fd, F, m⟩ := gF X G c 31 79 (x := (PySem.Str.ofString "_law_cell")) (nm := (PySem.Str.ofString "_law_cell")) (st := s_l_cell) rfl rfl
  exact ⟨fd, F, F.binds fun _ _ _ _ _ _ us hl => match us, hl with | [_, _], _ => rfl, m⟩
theorem f_l_mixed (X : K.In h) (G : h.Ns mainGlobals mg) (c : SaysY fa fn ts ex w K) : ∃ fd, Fun K (PySem.Str.ofString "_law_mixed") (PySem.Str.ofString "_law_mixed") s_l_mixed (He.ga K (PySem.Str.ofString "_law_mixed")) fd ∧ Binds K fd [(PySem.Str.ofString "_law_cell_here"), (PySem.Str.ofString "_law_k"), (PySem.Str.ofString "_law_salt")] [] ∧ mg (PySem.Str.ofString "_law_mixed") = some (.ref (He.ga K (PySem.Str.ofString "_law_mixed"))) := by
  obtain ⟨fd, F, m⟩ := gF X G c 32 80 (x := (PySem.Str.ofString "_law_mixed")) (nm := (PySem.Str.ofString "_law_mixed")) (st := s_l_mixed) rfl rfl
  exact ⟨fd, F, F.binds fun _ _ _ _ _ _ us hl => match us, hl with | [_, _, _], _ => rfl, m⟩
theorem f_l_draws (X : K.In h) (G : h.Ns mainGlobals mg) (c : SaysY fa fn ts ex w K) : ∃ fd, Fun K (PySem.Str.ofString "_law_draws") (PySem.Str.ofString "_law_draws") s_l_draws (He.ga K (PySem.Str.ofString "_law_draws")) fd ∧ Binds K fd [(PySem.Str.ofString "_law_cell_here"), (PySem.Str.ofString "_law_salt"), (PySem.Str.ofString "_law_widths")] [] ∧ mg (PySem.Str.ofString "_law_draws") = some (.ref (He.ga K (PySem.Str.ofString "_law_draws"))) := by
  obtain ⟨fd, F, m⟩ := gF X G c 33 81 (x := (PySem.Str.ofString "_law_draws")) (nm := (PySem.Str.ofString "_law_draws")) (st := s_l_draws) rfl rfl
  exact ⟨fd, F, F.binds fun _ _ _ _ _ _ us hl => match us, hl with | [_, _, _], _ => rfl, m⟩
theorem f_l_power (X : K.In h) (G : h.Ns mainGlobals mg) (c : SaysY fa fn ts ex w K) : ∃ fd, Fun K (PySem.Str.ofString "_law_power") (PySem.Str.ofString "_law_power") s_l_power (He.ga K (PySem.Str.ofString "_law_power")) fd ∧ Binds K fd [(PySem.Str.ofString "_law_base"), (PySem.Str.ofString "_law_many")] [] ∧ mg (PySem.Str.ofString "_law_power") = some (.ref (He.ga K (PySem.Str.ofString "_law_power"))) := by
  obtain ⟨fd, F, m⟩ := gF X G c 34 82 (x := (PySem.Str.ofString "_law_power")) (nm := (PySem.Str.ofString "_law_power")) (st := s_l_power) rfl rfl
  exact ⟨fd, F, F.binds fun _ _ _ _ _ _ us hl => match us, hl with | [_, _], _ => rfl, m⟩
theorem f_l_form (X : K.In h) (G : h.Ns mainGlobals mg) (c : SaysY fa fn ts ex w K) : ∃ fd, Fun K (PySem.Str.ofString "_law_form") (PySem.Str.ofString "_law_form") s_l_form (He.ga K (PySem.Str.ofString "_law_form")) fd ∧ Binds K fd [(PySem.Str.ofString "_law_kind"), (PySem.Str.ofString "_law_many"), (PySem.Str.ofString "_law_sign")] [] ∧ mg (PySem.Str.ofString "_law_form") = some (.ref (He.ga K (PySem.Str.ofString "_law_form"))) := by
  obtain ⟨fd, F, m⟩ := gF X G c 35 83 (x := (PySem.Str.ofString "_law_form")) (nm := (PySem.Str.ofString "_law_form")) (st := s_l_form) rfl rfl
  exact ⟨fd, F, F.binds fun _ _ _ _ _ _ us hl => match us, hl with | [_, _, _], _ => rfl, m⟩
theorem f_l_ends (X : K.In h) (G : h.Ns mainGlobals mg) (c : SaysY fa fn ts ex w K) : ∃ fd, Fun K (PySem.Str.ofString "_law_ends") (PySem.Str.ofString "_law_ends") s_l_ends (He.ga K (PySem.Str.ofString "_law_ends")) fd ∧ Binds K fd [(PySem.Str.ofString "_law_form_here")] [] ∧ mg (PySem.Str.ofString "_law_ends") = some (.ref (He.ga K (PySem.Str.ofString "_law_ends"))) := by
  obtain ⟨fd, F, m⟩ := gF X G c 36 84 (x := (PySem.Str.ofString "_law_ends")) (nm := (PySem.Str.ofString "_law_ends")) (st := s_l_ends) rfl rfl
  exact ⟨fd, F, F.binds fun _ _ _ _ _ _ us hl => match us, hl with | [_], _ => rfl, m⟩
theorem f_l_wrap (X : K.In h) (G : h.Ns mainGlobals mg) (c : SaysY fa fn ts ex w K) : ∃ fd, Fun K (PySem.Str.ofString "_law_wrap") (PySem.Str.ofString "_law_wrap") s_l_wrap (He.ga K (PySem.Str.ofString "_law_wrap")) fd ∧ Binds K fd [(PySem.Str.ofString "_law_form_here"), (PySem.Str.ofString "_law_number_here")] [] ∧ mg (PySem.Str.ofString "_law_wrap") = some (.ref (He.ga K (PySem.Str.ofString "_law_wrap"))) := by
  obtain ⟨fd, F, m⟩ := gF X G c 37 85 (x := (PySem.Str.ofString "_law_wrap")) (nm := (PySem.Str.ofString "_law_wrap")) (st := s_l_wrap) rfl rfl
  exact ⟨fd, F, F.binds fun _ _ _ _ _ _ us hl => match us, hl with | [_, _], _ => rfl, m⟩
theorem f_l_fits (X : K.In h) (G : h.Ns mainGlobals mg) (c : SaysY fa fn ts ex w K) : ∃ fd, Fun K (PySem.Str.ofString "_law_fits") (PySem.Str.ofString "_law_fits") s_l_fits (He.ga K (PySem.Str.ofString "_law_fits")) fd ∧ Binds K fd [(PySem.Str.ofString "_law_form_here"), (PySem.Str.ofString "_law_number_here")] [] ∧ mg (PySem.Str.ofString "_law_fits") = some (.ref (He.ga K (PySem.Str.ofString "_law_fits"))) := by
  obtain ⟨fd, F, m⟩ := gF X G c 38 86 (x := (PySem.Str.ofString "_law_fits")) (nm := (PySem.Str.ofString "_law_fits")) (st := s_l_fits) rfl rfl
  exact ⟨fd, F, F.binds fun _ _ _ _ _ _ us hl => match us, hl with | [_, _], _ => rfl, m⟩
theorem f_l_figures (X : K.In h) (G : h.Ns mainGlobals mg) (c : SaysY fa fn ts ex w K) : ∃ fd, Fun K (PySem.Str.ofString "_law_figures") (PySem.Str.ofString "_law_figures") s_l_figures (He.ga K (PySem.Str.ofString "_law_figures")) fd ∧ Binds K fd [(PySem.Str.ofString "_law_form_here"), (PySem.Str.ofString "_law_number_here")] [] ∧ mg (PySem.Str.ofString "_law_figures") = some (.ref (He.ga K (PySem.Str.ofString "_law_figures"))) := by
  obtain ⟨fd, F, m⟩ := gF X G c 39 87 (x := (PySem.Str.ofString "_law_figures")) (nm := (PySem.Str.ofString "_law_figures")) (st := s_l_figures) rfl rfl
  exact ⟨fd, F, F.binds fun _ _ _ _ _ _ us hl => match us, hl with | [_, _], _ => rfl, m⟩
theorem f_l_by_halves (X : K.In h) (G : h.Ns mainGlobals mg) (c : SaysY fa fn ts ex w K) : ∃ fd, Fun K (PySem.Str.ofString "_law_by_halves") (PySem.Str.ofString "_law_by_halves") s_l_by_halves (He.ga K (PySem.Str.ofString "_law_by_halves")) fd ∧ Binds K fd [(PySem.Str.ofString "_law_halves")] [] ∧ mg (PySem.Str.ofString "_law_by_halves") = some (.ref (He.ga K (PySem.Str.ofString "_law_by_halves"))) := by
  obtain ⟨fd, F, m⟩ := gF X G c 40 88 (x := (PySem.Str.ofString "_law_by_halves")) (nm := (PySem.Str.ofString "_law_by_halves")) (st := s_l_by_halves) rfl rfl
  exact ⟨fd, F, F.binds fun _ _ _ _ _ _ us hl => match us, hl with | [_], _ => rfl, m⟩
theorem f_l_row_with (X : K.In h) (G : h.Ns mainGlobals mg) (c : SaysY fa fn ts ex w K) : ∃ fd, Fun K (PySem.Str.ofString "_law_row_with") (PySem.Str.ofString "_law_row_with") s_l_row_with (He.ga K (PySem.Str.ofString "_law_row_with")) fd ∧ Binds K fd [(PySem.Str.ofString "_law_form_here"), (PySem.Str.ofString "_law_number_here"), (PySem.Str.ofString "_law_half")] [] ∧ mg (PySem.Str.ofString "_law_row_with") = some (.ref (He.ga K (PySem.Str.ofString "_law_row_with"))) := by
  obtain ⟨fd, F, m⟩ := gF X G c 41 89 (x := (PySem.Str.ofString "_law_row_with")) (nm := (PySem.Str.ofString "_law_row_with")) (st := s_l_row_with) rfl rfl
  exact ⟨fd, F, F.binds fun _ _ _ _ _ _ us hl => match us, hl with | [_, _, _], _ => rfl, m⟩
theorem f_l_laid (X : K.In h) (G : h.Ns mainGlobals mg) (c : SaysY fa fn ts ex w K) : ∃ fd, Fun K (PySem.Str.ofString "_law_laid") (PySem.Str.ofString "_law_laid") s_l_laid (He.ga K (PySem.Str.ofString "_law_laid")) fd ∧ Binds K fd [(PySem.Str.ofString "_law_form_here"), (PySem.Str.ofString "_law_number_here")] [] ∧ mg (PySem.Str.ofString "_law_laid") = some (.ref (He.ga K (PySem.Str.ofString "_law_laid"))) := by
  obtain ⟨fd, F, m⟩ := gF X G c 42 90 (x := (PySem.Str.ofString "_law_laid")) (nm := (PySem.Str.ofString "_law_laid")) (st := s_l_laid) rfl rfl
  exact ⟨fd, F, F.binds fun _ _ _ _ _ _ us hl => match us, hl with | [_, _], _ => rfl, m⟩
theorem f_l_dressed (X : K.In h) (G : h.Ns mainGlobals mg) (c : SaysY fa fn ts ex w K) : ∃ fd, Fun K (PySem.Str.ofString "_law_dressed") (PySem.Str.ofString "_law_dressed") s_l_dressed (He.ga K (PySem.Str.ofString "_law_dressed")) fd ∧ Binds K fd [(PySem.Str.ofString "_law_form_here"), (PySem.Str.ofString "_law_number_here"), (PySem.Str.ofString "_law_digit")] [] ∧ mg (PySem.Str.ofString "_law_dressed") = some (.ref (He.ga K (PySem.Str.ofString "_law_dressed"))) := by
  obtain ⟨fd, F, m⟩ := gF X G c 43 91 (x := (PySem.Str.ofString "_law_dressed")) (nm := (PySem.Str.ofString "_law_dressed")) (st := s_l_dressed) rfl rfl
  exact ⟨fd, F, F.binds fun _ _ _ _ _ _ us hl => match us, hl with | [_, _, _], _ => rfl, m⟩
theorem f_l_number (X : K.In h) (G : h.Ns mainGlobals mg) (c : SaysY fa fn ts ex w K) : ∃ fd, Fun K (PySem.Str.ofString "_law_number") (PySem.Str.ofString "_law_number") s_l_number (He.ga K (PySem.Str.ofString "_law_number")) fd ∧ Binds K fd [(PySem.Str.ofString "_law_form_here"), (PySem.Str.ofString "_law_way"), (PySem.Str.ofString "_law_far")] [] ∧ mg (PySem.Str.ofString "_law_number") = some (.ref (He.ga K (PySem.Str.ofString "_law_number"))) := by
  obtain ⟨fd, F, m⟩ := gF X G c 44 92 (x := (PySem.Str.ofString "_law_number")) (nm := (PySem.Str.ofString "_law_number")) (st := s_l_number) rfl rfl
  exact ⟨fd, F, F.binds fun _ _ _ _ _ _ us hl => match us, hl with | [_, _, _], _ => rfl, m⟩
theorem f_l_sorts (X : K.In h) (G : h.Ns mainGlobals mg) (c : SaysY fa fn ts ex w K) : ∃ fd, Fun K (PySem.Str.ofString "_law_sorts") (PySem.Str.ofString "_law_sorts") s_l_sorts (He.ga K (PySem.Str.ofString "_law_sorts")) fd ∧ Binds K fd [(PySem.Str.ofString "_law_e")] [] ∧ mg (PySem.Str.ofString "_law_sorts") = some (.ref (He.ga K (PySem.Str.ofString "_law_sorts"))) := by
  obtain ⟨fd, F, m⟩ := gF X G c 45 93 (x := (PySem.Str.ofString "_law_sorts")) (nm := (PySem.Str.ofString "_law_sorts")) (st := s_l_sorts) rfl rfl
  exact ⟨fd, F, F.binds fun _ _ _ _ _ _ us hl => match us, hl with | [_], _ => rfl, m⟩
theorem f_l_read_row (X : K.In h) (G : h.Ns mainGlobals mg) (c : SaysY fa fn ts ex w K) : ∃ fd, Fun K (PySem.Str.ofString "_law_read_row") (PySem.Str.ofString "_law_read_row") s_l_read_row (He.ga K (PySem.Str.ofString "_law_read_row")) fd ∧ Binds K fd [(PySem.Str.ofString "_law_form_here"), (PySem.Str.ofString "_law_row")] [] ∧ mg (PySem.Str.ofString "_law_read_row") = some (.ref (He.ga K (PySem.Str.ofString "_law_read_row"))) := by
  obtain ⟨fd, F, m⟩ := gF X G c 46 94 (x := (PySem.Str.ofString "_law_read_row")) (nm := (PySem.Str.ofString "_law_read_row")) (st := s_l_read_row) rfl rfl
  exact ⟨fd, F, F.binds fun _ _ _ _ _ _ us hl => match us, hl with | [_, _], _ => rfl, m⟩
theorem f_l_hexed (X : K.In h) (G : h.Ns mainGlobals mg) (c : SaysY fa fn ts ex w K) : ∃ fd, Fun K (PySem.Str.ofString "_law_hexed") (PySem.Str.ofString "_law_hexed") s_l_hexed (He.ga K (PySem.Str.ofString "_law_hexed")) fd ∧ Binds K fd [(PySem.Str.ofString "_law_row")] [] ∧ mg (PySem.Str.ofString "_law_hexed") = some (.ref (He.ga K (PySem.Str.ofString "_law_hexed"))) := by
  obtain ⟨fd, F, m⟩ := gF X G c 47 95 (x := (PySem.Str.ofString "_law_hexed")) (nm := (PySem.Str.ofString "_law_hexed")) (st := s_l_hexed) rfl rfl
  exact ⟨fd, F, F.binds fun _ _ _ _ _ _ us hl => match us, hl with | [_], _ => rfl, m⟩
theorem f_l_written (X : K.In h) (G : h.Ns mainGlobals mg) (c : SaysY fa fn ts ex w K) : ∃ fd, Fun K (PySem.Str.ofString "_law_written") (PySem.Str.ofString "_law_written") s_l_written (He.ga K (PySem.Str.ofString "_law_written")) fd ∧ Binds K fd [(PySem.Str.ofString "_law_form_here"), (PySem.Str.ofString "_law_number_here")] [] ∧ mg (PySem.Str.ofString "_law_written") = some (.ref (He.ga K (PySem.Str.ofString "_law_written"))) := by
  obtain ⟨fd, F, m⟩ := gF X G c 48 96 (x := (PySem.Str.ofString "_law_written")) (nm := (PySem.Str.ofString "_law_written")) (st := s_l_written) rfl rfl
  exact ⟨fd, F, F.binds fun _ _ _ _ _ _ us hl => match us, hl with | [_, _], _ => rfl, m⟩
theorem f_l_words (X : K.In h) (G : h.Ns mainGlobals mg) (c : SaysY fa fn ts ex w K) : ∃ fd, Fun K (PySem.Str.ofString "_law_words") (PySem.Str.ofString "_law_words") s_l_words (He.ga K (PySem.Str.ofString "_law_words")) fd ∧ Binds K fd [(PySem.Str.ofString "_law_form_here")] [] ∧ mg (PySem.Str.ofString "_law_words") = some (.ref (He.ga K (PySem.Str.ofString "_law_words"))) := by
  obtain ⟨fd, F, m⟩ := gF X G c 49 97 (x := (PySem.Str.ofString "_law_words")) (nm := (PySem.Str.ofString "_law_words")) (st := s_l_words) rfl rfl
  exact ⟨fd, F, F.binds fun _ _ _ _ _ _ us hl => match us, hl with | [_], _ => rfl, m⟩
theorem f_l_name (X : K.In h) (G : h.Ns mainGlobals mg) (c : SaysY fa fn ts ex w K) : ∃ fd, Fun K (PySem.Str.ofString "_law_name") (PySem.Str.ofString "_law_name") s_l_name (He.ga K (PySem.Str.ofString "_law_name")) fd ∧ Binds K fd [(PySem.Str.ofString "_law_cell_here"), (PySem.Str.ofString "_law_salt"), (PySem.Str.ofString "_law_known")] [] ∧ mg (PySem.Str.ofString "_law_name") = some (.ref (He.ga K (PySem.Str.ofString "_law_name"))) := by
  obtain ⟨fd, F, m⟩ := gF X G c 50 98 (x := (PySem.Str.ofString "_law_name")) (nm := (PySem.Str.ofString "_law_name")) (st := s_l_name) rfl rfl
  exact ⟨fd, F, F.binds fun _ _ _ _ _ _ us hl => match us, hl with | [_, _, _], _ => rfl, m⟩
theorem f_l_names (X : K.In h) (G : h.Ns mainGlobals mg) (c : SaysY fa fn ts ex w K) : ∃ fd, Fun K (PySem.Str.ofString "_law_names") (PySem.Str.ofString "_law_names") s_l_names (He.ga K (PySem.Str.ofString "_law_names")) fd ∧ Binds K fd [(PySem.Str.ofString "_law_script"), (PySem.Str.ofString "_law_at"), (PySem.Str.ofString "_law_many")] [] ∧ mg (PySem.Str.ofString "_law_names") = some (.ref (He.ga K (PySem.Str.ofString "_law_names"))) := by
  obtain ⟨fd, F, m⟩ := gF X G c 51 99 (x := (PySem.Str.ofString "_law_names")) (nm := (PySem.Str.ofString "_law_names")) (st := s_l_names) rfl rfl
  exact ⟨fd, F, F.binds fun _ _ _ _ _ _ us hl => match us, hl with | [_, _, _], _ => rfl, m⟩
theorem f_l_pointed (X : K.In h) (G : h.Ns mainGlobals mg) (c : SaysY fa fn ts ex w K) : ∃ fd, Fun K (PySem.Str.ofString "_law_pointed") (PySem.Str.ofString "_law_pointed") s_l_pointed (He.ga K (PySem.Str.ofString "_law_pointed")) fd ∧ Binds K fd [(PySem.Str.ofString "_law_draws_here")] [] ∧ mg (PySem.Str.ofString "_law_pointed") = some (.ref (He.ga K (PySem.Str.ofString "_law_pointed"))) := by
  obtain ⟨fd, F, m⟩ := gF X G c 52 100 (x := (PySem.Str.ofString "_law_pointed")) (nm := (PySem.Str.ofString "_law_pointed")) (st := s_l_pointed) rfl rfl
  exact ⟨fd, F, F.binds fun _ _ _ _ _ _ us hl => match us, hl with | [_], _ => rfl, m⟩
theorem f_l_tell (X : K.In h) (G : h.Ns mainGlobals mg) (c : SaysY fa fn ts ex w K) : ∃ fd, Fun K (PySem.Str.ofString "_law_tell") (PySem.Str.ofString "_law_tell") s_l_tell (He.ga K (PySem.Str.ofString "_law_tell")) fd ∧ Binds K fd [(PySem.Str.ofString "_law_desk"), (PySem.Str.ofString "_law_line")] [] ∧ mg (PySem.Str.ofString "_law_tell") = some (.ref (He.ga K (PySem.Str.ofString "_law_tell"))) := by
  obtain ⟨fd, F, m⟩ := gF X G c 53 101 (x := (PySem.Str.ofString "_law_tell")) (nm := (PySem.Str.ofString "_law_tell")) (st := s_l_tell) rfl rfl
  exact ⟨fd, F, F.binds fun _ _ _ _ _ _ us hl => match us, hl with | [_, _], _ => rfl, m⟩
theorem f_l_answered (X : K.In h) (G : h.Ns mainGlobals mg) (c : SaysY fa fn ts ex w K) : ∃ fd, Fun K (PySem.Str.ofString "_law_answered") (PySem.Str.ofString "_law_answered") s_l_answered (He.ga K (PySem.Str.ofString "_law_answered")) fd ∧ Binds K fd [(PySem.Str.ofString "_law_desk"), (PySem.Str.ofString "_law_line"), (PySem.Str.ofString "_law_due_here")] [] ∧ mg (PySem.Str.ofString "_law_answered") = some (.ref (He.ga K (PySem.Str.ofString "_law_answered"))) := by
  obtain ⟨fd, F, m⟩ := gF X G c 54 102 (x := (PySem.Str.ofString "_law_answered")) (nm := (PySem.Str.ofString "_law_answered")) (st := s_l_answered) rfl rfl
  exact ⟨fd, F, F.binds fun _ _ _ _ _ _ us hl => match us, hl with | [_, _, _], _ => rfl, m⟩
theorem f_l_kept_of (X : K.In h) (G : h.Ns mainGlobals mg) (c : SaysY fa fn ts ex w K) : ∃ fd, Fun K (PySem.Str.ofString "_law_kept_of") (PySem.Str.ofString "_law_kept_of") s_l_kept_of (He.ga K (PySem.Str.ofString "_law_kept_of")) fd ∧ Binds K fd [(PySem.Str.ofString "_law_form_here"), (PySem.Str.ofString "_law_number_here")] [] ∧ mg (PySem.Str.ofString "_law_kept_of") = some (.ref (He.ga K (PySem.Str.ofString "_law_kept_of"))) := by
  obtain ⟨fd, F, m⟩ := gF X G c 55 103 (x := (PySem.Str.ofString "_law_kept_of")) (nm := (PySem.Str.ofString "_law_kept_of")) (st := s_l_kept_of) rfl rfl
  exact ⟨fd, F, F.binds fun _ _ _ _ _ _ us hl => match us, hl with | [_, _], _ => rfl, m⟩
theorem f_l_mark (X : K.In h) (G : h.Ns mainGlobals mg) (c : SaysY fa fn ts ex w K) : ∃ fd, Fun K (PySem.Str.ofString "_law_mark") (PySem.Str.ofString "_law_mark") s_l_mark (He.ga K (PySem.Str.ofString "_law_mark")) fd ∧ Binds K fd [(PySem.Str.ofString "_law_form_here"), (PySem.Str.ofString "_law_number_here")] [] ∧ mg (PySem.Str.ofString "_law_mark") = some (.ref (He.ga K (PySem.Str.ofString "_law_mark"))) := by
  obtain ⟨fd, F, m⟩ := gF X G c 56 104 (x := (PySem.Str.ofString "_law_mark")) (nm := (PySem.Str.ofString "_law_mark")) (st := s_l_mark) rfl rfl
  exact ⟨fd, F, F.binds fun _ _ _ _ _ _ us hl => match us, hl with | [_, _], _ => rfl, m⟩
theorem f_l_thing_by (X : K.In h) (G : h.Ns mainGlobals mg) (c : SaysY fa fn ts ex w K) : ∃ fd, Fun K (PySem.Str.ofString "_law_thing_by") (PySem.Str.ofString "_law_thing_by") s_l_thing_by (He.ga K (PySem.Str.ofString "_law_thing_by")) fd ∧ Binds K fd [(PySem.Str.ofString "_law_cell_here"), (PySem.Str.ofString "_law_salt"), (PySem.Str.ofString "_law_base")] [] ∧ mg (PySem.Str.ofString "_law_thing_by") = some (.ref (He.ga K (PySem.Str.ofString "_law_thing_by"))) := by
  obtain ⟨fd, F, m⟩ := gF X G c 57 105 (x := (PySem.Str.ofString "_law_thing_by")) (nm := (PySem.Str.ofString "_law_thing_by")) (st := s_l_thing_by) rfl rfl
  exact ⟨fd, F, F.binds fun _ _ _ _ _ _ us hl => match us, hl with | [_, _, _], _ => rfl, m⟩
theorem f_l_missing (X : K.In h) (G : h.Ns mainGlobals mg) (c : SaysY fa fn ts ex w K) : ∃ fd, Fun K (PySem.Str.ofString "_law_missing") (PySem.Str.ofString "_law_missing") s_l_missing (He.ga K (PySem.Str.ofString "_law_missing")) fd ∧ Binds K fd [(PySem.Str.ofString "_law_standing"), (PySem.Str.ofString "_law_names_here")] [] ∧ mg (PySem.Str.ofString "_law_missing") = some (.ref (He.ga K (PySem.Str.ofString "_law_missing"))) := by
  obtain ⟨fd, F, m⟩ := gF X G c 58 106 (x := (PySem.Str.ofString "_law_missing")) (nm := (PySem.Str.ofString "_law_missing")) (st := s_l_missing) rfl rfl
  exact ⟨fd, F, F.binds fun _ _ _ _ _ _ us hl => match us, hl with | [_, _], _ => rfl, m⟩
theorem f_l_with (X : K.In h) (G : h.Ns mainGlobals mg) (c : SaysY fa fn ts ex w K) : ∃ fd, Fun K (PySem.Str.ofString "_law_with") (PySem.Str.ofString "_law_with") s_l_with (He.ga K (PySem.Str.ofString "_law_with")) fd ∧ Binds K fd [(PySem.Str.ofString "_law_standing"), (PySem.Str.ofString "_law_rows")] [] ∧ mg (PySem.Str.ofString "_law_with") = some (.ref (He.ga K (PySem.Str.ofString "_law_with"))) := by
  obtain ⟨fd, F, m⟩ := gF X G c 59 107 (x := (PySem.Str.ofString "_law_with")) (nm := (PySem.Str.ofString "_law_with")) (st := s_l_with) rfl rfl
  exact ⟨fd, F, F.binds fun _ _ _ _ _ _ us hl => match us, hl with | [_, _], _ => rfl, m⟩
theorem f_l_sum_due (X : K.In h) (G : h.Ns mainGlobals mg) (c : SaysY fa fn ts ex w K) : ∃ fd, Fun K (PySem.Str.ofString "_law_sum_due") (PySem.Str.ofString "_law_sum_due") s_l_sum_due (He.ga K (PySem.Str.ofString "_law_sum_due")) fd ∧ Binds K fd [(PySem.Str.ofString "_law_standing"), (PySem.Str.ofString "_law_word"), (PySem.Str.ofString "_law_name_here"), (PySem.Str.ofString "_law_one"), (PySem.Str.ofString "_law_other")] [] ∧ mg (PySem.Str.ofString "_law_sum_due") = some (.ref (He.ga K (PySem.Str.ofString "_law_sum_due"))) := by
  obtain ⟨fd, F, m⟩ := gF X G c 60 108 (x := (PySem.Str.ofString "_law_sum_due")) (nm := (PySem.Str.ofString "_law_sum_due")) (st := s_l_sum_due) rfl rfl
  exact ⟨fd, F, F.binds fun _ _ _ _ _ _ us hl => match us, hl with | [_, _, _, _, _], _ => rfl, m⟩
theorem f_l_due (X : K.In h) (G : h.Ns mainGlobals mg) (c : SaysY fa fn ts ex w K) : ∃ fd, Fun K (PySem.Str.ofString "_law_due") (PySem.Str.ofString "_law_due") s_l_due (He.ga K (PySem.Str.ofString "_law_due")) fd ∧ Binds K fd [(PySem.Str.ofString "_law_standing"), (PySem.Str.ofString "_law_question")] [] ∧ mg (PySem.Str.ofString "_law_due") = some (.ref (He.ga K (PySem.Str.ofString "_law_due"))) := by
  obtain ⟨fd, F, m⟩ := gF X G c 61 109 (x := (PySem.Str.ofString "_law_due")) (nm := (PySem.Str.ofString "_law_due")) (st := s_l_due) rfl rfl
  exact ⟨fd, F, F.binds fun _ _ _ _ _ _ us hl => match us, hl with | [_, _], _ => rfl, m⟩
theorem f_l_deed (X : K.In h) (G : h.Ns mainGlobals mg) (c : SaysY fa fn ts ex w K) : ∃ fd, Fun K (PySem.Str.ofString "_law_deed") (PySem.Str.ofString "_law_deed") s_l_deed (He.ga K (PySem.Str.ofString "_law_deed")) fd ∧ Binds K fd [(PySem.Str.ofString "_law_script"), (PySem.Str.ofString "_law_at"), (PySem.Str.ofString "_law_names_here"), (PySem.Str.ofString "_law_base"), (PySem.Str.ofString "_law_standing")] [] ∧ mg (PySem.Str.ofString "_law_deed") = some (.ref (He.ga K (PySem.Str.ofString "_law_deed"))) := by
  obtain ⟨fd, F, m⟩ := gF X G c 62 110 (x := (PySem.Str.ofString "_law_deed")) (nm := (PySem.Str.ofString "_law_deed")) (st := s_l_deed) rfl rfl
  exact ⟨fd, F, F.binds fun _ _ _ _ _ _ us hl => match us, hl with | [_, _, _, _, _], _ => rfl, m⟩
theorem f_l_all_told (X : K.In h) (G : h.Ns mainGlobals mg) (c : SaysY fa fn ts ex w K) : ∃ fd, Fun K (PySem.Str.ofString "_law_all_told") (PySem.Str.ofString "_law_all_told") s_l_all (He.ga K (PySem.Str.ofString "_law_all_told")) fd ∧ Binds K fd [(PySem.Str.ofString "_law_desk"), (PySem.Str.ofString "_law_questions"), (PySem.Str.ofString "_law_standing")] [] ∧ mg (PySem.Str.ofString "_law_all_told") = some (.ref (He.ga K (PySem.Str.ofString "_law_all_told"))) := by
  obtain ⟨fd, F, m⟩ := gF X G c 63 111 (x := (PySem.Str.ofString "_law_all_told")) (nm := (PySem.Str.ofString "_law_all_told")) (st := s_l_all) rfl rfl
  exact ⟨fd, F, F.binds fun _ _ _ _ _ _ us hl => match us, hl with | [_, _, _], _ => rfl, m⟩
theorem f_law (X : K.In h) (G : h.Ns mainGlobals mg) (c : SaysY fa fn ts ex w K) : ∃ fd, Fun K (PySem.Str.ofString "law") (PySem.Str.ofString "law") s_law (He.ga K (PySem.Str.ofString "law")) fd ∧ Binds K fd [(PySem.Str.ofString "_law_script")] [] ∧ mg (PySem.Str.ofString "law") = some (.ref (He.ga K (PySem.Str.ofString "law"))) := by
  obtain ⟨fd, F, m⟩ := gF X G c 64 112 (x := (PySem.Str.ofString "law")) (nm := (PySem.Str.ofString "law")) (st := s_law) rfl rfl
  exact ⟨fd, F, F.binds fun _ _ _ _ _ _ us hl => match us, hl with | [_], _ => rfl, m⟩
theorem m_Desk___init__ (c : SaysY fa fn ts ex w K) : ∃ fd, Fun K (PySem.Str.ofString "__init__") (PySem.Str.ofString "Desk.__init__") s_dk (He.ma K (He.ga K (PySem.Str.ofString "Desk")) (PySem.Str.ofString "__init__")) fd ∧ Binds K fd [(PySem.Str.ofString "self")] [] := by
  obtain ⟨fd, F⟩ := gM c 65 (C := (PySem.Str.ofString "Desk")) (m := (PySem.Str.ofString "__init__")) (q := (PySem.Str.ofString "Desk.__init__")) (st := s_dk) rfl
  exact ⟨fd, F, F.binds fun _ _ _ _ _ _ us hl => match us, hl with | [_], _ => rfl⟩
theorem m_Desk_done (c : SaysY fa fn ts ex w K) : ∃ fd, Fun K (PySem.Str.ofString "done") (PySem.Str.ofString "Desk.done") s_done (He.ma K (He.ga K (PySem.Str.ofString "Desk")) (PySem.Str.ofString "done")) fd ∧ Binds K fd [(PySem.Str.ofString "self"), (PySem.Str.ofString "rows"), (PySem.Str.ofString "answer")] [] := by
  obtain ⟨fd, F⟩ := gM c 66 (C := (PySem.Str.ofString "Desk")) (m := (PySem.Str.ofString "done")) (q := (PySem.Str.ofString "Desk.done")) (st := s_done) rfl
  exact ⟨fd, F, F.binds fun _ _ _ _ _ _ us hl => match us, hl with | [_, _, _], _ => rfl⟩
theorem m_Desk_moved (c : SaysY fa fn ts ex w K) : ∃ fd, Fun K (PySem.Str.ofString "moved") (PySem.Str.ofString "Desk.moved") s_moved (He.ma K (He.ga K (PySem.Str.ofString "Desk")) (PySem.Str.ofString "moved")) fd ∧ Binds K fd [(PySem.Str.ofString "self"), (PySem.Str.ofString "word")] [] := by
  obtain ⟨fd, F⟩ := gM c 67 (C := (PySem.Str.ofString "Desk")) (m := (PySem.Str.ofString "moved")) (q := (PySem.Str.ofString "Desk.moved")) (st := s_moved) rfl
  exact ⟨fd, F, F.binds fun _ _ _ _ _ _ us hl => match us, hl with | [_, _], _ => rfl⟩
theorem m_Desk_laid (c : SaysY fa fn ts ex w K) : ∃ fd, Fun K (PySem.Str.ofString "laid") (PySem.Str.ofString "Desk.laid") s_laid (He.ma K (He.ga K (PySem.Str.ofString "Desk")) (PySem.Str.ofString "laid")) fd ∧ Binds K fd [(PySem.Str.ofString "self"), (PySem.Str.ofString "word"), (PySem.Str.ofString "name"), (PySem.Str.ofString "form"), (PySem.Str.ofString "text")] [] := by
  obtain ⟨fd, F⟩ := gM c 68 (C := (PySem.Str.ofString "Desk")) (m := (PySem.Str.ofString "laid")) (q := (PySem.Str.ofString "Desk.laid")) (st := s_laid) rfl
  exact ⟨fd, F, F.binds fun _ _ _ _ _ _ us hl => match us, hl with | [_, _, _, _, _], _ => rfl⟩
theorem m_Desk_of_two (c : SaysY fa fn ts ex w K) : ∃ fd, Fun K (PySem.Str.ofString "of_two") (PySem.Str.ofString "Desk.of_two") s_of_two (He.ma K (He.ga K (PySem.Str.ofString "Desk")) (PySem.Str.ofString "of_two")) fd ∧ Binds K fd [(PySem.Str.ofString "self"), (PySem.Str.ofString "word"), (PySem.Str.ofString "fresh"), (PySem.Str.ofString "standing")] [] := by
  obtain ⟨fd, F⟩ := gM c 69 (C := (PySem.Str.ofString "Desk")) (m := (PySem.Str.ofString "of_two")) (q := (PySem.Str.ofString "Desk.of_two")) (st := s_of_two) rfl
  exact ⟨fd, F, F.binds fun _ _ _ _ _ _ us hl => match us, hl with | [_, _, _, _], _ => rfl⟩
theorem m_Desk_asked (c : SaysY fa fn ts ex w K) : ∃ fd, Fun K (PySem.Str.ofString "asked") (PySem.Str.ofString "Desk.asked") s_asked (He.ma K (He.ga K (PySem.Str.ofString "Desk")) (PySem.Str.ofString "asked")) fd ∧ Binds K fd [(PySem.Str.ofString "self"), (PySem.Str.ofString "word"), (PySem.Str.ofString "parts"), (PySem.Str.ofString "shapes"), (PySem.Str.ofString "standing")] [] := by
  obtain ⟨fd, F⟩ := gM c 70 (C := (PySem.Str.ofString "Desk")) (m := (PySem.Str.ofString "asked")) (q := (PySem.Str.ofString "Desk.asked")) (st := s_asked) rfl
  exact ⟨fd, F, F.binds fun _ _ _ _ _ _ us hl => match us, hl with | [_, _, _, _, _], _ => rfl⟩
theorem m_Desk_tell (c : SaysY fa fn ts ex w K) : ∃ fd, Fun K (PySem.Str.ofString "tell") (PySem.Str.ofString "Desk.tell") s_tell (He.ma K (He.ga K (PySem.Str.ofString "Desk")) (PySem.Str.ofString "tell")) fd ∧ Binds K fd [(PySem.Str.ofString "self"), (PySem.Str.ofString "line")] [] := by
  obtain ⟨fd, F⟩ := gM c 71 (C := (PySem.Str.ofString "Desk")) (m := (PySem.Str.ofString "tell")) (q := (PySem.Str.ofString "Desk.tell")) (st := s_tell) rfl
  exact ⟨fd, F, F.binds fun _ _ _ _ _ _ us hl => match us, hl with | [_, _], _ => rfl⟩
theorem m_NoName___init__ (c : SaysY fa fn ts ex w K) : ∃ fd, Fun K (PySem.Str.ofString "__init__") (PySem.Str.ofString "NoName.__init__") s_nn (He.ma K (He.ga K (PySem.Str.ofString "NoName")) (PySem.Str.ofString "__init__")) fd ∧ Binds K fd [(PySem.Str.ofString "self"), (PySem.Str.ofString "name")] [] := by
  obtain ⟨fd, F⟩ := gM c 72 (C := (PySem.Str.ofString "NoName")) (m := (PySem.Str.ofString "__init__")) (q := (PySem.Str.ofString "NoName.__init__")) (st := s_nn) rfl
  exact ⟨fd, F, F.binds fun _ _ _ _ _ _ us hl => match us, hl with | [_, _], _ => rfl⟩
theorem nn_ok (X : K.In h) (G : h.Ns mainGlobals mg) (c : SaysY fa fn ts ex w K) : NNF P w K mg base (He.ga K (PySem.Str.ofString "NoName")) 2 := by
  obtain ⟨fd, F, b⟩ := m_NoName___init__ c
  have M := He.meth_ok (c.a 124 (f := .meth (PySem.Str.ofString "NoName") (PySem.Str.ofString "__init__")) rfl)
  exact ⟨_, fd, _, d_nn F (He.glo_ok X G (c.a 32 (f := .glo (PySem.Str.ofString "LoftError")) rfl)) (ownB_ok (c.e 10 rfl)), M.at_, beq_iff_eq.mp M.fn, b⟩
theorem dm_ok (X : K.In h) (G : h.Ns mainGlobals mg) (c : SaysY fa fn ts ex w K) : DeskMk P w K mg base (He.ga K (PySem.Str.ofString "Desk")) 2 := by
  obtain ⟨fd, F, b⟩ := m_Desk___init__ c
  exact ⟨_, fd, d_dk (deskF_ok c) F, He.mkr_ok (c.a 117 (f := .mkr (PySem.Str.ofString "Desk")) rfl), b, He.glo_ok X G (c.a 31 (f := .glo (PySem.Str.ofString "Desk")) rfl)⟩
theorem c_halves_of (X : K.In h) (G : h.Ns mainGlobals mg) (c : SaysY fa fn ts ex w K) : Dfn P w K mg base "halves_of" 1 G_halves_of := by
  obtain ⟨fd, F, b, m⟩ := f_halves_of X G c
  exact d_halves_of (tops_ok X G c) F b m
theorem c_power (X : K.In h) (G : h.Ns mainGlobals mg) (c : SaysY fa fn ts ex w K) : Dfn P w K mg base "power" 1 G_power := by
  obtain ⟨fd, F, b, m⟩ := f_power X G c
  exact d_power (tops_ok X G c) F b m
theorem c_figures_of (X : K.In h) (G : h.Ns mainGlobals mg) (c : SaysY fa fn ts ex w K) : Dfn P w K mg base "figures_of" 1 G_figures_of := by
  obtain ⟨fd, F, b, m⟩ := f_figures_of X G c
  exact d_figures_of (tops_ok X G c) F b m
theorem c_number_by (X : K.In h) (G : h.Ns mainGlobals mg) (c : SaysY fa fn ts ex w K) : Dfn P w K mg base "number_by" 1 G_number_by := by
  obtain ⟨fd, F, b, m⟩ := f_number_by X G c
  exact d_number_by (tops_ok X G c) F b m
theorem c_shape (X : K.In h) (G : h.Ns mainGlobals mg) (c : SaysY fa fn ts ex w K) : Dfn P w K mg base "shape" 1 G_shape := by
  obtain ⟨fd, F, b, m⟩ := f_shape X G c
  exact d_shape (tops_ok X G c) F b m
theorem c_least_of (X : K.In h) (G : h.Ns mainGlobals mg) (c : SaysY fa fn ts ex w K) : Dfn P w K mg base "least_of" 2 G_least_of := by
  obtain ⟨fd, F, b, m⟩ := f_least_of X G c
  exact d_least_of (tops_ok X G c) (c_power X G c) F b m
theorem c_most_of (X : K.In h) (G : h.Ns mainGlobals mg) (c : SaysY fa fn ts ex w K) : Dfn P w K mg base "most_of" 2 G_most_of := by
  obtain ⟨fd, F, b, m⟩ := f_most_of X G c
  exact d_most_of (tops_ok X G c) (c_power X G c) F b m
theorem c_folded (X : K.In h) (G : h.Ns mainGlobals mg) (c : SaysY fa fn ts ex w K) : Dfn P w K mg base "folded" 3 G_folded := by
  obtain ⟨fd, F, b, m⟩ := f_folded X G c
  exact d_folded (tops_ok X G c) (c_power X G c) (c_least_of X G c) F b m
theorem c_fits (X : K.In h) (G : h.Ns mainGlobals mg) (c : SaysY fa fn ts ex w K) : Dfn P w K mg base "fits" 3 G_fits := by
  obtain ⟨fd, F, b, m⟩ := f_fits X G c
  exact d_fits (tops_ok X G c) (c_least_of X G c) (c_most_of X G c) F b m
theorem c_sign_half (X : K.In h) (G : h.Ns mainGlobals mg) (c : SaysY fa fn ts ex w K) : Dfn P w K mg base "sign_half" 1 G_sign_half := by
  obtain ⟨fd, F, b, m⟩ := f_sign_half X G c
  exact d_sign_half (tops_ok X G c) F b m
theorem c_kept_halves (X : K.In h) (G : h.Ns mainGlobals mg) (c : SaysY fa fn ts ex w K) : Dfn P w K mg base "kept_halves" 2 G_kept_halves := by
  obtain ⟨fd, F, b, m⟩ := f_kept_halves X G c
  exact d_kept_halves (tops_ok X G c) (c_power X G c) (c_figures_of X G c) (c_sign_half X G c) (c_halves_of X G c) F b m
theorem c_kept (X : K.In h) (G : h.Ns mainGlobals mg) (c : SaysY fa fn ts ex w K) : Dfn P w K mg base "kept" 4 G_kept := by
  obtain ⟨fd, F, b, m⟩ := f_kept X G c
  exact d_kept (tops_ok X G c) (c_fits X G c) (c_kept_halves X G c) F b m
theorem c_halves_in (X : K.In h) (G : h.Ns mainGlobals mg) (c : SaysY fa fn ts ex w K) : Dfn P w K mg base "halves_in" 1 G_halves_in := by
  obtain ⟨fd, F, b, m⟩ := f_halves_in X G c
  exact d_halves_in (tops_ok X G c) F b m
theorem c_duties (X : K.In h) (G : h.Ns mainGlobals mg) (c : SaysY fa fn ts ex w K) : Dfn P w K mg base "duties" 2 G_duties := by
  obtain ⟨fd, F, b, m⟩ := f_duties X G c
  exact d_duties (tops_ok X G c) (c_halves_of X G c) F b m
theorem c_half_right (X : K.In h) (G : h.Ns mainGlobals mg) (c : SaysY fa fn ts ex w K) : Dfn P w K mg base "half_right" 1 G_half_right := by
  obtain ⟨fd, F, b, m⟩ := f_half_right X G c
  exact d_half_right (tops_ok X G c) F b m
theorem c_caught (X : K.In h) (G : h.Ns mainGlobals mg) (c : SaysY fa fn ts ex w K) : Dfn P w K mg base "caught" 3 G_caught := by
  obtain ⟨fd, F, b, m⟩ := f_caught X G c
  exact d_caught (tops_ok X G c) (c_duties X G c) (c_halves_in X G c) (c_half_right X G c) F b m
theorem c_number_of (X : K.In h) (G : h.Ns mainGlobals mg) (c : SaysY fa fn ts ex w K) : Dfn P w K mg base "number_of" 4 G_number_of := by
  obtain ⟨fd, F, b, m⟩ := f_number_of X G c
  exact d_number_of (tops_ok X G c) (c_caught X G c) (c_duties X G c) (c_halves_in X G c) (c_number_by X G c) (c_power X G c) F b m
theorem c_written (X : K.In h) (G : h.Ns mainGlobals mg) (c : SaysY fa fn ts ex w K) : Dfn P w K mg base "written" 4 G_written := by
  obtain ⟨fd, F, b, m⟩ := f_written X G c
  exact d_written (tops_ok X G c) (c_fits X G c) F b m
theorem c_hexed (X : K.In h) (G : h.Ns mainGlobals mg) (c : SaysY fa fn ts ex w K) : Dfn P w K mg base "hexed" 1 G_hexed := by
  obtain ⟨fd, F, b, m⟩ := f_hexed X G c
  exact d_hexed (tops_ok X G c) F b m
theorem c_byte_told (X : K.In h) (G : h.Ns mainGlobals mg) (c : SaysY fa fn ts ex w K) : Dfn P w K mg base "byte_told" 1 G_byte_told := by
  obtain ⟨fd, F, b, m⟩ := f_byte_told X G c
  exact d_byte_told (tops_ok X G c) F b m
theorem c_unhexed (X : K.In h) (G : h.Ns mainGlobals mg) (c : SaysY fa fn ts ex w K) : Dfn P w K mg base "unhexed" 2 G_unhexed := by
  obtain ⟨fd, F, b, m⟩ := f_unhexed X G c
  exact d_unhexed (tops_ok X G c) (c_byte_told X G c) F b m
theorem c_order_word (X : K.In h) (G : h.Ns mainGlobals mg) (c : SaysY fa fn ts ex w K) : Dfn P w K mg base "order_word" 1 G_order_word := by
  obtain ⟨fd, F, b, m⟩ := f_order_word X G c
  exact d_order_word (tops_ok X G c) F b m
theorem c_mark_of (X : K.In h) (G : h.Ns mainGlobals mg) (c : SaysY fa fn ts ex w K) : Dfn P w K mg base "mark_of" 4 G_mark_of := by
  obtain ⟨fd, F, b, m⟩ := f_mark_of X G c
  exact d_mark_of (tops_ok X G c) (c_fits X G c) F b m
theorem c_answer_kept (X : K.In h) (G : h.Ns mainGlobals mg) (c : SaysY fa fn ts ex w K) : Dfn P w K mg base "answer_kept" 5 G_answer_kept := by
  obtain ⟨fd, F, b, m⟩ := f_answer_kept X G c
  exact d_answer_kept (tops_ok X G c) (c_kept X G c) (c_folded X G c) F b m
theorem c_read_name (X : K.In h) (G : h.Ns mainGlobals mg) (c : SaysY fa fn ts ex w K) : Dfn P w K mg base "read_name" 1 G_read_name := by
  obtain ⟨fd, F, b, m⟩ := f_read_name X G c
  exact d_read_name (tops_ok X G c) F b m
theorem c_read_whole (X : K.In h) (G : h.Ns mainGlobals mg) (c : SaysY fa fn ts ex w K) : Dfn P w K mg base "read_whole" 1 G_read_whole := by
  obtain ⟨fd, F, b, m⟩ := f_read_whole X G c
  exact d_read_whole (tops_ok X G c) F b m
theorem c_read_shape (X : K.In h) (G : h.Ns mainGlobals mg) (c : SaysY fa fn ts ex w K) : Dfn P w K mg base "read_shape" 2 G_read_shape := by
  obtain ⟨fd, F, b, m⟩ := f_read_shape X G c
  exact d_read_shape (tops_ok X G c) (c_read_whole X G c) F b m
theorem c_only (X : K.In h) (G : h.Ns mainGlobals mg) (c : SaysY fa fn ts ex w K) : Dfn P w K mg base "only" 1 G_only := by
  obtain ⟨fd, F, b, m⟩ := f_only X G c
  exact d_only (tops_ok X G c) F b m
theorem c_read_part (X : K.In h) (G : h.Ns mainGlobals mg) (c : SaysY fa fn ts ex w K) : Dfn P w K mg base "read_part" 3 G_read_part := by
  obtain ⟨fd, F, b, m⟩ := f_read_part X G c
  exact d_read_part (tops_ok X G c) (tabs_ok X G c) (c_read_shape X G c) (c_read_name X G c) F b m
theorem c_parts_of (X : K.In h) (G : h.Ns mainGlobals mg) (c : SaysY fa fn ts ex w K) : Dfn P w K mg base "parts_of_desk" 4 G_parts_of := by
  obtain ⟨fd, F, b, m⟩ := f_parts_of_desk X G c
  exact d_parts_of (tops_ok X G c) (tabs_ok X G c) (c_read_part X G c) F b m
theorem c_l_cell (X : K.In h) (G : h.Ns mainGlobals mg) (c : SaysY fa fn ts ex w K) : Dfn P w K mg base "_law_cell" 1 G_l_cell := by
  obtain ⟨fd, F, b, m⟩ := f_l_cell X G c
  exact d_l_cell (tops_ok X G c) F b m
theorem c_l_mixed (X : K.In h) (G : h.Ns mainGlobals mg) (c : SaysY fa fn ts ex w K) : Dfn P w K mg base "_law_mixed" 1 G_l_mixed := by
  obtain ⟨fd, F, b, m⟩ := f_l_mixed X G c
  exact d_l_mixed (tops_ok X G c) F b m
theorem c_l_draws (X : K.In h) (G : h.Ns mainGlobals mg) (c : SaysY fa fn ts ex w K) : Dfn P w K mg base "_law_draws" 2 G_l_draws := by
  obtain ⟨fd, F, b, m⟩ := f_l_draws X G c
  exact d_l_draws (tops_ok X G c) (c_l_mixed X G c) F b m
theorem c_l_power (X : K.In h) (G : h.Ns mainGlobals mg) (c : SaysY fa fn ts ex w K) : Dfn P w K mg base "_law_power" 1 G_l_power := by
  obtain ⟨fd, F, b, m⟩ := f_l_power X G c
  exact d_l_power (tops_ok X G c) F b m
theorem c_l_form (X : K.In h) (G : h.Ns mainGlobals mg) (c : SaysY fa fn ts ex w K) : Dfn P w K mg base "_law_form" 1 G_l_form := by
  obtain ⟨fd, F, b, m⟩ := f_l_form X G c
  exact d_l_form (tops_ok X G c) F b m
theorem c_l_ends (X : K.In h) (G : h.Ns mainGlobals mg) (c : SaysY fa fn ts ex w K) : Dfn P w K mg base "_law_ends" 2 G_l_ends := by
  obtain ⟨fd, F, b, m⟩ := f_l_ends X G c
  exact d_l_ends (tops_ok X G c) (c_l_power X G c) F b m
theorem c_l_wrap (X : K.In h) (G : h.Ns mainGlobals mg) (c : SaysY fa fn ts ex w K) : Dfn P w K mg base "_law_wrap" 2 G_l_wrap := by
  obtain ⟨fd, F, b, m⟩ := f_l_wrap X G c
  exact d_l_wrap (tops_ok X G c) (c_l_power X G c) F b m
theorem c_l_fits (X : K.In h) (G : h.Ns mainGlobals mg) (c : SaysY fa fn ts ex w K) : Dfn P w K mg base "_law_fits" 3 G_l_fits := by
  obtain ⟨fd, F, b, m⟩ := f_l_fits X G c
  exact d_l_fits (tops_ok X G c) (c_l_ends X G c) F b m
theorem c_l_figures (X : K.In h) (G : h.Ns mainGlobals mg) (c : SaysY fa fn ts ex w K) : Dfn P w K mg base "_law_figures" 2 G_l_figures := by
  obtain ⟨fd, F, b, m⟩ := f_l_figures X G c
  exact d_l_figures (tops_ok X G c) (c_l_power X G c) F b m
theorem c_l_by_halves (X : K.In h) (G : h.Ns mainGlobals mg) (c : SaysY fa fn ts ex w K) : Dfn P w K mg base "_law_by_halves" 1 G_l_by_halves := by
  obtain ⟨fd, F, b, m⟩ := f_l_by_halves X G c
  exact d_l_by_halves (tops_ok X G c) F b m
theorem c_l_row_with (X : K.In h) (G : h.Ns mainGlobals mg) (c : SaysY fa fn ts ex w K) : Dfn P w K mg base "_law_row_with" 3 G_l_row_with := by
  obtain ⟨fd, F, b, m⟩ := f_l_row_with X G c
  exact d_l_row_with (tops_ok X G c) (c_l_figures X G c) (c_l_by_halves X G c) F b m
theorem c_l_laid (X : K.In h) (G : h.Ns mainGlobals mg) (c : SaysY fa fn ts ex w K) : Dfn P w K mg base "_law_laid" 4 G_l_laid := by
  obtain ⟨fd, F, b, m⟩ := f_l_laid X G c
  exact d_l_laid (tops_ok X G c) (c_l_row_with X G c) F b m
theorem c_l_dressed (X : K.In h) (G : h.Ns mainGlobals mg) (c : SaysY fa fn ts ex w K) : Dfn P w K mg base "_law_dressed" 4 G_l_dressed := by
  obtain ⟨fd, F, b, m⟩ := f_l_dressed X G c
  exact d_l_dressed (tops_ok X G c) (c_l_row_with X G c) F b m
theorem c_l_number (X : K.In h) (G : h.Ns mainGlobals mg) (c : SaysY fa fn ts ex w K) : Dfn P w K mg base "_law_number" 3 G_l_number := by
  obtain ⟨fd, F, b, m⟩ := f_l_number X G c
  exact d_l_number (tops_ok X G c) (c_l_ends X G c) (c_l_power X G c) F b m
theorem c_l_pointed (X : K.In h) (G : h.Ns mainGlobals mg) (c : SaysY fa fn ts ex w K) : Dfn P w K mg base "_law_pointed" 2 G_l_pointed := by
  obtain ⟨fd, F, b, m⟩ := f_l_pointed X G c
  exact d_l_pointed (tops_ok X G c) (c_l_form X G c) F b m
theorem c_l_read_row (X : K.In h) (G : h.Ns mainGlobals mg) (c : SaysY fa fn ts ex w K) : Dfn P w K mg base "_law_read_row" 2 G_l_read_row := by
  obtain ⟨fd, F, b, m⟩ := f_l_read_row X G c
  exact d_l_read_row (tops_ok X G c) (c_l_power X G c) F b m
theorem c_l_hexed (X : K.In h) (G : h.Ns mainGlobals mg) (c : SaysY fa fn ts ex w K) : Dfn P w K mg base "_law_hexed" 1 G_l_hexed := by
  obtain ⟨fd, F, b, m⟩ := f_l_hexed X G c
  exact d_l_hexed (tops_ok X G c) F b m
theorem c_l_written (X : K.In h) (G : h.Ns mainGlobals mg) (c : SaysY fa fn ts ex w K) : Dfn P w K mg base "_law_written" 1 G_l_written := by
  obtain ⟨fd, F, b, m⟩ := f_l_written X G c
  exact d_l_written (tops_ok X G c) F b m
theorem c_l_words (X : K.In h) (G : h.Ns mainGlobals mg) (c : SaysY fa fn ts ex w K) : Dfn P w K mg base "_law_words" 1 G_l_words := by
  obtain ⟨fd, F, b, m⟩ := f_l_words X G c
  exact d_l_words (tops_ok X G c) F b m
theorem c_l_kept_of (X : K.In h) (G : h.Ns mainGlobals mg) (c : SaysY fa fn ts ex w K) : Dfn P w K mg base "_law_kept_of" 5 G_l_kept_of := by
  obtain ⟨fd, F, b, m⟩ := f_l_kept_of X G c
  exact d_l_kept_of (tops_ok X G c) (c_l_wrap X G c) (c_l_laid X G c) F b m
theorem c_l_mark (X : K.In h) (G : h.Ns mainGlobals mg) (c : SaysY fa fn ts ex w K) : Dfn P w K mg base "_law_mark" 4 G_l_mark := by
  obtain ⟨fd, F, b, m⟩ := f_l_mark X G c
  exact d_l_mark (tops_ok X G c) (c_l_fits X G c) F b m
theorem c_l_thing_by (X : K.In h) (G : h.Ns mainGlobals mg) (c : SaysY fa fn ts ex w K) : Dfn P w K mg base "_law_thing_by" 5 G_l_thing_by := by
  obtain ⟨fd, F, b, m⟩ := f_l_thing_by X G c
  exact d_l_thing_by (tops_ok X G c) (c_l_draws X G c) (c_l_pointed X G c) (c_l_number X G c) (c_l_dressed X G c) F b m
theorem c_l_missing (X : K.In h) (G : h.Ns mainGlobals mg) (c : SaysY fa fn ts ex w K) : Dfn P w K mg base "_law_missing" 1 G_l_missing := by
  obtain ⟨fd, F, b, m⟩ := f_l_missing X G c
  exact d_l_missing (tops_ok X G c) F b m
theorem c_l_with (X : K.In h) (G : h.Ns mainGlobals mg) (c : SaysY fa fn ts ex w K) : Dfn P w K mg base "_law_with" 1 G_l_with := by
  obtain ⟨fd, F, b, m⟩ := f_l_with X G c
  exact d_l_with (tops_ok X G c) F b m
theorem c_l_name (X : K.In h) (G : h.Ns mainGlobals mg) (c : SaysY fa fn ts ex w K) : Dfn P w K mg base "_law_name" 3 G_l_name := by
  obtain ⟨fd, F, b, m⟩ := f_l_name X G c
  exact d_l_name (tops_ok X G c) (c_l_draws X G c) F b m
theorem c_l_names (X : K.In h) (G : h.Ns mainGlobals mg) (c : SaysY fa fn ts ex w K) : Dfn P w K mg base "_law_names" 4 G_l_names := by
  obtain ⟨fd, F, b, m⟩ := f_l_names X G c
  exact d_l_names (tops_ok X G c) (c_l_cell X G c) (c_l_name X G c) F b m
theorem c_hold_like (X : K.In h) (G : h.Ns mainGlobals mg) (c : SaysY fa fn ts ex w K) : DfnO P w K mg base (He.ga K (PySem.Str.ofString "Unlike")) (He.ga K (PySem.Str.ofString "NoName")) "hold_like" 1 G_hold_like := by
  obtain ⟨fd, F, b, m⟩ := f_hold_like X G c
  exact d_hold_like (tops_ok X G c) (exF_ok X G c) F b m
theorem c_done (X : K.In h) (G : h.Ns mainGlobals mg) (c : SaysY fa fn ts ex w K) : MthD P w K mg base CX0 (He.ga K (PySem.Str.ofString "Desk")) (He.ga K (PySem.Str.ofString "Unlike")) (He.ga K (PySem.Str.ofString "NoName")) "done" 1 G_done := by
  obtain ⟨fd, F, b⟩ := m_Desk_done c
  have m := He.meth_ok (c.a 118 (f := .meth (PySem.Str.ofString "Desk") (PySem.Str.ofString "done")) rfl)
  exact d_done (tops_ok X G c) (deskF_ok c) F b m
theorem c_moved (X : K.In h) (G : h.Ns mainGlobals mg) (c : SaysY fa fn ts ex w K) : MthD P w K mg base CX0 (He.ga K (PySem.Str.ofString "Desk")) (He.ga K (PySem.Str.ofString "Unlike")) (He.ga K (PySem.Str.ofString "NoName")) "moved" 1 G_moved := by
  obtain ⟨fd, F, b⟩ := m_Desk_moved c
  have m := He.meth_ok (c.a 119 (f := .meth (PySem.Str.ofString "Desk") (PySem.Str.ofString "moved")) rfl)
  exact d_moved (tops_ok X G c) (deskF_ok c) F b m
theorem c_laid (X : K.In h) (G : h.Ns mainGlobals mg) (c : SaysY fa fn ts ex w K) : MthD P w K mg base CX0 (He.ga K (PySem.Str.ofString "Desk")) (He.ga K (PySem.Str.ofString "Unlike")) (He.ga K (PySem.Str.ofString "NoName")) "laid" 5 G_laid := by
  obtain ⟨fd, F, b⟩ := m_Desk_laid c
  have m := He.meth_ok (c.a 120 (f := .meth (PySem.Str.ofString "Desk") (PySem.Str.ofString "laid")) rfl)
  exact d_laid (tops_ok X G c) (deskF_ok c) (c_unhexed X G c) (c_number_of X G c) (c_done X G c) F b m
theorem c_of_two (X : K.In h) (G : h.Ns mainGlobals mg) (c : SaysY fa fn ts ex w K) : MthD P w K mg base (L2N.CX P w) (He.ga K (PySem.Str.ofString "Desk")) (He.ga K (PySem.Str.ofString "Unlike")) (He.ga K (PySem.Str.ofString "NoName")) "of_two" 6 G_of_two := by
  obtain ⟨fd, F, b⟩ := m_Desk_of_two c
  have m := He.meth_ok (c.a 121 (f := .meth (PySem.Str.ofString "Desk") (PySem.Str.ofString "of_two")) rfl)
  exact d_of_two (tops_ok X G c) (deskF_ok c) (c_hold_like X G c) (c_number_of X G c) (c_mark_of X G c) (c_answer_kept X G c) (c_done X G c) F b m
theorem c_asked (X : K.In h) (G : h.Ns mainGlobals mg) (c : SaysY fa fn ts ex w K) : MthD P w K mg base (L2N.CX P w) (He.ga K (PySem.Str.ofString "Desk")) (He.ga K (PySem.Str.ofString "Unlike")) (He.ga K (PySem.Str.ofString "NoName")) "asked" 5 G_asked := by
  obtain ⟨fd, F, b⟩ := m_Desk_asked c
  have m := He.meth_ok (c.a 122 (f := .meth (PySem.Str.ofString "Desk") (PySem.Str.ofString "asked")) rfl)
  exact d_asked (tops_ok X G c) (deskF_ok c) (c_hold_like X G c) (c_number_of X G c) (c_hexed X G c) (c_written X G c) (c_order_word X G c) F b m
theorem c_tell (X : K.In h) (G : h.Ns mainGlobals mg) (c : SaysY fa fn ts ex w K) : MthD P w K mg base (L2N.CX P w) (He.ga K (PySem.Str.ofString "Desk")) (He.ga K (PySem.Str.ofString "Unlike")) (He.ga K (PySem.Str.ofString "NoName")) "tell" 7 G_tell := by
  obtain ⟨fd, F, b⟩ := m_Desk_tell c
  have m := He.meth_ok (c.a 123 (f := .meth (PySem.Str.ofString "Desk") (PySem.Str.ofString "tell")) rfl)
  exact d_tell (tops_ok X G c) (deskF_ok c) (exF_ok X G c) (nn_ok X G c) (c_parts_of X G c) (c_only X G c) (c_shape X G c) (c_moved X G c) (c_laid X G c) (c_done X G c) (c_of_two X G c) (c_asked X G c) F b m
theorem c_l_tell (X : K.In h) (G : h.Ns mainGlobals mg) (c : SaysY fa fn ts ex w K) : DfnD P w K mg base CX0 (He.ga K (PySem.Str.ofString "Desk")) (He.ga K (PySem.Str.ofString "Unlike")) (He.ga K (PySem.Str.ofString "NoName")) "_law_tell" 8 G_l_tell := by
  obtain ⟨fd, F, b, m⟩ := f_l_tell X G c
  obtain ⟨fds, FS, bs, ms⟩ := f_l_sorts X G c
  exact d_l_tell (tops_ok X G c) (deskF_ok c) (exF_ok X G c) (trF_ok X G c) (sortF_Unlike X G c) (sortF_NoName X G c) (c_tell X G c) (d_l_sorts FS) ms FS.kp bs F b m
theorem c_l_answered (X : K.In h) (G : h.Ns mainGlobals mg) (c : SaysY fa fn ts ex w K) : DfnD P w K mg base CX0 (He.ga K (PySem.Str.ofString "Desk")) (He.ga K (PySem.Str.ofString "Unlike")) (He.ga K (PySem.Str.ofString "NoName")) "_law_answered" 9 G_l_answered := by
  obtain ⟨fd, F, b, m⟩ := f_l_answered X G c
  exact d_l_answered (tops_ok X G c) (c_l_tell X G c) F b m
theorem c_l_due (X : K.In h) (G : h.Ns mainGlobals mg) (c : SaysY fa fn ts ex w K) : Dfn P w K mg base "_law_due" 3 G_l_due := by
  obtain ⟨fd, F, b, m⟩ := f_l_due X G c
  exact d_l_due (tops_ok X G c) (c_l_missing X G c) (c_l_read_row X G c) (c_l_written X G c) (c_l_hexed X G c) (c_l_words X G c) F b m
theorem c_l_sum_due (X : K.In h) (G : h.Ns mainGlobals mg) (c : SaysY fa fn ts ex w K) : Dfn P w K mg base "_law_sum_due" 6 G_l_sum_due := by
  obtain ⟨fd, F, b, m⟩ := f_l_sum_due X G c
  exact d_l_sum_due (tops_ok X G c) (c_l_missing X G c) (c_l_read_row X G c) (c_l_mark X G c) (c_l_kept_of X G c) (c_l_with X G c) F b m
theorem c_l_deed (X : K.In h) (G : h.Ns mainGlobals mg) (c : SaysY fa fn ts ex w K) : Dfn P w K mg base "_law_deed" 7 G_l_deed := by
  obtain ⟨fd, F, b, m⟩ := f_l_deed X G c
  obtain ⟨fdw, FW, bw, mw⟩ := f_l_with X G c
  exact d_l_deed (tops_ok X G c) (c_l_cell X G c) (c_l_draws X G c) (c_l_thing_by X G c) (c_l_words X G c) (c_l_hexed X G c) (c_l_with X G c) (c_l_sum_due X G c) (d_l_withN (tops_ok X G c) FW) mw FW.kp bw F b m
theorem c_l_all (X : K.In h) (G : h.Ns mainGlobals mg) (c : SaysY fa fn ts ex w K) : DfnD P w K mg base CX0 (He.ga K (PySem.Str.ofString "Desk")) (He.ga K (PySem.Str.ofString "Unlike")) (He.ga K (PySem.Str.ofString "NoName")) "_law_all_told" 10 G_l_all := by
  obtain ⟨fd, F, b, m⟩ := f_l_all_told X G c
  exact d_l_all (tops_ok X G c) (c_l_due X G c) (c_l_answered X G c) F b m
theorem c_law (X : K.In h) (G : h.Ns mainGlobals mg) (c : SaysY fa fn ts ex w K) : ∃ fd, (∀ (s : Shared) (u : Value), BindsTo s fd ⟨[u], []⟩ [((PySem.Str.ofString "_law_script"), u)]) ∧ ∀ base : Heap, FnOk P w K mg base CX0 11 (He.ga K (PySem.Str.ofString "law")) fd [(PySem.Str.ofString "_law_script")] (spG K G_law) := by
  obtain ⟨fd, F0⟩ := c.t.d.def_ 64 (d := dG (PySem.Str.ofString "law") (PySem.Str.ofString "law") s_law) rfl
  have F0 : FunD K (PySem.Str.ofString "law") (PySem.Str.ofString "law") (defArgs s_law) (defBody s_law) (defScope s_law) [] [] (He.ga K (PySem.Str.ofString "law")) fd := F0
  have F := fun_of F0
  have B := FunD.bindsA (ps := [(PySem.Str.ofString "_law_script")]) F0 fun _ _ _ _ _ _ us hl => match us, hl with | [_], _ => rfl
  exact ⟨fd, fun s u => B s [u] rfl, fun base => d_law (tops_ok X G c) (dm_ok X G c) (c_l_cell X G c) (c_l_draws X G c) (c_l_pointed X G c) (c_l_names X G c) (c_l_deed X G c) (c_l_answered X G c) (c_l_all X G c) F⟩
end
end Hd
/-! J: the law. -/
namespace Hd
open PySem PySem.Spec PyProof.Rows L2 T3 Tl
theorem law_gives {K : PySem.W.Frag} (H : Hp) (a : Addr) (ns : List Int) (hl : ns.length ≤ 63) (hS : SqL K H a (ns.map V.int)) : spG K G_law [.ref a] H (fun v _ => v = .bl true) fun _ _ _ => False := by
  refine ⟨H, [.ro (ns.map .int)], .bl true, .refl H, .cons (.ro hS (Reps.ints ns)) .nil, ⟨ns, hl, rfl, rfl⟩, fun v Hs' H' _ r => ?_⟩
  cases r
  rfl
end Hd
open PySem PySem.W PySem.Calls PyProof.Rows
theorem PySem.Challenge.cw_tensloft_k94_whole_desk_as_it_stands_holds : PySem.Challenge.rw_tensloft_k94_whole_desk_as_it_stands.Holds := by
  w_on; o_law
  refine HandSHeadRun.head_any (r := OpenLaw.row PySem.Challenge.rw_tensloft_k94_whole_desk_as_it_stands) (q := Hd.qv) (H := Hd.hk) (ob := Hd.ob) (M := 20000) (loose := Hd.names) (d := HandSHeadRun.topDef (OpenLaw.row PySem.Challenge.rw_tensloft_k94_whole_desk_as_it_stands).prog 130) (kwd := []) Hd.ob_eq
    (by kernel_rfl) (fun s => by kernel_rfl) Hd.run (by kernel_rfl) (by kernel_rfl) (by kernel_rfl) (by rfl) (by first | assumption | decide +kernel) (by decide +kernel) ⟨rfl, rfl, rfl, rfl, rfl, by decide +kernel⟩ ?hw ?hc
  case hw => w_witness2
  case hc =>
    refine L2.walk_ofE (l := PySem.Challenge.rw_tensloft_k94_whole_desk_as_it_stands) (n := 63) (k := 11) (x := PySem.Str.ofString "_law_script") (CX := L2.CX0) rfl (by decide) (by kernel_rfl) ⟨rfl, by decide, by decide⟩ ?F (fun _ _ _ _ z => z)
    intro w mg fa h Y G hmg0
    obtain ⟨K, KX, c⟩ := Y
    have hmg : mg (PySem.Str.ofString "law") = some (.ref fa) := by
      have e : (HandSHeadRun.topDef (OpenLaw.row PySem.Challenge.rw_tensloft_k94_whole_desk_as_it_stands).prog 130).name = PySem.Str.ofString "law" := by kernel_rfl
      rw [← e]
      exact hmg0
    obtain ⟨fd0, F0, b0, m0⟩ := Hd.f_law KX G c
    obtain rfl : He.ga K (PySem.Str.ofString "law") = fa := by
      rw [m0] at hmg
      cases hmg
      rfl
    obtain ⟨fd, hb, hF⟩ := Hd.c_law (P := (PySem.Challenge.rw_tensloft_k94_whole_desk_as_it_stands).prog) (w := w) KX G c
    refine ⟨K, fd, _, KX, hb, fun H a ns hl _ hS => Hd.law_gives H a ns hl hS, fun base _ _ => hF base⟩
