import PyProof.Rows.All
import Wide.All
import OpenK.AllK
import Wide.FinOn
import HandS.ForMost
import HandS.ForExc
import HandS.Codes
import KE.KExcInit
import PyProof.ExcClass
import HandS.Base
import HandS.Call
import HandS.Ends
import HandS.More
import HandS.Words
import HandS.WordsExc
import HandS.Defaults
import HandS.Head0
import HandS.Head1
import HandS.Head2
import HandS.HeadEnd
import HandS.HeadHook1
import HandS.HeadHook2
import HandS.EndBits
import PySem.Challenge.RW_lastturn_k04_choosing_down_rows
import HandS.CallSlots
import HandS.TupAny
import HandS.IsInst
import HandS.DictEq
import HandS.Small
import HandS.Deep
import HandS.Text
import HandS.Comp
import HandS.Iter
import HandS.RaiseMore
import PyProof.ReprRoads
import HandS.Style
import KE.KStateDown
import Lean
import KE.GoesEnum
import HandS.DictComp
import HandS.Strs
import KE.KDictList
import KE.KItemsList
import HandS.ListItems
import PyProof.TupleOfSeq
import PyProof.ReprReads
import PyProof.StrLawsRepr
import PyProof.InstEq
import HandS.OwnEq
import HandS.Finally
import PyProof.StrBlock2
import PyProof.Rows.StrMul
import HandS.ExcInit
import HandS.ExcIs
import HandS.ExcField
import PyProof.ExcBaseAll.ArithmeticError
import PyProof.ExcBaseAll.IndexError
import PyProof.ExcBaseAll.LookupError
import PyProof.InstStoreFacts
import PyProof.ExcBaseAll.ValueError
import PyProof.Rows.FactsExc_KeyError
set_option Elab.async false
set_option linter.all false
set_option maxRecDepth 100000
set_option maxHeartbeats 4000000
namespace VL
open PySem PySem.Spec PyProof.Rows L2
/-! ### what the head tells of own classes -/
def tyAll : List String := ["NoneType", "bool", "int", "str", "tuple", "list", "dict"]
/-- isinstance against the class C, == and != by its own __eq__ -/
structure OwnC (K : PySem.W.Frag) (C : Addr) : Prop where
  ha : PySem.W.findIn K (.ref C) "__class__" = some (some (.builtin "object.__class__"))
  hn : PySem.W.specialIn K (.builtin "object.__class__") "__get__" = some (some (.builtin "getset_descriptor.__get__"))
  htk : PySem.W.takesIn K (.builtin "object.__class__") = some true
  hm : PySem.W.mroIn K C (.type "object") = some true
  ne : PySem.W.findIn K (.ref C) "__ne__" = some (some (.builtin "object.__ne__"))
  no : ∀ n ∈ tyAll, PySem.W.kitOne K (.type n) (.ref C) = some false ∧ PySem.W.notFirst K C (.type n) = true
/-- the class D is no class under C, and no value of it is asked first -/
structure OwnP (K : PySem.W.Frag) (D C : Addr) : Prop where
  no : PySem.W.kitOne K (.ref D) (.ref C) = some false
  nf : PySem.W.notFirst K C (.ref D) = true
def okC (K : PySem.W.Frag) (C : Addr) : Bool := decide (PySem.W.findIn K (.ref C) "__class__" = some (some (.builtin "object.__class__"))) && (decide (PySem.W.specialIn K (.builtin "object.__class__") "__get__" = some (some (.builtin "getset_descriptor.__get__"))) &&
  (decide (PySem.W.takesIn K (.builtin "object.__class__") = some true) && (decide (PySem.W.mroIn K C (.type "object") = some true) && (decide (PySem.W.findIn K (.ref C) "__ne__" = some (some (.builtin "object.__ne__"))) &&
  tyAll.all fun n => decide (PySem.W.kitOne K (.type n) (.ref C) = some false) && PySem.W.notFirst K C (.type n)))))
theorem okC_of {K : PySem.W.Frag} {C : Addr} (h : okC K C = true) : OwnC K C := by
  simp only [okC, Bool.and_eq_true, decide_eq_true_eq, List.all_eq_true] at h
  obtain ⟨h1, h2, h3, h4, h5, h6⟩ := h
  exact ⟨h1, h2, h3, h4, h5, h6⟩
def okP (K : PySem.W.Frag) (D C : Addr) : Bool := decide (PySem.W.kitOne K (.ref D) (.ref C) = some false) && PySem.W.notFirst K C (.ref D)
theorem okP_of {K : PySem.W.Frag} {C D : Addr} (h : okP K D C = true) : OwnP K D C := by
  simp only [okP, Bool.and_eq_true, decide_eq_true_eq] at h
  exact ⟨h.1, h.2⟩
/-! ### the head's facts, with a word of one's own -/
def hookX (n : Nat) (fa : List He.Fa) (fn : List He.DefD) (ex : PySem.W.Frag → Bool) : PySem.W.Hook where
  α := He.AlD × Bool
  obs := fun s => (He.obsDG n fa fn s.heap.get?, ex (He.frG s.heap.get? (He.asD s.heap.get? n)))
  val := fun _ => (He.valD fn, true)
  says := fun _ h => ∃ K : PySem.W.Frag, K.In h ∧ He.SaysD fa fn K ∧ ex K = true
  of := fun _ _ e => ⟨_, He.frG_in, congrArg (fun z : He.AlD × Bool => z.1) e, congrArg (fun z : He.AlD × Bool => z.2) e⟩
  keeps := fun _ _ _ ⟨K, hK, c, d⟩ k => ⟨K, PySem.W.Frag.In.keeps hK k, c, d⟩
def obsX (n : Nat) (fa : List He.Fa) (fn : List He.DefD) (ex : PySem.W.Frag → Bool) (g : Addr → Option Obj) : He.AlD × Bool := (He.obsDG n fa fn g, ex (He.frG g (He.asD g n)))
theorem obsX_eq {n : Nat} {fa : List He.Fa} {fn : List He.DefD} {ex : PySem.W.Frag → Bool} {g : Addr → Option Obj} {s : Shared} (h : ∀ a, g a = s.heap.get? a) : obsX n fa fn ex g = (hookX n fa fn ex).obs s := by
  have e : g = s.heap.get? := funext h
  rw [e] <;> rfl
/-! ### own exception classes -/
/-- an own class over B with an own __init__ -/
structure XOk (K : PySem.W.Frag) (B newId initId : String) (bmB : List Value) (C fI : Addr) : Prop where
  cls : ∃ nm q N bs bm sn sub ab col dd k0 k1 k2 k3 k5, K.lookup C = some (excClassObj nm q C N bs bm true sn sub ab col dd k0 k1 k2 k3 k5 newId) ∧ PySem.W.excTail bmB bm = true
  sa : PySem.W.findIn K (.ref C) "__setattr__" = some (some (.builtin "object.__setattr__"))
  ga : PySem.W.findIn K (.ref C) "__getattribute__" = some (some (.builtin "BaseException.__getattribute__"))
  gg : PySem.W.findIn K (.ref C) "__getattr__" = some none
  exC : PySem.W.subIn K (.ref C) (.type "BaseException") = some true
  tyC : PySem.W.typeIn K (.ref C) = some (.type "type")
  kC : PySem.W.keepIn K (.ref C) = true
  hd : PySem.W.hasDictIn K C = true
  ha : PySem.W.findIn K (.ref C) "__class__" = some (some (.builtin "object.__class__"))
  hn : PySem.W.specialIn K (.builtin "object.__class__") "__get__" = some (some (.builtin "getset_descriptor.__get__"))
  ht : PySem.W.takesIn K (.builtin "object.__class__") = some true
  hm : PySem.W.mroIn K C (.type "object") = some true
  init : PySem.W.findIn K (.ref C) "__init__" = some (some (.ref fI))
  tI : PySem.W.typeIn K (.ref fI) = some (.type "function")
  vB : PySem.W.findCls K (.type B) (.type "type") "__init__" = some (.val (.builtin initId))
def clsXB (K : PySem.W.Frag) (bmB : List Value) (newId : String) (C : Addr) : Bool := match K.lookup C with
  | some ⟨.type "type", _, .cls cd, sl⟩ => (match cd.mro, sl.toList with
    | .ref C' :: bm, [_, _, _, _, some (.builtin n), _] => C' == C && n == newId && !cd.hasDel && cd.hasDict && PySem.W.excTail bmB bm
    | _, _ => false)
  | _ => false
def okX (K : PySem.W.Frag) (B newId initId : String) (bmB : List Value) (C fI : Addr) : Bool :=
  clsXB K bmB newId C && (decide (PySem.W.findIn K (.ref C) "__setattr__" = some (some (.builtin "object.__setattr__"))) && (decide (PySem.W.findIn K (.ref C) "__getattribute__" = some (some (.builtin "BaseException.__getattribute__"))) &&
  (decide (PySem.W.findIn K (.ref C) "__getattr__" = some none) && (decide (PySem.W.subIn K (.ref C) (.type "BaseException") = some true) && (decide (PySem.W.typeIn K (.ref C) = some (.type "type")) && (PySem.W.keepIn K (.ref C) && (PySem.W.hasDictIn K C &&
  (decide (PySem.W.findIn K (.ref C) "__class__" = some (some (.builtin "object.__class__"))) && (decide (PySem.W.specialIn K (.builtin "object.__class__") "__get__" = some (some (.builtin "getset_descriptor.__get__"))) &&
  (decide (PySem.W.takesIn K (.builtin "object.__class__") = some true) && (decide (PySem.W.mroIn K C (.type "object") = some true) && (decide (PySem.W.findIn K (.ref C) "__init__" = some (some (.ref fI))) &&
  (decide (PySem.W.typeIn K (.ref fI) = some (.type "function")) && (match PySem.W.findCls K (.type B) (.type "type") "__init__" with | some (.val (.builtin n)) => n == initId | _ => false))))))))))))))
theorem clsXB_of {K : PySem.W.Frag} {bmB : List Value} {newId : String} {C : Addr} (q : clsXB K bmB newId C = true) :
    ∃ nm q N bs bm sn sub ab col dd k0 k1 k2 k3 k5, K.lookup C = some (excClassObj nm q C N bs bm true sn sub ab col dd k0 k1 k2 k3 k5 newId) ∧ PySem.W.excTail bmB bm = true := by
  unfold clsXB at q
  split at q
  · rename_i dd cd sl ho
    split at q
    · rename_i C' bm k0 k1 k2 k3 n k5 hm hs
      simp only [Bool.and_eq_true, beq_iff_eq, Bool.not_eq_true'] at q
      obtain ⟨⟨⟨⟨rfl, rfl⟩, hdel⟩, hdi⟩, ht⟩ := q
      obtain ⟨nm, bs, mro, ns, qn, hd, sn, sub, ab, col, del⟩ := cd
      dsimp only at hm hdel hdi
      subst hm hdel hdi
      have hsl : sl = #[k0, k1, k2, k3, some (.builtin n), k5] := by
        obtain ⟨l⟩ := sl
        simp only at hs
        rw [hs]
      subst hsl
      exact ⟨nm, qn, ns, bs, bm, sn, sub, ab, col, dd, k0, k1, k2, k3, k5, ho, ht⟩
    · cases q
  · cases q
theorem okX_of {K : PySem.W.Frag} {B newId initId : String} {bmB : List Value} {C fI : Addr} (h : okX K B newId initId bmB C fI = true) : XOk K B newId initId bmB C fI := by
  simp only [okX, Bool.and_eq_true, decide_eq_true_eq] at h
  obtain ⟨h1, h2, h3, h4, h5, h6, h7, h8, h9, h10, h11, h12, h13, h14, h15⟩ := h
  refine ⟨clsXB_of h1, h2, h3, h4, h5, h6, h7, h8, h9, h10, h11, h12, h13, h14, ?_⟩
  split at h15
  · rename_i n e
    rw [e, beq_iff_eq.mp h15]
  · cases h15
def okXT (K : PySem.W.Frag) (cl : Str → Addr) (known : List Str) : Bool := known.all fun c1 => known.all fun c2 => decide (PySem.W.exmOne K (.ref (cl c1)) (.ref (cl c2)) = some (c1 == c2))
def okXI (K : PySem.W.Frag) (cl : Str → Addr) (n : String) (tab : List (Str × Bool)) : Bool := (tab.all fun p => decide (PySem.W.kitOne K (.ref (cl p.1)) (.type n) = some p.2)) && tyAll.all fun a => decide (PySem.W.kitOne K (.type a) (.type n) = some false)
abbrev bm_ValueError : List Value := [.type "ValueError", .type "Exception", .type "BaseException", .type "object"]
abbrev bm_ArithmeticError : List Value := [.type "ArithmeticError", .type "Exception", .type "BaseException", .type "object"]
abbrev bm_KeyError : List Value := [.type "KeyError", .type "LookupError", .type "Exception", .type "BaseException", .type "object"]
abbrev bm_IndexError : List Value := [.type "IndexError", .type "LookupError", .type "Exception", .type "BaseException", .type "object"]
end VL

namespace Gk04
open PySem PySem.Spec PyProof.Rows L2 VL
/-! ### the text -/
def xkn : List Str := ["InvalidRow"]
def xt_ValueError : List (Str × Bool) := [("InvalidRow", true)]
def top (i : Nat) : Stmt := PySem.Challenge.pw_lastturn_k04_choosing_down_rows.main.body.getD i (.Pass ⟨0, 0, 0, 0⟩)
abbrev s_is_sequence : Stmt := top 14
abbrev s_is_order_of : Stmt := top 15
abbrev s_Wishes_guests : Stmt := inClass (top 23) 3
abbrev s_need_row : Stmt := top 17
abbrev s_Wishes_gifts : Stmt := inClass (top 23) 2
abbrev s_Wishes_best_of : Stmt := inClass (top 23) 10
abbrev s_choose : Stmt := top 18
abbrev s__law_pen : Stmt := top 26
abbrev s__law_draw : Stmt := top 27
abbrev s_is_name : Stmt := top 13
abbrev s_are_names : Stmt := top 20
abbrev s_need_gifts : Stmt := top 21
abbrev s_need_rankings : Stmt := top 22
abbrev s_places_of : Stmt := top 24
abbrev s_Wishes___init__ : Stmt := inClass (top 23) 0
abbrev s__law_wishes : Stmt := top 33
abbrev s__law_best : Stmt := top 34
abbrev s__law_choose : Stmt := top 35
abbrev s__law_pick : Stmt := top 28
abbrev s__law_odd : Stmt := top 36
abbrev s__law_is_order : Stmt := top 37
abbrev s__law_shuffled : Stmt := top 29
abbrev s__law_names : Stmt := top 30
abbrev s__law_ranking : Stmt := top 31
abbrev s__law_raw : Stmt := top 32
abbrev s__law_begin : Stmt := top 38
abbrev s__law_caught : Stmt := top 39
abbrev s_law : Stmt := top 40
abbrev s_InvalidRow___init__ : Stmt := inClass (top 5) 0
/-! ### the run -/
def dd_is_sequence : He.DefD := ⟨("is_sequence", none), "is_sequence", "is_sequence", defArgs s_is_sequence, defBody s_is_sequence, defScope s_is_sequence, [], []⟩
def dd_is_order_of : He.DefD := ⟨("is_order_of", none), "is_order_of", "is_order_of", defArgs s_is_order_of, defBody s_is_order_of, defScope s_is_order_of, [], []⟩
def dd_Wishes_guests : He.DefD := ⟨("Wishes", some "guests"), "guests", "Wishes.guests", defArgs s_Wishes_guests, defBody s_Wishes_guests, defScope s_Wishes_guests, [], []⟩
def dd_need_row : He.DefD := ⟨("need_row", none), "need_row", "need_row", defArgs s_need_row, defBody s_need_row, defScope s_need_row, [], []⟩
def dd_Wishes_gifts : He.DefD := ⟨("Wishes", some "gifts"), "gifts", "Wishes.gifts", defArgs s_Wishes_gifts, defBody s_Wishes_gifts, defScope s_Wishes_gifts, [], []⟩
def dd_Wishes_best_of : He.DefD := ⟨("Wishes", some "best_of"), "best_of", "Wishes.best_of", defArgs s_Wishes_best_of, defBody s_Wishes_best_of, defScope s_Wishes_best_of, [], []⟩
def dd_choose : He.DefD := ⟨("choose", none), "choose", "choose", defArgs s_choose, defBody s_choose, defScope s_choose, [], []⟩
def dd__law_pen : He.DefD := ⟨("_law_pen", none), "_law_pen", "_law_pen", defArgs s__law_pen, defBody s__law_pen, defScope s__law_pen, [], []⟩
def dd__law_draw : He.DefD := ⟨("_law_draw", none), "_law_draw", "_law_draw", defArgs s__law_draw, defBody s__law_draw, defScope s__law_draw, [], []⟩
def dd_is_name : He.DefD := ⟨("is_name", none), "is_name", "is_name", defArgs s_is_name, defBody s_is_name, defScope s_is_name, [], []⟩
def dd_are_names : He.DefD := ⟨("are_names", none), "are_names", "are_names", defArgs s_are_names, defBody s_are_names, defScope s_are_names, [], []⟩
def dd_need_gifts : He.DefD := ⟨("need_gifts", none), "need_gifts", "need_gifts", defArgs s_need_gifts, defBody s_need_gifts, defScope s_need_gifts, [], []⟩
def dd_need_rankings : He.DefD := ⟨("need_rankings", none), "need_rankings", "need_rankings", defArgs s_need_rankings, defBody s_need_rankings, defScope s_need_rankings, [], []⟩
def dd_places_of : He.DefD := ⟨("places_of", none), "places_of", "places_of", defArgs s_places_of, defBody s_places_of, defScope s_places_of, [], []⟩
def dd_Wishes___init__ : He.DefD := ⟨("Wishes", some "__init__"), "__init__", "Wishes.__init__", defArgs s_Wishes___init__, defBody s_Wishes___init__, defScope s_Wishes___init__, [], []⟩
def dd__law_wishes : He.DefD := ⟨("_law_wishes", none), "_law_wishes", "_law_wishes", defArgs s__law_wishes, defBody s__law_wishes, defScope s__law_wishes, [], []⟩
def dd__law_best : He.DefD := ⟨("_law_best", none), "_law_best", "_law_best", defArgs s__law_best, defBody s__law_best, defScope s__law_best, [], []⟩
def dd__law_choose : He.DefD := ⟨("_law_choose", none), "_law_choose", "_law_choose", defArgs s__law_choose, defBody s__law_choose, defScope s__law_choose, [], []⟩
def dd__law_pick : He.DefD := ⟨("_law_pick", none), "_law_pick", "_law_pick", defArgs s__law_pick, defBody s__law_pick, defScope s__law_pick, [], []⟩
def dd__law_odd : He.DefD := ⟨("_law_odd", none), "_law_odd", "_law_odd", defArgs s__law_odd, defBody s__law_odd, defScope s__law_odd, [], []⟩
def dd__law_is_order : He.DefD := ⟨("_law_is_order", none), "_law_is_order", "_law_is_order", defArgs s__law_is_order, defBody s__law_is_order, defScope s__law_is_order, [], []⟩
def dd__law_shuffled : He.DefD := ⟨("_law_shuffled", none), "_law_shuffled", "_law_shuffled", defArgs s__law_shuffled, defBody s__law_shuffled, defScope s__law_shuffled, [], []⟩
def dd__law_names : He.DefD := ⟨("_law_names", none), "_law_names", "_law_names", defArgs s__law_names, defBody s__law_names, defScope s__law_names, [], []⟩
def dd__law_ranking : He.DefD := ⟨("_law_ranking", none), "_law_ranking", "_law_ranking", defArgs s__law_ranking, defBody s__law_ranking, defScope s__law_ranking, [], []⟩
def dd__law_raw : He.DefD := ⟨("_law_raw", none), "_law_raw", "_law_raw", defArgs s__law_raw, defBody s__law_raw, defScope s__law_raw, [], []⟩
def dd__law_begin : He.DefD := ⟨("_law_begin", none), "_law_begin", "_law_begin", defArgs s__law_begin, defBody s__law_begin, defScope s__law_begin, [], []⟩
def dd__law_caught : He.DefD := ⟨("_law_caught", none), "_law_caught", "_law_caught", defArgs s__law_caught, defBody s__law_caught, defScope s__law_caught, [], []⟩
def dd_law : He.DefD := ⟨("law", none), "law", "law", defArgs s_law, defBody s_law, defScope s_law, [], []⟩
def dd_InvalidRow___init__ : He.DefD := ⟨("InvalidRow", some "__init__"), "__init__", "InvalidRow.__init__", defArgs s_InvalidRow___init__, defBody s_InvalidRow___init__, defScope s_InvalidRow___init__, [], []⟩
def fnL : List He.DefD := [dd_is_sequence, dd_is_order_of, dd_Wishes_guests, dd_need_row, dd_Wishes_gifts, dd_Wishes_best_of, dd_choose, dd__law_pen, dd__law_draw, dd_is_name, dd_are_names, dd_need_gifts, dd_need_rankings, dd_places_of, dd_Wishes___init__, dd__law_wishes, dd__law_best, dd__law_choose, dd__law_pick, dd__law_odd, dd__law_is_order, dd__law_shuffled, dd__law_names, dd__law_ranking, dd__law_raw, dd__law_begin, dd__law_caught, dd_law, dd_InvalidRow___init__]
def faL_0 : List He.Fa := [.free "ValueError", .free "abs", .free "all", .free "dict", .free "enumerate", .free "int", .free "isinstance", .free "len", .free "list", .free "min", .free "range", .free "repr", .free "set", .free "sorted", .free "str", .free "tuple", .int "GIFTS" (16), .int "GUESTS" (16), .str "LETTERS" "abcdefghijklmnopqrstuvwxyz", .int "LONGEST_NAME" (8), .cls "Wishes", .glo "InvalidRow", .glo "Wishes", .noat "Wishes" "own_gifts", .noat "Wishes" "own_rankings", .noat "Wishes" "places", .glo "is_sequence", .glo "is_order_of", .meth "Wishes" "guests", .glo "need_row"]
def faL_1 : List He.Fa := [.meth "Wishes" "gifts", .meth "Wishes" "best_of", .glo "choose", .glo "_law_pen", .glo "_law_draw", .glo "is_name", .glo "are_names", .glo "need_gifts", .glo "need_rankings", .glo "places_of", .mkr "Wishes", .glo "_law_wishes", .glo "_law_best", .glo "_law_choose", .glo "_law_pick", .glo "_law_odd", .glo "_law_is_order", .glo "_law_shuffled", .glo "_law_names", .glo "_law_ranking", .glo "_law_raw", .glo "_law_begin", .glo "_law_caught", .glo "law"]
def faL : List He.Fa := faL_0 ++ faL_1
def looseL_0 : List PySem.Str := ["_wall", "InvalidName", "InvalidGifts", "InvalidRanking", "InvalidRow", "UnknownGuest", "TooLarge", "GUESTS", "GIFTS", "LETTERS", "LONGEST_NAME", "is_name", "is_sequence", "is_order_of", "need_row", "choose", "are_names", "need_gifts", "need_rankings", "Wishes", "places_of", "_law_pen", "_law_draw", "_law_pick", "_law_shuffled", "_law_names", "_law_ranking", "_law_raw", "_law_wishes", "_law_best"]
def looseL_1 : List PySem.Str := ["_law_choose", "_law_odd", "_law_is_order", "_law_begin", "_law_caught"]
def looseL : List PySem.Str := looseL_0 ++ looseL_1
abbrev RR : PySem.W.OpenRow := PySem.W.OpenLaw.row PySem.Challenge.rw_lastturn_k04_choosing_down_rows
def exH (K : PySem.W.Frag) : Bool := VL.okX K "ValueError" "ValueError.__new__" "ValueError.__init__" VL.bm_ValueError (He.ga K "InvalidRow") (He.ma K (He.ga K "InvalidRow") "__init__") && (VL.okXT K (He.ga K) Gk04.xkn && (VL.okXI K (He.ga K) "ValueError" Gk04.xt_ValueError))
abbrev hkH : PySem.W.Hook := VL.hookX 4 faL fnL exH
def obH (s : PySem.W.SharedT) : He.AlD × Bool := VL.obsX 4 faL fnL exH (HandSHeadRun.getT s)
theorem ob_eq (s : PySem.W.SharedT) : obH s = hkH.obs s.abs := VL.obsX_eq (HandSHeadRun.getT_eq s)
theorem runH (w : World) : HandSHeadRun.RunEq RR (PySem.W.view RR.prog [40]) hkH obH 6000 looseL w := by
  intro os
  kernel_rfl
end Gk04

namespace VL
open PySem PySem.Spec PyProof.Rows L2

/-- frozen data -/
inductive D where
  | non | bl (b : Bool) | int (i : Int) | str (x : Str) | ty (n : String) | gl (a : Addr)
  | tup (xs : List D) | lst (xs : List D) | dct (kvs : List (Key × D)) | dcT (kvs : List (List Key × D)) | ins (c : Str) (fs : List (Str × D)) | scr (ns : List Int) | kt (xs : List D) | tpn (xs : List D)
  | exn (c : Str) (fs : List (Str × D))
/-- data whose containers are owned by one name, down to frozen parts -/
inductive T where
  | fz (d : D) | tup (xs : List T) | lst (xs : List T) | dct (kvs : List (Key × T)) | dcT (kvs : List (List Key × T)) | ins (c : Str) (fs : List (Str × T))

mutual
@[simp] def frz : T → D
  | .fz d => d
  | .tup xs => .tup (frzL xs)
  | .lst xs => .lst (frzL xs)
  | .dct kvs => .dct (frzK kvs)
  | .dcT kvs => .dcT (frzQ kvs)
  | .ins c fs => .ins c (frzF fs)
@[simp] def frzL : List T → List D
  | [] => []
  | t :: ts => frz t :: frzL ts
@[simp] def frzK : List (Key × T) → List (Key × D)
  | [] => []
  | (k, t) :: r => (k, frz t) :: frzK r
@[simp] def frzQ : List (List Key × T) → List (List Key × D)
  | [] => []
  | (k, t) :: r => (k, frz t) :: frzQ r
@[simp] def frzF : List (Str × T) → List (Str × D)
  | [] => []
  | (k, t) :: r => (k, frz t) :: frzF r
end
theorem frzL_map : ∀ ts, frzL ts = ts.map frz
  | [] => by simp [frzL]
  | t :: ts => by simp [frzL, frzL_map ts]
theorem frzK_map : ∀ ts, frzK ts = ts.map fun p => (p.1, frz p.2)
  | [] => by simp [frzK]
  | (k, t) :: ts => by simp [frzK, frzK_map ts]
theorem frzQ_map : ∀ ts, frzQ ts = ts.map fun p => (p.1, frz p.2)
  | [] => by simp [frzQ]
  | (k, t) :: ts => by simp [frzQ, frzQ_map ts]
theorem frzF_map : ∀ ts, frzF ts = ts.map fun p => (p.1, frz p.2)
  | [] => by simp [frzF]
  | (k, t) :: ts => by simp [frzF, frzF_map ts]
theorem frzL_fz : ∀ ds : List D, frzL (ds.map T.fz) = ds
  | [] => rfl
  | d :: ds => by simp [frzL, frz, frzL_fz ds]

abbrev PA1 := Addr → Prop
def Dis (S R : PA1) : Prop := ∀ a, S a → R a → False
def Uni (S R : PA1) : PA1 := fun a => S a ∨ R a
def KT (K : PySem.W.Frag) (a : Addr) (xs : List V) : Prop :=
  ∃ (o : Obj) (its : Array Value) (n : Nat), K.lookup a = some o ∧ o.cls = .type "tuple" ∧ o.data = .seq its n ∧ its.size ≤ sizeLine ∧ Vals xs its.toList
def KL (K : PySem.W.Frag) (a : Addr) (xs : List V) : Prop :=
  ∃ (o : Obj) (its : Array Value) (n : Nat), K.lookup a = some o ∧ o.cls = .type "list" ∧ o.dict = none ∧ o.data = .seq its n ∧ its.size ≤ sizeLine ∧ Vals xs its.toList

/-- what may be locked for the time of a walk -/
def soft : HO → Bool
  | .dK _ => true
  | .dT _ => true
  | .frz _ (.dK _) => true
  | .frz _ (.dT _) => true
  | _ => false
structure Kept (H H' : Hp) (a : Addr) : Prop where
  ex : ∀ u, soft u = false → H a = some u → H' a = some u
  dk : ∀ kvs, Rd H a (.dK kvs) → Rd H' a (.dK kvs)
  dt : ∀ kvs, Rd H a (.dT kvs) → Rd H' a (.dT kvs)
theorem Kept.of {H H' : Hp} {a : Addr} (h : ∀ u, H a = some u → H' a = some u) : Kept H H' a :=
  ⟨fun u _ e => h u e, fun _ r => r.imp (h _) fun ⟨o, r⟩ => ⟨o, h _ r⟩, fun _ r => r.imp (h _) fun ⟨o, r⟩ => ⟨o, h _ r⟩⟩
theorem Kept.refl {H : Hp} {a : Addr} : Kept H H a := .of fun _ e => e
/-- a tuple of which it is known that it has no dict of its own -/
def TupP (H : Hp) (a : Addr) (vs : List V) : Prop := ∃ o : Obj, o.dict = none ∧ H a = some (.frz o (.tup vs))
theorem TupP.kept {H H' : Hp} {a : Addr} {vs : List V} (h : TupP H a vs) (k : Kept H H' a) : TupP H' a vs := let ⟨o, d, e⟩ := h; ⟨o, d, k.ex _ rfl e⟩
theorem TupP.on {H H' : Hp} {a : Addr} {vs : List V} (h : TupP H a vs) (k : ∀ o, H a = some o → H' a = some o) : TupP H' a vs := let ⟨o, d, e⟩ := h; ⟨o, d, k _ e⟩
theorem TupP.sq {K : PySem.W.Frag} {H : Hp} {a : Addr} {vs : List V} (h : TupP H a vs) : SqT K H a vs := let ⟨o, _, e⟩ := h; .inl (.inr ⟨o, e⟩)
theorem TupP.ne {H : Hp} {a : Addr} {vs : List V} (h : TupP H a vs) : H a ≠ none := let ⟨_, _, e⟩ := h; by rw [e]; exact fun z => nomatch z
theorem TupP.new {H : Hp} {a : Addr} {vs : List V} {o : Obj} (d : o.dict = none) : TupP (upd H a (.frz o (.tup vs))) a vs := ⟨o, d, upd_same⟩
/-- an exception held as a value: its class, its dict -/
def ExV (cls : Value) (d : Option Addr) (a : Addr) : HO := .ext fun h => ∃ (oe : Obj) (vs : Array Value), h.get? a = some oe ∧ Zc cls d oe ∧ oe.data = .fields vs
section
variable (K : PySem.W.Frag) (cl : Str → Addr) (H : Hp) (Z : PA1)
mutual
inductive Rp : D → V → Prop
  | non : Rp .non .non
  | bl (b) : Rp (.bl b) (.bl b)
  | int (i) : Rp (.int i) (.int i)
  | str (x) : Rp (.str x) (.str x)
  | ty (n) : Rp (.ty n) (.ty n)
  | gl (a) : Rp (.gl a) (.ref a)
  | scr {a ns} : (KL K a (ns.map V.int) ∨ Z a ∧ ∃ o, H a = some (.frz o (.lst (ns.map V.int)))) → Rp (.scr ns) (.ref a)
  | kt {a vs xs} : KT K a vs → RpL xs vs → Rp (.kt xs) (.ref a)
  | tup {a vs xs} : Z a → TupP H a vs → RpL xs vs → Rp (.tup xs) (.ref a)
  | tpn {a vs xs} : Z a → H a = some (.tup vs) → RpL xs vs → Rp (.tpn xs) (.ref a)
  | lst {a vs xs} : Z a → H a = some (.lst vs) → RpL xs vs → Rp (.lst xs) (.ref a)
  | dct {a kvs ds} : Z a → Rd H a (.dK kvs) → ds.map (·.1) = kvs.map (·.1) → RpL (ds.map (·.2)) (kvs.map (·.2)) → Rp (.dct ds) (.ref a)
  | dcT {a kvs ds} : Z a → Rd H a (.dT kvs) → ds.map (·.1) = kvs.map (·.1) → RpL (ds.map (·.2)) (kvs.map (·.2)) → Rp (.dcT ds) (.ref a)
  | ins {a c dx fvs fs} : Z a → H a = some (.ins (cl c) dx fvs) → fs.map (·.1) = fvs.map (·.1) → RpL (fs.map (·.2)) (fvs.map (·.2)) → Rp (.ins c fs) (.ref a)
  | ex0 {a c} : Z a → H a = some (ExV (.ref (cl c)) none a) → Rp (.exn c []) (.ref a)
  | exn {a c dx fvs fs} : Z a → H a = some (ExV (.ref (cl c)) (some dx) a) → Z dx → H dx = some (.xd fvs) → fs.map (·.1) = fvs.map (·.1) → RpL (fs.map (·.2)) (fvs.map (·.2)) → Rp (.exn c fs) (.ref a)
inductive RpL : List D → List V → Prop
  | nil : RpL [] []
  | cons {d v ds vs} : Rp d v → RpL ds vs → RpL (d :: ds) (v :: vs)
end
mutual
inductive Own : T → V → PA1 → Prop
  | fz {d v S} : Rp K cl H Z d v → Own (.fz d) v S
  | tup {a vs ts} {S R : PA1} : TupP H a vs → S a → (∀ b, R b → S b ∧ b ≠ a) → OwnL ts vs R → Own (.tup ts) (.ref a) S
  | lst {a vs ts} {S R : PA1} : H a = some (.lst vs) → S a → (∀ b, R b → S b ∧ b ≠ a) → OwnL ts vs R → Own (.lst ts) (.ref a) S
  | dct {a kvs ks} {S R : PA1} : H a = some (.dK kvs) → S a → (∀ b, R b → S b ∧ b ≠ a) → ks.map (·.1) = kvs.map (·.1) → OwnL (ks.map (·.2)) (kvs.map (·.2)) R → Own (.dct ks) (.ref a) S
  | dcT {a kvs ks} {S R : PA1} : H a = some (.dT kvs) → S a → (∀ b, R b → S b ∧ b ≠ a) → ks.map (·.1) = kvs.map (·.1) → OwnL (ks.map (·.2)) (kvs.map (·.2)) R → Own (.dcT ks) (.ref a) S
  | ins {a c dx fvs fs} {S R : PA1} : H a = some (.ins (cl c) dx fvs) → S a → (∀ b, R b → S b ∧ b ≠ a) → fs.map (·.1) = fvs.map (·.1) → OwnL (fs.map (·.2)) (fvs.map (·.2)) R → Own (.ins c fs) (.ref a) S
inductive OwnL : List T → List V → PA1 → Prop
  | nil {S} : OwnL [] [] S
  | cons {t v ts vs} {S S1 S2 : PA1} : Own t v S1 → OwnL ts vs S2 → (∀ a, S1 a → S a) → (∀ a, S2 a → S a) → Dis S1 S2 → OwnL (t :: ts) (v :: vs) S
end
end

section
variable {K : PySem.W.Frag} {cl : Str → Addr} {H H' : Hp} {Z Z' : PA1}
theorem RpL.len : ∀ {ds vs}, RpL K cl H Z ds vs → ds.length = vs.length
  | _, _, .nil => rfl
  | _, _, .cons _ r => by simp [RpL.len r]
theorem OwnL.len : ∀ {ts vs S}, OwnL K cl H Z ts vs S → ts.length = vs.length
  | _, _, _, .nil => rfl
  | _, _, _, .cons _ r _ _ _ => by simp [OwnL.len r]
mutual
theorem Rp.mono (hz : ∀ a, Z a → Z' a) (hr : ∀ a, Z a → Kept H H' a) : ∀ {d v}, Rp K cl H Z d v → Rp K cl H' Z' d v
  | _, _, .non => .non
  | _, _, .bl b => .bl b
  | _, _, .int i => .int i
  | _, _, .str x => .str x
  | _, _, .ty n => .ty n
  | _, _, .gl a => .gl a
  | _, _, .scr h => .scr (h.imp id fun ⟨h1, o, h2⟩ => ⟨hz _ h1, o, (hr _ h1).ex _ rfl h2⟩)
  | _, _, .kt h r => .kt h (RpL.mono hz hr r)
  | _, _, .tup h1 h2 r => .tup (hz _ h1) (h2.kept (hr _ h1)) (RpL.mono hz hr r)
  | _, _, .tpn h1 h2 r => .tpn (hz _ h1) ((hr _ h1).ex _ rfl h2) (RpL.mono hz hr r)
  | _, _, .lst h1 h2 r => .lst (hz _ h1) ((hr _ h1).ex _ rfl h2) (RpL.mono hz hr r)
  | _, _, .dct h1 h2 h3 r => .dct (hz _ h1) ((hr _ h1).dk _ h2) h3 (RpL.mono hz hr r)
  | _, _, .dcT h1 h2 h3 r => .dcT (hz _ h1) ((hr _ h1).dt _ h2) h3 (RpL.mono hz hr r)
  | _, _, .ins h1 h2 h3 r => .ins (hz _ h1) ((hr _ h1).ex _ rfl h2) h3 (RpL.mono hz hr r)
  | _, _, .ex0 h1 h2 => .ex0 (hz _ h1) ((hr _ h1).ex _ rfl h2)
  | _, _, .exn h1 h2 h3 h4 h5 r => .exn (hz _ h1) ((hr _ h1).ex _ rfl h2) (hz _ h3) ((hr _ h3).ex _ rfl h4) h5 (RpL.mono hz hr r)
theorem RpL.mono (hz : ∀ a, Z a → Z' a) (hr : ∀ a, Z a → Kept H H' a) : ∀ {ds vs}, RpL K cl H Z ds vs → RpL K cl H' Z' ds vs
  | _, _, .nil => .nil
  | _, _, .cons h r => .cons (Rp.mono hz hr h) (RpL.mono hz hr r)
end
mutual
theorem Own.mono (hz : ∀ a, Z a → Z' a) (hr : ∀ a, Z a → Kept H H' a) : ∀ {t v S}, (∀ a o, S a → H a = some o → H' a = some o) → Own K cl H Z t v S → Own K cl H' Z' t v S
  | _, _, _, _, .fz h => .fz (h.mono hz hr)
  | _, _, _, hs, .tup h1 h2 h3 r => .tup (h1.on fun o => hs _ o h2) h2 h3 (OwnL.mono hz hr (fun a o q => hs a o (h3 a q).1) r)
  | _, _, _, hs, .lst h1 h2 h3 r => .lst (hs _ _ h2 h1) h2 h3 (OwnL.mono hz hr (fun a o q => hs a o (h3 a q).1) r)
  | _, _, _, hs, .dct h1 h2 h3 h4 r => .dct (hs _ _ h2 h1) h2 h3 h4 (OwnL.mono hz hr (fun a o q => hs a o (h3 a q).1) r)
  | _, _, _, hs, .dcT h1 h2 h3 h4 r => .dcT (hs _ _ h2 h1) h2 h3 h4 (OwnL.mono hz hr (fun a o q => hs a o (h3 a q).1) r)
  | _, _, _, hs, .ins h1 h2 h3 h4 r => .ins (hs _ _ h2 h1) h2 h3 h4 (OwnL.mono hz hr (fun a o q => hs a o (h3 a q).1) r)
theorem OwnL.mono (hz : ∀ a, Z a → Z' a) (hr : ∀ a, Z a → Kept H H' a) : ∀ {ts vs S}, (∀ a o, S a → H a = some o → H' a = some o) → OwnL K cl H Z ts vs S → OwnL K cl H' Z' ts vs S
  | _, _, _, _, .nil => .nil
  | _, _, _, hs, .cons h r a1 a2 d => .cons (Own.mono hz hr (fun a o q => hs a o (a1 a q)) h) (OwnL.mono hz hr (fun a o q => hs a o (a2 a q)) r) a1 a2 d
end
theorem Own.up {t v} {S R : PA1} (h : Own K cl H Z t v S) (u : ∀ a, S a → R a) : Own K cl H Z t v R := by
  cases h with
  | fz h => exact .fz h
  | tup h1 h2 h3 r => exact .tup h1 (u _ h2) (fun b q => ⟨u _ (h3 b q).1, (h3 b q).2⟩) r
  | lst h1 h2 h3 r => exact .lst h1 (u _ h2) (fun b q => ⟨u _ (h3 b q).1, (h3 b q).2⟩) r
  | dct h1 h2 h3 h4 r => exact .dct h1 (u _ h2) (fun b q => ⟨u _ (h3 b q).1, (h3 b q).2⟩) h4 r
  | dcT h1 h2 h3 h4 r => exact .dcT h1 (u _ h2) (fun b q => ⟨u _ (h3 b q).1, (h3 b q).2⟩) h4 r
  | ins h1 h2 h3 h4 r => exact .ins h1 (u _ h2) (fun b q => ⟨u _ (h3 b q).1, (h3 b q).2⟩) h4 r
theorem OwnL.up {ts vs} {S R : PA1} (h : OwnL K cl H Z ts vs S) (u : ∀ a, S a → R a) : OwnL K cl H Z ts vs R := by
  cases h with
  | nil => exact .nil
  | cons h r a1 a2 d => exact .cons h r (fun a q => u a (a1 a q)) (fun a q => u a (a2 a q)) d
theorem frzK_keys (ks : List (Key × T)) : (frzK ks).map (·.1) = ks.map (·.1) ∧ (frzK ks).map (·.2) = frzL (ks.map (·.2)) := by
  rw [frzK_map, frzL_map]; simp
theorem frzQ_keys (ks : List (List Key × T)) : (frzQ ks).map (·.1) = ks.map (·.1) ∧ (frzQ ks).map (·.2) = frzL (ks.map (·.2)) := by
  rw [frzQ_map, frzL_map]; simp
theorem frzF_keys (ks : List (Str × T)) : (frzF ks).map (·.1) = ks.map (·.1) ∧ (frzF ks).map (·.2) = frzL (ks.map (·.2)) := by
  rw [frzF_map, frzL_map]; simp
/-! frozen: what was owned is frozen from now on -/
mutual
theorem Own.frz : ∀ {t v S}, (∀ a, Z a → Z' a) → (∀ a, S a → Z' a) → Own K cl H Z t v S → Rp K cl H Z' (frz t) v
  | _, _, _, hz, _, .fz h => by rw [VL.frz]; exact h.mono hz fun _ _ => .refl
  | _, _, _, hz, hs, .tup h1 h2 h3 r => by rw [VL.frz]; exact .tup (hs _ h2) h1 (OwnL.frz hz (fun a q => hs a (h3 a q).1) r)
  | _, _, _, hz, hs, .lst h1 h2 h3 r => by rw [VL.frz]; exact .lst (hs _ h2) h1 (OwnL.frz hz (fun a q => hs a (h3 a q).1) r)
  | _, _, _, hz, hs, .dct h1 h2 h3 h4 r => by rw [VL.frz]; exact .dct (hs _ h2) (.inl h1) ((frzK_keys _).1.trans h4) (by rw [(frzK_keys _).2]; exact OwnL.frz hz (fun a q => hs a (h3 a q).1) r)
  | _, _, _, hz, hs, .dcT h1 h2 h3 h4 r => by rw [VL.frz]; exact .dcT (hs _ h2) (.inl h1) ((frzQ_keys _).1.trans h4) (by rw [(frzQ_keys _).2]; exact OwnL.frz hz (fun a q => hs a (h3 a q).1) r)
  | _, _, _, hz, hs, .ins h1 h2 h3 h4 r => by rw [VL.frz]; exact .ins (hs _ h2) h1 ((frzF_keys _).1.trans h4) (by rw [(frzF_keys _).2]; exact OwnL.frz hz (fun a q => hs a (h3 a q).1) r)
theorem OwnL.frz : ∀ {ts vs S}, (∀ a, Z a → Z' a) → (∀ a, S a → Z' a) → OwnL K cl H Z ts vs S → RpL K cl H Z' (frzL ts) vs
  | _, _, _, _, _, .nil => by rw [frzL]; exact .nil
  | _, _, _, hz, hs, .cons h r a1 a2 d => by rw [frzL]; exact .cons (Own.frz hz (fun a q => hs a (a1 a q)) h) (OwnL.frz hz (fun a q => hs a (a2 a q)) r)
end

/-! ### the frame's names -/
abbrev En := List (Option T)
end
section
variable (K : PySem.W.Frag) (cl : Str → Addr) (H : Hp) (Z : PA1)
inductive OwnE : En → L2.St → PA1 → Prop
  | nl {S} : OwnE [] [] S
  | no {x E σ S} : OwnE E σ S → OwnE (none :: E) (x :: σ) S
  | so {t v E σ} {S S1 S2 : PA1} : Own K cl H Z t v S1 → OwnE E σ S2 → (∀ a, S1 a → S a) → (∀ a, S2 a → S a) → Dis S1 S2 → OwnE (some t :: E) (some v :: σ) S
end
section
variable {K : PySem.W.Frag} {cl : Str → Addr} {H H' : Hp} {Z Z' : PA1}
theorem OwnE.mono (hz : ∀ a, Z a → Z' a) (hr : ∀ a, Z a → Kept H H' a) : ∀ {E : En} {σ : L2.St} {S}, (∀ a o, S a → H a = some o → H' a = some o) → OwnE K cl H Z E σ S → OwnE K cl H' Z' E σ S
  | _, _, _, _, .nl => .nl
  | _, _, _, hs, .no r => .no (OwnE.mono hz hr hs r)
  | _, _, _, hs, .so h r a1 a2 d => .so (Own.mono hz hr (fun a o q => hs a o (a1 a q)) h) (OwnE.mono hz hr (fun a o q => hs a o (a2 a q)) r) a1 a2 d
theorem OwnE.up {E : En} {σ : L2.St} {S R : PA1} (h : OwnE K cl H Z E σ S) (u : ∀ a, S a → R a) : OwnE K cl H Z E σ R := by
  induction h generalizing R with
  | nl => exact .nl
  | no r ih => exact .no (ih u)
  | so h r a1 a2 d ih => exact .so h r (fun a q => u a (a1 a q)) (fun a q => u a (a2 a q)) d
theorem OwnE.len : ∀ {E : En} {σ : L2.St} {S}, OwnE K cl H Z E σ S → E.length = σ.length
  | _, _, _, .nl => rfl
  | _, _, _, .no r => by simp [OwnE.len r]
  | _, _, _, .so _ r _ _ _ => by simp [OwnE.len r]
/-- one name taken out -/
theorem OwnE.take : ∀ {E : En} {σ : L2.St} {S : PA1} {i : Nat} {t}, OwnE K cl H Z E σ S → E[i]? = some (some t) →
    ∃ v, ∃ Si Sr : PA1, σ[i]? = some (some v) ∧ Own K cl H Z t v Si ∧ OwnE K cl H Z (E.set i none) σ Sr ∧ Dis Si Sr ∧ (∀ a, Si a → S a) ∧ (∀ a, Sr a → S a)
  | _, _, _, i, _, .nl, h => by simp at h
  | _, _, _, 0, _, .no r, h => by simp at h
  | _, _, _, i + 1, _, .no r, h => by
    obtain ⟨v, Si, Sr, h1, h2, h3, h4, h5, h6⟩ := OwnE.take r (by simpa using h)
    exact ⟨v, Si, Sr, by simpa using h1, h2, .no h3, h4, h5, h6⟩
  | _, _, _, 0, _, .so (S1 := S1) (S2 := S2) q r a1 a2 d, h => by
    simp at h; subst h
    exact ⟨_, S1, S2, by simp, q, .no r, d, a1, a2⟩
  | _, _, S, i + 1, _, .so (S1 := S1) (S2 := S2) q r a1 a2 d, h => by
    obtain ⟨v, Si, Sr, h1, h2, h3, h4, h5, h6⟩ := OwnE.take r (by simpa using h)
    refine ⟨v, Si, Uni S1 Sr, by simpa using h1, h2, .so q h3 (fun _ z => .inl z) (fun _ z => .inr z) (fun a z1 z2 => d a z1 (h6 a z2)), fun a z1 z2 => ?_, fun a z => a2 a (h5 a z), fun a z => z.elim (a1 a) fun z => a2 a (h6 a z)⟩
    rcases z2 with z2 | z2
    · exact d a z2 (h5 a z1)
    · exact h4 a z1 z2
/-- one name put in -/
theorem OwnE.put : ∀ {E : En} {σ : L2.St} {Sr : PA1} {i : Nat} {t v} {Si : PA1}, OwnE K cl H Z (E.set i none) σ Sr → i < E.length → Own K cl H Z t v Si → Dis Si Sr →
    OwnE K cl H Z (E.set i (some t)) (σ.set i (some v)) (Uni Si Sr)
  | [], _, _, i, _, _, _, _, h, _, _ => by simp at h
  | e :: E, σ, Sr, 0, t, v, Si, r, _, q, d => by
    simp only [List.set_cons_zero] at r ⊢
    cases r with
    | no r => exact .so q r (fun _ z => .inl z) (fun _ z => .inr z) d
  | e :: E, σ, Sr, i + 1, t, v, Si, r, h, q, d => by
    simp only [List.set_cons_succ] at r ⊢
    cases r with
    | no r =>
      simp only [List.set_cons_succ]
      exact .no (OwnE.put r (by simpa using h) q d)
    | @so _ _ _ _ S1 S2 _ q' r a1 a2 d' =>
      simp only [List.set_cons_succ]
      refine .so q' (OwnE.put r (by simpa using h) q fun a z1 z2 => d a z1 (a2 a z2)) (fun a z => .inr (a1 a z)) (fun a z => z.elim .inl fun z => .inr (a2 a z)) fun a z1 z2 => ?_
      rcases z2 with z2 | z2
      · exact d a z2 (a1 a z1)
      · exact d' a z1 z2
theorem OwnE.drop : ∀ {E : En} {σ : L2.St} {S : PA1} (i : Nat), OwnE K cl H Z E σ S → OwnE K cl H Z (E.set i none) σ S
  | _, _, _, _, .nl => by simp; exact .nl
  | _, _, _, 0, .no r => by simp; exact .no r
  | _, _, _, i + 1, .no r => by simp; exact .no (OwnE.drop i r)
  | _, _, _, 0, .so q r a1 a2 d => by simp; exact .no (r.up a2)
  | _, _, _, i + 1, .so q r a1 a2 d => by simp; exact .so q (OwnE.drop i r) a1 a2 d
/-- a slot whose value is not known may hold anything -/
theorem OwnE.any : ∀ {E : En} {σ : L2.St} {S : PA1} (i : Nat) (x : Option V), OwnE K cl H Z (E.set i none) σ S → OwnE K cl H Z (E.set i none) (σ.set i x) S
  | [], _, _, _, _, r => by simp at r ⊢; cases r; simp; exact .nl
  | e :: E, _, _, 0, _, r => by simp at r ⊢; cases r with | no r => simp; exact .no r
  | e :: E, _, _, i + 1, _, r => by
    simp at r ⊢
    cases r with
    | no r => simp; exact .no (OwnE.any i _ r)
    | so q r a1 a2 d => simp; exact .so q (OwnE.any i _ r) a1 a2 d

/-! ### steps of the heap -/
structure Okk (H : Hp) (Z S : PA1) : Prop where
  dis : Dis S Z
  sa : ∀ a, S a → H a ≠ none
  za : ∀ a, Z a → H a ≠ none
structure Step (H : Hp) (Z S : PA1) (H' : Hp) (Z' S' : PA1) : Prop where
  zz : ∀ a, Z a → Z' a
  zn : ∀ a, Z' a → Z a ∨ S a ∨ H a = none
  sn : ∀ a, S' a → S a ∨ H a = none
  kp : ∀ a o, H a = some o → ¬ S a → H' a = some o
  al : ∀ a, H a ≠ none → H' a ≠ none
theorem Step.refl {S : PA1} : Step H Z S H Z S := ⟨fun _ z => z, fun _ z => .inl z, fun _ z => .inl z, fun _ _ e _ => e, fun _ z => z⟩
theorem Step.trans {H1 H2 : Hp} {Z1 Z2 S S1 S2 : PA1} (a : Step H Z S H1 Z1 S1) (b : Step H1 Z1 S1 H2 Z2 S2) : Step H Z S H2 Z2 S2 where
  zz := fun x z => b.zz x (a.zz x z)
  zn := fun x z => by
    rcases b.zn x z with z | z | z
    · exact a.zn x z
    · exact .inr (a.sn x z)
    · refine .inr (.inr ?_)
      cases e : H x with
      | none => rfl
      | some o => exact absurd z (a.al x (by rw [e]; simp))
  sn := fun x z => by
    rcases b.sn x z with z | z
    · exact a.sn x z
    · refine .inr ?_
      cases e : H x with
      | none => rfl
      | some o => exact absurd z (a.al x (by rw [e]; simp))
  kp := fun x o e n => b.kp x o (a.kp x o e n) fun z => by
    rcases a.sn x z with z | z
    · exact n z
    · rw [e] at z; cases z
  al := fun x z => b.al x (a.al x z)
/-- less is owned behind -/
theorem Step.less {Z1 S S1 S2 : PA1} {H1 : Hp} (a : Step H Z S H1 Z1 S1) (h : ∀ x, S2 x → S1 x) : Step H Z S H1 Z1 S2 := ⟨a.zz, a.zn, fun x z => a.sn x (h x z), a.kp, a.al⟩
theorem Okk.less {S R : PA1} (a : Okk H Z S) (h : ∀ x, R x → S x) : Okk H Z R := ⟨fun x z => a.dis x (h x z), fun x z => a.sa x (h x z), a.za⟩
/-- beside something that is held -/
theorem Step.frame {H1 : Hp} {Z1 S S1 R : PA1} (a : Step H Z S H1 Z1 S1) : Step H Z (Uni R S) H1 Z1 (Uni R S1) :=
  ⟨a.zz, fun x z => (a.zn x z).imp id fun z => z.imp .inr id, fun x z => z.elim (fun z => .inl (.inl z)) fun z => (a.sn x z).imp .inr id, fun x o e n => a.kp x o e fun z => n (.inr z), a.al⟩
/-- more might have been changed -/
theorem Step.more {H1 : Hp} {Z1 S S1 R : PA1} (a : Step H Z S H1 Z1 S1) (h : ∀ x, S x → R x) : Step H Z R H1 Z1 S1 :=
  ⟨a.zz, fun x z => (a.zn x z).imp id fun z => z.imp (h x) id, fun x z => (a.sn x z).imp (h x) id, fun x o e n => a.kp x o e fun z => n (h x z), a.al⟩
theorem Step.okk {H1 : Hp} {Z1 S S1 R : PA1} (a : Step H Z S H1 Z1 S1) (o : Okk H Z (Uni R S)) (o1 : Okk H1 Z1 S1) (d : Dis R S) : Okk H1 Z1 (Uni R S1) where
  dis := fun x z y => by
    rcases z with z | z
    · rcases a.zn x y with q | q | q
      · exact o.dis x (.inl z) q
      · exact d x z q
      · exact o.sa x (.inl z) q
    · exact o1.dis x z y
  sa := fun x z => z.elim (fun z => a.al x (o.sa x (.inl z))) (o1.sa x)
  za := o1.za
theorem Step.dis {H1 : Hp} {Z1 S S1 R : PA1} (a : Step H Z S H1 Z1 S1) (o : ∀ x, R x → H x ≠ none) (d : Dis R S) : Dis R S1 := fun x z y => by
  rcases a.sn x y with q | q
  · exact d x z q
  · exact o x z q
/-- what a step keeps of held things -/
theorem Step.rd {H1 : Hp} {Z1 S S1 : PA1} (a : Step H Z S H1 Z1 S1) (o : Dis S Z) : ∀ x, Z x → Kept H H1 x := fun x z => .of fun u e => a.kp x u e fun q => o x q z
theorem Step.own {H1 : Hp} {Z1 S S1 R : PA1} {t v} (a : Step H Z S H1 Z1 S1) (o : Dis S Z) (d : Dis R S) (h : Own K cl H Z t v R) : Own K cl H1 Z1 t v R :=
  h.mono a.zz (a.rd o) fun x u z e => a.kp x u e fun q => d x z q
theorem Step.ownL {H1 : Hp} {Z1 S S1 R : PA1} {ts vs} (a : Step H Z S H1 Z1 S1) (o : Dis S Z) (d : Dis R S) (h : OwnL K cl H Z ts vs R) : OwnL K cl H1 Z1 ts vs R :=
  h.mono a.zz (a.rd o) fun x u z e => a.kp x u e fun q => d x z q
theorem Step.ownE {H1 : Hp} {Z1 S S1 R : PA1} {E σ} (a : Step H Z S H1 Z1 S1) (o : Dis S Z) (d : Dis R S) (h : OwnE K cl H Z E σ R) : OwnE K cl H1 Z1 E σ R :=
  h.mono a.zz (a.rd o) fun x u z e => a.kp x u e fun q => d x z q
theorem Step.rp {H1 : Hp} {Z1 S S1 : PA1} {d v} (a : Step H Z S H1 Z1 S1) (o : Dis S Z) (h : Rp K cl H Z d v) : Rp K cl H1 Z1 d v := h.mono a.zz (a.rd o)
end
end VL

namespace VL
open PySem PySem.Spec PyProof.Rows L2

/-- an exception: its class, its fields -/
structure Exn where
  c : Str
  fs : List (Str × D)
inductive Out (α : Type) where
  | ok (a : α) (E : En) | ex (x : Exn) (E : En)
abbrev Ev (α : Type) := En → Option (Out α)
def bnd {α β : Type} (r : Option (Out α)) (f : α → En → Option (Out β)) : Option (Out β) :=
  match r with
  | none => none
  | some (.ok a E) => f a E
  | some (.ex x E) => some (.ex x E)
@[simp] theorem bnd_none {α β : Type} (f : α → En → Option (Out β)) : bnd none f = none := rfl
@[simp] theorem bnd_ok {α β : Type} (a : α) (E : En) (f : α → En → Option (Out β)) : bnd (some (.ok a E)) f = f a E := rfl
@[simp] theorem bnd_ex {α β : Type} (x : Exn) (E : En) (f : α → En → Option (Out β)) : bnd (some (.ex x E)) f = some (.ex x E) := rfl
def opt {α : Type} (o : Option α) (E : En) : Option (Out α) := match o with | none => none | some a => some (.ok a E)
@[simp] theorem opt_none {α : Type} (E : En) : opt (none : Option α) E = none := rfl
@[simp] theorem opt_some {α : Type} (a : α) (E : En) : opt (some a) E = some (.ok a E) := rfl

abbrev Emp : PA1 := fun _ => False
def ExR (K : PySem.W.Frag) (cl : Str → Addr) (H : Hp) (Z : PA1) (x : Exn) (c : Value) (d : Option Addr) : Prop :=
  c = .ref (cl x.c) ∧ ((x.fs = [] ∧ d = none) ∨ ∃ da fv, d = some da ∧ Z da ∧ H da = some (.xd fv) ∧ x.fs.map (·.1) = fv.map (·.1) ∧ RpL K cl H Z (x.fs.map (·.2)) (fv.map (·.2)))

section
variable (K : PySem.W.Frag) (cl : Str → Addr) (W : WX) (σ : L2.St) (H : Hp) (Z S : PA1)
/-- an exception's way out -/
def SatX (x : Exn) (E' : En) : Prop := ∀ c d H' Z' (S' : PA1), OwnE K cl H' Z' E' σ S' → ExR K cl H' Z' x c d → Step H Z S H' Z' S' → Okk H' Z' S' → W c d σ H'
def SatV (Q : VK) : Option (Out T) → Prop
  | none => False
  | some (.ok r E') => ∀ v H' Z' (Sr S' : PA1), OwnE K cl H' Z' E' σ S' → Own K cl H' Z' r v Sr → Dis Sr S' → Step H Z S H' Z' (Uni Sr S') → Okk H' Z' (Uni Sr S') → Q v H'
  | some (.ex x E') => SatX K cl W σ H Z S x E'
def SatD (Q : VK) : Option (Out T) → Prop
  | none => False
  | some (.ok r E') => ∀ v H' Z' (S' : PA1), OwnE K cl H' Z' E' σ S' → Rp K cl H' Z' (frz r) v → Step H Z S H' Z' S' → Okk H' Z' S' → Q v H'
  | some (.ex x E') => SatX K cl W σ H Z S x E'
def SatB (Q : Bool → Hp → Prop) : Option (Out Bool) → Prop
  | none => False
  | some (.ok b E') => ∀ H' Z' (S' : PA1), OwnE K cl H' Z' E' σ S' → Step H Z S H' Z' S' → Okk H' Z' S' → Q b H'
  | some (.ex x E') => SatX K cl W σ H Z S x E'
def SatA (Q : List V → Hp → Prop) : Option (Out (List D)) → Prop
  | none => False
  | some (.ok ds E') => ∀ vs H' Z' (S' : PA1), OwnE K cl H' Z' E' σ S' → RpL K cl H' Z' ds vs → Step H Z S H' Z' S' → Okk H' Z' S' → Q vs H'
  | some (.ex x E') => SatX K cl W σ H Z S x E'
end
section
variable {K : PySem.W.Frag} {cl : Str → Addr} {W : WX} {σ : L2.St} {H H1 : Hp} {Z S Z1 S1 : PA1}
theorem SatX.re {x E'} (st : Step H Z S H1 Z1 S1) (h : SatX K cl W σ H Z S x E') : SatX K cl W σ H1 Z1 S1 x E' := fun c d H' Z' S' a b s o => h c d H' Z' S' a b (st.trans s) o
theorem SatV.re {Q : VK} {o} (st : Step H Z S H1 Z1 S1) (h : SatV K cl W σ H Z S Q o) : SatV K cl W σ H1 Z1 S1 Q o := by
  match o with
  | none => exact h
  | some (.ok r E') => exact fun v H' Z' Sr S' a b d s o => h v H' Z' Sr S' a b d (st.trans s) o
  | some (.ex x E') => exact SatX.re st h
theorem SatD.re {Q : VK} {o} (st : Step H Z S H1 Z1 S1) (h : SatD K cl W σ H Z S Q o) : SatD K cl W σ H1 Z1 S1 Q o := by
  match o with
  | none => exact h
  | some (.ok r E') => exact fun v H' Z' S' a b s o => h v H' Z' S' a b (st.trans s) o
  | some (.ex x E') => exact SatX.re st h
theorem SatB.re {Q : Bool → Hp → Prop} {o} (st : Step H Z S H1 Z1 S1) (h : SatB K cl W σ H Z S Q o) : SatB K cl W σ H1 Z1 S1 Q o := by
  match o with
  | none => exact h
  | some (.ok r E') => exact fun H' Z' S' a s o => h H' Z' S' a (st.trans s) o
  | some (.ex x E') => exact SatX.re st h
theorem SatA.re {Q : List V → Hp → Prop} {o} (st : Step H Z S H1 Z1 S1) (h : SatA K cl W σ H Z S Q o) : SatA K cl W σ H1 Z1 S1 Q o := by
  match o with
  | none => exact h
  | some (.ok r E') => exact fun v H' Z' S' a b s o => h v H' Z' S' a b (st.trans s) o
  | some (.ex x E') => exact SatX.re st h
/-- the kinds of end, for what follows a part -/
class Sats (α : Type) (κ : Type) where
  sat : PySem.W.Frag → (Str → Addr) → WX → L2.St → Hp → PA1 → PA1 → κ → Option (Out α) → Prop
  re : ∀ {K cl W σ H Z S H1 Z1 S1 Q o}, Step H Z S H1 Z1 S1 → sat K cl W σ H Z S Q o → sat K cl W σ H1 Z1 S1 Q o
  no : ∀ {K cl W σ H Z S Q}, ¬ sat K cl W σ H Z S Q none
  ex : ∀ {K cl W σ H Z S Q x E}, sat K cl W σ H Z S Q (some (.ex x E)) → SatX K cl W σ H Z S x E
instance : Sats T VK := ⟨SatV, SatV.re, fun h => h, fun h => h⟩
instance : Sats Bool (Bool → Hp → Prop) := ⟨SatB, SatB.re, fun h => h, fun h => h⟩
instance : Sats (List D) (List V → Hp → Prop) := ⟨SatA, SatA.re, fun h => h, fun h => h⟩
variable {β κ : Type} [Sats β κ] {q : κ}
theorem satD_bnd {o : Option (Out T)} {f : T → En → Option (Out β)} {P : VK} (h : Sats.sat K cl W σ H Z S q (bnd o f))
    (k : ∀ r E1, Sats.sat K cl W σ H Z S q (f r E1) → ∀ v H1 Z1 (S1 : PA1), OwnE K cl H1 Z1 E1 σ S1 → Rp K cl H1 Z1 (frz r) v → Step H Z S H1 Z1 S1 → Okk H1 Z1 S1 → P v H1) : SatD K cl W σ H Z S P o := by
  match o with
  | none => exact (Sats.no h).elim
  | some (.ok r E') => exact k r E' h
  | some (.ex x E') => exact Sats.ex h
theorem satV_bnd {o : Option (Out T)} {f : T → En → Option (Out β)} {P : VK} (h : Sats.sat K cl W σ H Z S q (bnd o f))
    (k : ∀ r E1, Sats.sat K cl W σ H Z S q (f r E1) → ∀ v H1 Z1 (Sr S1 : PA1), OwnE K cl H1 Z1 E1 σ S1 → Own K cl H1 Z1 r v Sr → Dis Sr S1 → Step H Z S H1 Z1 (Uni Sr S1) → Okk H1 Z1 (Uni Sr S1) → P v H1) : SatV K cl W σ H Z S P o := by
  match o with
  | none => exact (Sats.no h).elim
  | some (.ok r E') => exact k r E' h
  | some (.ex x E') => exact Sats.ex h
theorem satB_bnd {o : Option (Out Bool)} {f : Bool → En → Option (Out β)} {P : Bool → Hp → Prop} (h : Sats.sat K cl W σ H Z S q (bnd o f))
    (k : ∀ b E1, Sats.sat K cl W σ H Z S q (f b E1) → ∀ H1 Z1 (S1 : PA1), OwnE K cl H1 Z1 E1 σ S1 → Step H Z S H1 Z1 S1 → Okk H1 Z1 S1 → P b H1) : SatB K cl W σ H Z S P o := by
  match o with
  | none => exact (Sats.no h).elim
  | some (.ok r E') => exact k r E' h
  | some (.ex x E') => exact Sats.ex h
theorem satA_bnd {o : Option (Out (List D))} {f : List D → En → Option (Out β)} {P : List V → Hp → Prop} (h : Sats.sat K cl W σ H Z S q (bnd o f))
    (k : ∀ ds E1, Sats.sat K cl W σ H Z S q (f ds E1) → ∀ vs H1 Z1 (S1 : PA1), OwnE K cl H1 Z1 E1 σ S1 → RpL K cl H1 Z1 ds vs → Step H Z S H1 Z1 S1 → Okk H1 Z1 S1 → P vs H1) : SatA K cl W σ H Z S P o := by
  match o with
  | none => exact (Sats.no h).elim
  | some (.ok r E') => exact k r E' h
  | some (.ex x E') => exact Sats.ex h
theorem sat_opt {o : Option β} {E : En} (h : Sats.sat K cl W σ H Z S q (opt o E)) : ∃ b, o = some b ∧ Sats.sat K cl W σ H Z S q (some (.ok b E)) := by
  cases o with
  | none => exact (Sats.no h).elim
  | some b => exact ⟨b, rfl, h⟩
end

/-! ### the judgements -/
structure IE (X : Cx) (cl : Str → Addr) (e : Expr) (t : Ev T) : Prop where
  run : ∀ W, Takes X W → ∃ te, PE X e te ∧ ∀ E σ H Z (S : PA1) Q, OwnE X.K cl H Z E σ S → Okk H Z S → SatV X.K cl W σ H Z S Q (t E) → te σ H Q
structure IB (X : Cx) (cl : Str → Addr) (e : Expr) (t : Ev Bool) : Prop where
  run : ∀ W, Takes X W → ∃ te, PT X e te ∧ ∀ E σ H Z (S : PA1) Q, OwnE X.K cl H Z E σ S → Okk H Z S → SatB X.K cl W σ H Z S Q (t E) → te σ H Q
/-- arguments, frozen -/
structure IA (X : Cx) (cl : Str → Addr) (es : List Expr) (t : Ev (List D)) : Prop where
  run : ∀ W, Takes X W → ∃ te, PA X es te ∧ ∀ E σ H Z (S : PA1) Q, OwnE X.K cl H Z E σ S → Okk H Z S → SatA X.K cl W σ H Z S Q (t E) → te σ H Q

section
variable {X : Cx} {cl : Str → Addr}
/-- the value frozen -/
theorem freezeStep {H : Hp} {Z Sr S : PA1} (o : Okk H Z (Uni Sr S)) (d : Dis Sr S) : Step H Z (Uni Sr S) H (Uni Z Sr) S ∧ Okk H (Uni Z Sr) S :=
  ⟨⟨fun _ z => .inl z, fun _ z => z.imp id fun z => .inl (.inl z), fun _ z => .inl (.inr z), fun _ _ e _ => e, fun _ z => z⟩,
   ⟨fun a z y => y.elim (o.dis a (.inr z)) fun y => d a y z, fun a z => o.sa a (.inr z), fun a z => z.elim (o.za a) fun z => o.sa a (.inl z)⟩⟩
theorem OwnE.zmore {K : PySem.W.Frag} {H : Hp} {Z Z' : PA1} {E : En} {σ : L2.St} {S : PA1} (h : OwnE K cl H Z E σ S) (hz : ∀ a, Z a → Z' a) : OwnE K cl H Z' E σ S := h.mono hz (fun _ _ => .refl) fun _ _ _ e => e
theorem IE.fz {e : Expr} {t : Ev T} (h : IE X cl e t) (W : WX) (tk : Takes X W) : ∃ te, PE X e te ∧ ∀ E σ H Z (S : PA1) Q, OwnE X.K cl H Z E σ S → Okk H Z S → SatD X.K cl W σ H Z S Q (t E) → te σ H Q := by
  obtain ⟨te, pe, hr⟩ := h.run W tk
  refine ⟨te, pe, fun E σ H Z S Q oe ok sat => hr E σ H Z S Q oe ok ?_⟩
  revert sat
  match t E with
  | none => exact fun s => s
  | some (.ex x E') => exact fun s => s
  | some (.ok r E') =>
    intro sat v H' Z' Sr S' a b d s o
    obtain ⟨s2, o2⟩ := freezeStep o d
    exact sat v H' (Uni Z' Sr) S' (a.zmore fun _ z => .inl z) (b.frz (fun _ z => .inl z) fun _ z => .inr z) (s.trans s2) o2

/-! ### names, constants -/
/-- a name whose value is frozen -/
def eVar (i : Nat) : Ev T := fun E => match E[i]? with
  | some (some (.fz d)) => some (.ok (.fz d) E)
  | _ => none
/-- a name, frozen where it stands -/
def eFrz (i : Nat) : Ev T := fun E => match E[i]? with
  | some (some t) => some (.ok (.fz (frz t)) (E.set i (some (.fz (frz t)))))
  | _ => none
/-- a name's value taken out of it -/
def eMov (i : Nat) : Ev T := fun E => match E[i]? with
  | some (some t) => some (.ok t (E.set i none))
  | _ => none
theorem set_get {α : Type} {E : List α} {i : Nat} {x : α} (h : E[i]? = some x) : E.set i x = E := by
  apply List.ext_getElem?
  intro j
  by_cases hj : i = j
  · subst hj
    rw [List.getElem?_set_self (by have := (List.getElem?_eq_some_iff.mp h).1; exact this), h]
  · rw [List.getElem?_set_ne hj]
theorem OwnE.slot {K : PySem.W.Frag} {H : Hp} {Z : PA1} {E : En} {σ : L2.St} {S : PA1} {i : Nat} {t : T} (h : OwnE K cl H Z E σ S) (hi : E[i]? = some (some t)) : i < E.length := (List.getElem?_eq_some_iff.mp hi).1
theorem ie_mov {i : Nat} {x : Str} {pos : Pos} (hN : X.N[i]? = some x) (hv : Vis X.env.scope x) (hd : (x == ("__debug__" : Str)) = false := by decide) (hcd : (x == ("__classdict__" : Str)) = false := by decide) : IE X cl (.Name x pos) (eMov i) := by
  refine ⟨fun W tk => ⟨tVar i, pe_var hN hv hd hcd, fun E σ H Z S Q oe ok sat => ?_⟩⟩
  unfold eMov at sat
  split at sat
  · rename_i t ht
    obtain ⟨v, Si, Sr, h1, h2, h3, h4, h5, h6⟩ := oe.take ht
    exact ⟨v, h1, sat v H Z Si Sr h3 h2 h4 (Step.refl.less fun a z => z.elim (h5 a) (h6 a)) (ok.less fun a z => z.elim (h5 a) (h6 a))⟩
  · exact sat.elim
theorem ie_frz {i : Nat} {x : Str} {pos : Pos} (hN : X.N[i]? = some x) (hv : Vis X.env.scope x) (hd : (x == ("__debug__" : Str)) = false := by decide) (hcd : (x == ("__classdict__" : Str)) = false := by decide) : IE X cl (.Name x pos) (eFrz i) := by
  refine ⟨fun W tk => ⟨tVar i, pe_var hN hv hd hcd, fun E σ H Z S Q oe ok sat => ?_⟩⟩
  unfold eFrz at sat
  split at sat
  · rename_i t ht
    obtain ⟨v, Si, Sr, h1, h2, h3, h4, h5, h6⟩ := oe.take ht
    obtain ⟨s2, o2⟩ := freezeStep (ok.less fun a z => z.elim (h5 a) (h6 a) : Okk H Z (Uni Si Sr)) h4
    have rp := h2.frz (Z' := Uni Z Si) (fun _ z => .inl z) fun _ z => .inr z
    have pe := OwnE.put (i := i) (t := .fz (frz t)) (v := v) (Si := Emp) (h3.zmore (Z' := Uni Z Si) fun _ z => .inl z) (oe.slot ht) (.fz rp) (fun _ z _ => z)
    have e1 : σ.set i (some v) = σ := set_get h1
    rw [e1] at pe
    refine ⟨v, h1, sat v H (Uni Z Si) Emp Sr (pe.up fun a z => z.elim False.elim id) (.fz rp) (fun _ z _ => z) ?_ (o2.less fun a z => z.elim False.elim id)⟩
    exact ((Step.refl.less fun a z => z.elim (h5 a) (h6 a)).trans s2).less fun a z => z.elim False.elim id
  · exact sat.elim
theorem ie_var {i : Nat} {x : Str} {pos : Pos} (hN : X.N[i]? = some x) (hv : Vis X.env.scope x) (hd : (x == ("__debug__" : Str)) = false := by decide) (hcd : (x == ("__classdict__" : Str)) = false := by decide) : IE X cl (.Name x pos) (eVar i) := by
  refine ⟨fun W tk => ⟨tVar i, pe_var hN hv hd hcd, fun E σ H Z S Q oe ok sat => ?_⟩⟩
  unfold eVar at sat
  split at sat
  · rename_i d ht
    obtain ⟨v, Si, Sr, h1, h2, h3, h4, h5, h6⟩ := oe.take ht
    cases h2 with
    | fz rp =>
      exact ⟨v, h1, sat v H Z Emp S oe (.fz rp) (fun _ z _ => z) (Step.refl.less fun a z => z.elim False.elim id) (ok.less fun a z => z.elim False.elim id)⟩
  · exact sat.elim
def eC (d : D) : Ev T := fun E => some (.ok (.fz d) E)
theorem ie_c {e : Expr} {v : V} {d : D} (h : PE X e (tC v)) (r : ∀ H Z, Rp X.K cl H Z d v) : IE X cl e (eC d) := by
  refine ⟨fun W tk => ⟨_, h, fun E σ H Z S Q oe ok sat => ?_⟩⟩
  exact sat v H Z Emp S oe (.fz (r H Z)) (fun _ z _ => z) (Step.refl.less fun a z => z.elim False.elim id) (ok.less fun a z => z.elim False.elim id)
theorem ie_int {i j pos} : IE X cl (.Constant (.int i) j pos) (eC (.int i)) := ie_c pe_int fun _ _ => .int _
theorem ie_bl {b j pos} : IE X cl (.Constant (.bool b) j pos) (eC (.bl b)) := ie_c pe_bl fun _ _ => .bl _
theorem ie_non {j pos} : IE X cl (.Constant .none j pos) (eC .non) := ie_c pe_non fun _ _ => .non
theorem ie_str {x j pos} : IE X cl (.Constant (.str x) j pos) (eC (.str x)) := ie_c pe_str fun _ _ => .str _
/-- a module's constant: an int, a text -/
theorem ie_gint {x : Str} {i : Int} {t : Tok} {pos : Pos} (hm : X.mg x = some (.int i t)) (hg : Gl X x) (hd : (x == ("__debug__" : Str)) = false := by decide) : IE X cl (.Name x pos) (eC (.int i)) := ie_c (v := .int i) (pe_glob hg hm ⟨_, rfl⟩ hd) fun _ _ => .int _
theorem ie_gstr {x : Str} {i : Str} {t : Tok} {pos : Pos} (hm : X.mg x = some (.str i t)) (hg : Gl X x) (hd : (x == ("__debug__" : Str)) = false := by decide) : IE X cl (.Name x pos) (eC (.str i)) := ie_c (v := .str i) (pe_glob hg hm ⟨_, rfl⟩ hd) fun _ _ => .str _
/-- a built-in class -/
theorem ie_ty {x : Str} {n : String} {pos : Pos} (hm : X.mg x = none) (hb : bootBuiltins x = some (.type n)) (hg : Gl X x) (hn : x ≠ "__name__" := by decide) (hd : (x == ("__debug__" : Str)) = false := by decide) : IE X cl (.Name x pos) (eC (.ty n)) := ie_c (v := .ty n) (pe_bltn hg hm hb rfl hn hd) fun _ _ => .ty _
/-- a class, a def of the text -/
theorem ie_gl {x : Str} {a : Addr} {pos : Pos} (hm : X.mg x = some (.ref a)) (hg : Gl X x) (hd : (x == ("__debug__" : Str)) = false := by decide) : IE X cl (.Name x pos) (eC (.gl a)) := ie_c (v := .ref a) (pe_glob hg hm rfl hd) fun _ _ => .gl _

/-! ### operations on data -/
/-- what an operation on values makes of data -/
def OkR (K : PySem.W.Frag) (cl : Str → Addr) (H : Hp) (Z : PA1) (Q : VK) (o : Option T) : Prop :=
  match o with
  | none => False
  | some t => ∀ v' H' Z' (Sr : PA1), Own K cl H' Z' t v' Sr → Step H Z Emp H' Z' Sr → Okk H' Z' Sr → Q v' H'
def OpV (K : PySem.W.Frag) (cl : Str → Addr) (r : R2) (g : D → D → Option T) : Prop :=
  ∀ x y v u H (Z : PA1) Q, (∀ a, Z a → H a ≠ none) → Rp K cl H Z x v → Rp K cl H Z y u → OkR K cl H Z Q (g x y) → r v u H Q
/-- an operation's end beside the frame -/
theorem op_fin {K : PySem.W.Frag} {W : WX} {σ : L2.St} {H : Hp} {Z S : PA1} {Q : VK} {o : Option T} {E : En} (oe : OwnE K cl H Z E σ S) (ok : Okk H Z S) (sat : SatV K cl W σ H Z S Q (opt o E)) : OkR K cl H Z Q o := by
  cases o with
  | none => exact sat
  | some t =>
    intro v' H' Z' Sr ow st ok'
    have sat' : SatV K cl W σ H Z S Q (some (.ok t E)) := sat
    have d : Dis S Sr := st.dis ok.sa fun _ _ z => z
    have st2 : Step H Z S H' Z' (Uni Sr S) := ((st.frame (R := S)).more (R := S) fun a z => z.elim id False.elim).less fun a z => z.elim .inr .inl
    refine sat' v' H' Z' Sr S (st.ownE (fun _ z => z.elim) (fun _ _ z => z) oe) ow (fun a x y => d a y x) st2 ?_
    have o2 := st.okk (R := S) (ok.less fun a z => z.elim id False.elim) ok' fun _ _ z => z
    exact o2.less fun a z => z.elim .inr .inl
def eBin (g : D → D → Option T) (ta tb : Ev T) : Ev T := fun E => bnd (ta E) fun x E1 => bnd (tb E1) fun y E2 => opt (g (frz x) (frz y)) E2
variable {a b : Expr} {ta tb : Ev T} {pos : Pos} {g : D → D → Option T} {r : R2}
theorem two_run {W : WX} {ta' tb' : TE} (ha : ∀ E σ H Z (S : PA1) Q, OwnE X.K cl H Z E σ S → Okk H Z S → SatD X.K cl W σ H Z S Q (ta E) → ta' σ H Q)
    (hb : ∀ E σ H Z (S : PA1) Q, OwnE X.K cl H Z E σ S → Okk H Z S → SatD X.K cl W σ H Z S Q (tb E) → tb' σ H Q) (hg : OpV X.K cl r g)
    (E : En) (σ : L2.St) (H : Hp) (Z S : PA1) (Q : VK) (oe : OwnE X.K cl H Z E σ S) (ok : Okk H Z S) (sat : SatV X.K cl W σ H Z S Q (eBin g ta tb E)) : tOp r ta' tb' σ H Q := by
  refine ha E σ H Z S _ oe ok (satD_bnd (β := T) (κ := VK) (q := Q) sat fun x E1 sat1 v H1 Z1 S1 oe1 rp1 st1 ok1 => ?_)
  refine hb E1 σ H1 Z1 S1 _ oe1 ok1 (satD_bnd (β := T) (κ := VK) (q := Q) (SatV.re st1 sat1) fun y E2 sat2 u H2 Z2 S2 oe2 rp2 st2 ok2 => ?_)
  exact hg _ _ v u H2 Z2 Q ok2.za (st2.rp ok1.dis rp1) rp2 (op_fin oe2 ok2 (SatV.re st2 sat2))
theorem ie_bin {op : Operator} (ho : OpR X (binaryOp op) r) (hg : OpV X.K cl r g) (ha : IE X cl a ta) (hb : IE X cl b tb) : IE X cl (.BinOp a op b pos) (eBin g ta tb) := by
  refine ⟨fun W tk => ?_⟩
  obtain ⟨ta', pa, ha⟩ := ha.fz W tk
  obtain ⟨tb', pb, hb⟩ := hb.fz W tk
  exact ⟨_, pe_op ho pa pb, two_run ha hb hg⟩
theorem ie_cmp {op : CmpOp} (ho : OpR X (compareOp op) r) (hg : OpV X.K cl r g) (ha : IE X cl a ta) (hb : IE X cl b tb) (hm : behindInMarks op b = false) : IE X cl (.Compare a [op] [b] pos) (eBin g ta tb) := by
  refine ⟨fun W tk => ?_⟩
  obtain ⟨ta', pa, ha⟩ := ha.fz W tk
  obtain ⟨tb', pb, hb⟩ := hb.fz W tk
  exact ⟨_, pe_cmpR ho pa pb hm, two_run ha hb hg⟩
/-- a[b] -/
theorem ie_ix (ho : IxR X r) (hg : OpV X.K cl r g) (ha : IE X cl a ta) (hb : IE X cl b tb) (hs : PlainIx b) : IE X cl (.Subscript a b pos) (eBin g ta tb) := by
  refine ⟨fun W tk => ?_⟩
  obtain ⟨ta', pa, ha⟩ := ha.fz W tk
  obtain ⟨tb', pb, hb⟩ := hb.fz W tk
  exact ⟨_, pe_ix ho pa pb hs, two_run ha hb hg⟩
/-- a one-place operation -/
def eUn (g : D → Option T) (ta : Ev T) : Ev T := fun E => bnd (ta E) fun x E1 => opt (g (frz x)) E1
def UnV (K : PySem.W.Frag) (cl : Str → Addr) (r : V → Hp → VK → Prop) (g : D → Option T) : Prop :=
  ∀ x v H (Z : PA1) Q, (∀ a, Z a → H a ≠ none) → Rp K cl H Z x v → OkR K cl H Z Q (g x) → r v H Q
theorem ie_un {op : UnaryOp} {r : V → Hp → VK → Prop} {g : D → Option T} (ho : UnR X (unaryOp op) r) (hg : UnV X.K cl r g) (ha : IE X cl a ta) : IE X cl (.UnaryOp op a pos) (eUn g ta) := by
  refine ⟨fun W tk => ?_⟩
  obtain ⟨ta', pa, ha⟩ := ha.fz W tk
  refine ⟨_, pe_un ho pa, fun E σ H Z S Q oe ok sat => ?_⟩
  refine ha E σ H Z S _ oe ok (satD_bnd (β := T) (κ := VK) (q := Q) sat fun x E1 sat1 v H1 Z1 S1 oe1 rp1 st1 ok1 => ?_)
  exact hg _ v H1 Z1 Q ok1.za rp1 (op_fin oe1 ok1 (SatV.re st1 sat1))

/-! ### arguments -/
def aNil : Ev (List D) := fun E => some (.ok [] E)
def aCons (t : Ev T) (ts : Ev (List D)) : Ev (List D) := fun E => bnd (t E) fun x E1 => bnd (ts E1) fun xs E2 => some (.ok (frz x :: xs) E2)
theorem ia_nil : IA X cl [] aNil := ⟨fun W tk => ⟨_, pa_nil, fun E σ H Z S Q oe ok sat => sat [] H Z S oe .nil Step.refl ok⟩⟩
theorem ia_cons {es : List Expr} {ts : Ev (List D)} (ha : IE X cl a ta) (hs : IA X cl es ts) (hst : starEach (a :: es) X.env = (false, eval a X.env) :: starEach es X.env := by rfl) : IA X cl (a :: es) (aCons ta ts) := by
  refine ⟨fun W tk => ?_⟩
  obtain ⟨ta', pa, ha⟩ := ha.fz W tk
  obtain ⟨ts', ps, hs⟩ := hs.run W tk
  refine ⟨_, pa_cons pa ps hst, fun E σ H Z S Q oe ok sat => ?_⟩
  refine ha E σ H Z S _ oe ok (satD_bnd (β := List D) (κ := List V → Hp → Prop) (q := Q) sat fun x E1 sat1 v H1 Z1 S1 oe1 rp1 st1 ok1 => ?_)
  refine hs E1 σ H1 Z1 S1 _ oe1 ok1 (satA_bnd (β := List D) (κ := List V → Hp → Prop) (q := Q) (SatA.re st1 sat1) fun xs E2 sat2 vs H2 Z2 S2 oe2 rps st2 ok2 => ?_)
  exact (SatA.re st2 sat2 : SatA X.K cl W σ H2 Z2 S2 Q _) (v :: vs) H2 Z2 S2 oe2 (.cons (st2.rp ok1.dis rp1) rps) Step.refl ok2

/-! ### calls of built-ins -/
def CallV (K : PySem.W.Frag) (cl : Str → Addr) (r : List V → Hp → VK → Prop) (g : List D → Option T) : Prop :=
  ∀ xs vs H (Z : PA1) Q, (∀ a, Z a → H a ≠ none) → RpL K cl H Z xs vs → OkR K cl H Z Q (g xs) → r vs H Q
def eCall (g : List D → Option T) (ts : Ev (List D)) : Ev T := fun E => bnd (ts E) fun xs E1 => opt (g xs) E1
theorem one_run {W : WX} {ts : Ev (List D)} {ts' : TA} {r : List V → Hp → VK → Prop} {g : List D → Option T} (hs : ∀ E σ H Z (S : PA1) Q, OwnE X.K cl H Z E σ S → Okk H Z S → SatA X.K cl W σ H Z S Q (ts E) → ts' σ H Q)
    (hg : CallV X.K cl r g) (E : En) (σ : L2.St) (H : Hp) (Z S : PA1) (Q : VK) (oe : OwnE X.K cl H Z E σ S) (ok : Okk H Z S) (sat : SatV X.K cl W σ H Z S Q (eCall g ts E)) : tCB r ts' σ H Q := by
  refine hs E σ H Z S _ oe ok (satA_bnd (β := T) (κ := VK) (q := Q) sat fun xs E1 sat1 vs H1 Z1 S1 oe1 rps st1 ok1 => ?_)
  exact hg _ vs H1 Z1 Q ok1.za rps (op_fin oe1 ok1 (SatV.re st1 sat1))
theorem ie_callB {x : Str} {id : String} {p : Pos} {e : Expr} {es : List Expr} {ts : Ev (List D)} {r : List V → Hp → VK → Prop} {g : List D → Option T} (hc : CallR X (.builtin id) r) (hgv : CallV X.K cl r g) (hm : X.mg x = none) (hv : bootBuiltins x = some (.builtin id)) (ha : IA X cl (e :: es) ts)
    (hg : Gl X x := by rfl) (hn : x ≠ "__name__" := by decide) (hdb : (x == ("__debug__" : Str)) = false := by decide)
    (he : starEach (e :: es) X.env = (false, eval e X.env) :: starEach es X.env := by rfl) (hpl : (backTo pos (starEach es X.env)).any (·.1) = false := by rfl) : IE X cl (.Call (.Name x p) (e :: es) [] pos) (eCall g ts) := by
  refine ⟨fun W tk => ?_⟩
  obtain ⟨ts', ps, hs⟩ := ha.run W tk
  exact ⟨_, pe_callB hc hg hm hv ps hn hdb he hpl, one_run hs hgv⟩
theorem ie_callT {x : Str} {n : String} {p : Pos} {e : Expr} {es : List Expr} {ts : Ev (List D)} {r : List V → Hp → VK → Prop} {g : List D → Option T} (hc : CallR X (.type n) r) (hgv : CallV X.K cl r g) (hm : X.mg x = none) (hv : bootBuiltins x = some (.type n)) (ha : IA X cl (e :: es) ts)
    (hg : Gl X x := by rfl) (hn : x ≠ "__name__" := by decide) (hdb : (x == ("__debug__" : Str)) = false := by decide)
    (he : starEach (e :: es) X.env = (false, eval e X.env) :: starEach es X.env := by rfl) (hpl : (backTo pos (starEach es X.env)).any (·.1) = false := by rfl) : IE X cl (.Call (.Name x p) (e :: es) [] pos) (eCall g ts) := by
  refine ⟨fun W tk => ?_⟩
  obtain ⟨ts', ps, hs⟩ := ha.run W tk
  exact ⟨_, pe_callTy hc hg hm hv ps hn hdb he hpl, one_run hs hgv⟩

/-! ### tests -/
def truD : D → Option Bool
  | .non => some false
  | .bl b => some b
  | .int i => some (i != 0)
  | .str x => if x.length ≤ sizeLine then some ((x.length : Int) != 0) else none
  | .tup xs => some (!xs.isEmpty)
  | .lst xs => some (!xs.isEmpty)
  | _ => none
theorem RpL.emp {K : PySem.W.Frag} {H : Hp} {Z : PA1} {ds vs} (r : RpL K cl H Z ds vs) : vs.isEmpty = ds.isEmpty := by cases r <;> rfl
theorem truD_ok {K : PySem.W.Frag} {H : Hp} {Z : PA1} {d v b} (r : Rp K cl H Z d v) (h : truD d = some b) : TruV K v H b := by
  cases r with
  | non => cases h; rfl
  | bl x => cases h; rfl
  | int i => cases h; rfl
  | str x =>
    simp only [truD] at h
    by_cases hz : x.length ≤ sizeLine
    · rw [if_pos hz] at h
      cases h
      exact ⟨hz, rfl⟩
    · rw [if_neg hz] at h
      cases h
  | tup _ q r => cases h; exact .inr (.inl ⟨_, (TupP.sq q), by rw [r.emp]⟩)
  | lst _ q r => cases h; exact .inl ⟨_, SqL.of q, by rw [r.emp]⟩
  | ty n => cases h
  | gl n => cases h
  | scr => cases h
  | kt => cases h
  | tpn => cases h
  | ex0 => cases h
  | exn => cases h
  | dct => cases h
  | dcT => cases h
  | ins => cases h
def bTru (t : Ev T) : Ev Bool := fun E => bnd (t E) fun x E1 => opt (truD (frz x)) E1
theorem ib_tru (ha : IE X cl a ta) (he : ∀ whole, isTrue a X.env whole = (do let v ← whole; standAt a.pos; holding [v] (truthy v)) := by exact fun _ => rfl) : IB X cl a (bTru ta) := by
  refine ⟨fun W tk => ?_⟩
  obtain ⟨ta', pa, ha⟩ := ha.fz W tk
  refine ⟨_, pt_truth pa he, fun E σ H Z S Q oe ok sat => ?_⟩
  refine ha E σ H Z S _ oe ok (satD_bnd (β := Bool) (κ := Bool → Hp → Prop) (q := Q) sat fun x E1 sat1 v H1 Z1 S1 oe1 rp1 st1 ok1 => ?_)
  obtain ⟨b, hb, sat2⟩ := sat_opt (β := Bool) (κ := Bool → Hp → Prop) (q := Q) sat1
  exact ⟨b, truD_ok rp1 hb, (SatB.re st1 sat2 : SatB X.K cl W σ H1 Z1 S1 Q _) H1 Z1 S1 oe1 Step.refl ok1⟩
def asB : D → Option Bool
  | .bl b => some b
  | _ => none
/-- a comparison as a test -/
def bBin (g : D → D → Option T) (ta tb : Ev T) : Ev Bool := fun E => bnd (eBin g ta tb E) fun x E1 => opt (asB (frz x)) E1
theorem asB_rp {K : PySem.W.Frag} {H : Hp} {Z : PA1} {d v b} (r : Rp K cl H Z d v) (h : asB d = some b) : v = .bl b := by
  cases r <;> first | (cases h; done) | (cases h; rfl)
theorem ib_cmp {op : CmpOp} (ho : OpR X (compareOp op) r) (hg : OpV X.K cl r g) (ha : IE X cl a ta) (hb : IE X cl b tb) (hm : behindInMarks op b = false) : IB X cl (.Compare a [op] [b] pos) (bBin g ta tb) := by
  refine ⟨fun W tk => ?_⟩
  obtain ⟨ta', pa, ha⟩ := ha.fz W tk
  obtain ⟨tb', pb, hb⟩ := hb.fz W tk
  refine ⟨_, pt_cmpR ho pa pb hm, fun E σ H Z S Q oe ok sat => ?_⟩
  refine two_run ha hb hg E σ H Z S _ oe ok (satV_bnd (β := Bool) (κ := Bool → Hp → Prop) (q := Q) sat fun x E1 sat1 v H1 Z1 Sr S1 oe1 ow1 d1 st1 ok1 => ?_)
  obtain ⟨c, hc, sat2⟩ := sat_opt (β := Bool) (κ := Bool → Hp → Prop) (q := Q) sat1
  obtain ⟨s2, o2⟩ := freezeStep ok1 d1
  refine ⟨c, asB_rp (ow1.frz (Z' := Uni Z1 Sr) (fun _ z => .inl z) fun _ z => .inr z) hc, ?_⟩
  exact (SatB.re (st1.trans s2) sat2 : SatB X.K cl W σ H1 _ S1 Q _) H1 _ S1 (oe1.zmore fun _ z => .inl z) Step.refl o2
def bNot (t : Ev Bool) : Ev Bool := fun E => bnd (t E) fun b E1 => some (.ok (!b) E1)
theorem ib_not {t : Ev Bool} (h : IB X cl a t) : IB X cl (.UnaryOp .Not a pos) (bNot t) := by
  refine ⟨fun W tk => ?_⟩
  obtain ⟨ta', pa, ha⟩ := h.run W tk
  refine ⟨_, pt_not pa, fun E σ H Z S Q oe ok sat => ?_⟩
  refine ha E σ H Z S _ oe ok (satB_bnd (β := Bool) (κ := Bool → Hp → Prop) (q := Q) sat fun x E1 sat1 H1 Z1 S1 oe1 st1 ok1 => ?_)
  exact (SatB.re st1 sat1 : SatB X.K cl W σ H1 Z1 S1 Q _) H1 Z1 S1 oe1 Step.refl ok1
/-- the test of an and, an or: by PW -/
structure IW (X : Cx) (cl : Str → Addr) (e : Expr) (t : Ev Bool) : Prop where
  run : ∀ W, Takes X W → ∃ te, PW X e te ∧ ∀ E σ H Z (S : PA1) Q, OwnE X.K cl H Z E σ S → Okk H Z S → SatB X.K cl W σ H Z S Q (t E) → te σ H Q
theorem IW.ib {e : Expr} {t : Ev Bool} (h : IW X cl e t) : IB X cl e t := ⟨fun W tk => by obtain ⟨te, p, q⟩ := h.run W tk; exact ⟨te, p.pt, q⟩⟩
theorem iw_and1 {t : Ev Bool} (h : IB X cl a t) : IW X cl (.BoolOp .And [a] pos) t := ⟨fun W tk => by obtain ⟨te, p, q⟩ := h.run W tk; exact ⟨te, pw_and1 p, q⟩⟩
theorem iw_or1 {t : Ev Bool} (h : IB X cl a t) : IW X cl (.BoolOp .Or [a] pos) t := ⟨fun W tk => by obtain ⟨te, p, q⟩ := h.run W tk; exact ⟨te, pw_or1 p, q⟩⟩
def bAnd (t u : Ev Bool) : Ev Bool := fun E => bnd (t E) fun c E1 => if c = true then u E1 else some (.ok false E1)
def bOr (t u : Ev Bool) : Ev Bool := fun E => bnd (t E) fun c E1 => if c = true then some (.ok true E1) else u E1
theorem iw_and {rest : List Expr} {t u : Ev Bool} (h : IB X cl a t) (h2 : IW X cl (.BoolOp .And (b :: rest) pos) u) : IW X cl (.BoolOp .And (a :: b :: rest) pos) (bAnd t u) := by
  refine ⟨fun W tk => ?_⟩
  obtain ⟨ta', pa, ha⟩ := h.run W tk
  obtain ⟨tb', pb, hb⟩ := h2.run W tk
  refine ⟨_, pw_and pa pb, fun E σ H Z S Q oe ok sat => ?_⟩
  refine ha E σ H Z S _ oe ok (satB_bnd (β := Bool) (κ := Bool → Hp → Prop) (q := Q) sat fun c E1 sat1 H1 Z1 S1 oe1 st1 ok1 => ?_)
  cases c with
  | true => exact hb E1 σ H1 Z1 S1 Q oe1 ok1 (SatB.re st1 sat1)
  | false => exact (SatB.re st1 sat1 : SatB X.K cl W σ H1 Z1 S1 Q (some (.ok false E1))) H1 Z1 S1 oe1 Step.refl ok1
theorem iw_or {rest : List Expr} {t u : Ev Bool} (h : IB X cl a t) (h2 : IW X cl (.BoolOp .Or (b :: rest) pos) u) : IW X cl (.BoolOp .Or (a :: b :: rest) pos) (bOr t u) := by
  refine ⟨fun W tk => ?_⟩
  obtain ⟨ta', pa, ha⟩ := h.run W tk
  obtain ⟨tb', pb, hb⟩ := h2.run W tk
  refine ⟨_, pw_or pa pb, fun E σ H Z S Q oe ok sat => ?_⟩
  refine ha E σ H Z S _ oe ok (satB_bnd (β := Bool) (κ := Bool → Hp → Prop) (q := Q) sat fun c E1 sat1 H1 Z1 S1 oe1 st1 ok1 => ?_)
  cases c with
  | false => exact hb E1 σ H1 Z1 S1 Q oe1 ok1 (SatB.re st1 sat1)
  | true => exact (SatB.re st1 sat1 : SatB X.K cl W σ H1 Z1 S1 Q (some (.ok true E1))) H1 Z1 S1 oe1 Step.refl ok1
end
end VL

namespace VL
open PySem PySem.Spec PyProof.Rows L2

/-! ### statements -/
inductive Fl where
  | nx | ret (t : T) | bk | ct
/-- the slots that are never stored to -/
abbrev Keep := Nat → Bool
def Kp (kp : Keep) (σ τ : L2.St) : Prop := τ.length = σ.length ∧ ∀ i, kp i = true → τ[i]? = σ[i]?
theorem Kp.refl {kp : Keep} {σ : L2.St} : Kp kp σ σ := ⟨rfl, fun _ _ => rfl⟩
theorem Kp.trans {kp : Keep} {σ τ υ : L2.St} (a : Kp kp σ τ) (b : Kp kp τ υ) : Kp kp σ υ := ⟨b.1.trans a.1, fun i h => (b.2 i h).trans (a.2 i h)⟩
theorem Kp.set {kp : Keep} {σ : L2.St} {i : Nat} {x : Option V} (h : kp i = false) : Kp kp σ (σ.set i x) := ⟨List.length_set, fun j hj => by
  by_cases e : i = j
  · subst e; rw [h] at hj; cases hj
  · rw [List.getElem?_set_ne e]⟩
section
variable (K : PySem.W.Frag) (cl : Str → Addr) (W : WX) (kp : Keep) (σ : L2.St) (H : Hp) (Z S : PA1)
def SatXs (x : Exn) (E' : En) : Prop := ∀ c d τ H' Z' (S' : PA1), OwnE K cl H' Z' E' τ S' → Kp kp σ τ → ExR K cl H' Z' x c d → Step H Z S H' Z' S' → Okk H' Z' S' → W c d τ H'
def SatN (R : L2.St → Hp → Prop) (E' : En) : Prop := ∀ τ H' Z' (S' : PA1), OwnE K cl H' Z' E' τ S' → Kp kp σ τ → Step H Z S H' Z' S' → Okk H' Z' S' → R τ H'
def SatS (D : Ends) : Option (Out Fl) → Prop
  | none => False
  | some (.ok .nx E') => SatN K cl kp σ H Z S D.nx E'
  | some (.ok .bk E') => SatN K cl kp σ H Z S D.bk E'
  | some (.ok .ct E') => SatN K cl kp σ H Z S D.ct E'
  | some (.ok (.ret r) E') => ∀ v τ H' Z' (Sr S' : PA1), OwnE K cl H' Z' E' τ S' → Kp kp σ τ → Own K cl H' Z' r v Sr → Dis Sr S' → Step H Z S H' Z' (Uni Sr S') → Okk H' Z' (Uni Sr S') → D.rt v H'
  | some (.ex x E') => SatXs K cl W kp σ H Z S x E'
end
section
variable {K : PySem.W.Frag} {cl : Str → Addr} {W : WX} {kp : Keep} {σ τ : L2.St} {H H1 : Hp} {Z S Z1 S1 : PA1} {D : Ends}
theorem SatXs.re {x E'} (st : Step H Z S H1 Z1 S1) (k : Kp kp σ τ) (h : SatXs K cl W kp σ H Z S x E') : SatXs K cl W kp τ H1 Z1 S1 x E' := fun c d υ H' Z' S' a kk b s o => h c d υ H' Z' S' a (k.trans kk) b (st.trans s) o
theorem SatN.re {R E'} (st : Step H Z S H1 Z1 S1) (k : Kp kp σ τ) (h : SatN K cl kp σ H Z S R E') : SatN K cl kp τ H1 Z1 S1 R E' := fun υ H' Z' S' a kk s o => h υ H' Z' S' a (k.trans kk) (st.trans s) o
theorem SatS.re {o} (st : Step H Z S H1 Z1 S1) (k : Kp kp σ τ) (h : SatS K cl W kp σ H Z S D o) : SatS K cl W kp τ H1 Z1 S1 D o := by
  match o with
  | none => exact h
  | some (.ok .nx E') => exact SatN.re st k h
  | some (.ok .bk E') => exact SatN.re st k h
  | some (.ok .ct E') => exact SatN.re st k h
  | some (.ok (.ret r) E') => exact fun v υ H' Z' Sr S' a kk b d s o => h v υ H' Z' Sr S' a (k.trans kk) b d (st.trans s) o
  | some (.ex x E') => exact SatXs.re st k h
instance : Sats Fl (Keep × Ends) := ⟨fun K cl W σ H Z S q o => SatS K cl W q.1 σ H Z S q.2 o, fun st h => SatS.re st .refl h, fun h => h, fun h c d H' Z' S' a b s o => h c d _ H' Z' S' a .refl b s o⟩
end

structure IS (X : Cx) (cl : Str → Addr) (kp : Keep) (st : Stmt) (t : Ev Fl) : Prop where
  run : ∀ W, Takes X W → ∃ ts, PS X st ts ∧ ∀ E σ H Z (S : PA1) D, OwnE X.K cl H Z E σ S → Okk H Z S → SatS X.K cl W kp σ H Z S D (t E) → ts D σ H
structure IL (X : Cx) (cl : Str → Addr) (kp : Keep) (sts : List Stmt) (t : Ev Fl) : Prop where
  run : ∀ W, Takes X W → ∃ ts, PSs X sts ts ∧ ∀ E σ H Z (S : PA1) D, OwnE X.K cl H Z E σ S → Okk H Z S → SatS X.K cl W kp σ H Z S D (t E) → ts D σ H

section
variable {X : Cx} {cl : Str → Addr} {kp : Keep} {st : Stmt} {rest : List Stmt} {t u : Ev Fl} {e : Expr} {te : Ev T} {pos : Pos}
def sNx : Ev Fl := fun E => some (.ok .nx E)
def sSeq (t u : Ev Fl) : Ev Fl := fun E => match t E with
  | some (.ok .nx E1) => u E1
  | o => o
theorem il_nil : IL X cl kp [] sNx := ⟨fun W tk => ⟨_, pss_nil, fun E σ H Z S D oe ok sat => sat σ H Z S oe .refl Step.refl ok⟩⟩
theorem il_one (h : IS X cl kp st t) : IL X cl kp [st] t := ⟨fun W tk => by obtain ⟨ts, p, q⟩ := h.run W tk; exact ⟨ts, pss_one p, q⟩⟩
theorem il_cons (h : IS X cl kp st t) (hr : IL X cl kp rest u) : IL X cl kp (st :: rest) (sSeq t u) := by
  refine ⟨fun W tk => ?_⟩
  obtain ⟨ts, p, q⟩ := h.run W tk
  obtain ⟨us, p2, q2⟩ := hr.run W tk
  refine ⟨_, pss_cons p p2, fun E σ H Z S D oe ok sat => ?_⟩
  refine q E σ H Z S { D with nx := us D } oe ok ?_
  unfold sSeq at sat
  match hE : t E, sat with
  | none, sat => exact sat
  | some (.ok .nx E1), sat => exact fun τ H' Z' S' oe' kk st' ok' => q2 E1 τ H' Z' S' D oe' ok' (SatS.re st' kk sat)
  | some (.ok .bk E1), sat => exact sat
  | some (.ok .ct E1), sat => exact sat
  | some (.ok (.ret r) E1), sat => exact sat
  | some (.ex x E1), sat => exact sat
theorem is_pass : IS X cl kp (.Pass pos) sNx := ⟨fun W tk => ⟨_, ps_pass, fun E σ H Z S D oe ok sat => sat σ H Z S oe .refl Step.refl ok⟩⟩
def sBk : Ev Fl := fun E => some (.ok .bk E)
def sCt : Ev Fl := fun E => some (.ok .ct E)
theorem is_break : IS X cl kp (.Break pos) sBk := ⟨fun W tk => ⟨_, ps_break, fun E σ H Z S D oe ok sat => sat σ H Z S oe .refl Step.refl ok⟩⟩
theorem is_continue : IS X cl kp (.Continue pos) sCt := ⟨fun W tk => ⟨_, ps_continue, fun E σ H Z S D oe ok sat => sat σ H Z S oe .refl Step.refl ok⟩⟩
/-- never come to -/
def sNo : Ev Fl := fun _ => none
theorem is_no : IS X cl kp st sNo := ⟨fun W tk => ⟨_, ps_never, fun E σ H Z S D oe ok sat => sat⟩⟩
theorem il_no : IL X cl kp rest sNo := ⟨fun W tk => ⟨_, pss_never, fun E σ H Z S D oe ok sat => sat⟩⟩
def sRet (te : Ev T) : Ev Fl := fun E => bnd (te E) fun r E1 => some (.ok (.ret r) E1)
theorem is_ret (h : IE X cl e te) : IS X cl kp (.Return (some e) pos) (sRet te) := by
  refine ⟨fun W tk => ?_⟩
  obtain ⟨te', p, q⟩ := h.run W tk
  refine ⟨_, ps_ret p, fun E σ H Z S D oe ok sat => ?_⟩
  refine q E σ H Z S _ oe ok (satV_bnd (β := Fl) (κ := Keep × Ends) (q := (kp, D)) sat fun r E1 sat1 v H1 Z1 Sr S1 oe1 ow1 d1 st1 ok1 => ?_)
  have sat2 : SatS X.K cl W kp σ H Z S D (some (.ok (.ret r) E1)) := sat1
  exact sat2 v σ H1 Z1 Sr S1 oe1 .refl ow1 d1 st1 ok1
def sRetN : Ev Fl := fun E => some (.ok (.ret (.fz .non)) E)
theorem is_retN : IS X cl kp (.Return none pos) sRetN := ⟨fun W tk => ⟨_, ps_retN, fun E σ H Z S D oe ok sat =>
  (sat : SatS X.K cl W kp σ H Z S D (some (.ok (.ret (.fz .non)) E))) .non σ H Z Emp S oe .refl (.fz .non) (fun _ z _ => z) (Step.refl.less fun a z => z.elim False.elim id) (ok.less fun a z => z.elim False.elim id)⟩⟩
def sDrop (te : Ev T) : Ev Fl := fun E => bnd (te E) fun _ E1 => some (.ok .nx E1)
theorem is_expr (h : IE X cl e te) (hs : swapsWith e none pos.line X.env = pure false := by rfl) : IS X cl kp (.Expr e pos) (sDrop te) := by
  refine ⟨fun W tk => ?_⟩
  obtain ⟨te', p, q⟩ := h.run W tk
  refine ⟨_, ps_expr p hs, fun E σ H Z S D oe ok sat => ?_⟩
  refine q E σ H Z S _ oe ok (satV_bnd (β := Fl) (κ := Keep × Ends) (q := (kp, D)) sat fun r E1 sat1 v H1 Z1 Sr S1 oe1 ow1 d1 st1 ok1 => ?_)
  have sat2 : SatS X.K cl W kp σ H Z S D (some (.ok .nx E1)) := sat1
  exact sat2 σ H1 Z1 S1 oe1 .refl (st1.less fun _ z => .inr z) (ok1.less fun _ z => .inr z)
def sIf (c : Ev Bool) (t u : Ev Fl) : Ev Fl := fun E => bnd (c E) fun b E1 => if b = true then t E1 else u E1
theorem is_if {c : Expr} {a b : List Stmt} {tc : Ev Bool} (hc : IB X cl c tc) (ha : IL X cl kp a t) (hb : IL X cl kp b u) : IS X cl kp (.If c a b pos) (sIf tc t u) := by
  refine ⟨fun W tk => ?_⟩
  obtain ⟨tc', pc, qc⟩ := hc.run W tk
  obtain ⟨ta', pa, qa⟩ := ha.run W tk
  obtain ⟨tb', pb, qb⟩ := hb.run W tk
  refine ⟨_, ps_if pc pa pb, fun E σ H Z S D oe ok sat => ?_⟩
  refine qc E σ H Z S _ oe ok (satB_bnd (β := Fl) (κ := Keep × Ends) (q := (kp, D)) sat fun b E1 sat1 H1 Z1 S1 oe1 st1 ok1 => ?_)
  have sat2 : SatS X.K cl W kp σ H Z S D (if b = true then t E1 else u E1) := sat1
  cases b with
  | true => exact qa E1 σ H1 Z1 S1 D oe1 ok1 (SatS.re st1 .refl sat2)
  | false => exact qb E1 σ H1 Z1 S1 D oe1 ok1 (SatS.re st1 .refl sat2)

/-! ### stores to names -/
theorem OwnE.into {K : PySem.W.Frag} {H : Hp} {Z : PA1} {E : En} {σ : L2.St} {S Si : PA1} {i : Nat} {t v} (h : OwnE K cl H Z E σ S) (q : Own K cl H Z t v Si) (d : Dis Si S) :
    OwnE K cl H Z (E.set i (some t)) (σ.set i (some v)) (Uni Si S) := by
  by_cases hi : i < E.length
  · exact OwnE.put (h.drop i) hi q d
  · rw [List.set_eq_of_length_le (Nat.le_of_not_lt hi), List.set_eq_of_length_le (by rw [← h.len]; exact Nat.le_of_not_lt hi)]
    exact h.up fun _ z => .inr z
/-- x = e, the value kept as it is: owned by x -/
def sOwn (i : Nat) (te : Ev T) : Ev Fl := fun E => bnd (te E) fun r E1 => some (.ok .nx (E1.set i (some r)))
/-- x = e, the value frozen -/
def sSet (i : Nat) (te : Ev T) : Ev Fl := fun E => bnd (te E) fun r E1 => some (.ok .nx (E1.set i (some (.fz (frz r)))))
theorem is_own (i : Nat) {x : Str} {pos' : Pos} (hN : X.N.Nodup) (he : IE X cl e te) (hi : X.N[i]? = some x := by rfl) (hx : Loc X.env.scope x := by first | exact .inl rfl | exact .inr rfl) (hk : kp i = false := by rfl)
    (hs : swapsWith e (some (.Name x pos')) pos.line X.env = pure false := by rfl) (hf : X.fn x = true ∨ X.env.scope.names.lookup x = some .local := by first | exact .inl rfl | exact .inr rfl) :
    IS X cl kp (.Assign [.Name x pos'] e pos) (sOwn i te) := by
  refine ⟨fun W tk => ?_⟩
  obtain ⟨te', p, q⟩ := he.run W tk
  refine ⟨_, ps_set hN hi hx p hs hf, fun E σ H Z S D oe ok sat => ?_⟩
  refine q E σ H Z S _ oe ok (satV_bnd (β := Fl) (κ := Keep × Ends) (q := (kp, D)) sat fun r E1 sat1 v H1 Z1 Sr S1 oe1 ow1 d1 st1 ok1 => ?_)
  have sat2 : SatS X.K cl W kp σ H Z S D (some (.ok .nx (E1.set i (some r)))) := sat1
  exact sat2 (σ.set i (some v)) H1 Z1 (Uni Sr S1) (oe1.into ow1 d1) (Kp.set hk) st1 ok1
theorem is_set (i : Nat) {x : Str} {pos' : Pos} (hN : X.N.Nodup) (he : IE X cl e te) (hi : X.N[i]? = some x := by rfl) (hx : Loc X.env.scope x := by first | exact .inl rfl | exact .inr rfl) (hk : kp i = false := by rfl)
    (hs : swapsWith e (some (.Name x pos')) pos.line X.env = pure false := by rfl) (hf : X.fn x = true ∨ X.env.scope.names.lookup x = some .local := by first | exact .inl rfl | exact .inr rfl) :
    IS X cl kp (.Assign [.Name x pos'] e pos) (sSet i te) := by
  refine ⟨fun W tk => ?_⟩
  obtain ⟨te', p, q⟩ := he.run W tk
  refine ⟨_, ps_set hN hi hx p hs hf, fun E σ H Z S D oe ok sat => ?_⟩
  refine q E σ H Z S _ oe ok (satV_bnd (β := Fl) (κ := Keep × Ends) (q := (kp, D)) sat fun r E1 sat1 v H1 Z1 Sr S1 oe1 ow1 d1 st1 ok1 => ?_)
  have sat2 : SatS X.K cl W kp σ H Z S D (some (.ok .nx (E1.set i (some (.fz (frz r)))))) := sat1
  obtain ⟨s2, o2⟩ := freezeStep ok1 d1
  have rp := ow1.frz (Z' := Uni Z1 Sr) (fun _ z => .inl z) fun _ z => .inr z
  exact sat2 (σ.set i (some v)) H1 (Uni Z1 Sr) S1 (((oe1.zmore (Z' := Uni Z1 Sr) fun _ z => .inl z).into (Si := Emp) (i := i) (.fz rp) fun _ z _ => z).up fun a z => z.elim False.elim id) (Kp.set hk) (st1.trans s2) o2
end

/-! ### a def's contract -/
/-- the owned parameters behind a run -/
@[simp] def maskE (kp : Keep) : Nat → Nat → En → En
  | _, 0, _ => []
  | i, n + 1, [] => none :: maskE kp (i + 1) n []
  | i, n + 1, e :: E => (if kp i = true then e else none) :: maskE kp (i + 1) n E
def SatF (K : PySem.W.Frag) (cl : Str → Addr) (vs : List V) (H : Hp) (Z S : PA1) (Q : VK) (E : XK) : Option (Out T) → Prop
  | none => False
  | some (.ok r P) => ∀ v H' Z' (Sr S' : PA1), OwnE K cl H' Z' P (vs.map some) S' → Own K cl H' Z' r v Sr → Dis Sr S' → Step H Z S H' Z' (Uni Sr S') → Okk H' Z' (Uni Sr S') → Q v H'
  | some (.ex x P) => ∀ c d H' Z' (S' : PA1), OwnE K cl H' Z' P (vs.map some) S' → ExR K cl H' Z' x c d → Step H Z S H' Z' S' → Okk H' Z' S' → E c d H'
def SpF (K : PySem.W.Frag) (cl : Str → Addr) (n : Nat) (F : List T → Option (Out T)) : Sp := fun vs H Q E =>
  vs.length = n ∧ ∃ (ts : List T) (Z S : PA1), OwnL K cl H Z ts vs S ∧ Okk H Z S ∧ SatF K cl vs H Z S Q E (F ts)
structure FnV (P : Program) (w : World) (K : PySem.W.Frag) (mg : Str → Option Value) (base : Heap) (cl : Str → Addr) (k : Nat) (f : Addr) (fd : FuncData) (ps : List Str) (F : List T → Option (Out T)) : Prop where
  run : ∀ (A : Around) (outer : List Env) (s : Shared) (H : Hp) (args : Args) (us : List Value) (vs : List V) (Q : VK) (E : XK), Room k A → A.guards = some [] → Env0 P w K mg base A outer s H → BindsTo s fd args (ps.zip us) → Vals vs us →
    SpF K cl ps.length F vs H Q E → codeAny (model P w) A (.call (.ref f) args) (CR (L2.CX P w) outer P w H s Q E) s
theorem FnV.mono {P : Program} {w : World} {K : PySem.W.Frag} {mg : Str → Option Value} {base : Heap} {cl : Str → Addr} {j k : Nat} {f : Addr} {fd : FuncData} {ps : List Str} {F : List T → Option (Out T)} (h : FnV P w K mg base cl j f fd ps F) (l : j ≤ k) : FnV P w K mg base cl k f fd ps F :=
  ⟨fun A outer s H args us vs Q E hr => h.run A outer s H args us vs Q E (hr.mono l)⟩
/-- the entry's names -/
def startE (N : List Str) (ts : List T) : En := ts.map some ++ List.replicate (N.length - ts.length) none
/-- a body's run as a function of the arguments -/
def runF (N : List Str) (n : Nat) (kp : Keep) (t : Ev Fl) : List T → Option (Out T) := fun ts =>
  match t (startE N ts) with
  | some (.ok (.ret r) E) => some (.ok r (maskE kp 0 n E))
  | some (.ok .nx E) => some (.ok (.fz .non) (maskE kp 0 n E))
  | some (.ex x E) => some (.ex x (maskE kp 0 n E))
  | _ => none
theorem OwnE.start {K : PySem.W.Frag} {cl : Str → Addr} {H : Hp} {Z : PA1} : ∀ {ts vs} {S : PA1} {n : Nat}, OwnL K cl H Z ts vs S → OwnE K cl H Z (ts.map some ++ List.replicate n none) (vs.map some ++ List.replicate n none) S
  | _, _, _, 0, .nil => .nl
  | _, _, _, n + 1, .nil => .no (OwnE.start (ts := []) (vs := []) (n := n) .nil)
  | _, _, _, n, .cons h r a1 a2 d => .so h (OwnE.start r) a1 a2 d
theorem OwnE.mask {K : PySem.W.Frag} {cl : Str → Addr} {H : Hp} {Z : PA1} {kp : Keep} : ∀ {vs : List V} {E : En} {τ : L2.St} {S : PA1} {i : Nat}, OwnE K cl H Z E τ S → (∀ j, kp (i + j) = true → j < vs.length → τ[j]? = (vs.map some)[j]?) →
    OwnE K cl H Z (maskE kp i vs.length E) (vs.map some) S
  | [], _, _, _, _, _, _ => by simp only [List.length_nil, maskE, List.map_nil]; exact .nl
  | v :: vs, [], τ, S, i, h, hk => by
    simp only [List.length_cons, List.map_cons, maskE]
    cases h
    exact .no (OwnE.mask (i := i + 1) (E := []) (τ := []) .nl fun j q hj => by
      have := hk (j + 1) (by rw [show i + (j + 1) = i + 1 + j by omega]; exact q) (by simpa using hj)
      simpa using this)
  | v :: vs, e :: E, τ, S, i, h, hk => by
    simp only [List.length_cons, List.map_cons, maskE]
    have hk' : ∀ {y : Option V} {τ' : L2.St}, τ = y :: τ' → ∀ j, kp (i + 1 + j) = true → j < vs.length → τ'[j]? = (vs.map some)[j]? := fun {y τ'} e j q hj => by
      have := hk (j + 1) (by rw [show i + (j + 1) = i + 1 + j by omega]; exact q) (by simpa using hj)
      rw [e] at this
      simpa using this
    cases h with
    | @no x _ σ _ r =>
      have ih := OwnE.mask (vs := vs) (i := i + 1) r (hk' rfl)
      split <;> exact .no ih
    | @so t v' _ σ _ S1 S2 q r a1 a2 d =>
      have ih := OwnE.mask (vs := vs) (i := i + 1) r (hk' rfl)
      split
      · rename_i hi
        have e := hk 0 (by simpa using hi) (by simp)
        simp at e
        subst e
        exact .so q ih a1 a2 d
      · exact .no (ih.up a2)
section
variable {P : Program} {w : World} {K : PySem.W.Frag} {mg : Str → Option Value} {base : Heap} {cl : Str → Addr}
/-- a def by its body's evaluator -/
theorem fnv_of {x qual : Str} {params : Arguments} {body : List Stmt} {scope : Scope} {dvs : List V} {kws : List (Str × V)} {f : Addr} {fd : FuncData} {N ps : List Str} {k : Nat} {kp : Keep} {t : Ev Fl}
    (F : FunD K x qual params body scope dvs kws f fd) (Sc : FnScope N ps scope)
    (hb : ∀ (cdv : Value) (A : Around) (outer : List Env) (s : Shared) (H : Hp) (E : XK), Room k (A.deeper (envOfC qual scope s.heap.objs.size f cdv)) → (A.deeper (envOfC qual scope s.heap.objs.size f cdv)).guards = some [] →
      IL (cxOf (L2.CX P w) P w K mg base N qual scope f cdv A outer s H E) cl kp body t) : FnV P w K mg base cl (k + 1) f fd ps (runF N ps.length kp t) := by
  obtain ⟨oc, od, dV, kV, doc, pm, an, cdv, ct, osl, rfl, lk, hcd, _, _⟩ := F.ex
  refine ⟨fun A outer s H args us vs Q E hr hg e0 hbd rv sp => ?_⟩
  obtain ⟨hl, ts, Z, S, ow, ok, sat⟩ := sp
  have kin : K.In s.heap := e0.mod.kin.keeps fun b o e => (e0.bs b o e).1
  refine codeAny_call_function hr.depth (kin _ _ lk) rfl Sc.co Sc.gen rfl (PySem.W.codeRec_of kin hcd) (hbd _ _ _ _ ?_)
  have named : ∀ y ∈ ps.zip us, scope.names.lookup y.1 = some .local ∨ (scope.names.lookup y.1 = some .cell ∧ ((cellsFrom (s.heap.objs.size + 1) scope.names []).lookup y.1).isSome = true) := by
    rintro ⟨n, v⟩ hy
    exact (Sc.par n (List.of_mem_zip hy).1).imp id fun q => ⟨q, PySem.W.cellsFrom_some _ _ _ (.inl q)⟩
  refine wpAny_newFunctionEnv_cells Sc.kind named fun env he s1 x1 => ?_
  cases he
  refine ⟨(e0.mod.nolimit.keeps fun b o e => (e0.bs b o e).1).keeps x1.toInCall.keep, codeAny_func ?_⟩
  have I := inv_start (CX := L2.CX P w) (E := E) Sc hr.hd e0 hl rv x1
  obtain ⟨ts', pss, hrun⟩ := (hb cdv A outer s H E (hr.deeper _) hg).run (fun c d _ H' => E c d H') (takes_of rfl rfl rfl rfl)
  have hts : ts.length = vs.length := ow.len
  have hNl : ps.length ≤ N.length := by
    have := congrArg List.length Sc.pre
    rw [List.length_take] at this
    omega
  have start0 : OwnE K cl H Z (startE N ts) (start N vs) S := by
    unfold startE L2.start
    rw [hts]
    exact OwnE.start ow
  -- the parameters behind the run
  have back : ∀ {E' : En} {τ : L2.St} {H' : Hp} {Z' S' : PA1}, OwnE K cl H' Z' E' τ S' → Kp kp (start N vs) τ → OwnE K cl H' Z' (maskE kp 0 ps.length E') (vs.map some) S' := by
    intro E' τ H' Z' S' oe kk
    rw [← hl]
    refine OwnE.mask (i := 0) oe fun j hj hlt => ?_
    rw [kk.2 j (by simpa using hj)]
    unfold L2.start
    rw [List.getElem?_append_left (by rw [List.length_map]; exact hlt)]
  refine wpAny_mono (pss.run [] s1 (start N vs) H { nx := fun _ H' => Q .non H', rt := Q } I (hrun _ _ _ Z S _ start0 ok ?_)) (fun fl s' hs => ?_) fun e s' hs => hs
  · unfold runF at sat
    match hE : t (startE N ts), sat with
    | some (.ok .nx E'), sat =>
      intro τ H' Z' S' oe kk st' ok'
      exact sat .non H' Z' Emp S' (back oe kk) (.fz .non) (fun _ z _ => z) (st'.less fun a z => z.elim False.elim id) (ok'.less fun a z => z.elim False.elim id)
    | some (.ok (.ret r) E'), sat =>
      intro v τ H' Z' Sr S' oe kk ow' d' st' ok'
      exact sat v H' Z' Sr S' (back oe kk) ow' d' st' ok'
    | some (.ex x E'), sat =>
      intro c d τ H' Z' S' oe kk xr st' ok'
      exact sat c d H' Z' S' (back oe kk) xr st' ok'
    | some (.ok .bk E'), sat => exact sat.elim
    | some (.ok .ct E'), sat => exact sat.elim
    | none, sat => exact sat.elim
  · have fin : ∀ {τ : L2.St} {H' : Hp} {v : V} {u : Value}, Inv (cxOf (L2.CX P w) P w K mg base N qual scope f cdv A outer s H E) [] τ H' s' → RelV v u → Q v H' → CE outer P w H s Q u s' :=
      fun {τ H' v u} J r q => ⟨v, H', J.os, J.bare, J.base, J.hok, r, q⟩
    cases fl with
    | ret u =>
      obtain ⟨v, τ, H', J, r, q⟩ := hs
      exact fin J r q
    | next =>
      obtain ⟨τ, H', J, q⟩ := hs
      exact fin (v := V.non) (u := Value.none) J rfl q
    | brk =>
      obtain ⟨_, _, _, q⟩ := hs
      exact q.elim
    | cont =>
      obtain ⟨_, _, _, q⟩ := hs
      exact q.elim
end
end VL

namespace VL
open PySem PySem.Spec PyProof.Rows L2

/-! ### arguments that may be handed over for the time of the call -/
inductive Mv (σ : L2.St) : List (Option Nat) → List V → Prop
  | nil : Mv σ [] []
  | no {ms v vs} : Mv σ ms vs → Mv σ (none :: ms) (v :: vs)
  | so {i ms v vs} : σ[i]? = some (some v) → Mv σ ms vs → Mv σ (some i :: ms) (v :: vs)
theorem Mv.len {σ : L2.St} {ms vs} (m : Mv σ ms vs) : vs.length = ms.length := by
  induction m with
  | nil => rfl
  | no _ ih => simp [ih]
  | so _ _ ih => simp [ih]
def SatM (K : PySem.W.Frag) (cl : Str → Addr) (W : WX) (ms : List (Option Nat)) (σ : L2.St) (H : Hp) (Z S : PA1) (Q : List V → Hp → Prop) : Option (Out (List T)) → Prop
  | none => False
  | some (.ok ts E') => ∀ vs H' Z' (St S' : PA1), OwnE K cl H' Z' E' σ S' → OwnL K cl H' Z' ts vs St → Dis St S' → Mv σ ms vs → Step H Z S H' Z' (Uni St S') → Okk H' Z' (Uni St S') → Q vs H'
  | some (.ex x E') => SatX K cl W σ H Z S x E'
theorem SatM.re {K : PySem.W.Frag} {cl : Str → Addr} {W : WX} {ms : List (Option Nat)} {σ : L2.St} {H H1 : Hp} {Z S Z1 S1 : PA1} {Q : List V → Hp → Prop} {o} (st : Step H Z S H1 Z1 S1) (h : SatM K cl W ms σ H Z S Q o) : SatM K cl W ms σ H1 Z1 S1 Q o := by
  match o with
  | none => exact h
  | some (.ok r E') => exact fun v H' Z' St S' a b d m s o => h v H' Z' St S' a b d m (st.trans s) o
  | some (.ex x E') => exact SatX.re st h
instance : Sats (List T) (List (Option Nat) × (List V → Hp → Prop)) := ⟨fun K cl W σ H Z S q o => SatM K cl W q.1 σ H Z S q.2 o, fun st h => SatM.re st h, fun h => h, fun h => h⟩
structure IM (X : Cx) (cl : Str → Addr) (es : List Expr) (ms : List (Option Nat)) (t : Ev (List T)) : Prop where
  run : ∀ W, Takes X W → ∃ ta, PA X es ta ∧ ∀ E σ H Z (S : PA1) Q, OwnE X.K cl H Z E σ S → Okk H Z S → SatM X.K cl W ms σ H Z S Q (t E) → ta σ H Q
section
variable {X : Cx} {cl : Str → Addr} {a : Expr} {es : List Expr} {ta : Ev T} {ts : Ev (List T)} {ms : List (Option Nat)} {pos : Pos}
def mNil : Ev (List T) := fun E => some (.ok [] E)
theorem im_nil : IM X cl [] [] mNil := ⟨fun W tk => ⟨_, pa_nil, fun E σ H Z S Q oe ok sat =>
  (sat : SatM X.K cl W [] σ H Z S Q (some (.ok [] E))) [] H Z Emp S oe .nil (fun _ z _ => z) .nil (Step.refl.less fun _ z => z.elim False.elim id) (ok.less fun _ z => z.elim False.elim id)⟩⟩
/-- an argument's value, owned by the callee -/
def mOwn (t : Ev T) (ts : Ev (List T)) : Ev (List T) := fun E => bnd (t E) fun x E1 => bnd (ts E1) fun xs E2 => some (.ok (x :: xs) E2)
/-- an argument's value, frozen -/
def mVal (t : Ev T) (ts : Ev (List T)) : Ev (List T) := fun E => bnd (t E) fun x E1 => bnd (ts E1) fun xs E2 => some (.ok (.fz (frz x) :: xs) E2)
theorem im_go {W : WX} {ta' : TE} {ts' : TA} {m : Option Nat} (f : T → T)
    (ha : ∀ E σ H Z (S : PA1) Q, OwnE X.K cl H Z E σ S → Okk H Z S → (match ta E with
      | none => False
      | some (.ok r E') => ∀ v H' Z' (Sr S' : PA1), OwnE X.K cl H' Z' E' σ S' → Own X.K cl H' Z' (f r) v Sr → Dis Sr S' → (∀ i, m = some i → σ[i]? = some (some v)) → Step H Z S H' Z' (Uni Sr S') → Okk H' Z' (Uni Sr S') → Q v H'
      | some (.ex x E') => SatX X.K cl W σ H Z S x E') → ta' σ H Q)
    (hs : ∀ E σ H Z (S : PA1) Q, OwnE X.K cl H Z E σ S → Okk H Z S → SatM X.K cl W ms σ H Z S Q (ts E) → ts' σ H Q)
    (E : En) (σ : L2.St) (H : Hp) (Z S : PA1) (Q : List V → Hp → Prop) (oe : OwnE X.K cl H Z E σ S) (ok : Okk H Z S)
    (sat : SatM X.K cl W (m :: ms) σ H Z S Q (bnd (ta E) fun x E1 => bnd (ts E1) fun xs E2 => some (.ok (f x :: xs) E2))) : tCons ta' ts' σ H Q := by
  refine ha E σ H Z S _ oe ok ?_
  match hE : ta E, sat with
  | none, sat => exact sat
  | some (.ex x E1), sat => exact sat
  | some (.ok r E1), sat =>
    intro v H1 Z1 Sr S1 oe1 ow1 d1 mv st1 ok1
    have ok1' : Okk H1 Z1 S1 := ok1.less fun _ z => .inr z
    refine hs E1 σ H1 Z1 S1 _ oe1 ok1' ?_
    simp only [bnd_ok] at sat
    match hE2 : ts E1, sat with
    | none, sat => exact sat
    | some (.ex x E2), sat => exact SatX.re (st1.less fun _ z => .inr z) sat
    | some (.ok xs E2), sat =>
      intro vs H2 Z2 St S2 oe2 ow2 d2 mv2 st2 ok2
      have sat2 : SatM X.K cl W (m :: ms) σ H Z S Q (some (.ok (f r :: xs) E2)) := sat
      have dd := st2.dis (R := Sr) (fun x z => ok1.sa x (.inl z)) d1
      have ow3 := st2.own ok1'.dis d1 ow1
      have st3 := st1.trans (st2.frame (R := Sr))
      have ok3 := st2.okk (R := Sr) ok1 ok2 d1
      have sub : ∀ x, Uni (Uni Sr St) S2 x → Uni Sr (Uni St S2) x := fun x z => z.elim (fun z => z.elim .inl fun z => .inr (.inl z)) fun z => .inr (.inr z)
      refine sat2 (v :: vs) H2 Z2 (Uni Sr St) S2 oe2 (.cons ow3 ow2 (fun _ z => .inl z) (fun _ z => .inr z) fun x z y => dd x z (.inl y)) (fun x z y => z.elim (fun z => dd x z (.inr y)) fun z => d2 x z y) ?_ (st3.less sub) (ok3.less sub)
      cases m with
      | none => exact .no mv2
      | some i => exact .so (mv i rfl) mv2
theorem im_own (ha : IE X cl a ta) (hs : IM X cl es ms ts) (hst : starEach (a :: es) X.env = (false, eval a X.env) :: starEach es X.env := by rfl) : IM X cl (a :: es) (none :: ms) (mOwn ta ts) := by
  refine ⟨fun W tk => ?_⟩
  obtain ⟨ta', pa, qa⟩ := ha.run W tk
  obtain ⟨ts', ps, qs⟩ := hs.run W tk
  refine ⟨_, pa_cons pa ps hst, im_go (m := none) (fun x => x) (fun E σ H Z S Q oe ok sat => qa E σ H Z S Q oe ok ?_) qs⟩
  match hE : ta E, sat with
  | none, sat => exact sat
  | some (.ex x E1), sat => exact sat
  | some (.ok r E1), sat => exact fun v H' Z' Sr S' b c d s o => sat v H' Z' Sr S' b c d (fun _ q => nomatch q) s o
theorem im_val (ha : IE X cl a ta) (hs : IM X cl es ms ts) (hst : starEach (a :: es) X.env = (false, eval a X.env) :: starEach es X.env := by rfl) : IM X cl (a :: es) (none :: ms) (mVal ta ts) := by
  refine ⟨fun W tk => ?_⟩
  obtain ⟨ta', pa, qa⟩ := ha.fz W tk
  obtain ⟨ts', ps, qs⟩ := hs.run W tk
  refine ⟨_, pa_cons pa ps hst, im_go (m := none) (fun x => .fz (frz x)) (fun E σ H Z S Q oe ok sat => qa E σ H Z S Q oe ok ?_) qs⟩
  match hE : ta E, sat with
  | none, sat => exact sat
  | some (.ex x E1), sat => exact sat
  | some (.ok r E1), sat => exact fun v H' Z' S' b c s o => sat v H' Z' Emp S' b (.fz c) (fun _ z _ => z) (fun _ q => nomatch q) (s.less fun _ z => z.elim False.elim id) (o.less fun _ z => z.elim False.elim id)
/-- a name's value handed over -/
theorem im_mov (i : Nat) {x : Str} {pos' : Pos} (hs : IM X cl es ms ts) (hN : X.N[i]? = some x := by rfl) (hv : Vis X.env.scope x := by first | exact Or.inl rfl | exact Or.inr (Or.inl rfl) | exact Or.inr (Or.inr rfl)) (hd : (x == ("__debug__" : Str)) = false := by decide) (hcd : (x == ("__classdict__" : Str)) = false := by decide)
    (hst : starEach (.Name x pos' :: es) X.env = (false, eval (.Name x pos') X.env) :: starEach es X.env := by rfl) : IM X cl (.Name x pos' :: es) (some i :: ms) (mOwn (eMov i) ts) := by
  refine ⟨fun W tk => ?_⟩
  obtain ⟨ts', ps, qs⟩ := hs.run W tk
  refine ⟨_, pa_cons (pe_var hN hv hd hcd) ps hst, im_go (m := some i) (fun x => x) (fun E σ H Z S Q oe ok sat => ?_) qs⟩
  unfold eMov at sat
  match hE : E[i]? with
  | none => rw [hE] at sat; exact sat.elim
  | some none => rw [hE] at sat; exact sat.elim
  | some (some t) =>
    rw [hE] at sat
    obtain ⟨v, Si, Sr, h1, h2, h3, h4, h5, h6⟩ := oe.take hE
    refine ⟨v, h1, sat v H Z Si Sr h3 h2 h4 (fun j q => ?_) (Step.refl.less fun a z => z.elim (h5 a) (h6 a)) (ok.less fun a z => z.elim (h5 a) (h6 a))⟩
    cases q
    exact h1

/-- a name's value handed over, taken behind the other arguments -/
def mLate (i : Nat) (ts : Ev (List T)) : Ev (List T) := fun E => match E[i]? with
  | some (some _) => bnd (ts E) fun xs E1 => match E1[i]? with
    | some (some t) => some (.ok (t :: xs) (E1.set i none))
    | _ => none
  | _ => none
theorem im_late (i : Nat) {x : Str} {pos' : Pos} (hs : IM X cl es ms ts) (hN : X.N[i]? = some x := by rfl) (hv : Vis X.env.scope x := by first | exact Or.inl rfl | exact Or.inr (Or.inl rfl) | exact Or.inr (Or.inr rfl)) (hd : (x == ("__debug__" : Str)) = false := by decide) (hcd : (x == ("__classdict__" : Str)) = false := by decide)
    (hst : starEach (.Name x pos' :: es) X.env = (false, eval (.Name x pos') X.env) :: starEach es X.env := by rfl) : IM X cl (.Name x pos' :: es) (some i :: ms) (mLate i ts) := by
  refine ⟨fun W tk => ?_⟩
  obtain ⟨ts', ps, qs⟩ := hs.run W tk
  refine ⟨_, pa_cons (pe_var hN hv hd hcd) ps hst, fun E σ H Z S Q oe ok sat => ?_⟩
  unfold mLate at sat
  match hE : E[i]?, sat with
  | none, sat => exact sat.elim
  | some none, sat => exact sat.elim
  | some (some t0), sat =>
    obtain ⟨v, Si, Sr, h1, h2, h3, h4, h5, h6⟩ := oe.take hE
    refine ⟨v, h1, ?_⟩
    refine qs E σ H Z S _ oe ok ?_
    dsimp only at sat
    match hT : ts E, sat with
    | none, sat => exact sat.elim
    | some (.ex x E1), sat => exact sat
    | some (.ok xs E1), sat =>
      intro vs H1 Z1 Sq S1 oe1 ow1 d1 mv st1 ok1
      simp only [bnd_ok] at sat
      match hE1 : E1[i]?, sat with
      | none, sat => exact sat.elim
      | some none, sat => exact sat.elim
      | some (some t), sat =>
        obtain ⟨v', Si', Sr', g1, g2, g3, g4, g5, g6⟩ := oe1.take hE1
        rw [h1] at g1
        cases g1
        have sat2 : SatM X.K cl W (some i :: ms) σ H Z S Q (some (.ok (t :: xs) (E1.set i none))) := sat
        have sub : ∀ a, Uni (Uni Si' Sq) Sr' a → Uni Sq S1 a := fun a z => z.elim (fun z => z.elim (fun z => .inr (g5 a z)) .inl) fun z => .inr (g6 a z)
        exact sat2 (v :: vs) H1 Z1 (Uni Si' Sq) Sr' g3 (.cons g2 ow1 (fun _ z => .inl z) (fun _ z => .inr z) fun a x y => d1 a y (g5 a x)) (fun a x y => x.elim (fun x => g4 a x y) fun x => d1 a x (g6 a y)) (.so h1 mv) (st1.less sub) (ok1.less sub)

/-- what was handed over comes back -/
def putB : List (Option Nat) → En → En → En
  | some i :: ms, p :: P, E => putB ms P (E.set i p)
  | none :: ms, _ :: P, E => putB ms P E
  | _, _, E => E
theorem OwnE.putB {K : PySem.W.Frag} {H : Hp} {Z : PA1} : ∀ {ms : List (Option Nat)} {P : En} {vs : List V} {E : En} {σ : L2.St} {S R : PA1}, OwnE K cl H Z P (vs.map some) R → OwnE K cl H Z E σ S → Dis R S → Mv σ ms vs → OwnE K cl H Z (VL.putB ms P E) σ (Uni R S)
  | [], P, _, E, _, _, _, _, q, _, _ => by
    have e : VL.putB [] P E = E := by cases P <;> rfl
    rw [e]; exact q.up fun _ z => .inr z
  | none :: ms, [], _, E, _, _, _, _, q, _, _ => by
    have e : VL.putB (none :: ms) [] E = E := rfl
    rw [e]; exact q.up fun _ z => .inr z
  | some i :: ms, [], _, E, _, _, _, _, q, _, _ => by
    have e : VL.putB (some i :: ms) [] E = E := rfl
    rw [e]; exact q.up fun _ z => .inr z
  | none :: ms, p :: P, v :: vs, E, σ, S, R, h, q, d, m => by
    cases m with
    | no m =>
      cases h with
      | no r =>
        show OwnE K cl H Z (VL.putB ms P E) σ _
        exact OwnE.putB r q d m
      | so h r a1 a2 d2 =>
        show OwnE K cl H Z (VL.putB ms P E) σ _
        exact (OwnE.putB r q (fun x z y => d x (a2 x z) y) m).up fun x z => z.imp (a2 x) id
  | some i :: ms, none :: P, v :: vs, E, σ, S, R, h, q, d, m => by
    cases m with
    | so e m =>
      cases h with
      | no r =>
        show OwnE K cl H Z (VL.putB ms P (E.set i none)) σ _
        exact OwnE.putB r (q.drop i) d m
  | some i :: ms, some t :: P, v :: vs, E, σ, S, R, h, q, d, m => by
    cases m with
    | so e m =>
      cases h with
      | @so _ _ _ _ _ S1 S2 h r a1 a2 d2 =>
        have q1 := q.into (i := i) h fun x z y => d x (a1 x z) y
        rw [set_get e] at q1
        show OwnE K cl H Z (VL.putB ms P (E.set i (some t))) σ _
        exact (OwnE.putB r q1 (fun x z y => y.elim (fun y => d2 x y z) fun y => d x (a2 x z) y) m).up fun x z => z.elim (fun z => .inl (a2 x z)) fun z => z.imp (a1 x) id

/-! ### calls of the text's own defs -/
def eFn (F : List T → Option (Out T)) (ms : List (Option Nat)) (t : Ev (List T)) : Ev T := fun E => bnd (t E) fun ts E1 => match F ts with
  | none => none
  | some (.ok r P) => some (.ok r (putB ms P E1))
  | some (.ex x P) => some (.ex x (putB ms P E1))
/-- a promise, wished at the slots -/
theorem call_fin {W : WX} {F : List T → Option (Out T)} {n : Nat} {ts' : TA} (hs : ∀ E σ H Z (S : PA1) Q, OwnE X.K cl H Z E σ S → Okk H Z S → SatM X.K cl W ms σ H Z S Q (ts E) → ts' σ H Q)
    (E : En) (σ : L2.St) (H : Hp) (Z S : PA1) (Q : VK) (oe : OwnE X.K cl H Z E σ S) (ok : Okk H Z S) (sat : SatV X.K cl W σ H Z S Q (eFn F ms ts E)) (hn : ms.length = n) :
    ts' σ H fun vs H1 => SpF X.K cl n F vs H1 Q fun c d H' => W c d σ H' := by
  refine hs E σ H Z S _ oe ok ?_
  unfold eFn at sat
  match hE : ts E, sat with
  | none, sat => exact sat
  | some (.ex x E1), sat => exact sat
  | some (.ok xs E1), sat =>
    intro vs H1 Z1 St S1 oe1 ow1 d1 mv st1 ok1
    simp only [bnd_ok] at sat
    have hlen : vs.length = n := by
      rw [← hn]
      exact mv.len
    have okT : Okk H1 Z1 St := ok1.less fun _ z => .inl z
    have okS : Okk H1 Z1 S1 := ok1.less fun _ z => .inr z
    have d1' : Dis S1 St := fun x y z => d1 x z y
    refine ⟨hlen, xs, Z1, St, ow1, okT, ?_⟩
    match hF : F xs, sat with
    | none, sat => exact sat
    | some (.ok r P), sat =>
      intro v H2 Z2 Sr S2 oP owr d2 st2 ok2
      have sat2 : SatV X.K cl W σ H Z S Q (some (.ok r (VL.putB ms P E1))) := sat
      have dd := st2.dis okS.sa d1'
      have oe2 := st2.ownE okT.dis d1' oe1
      have st3 := st2.frame (R := S1)
      have ok3 := st2.okk (R := S1) (ok1.less fun _ z => z.elim .inr .inl) ok2 d1'
      have sub : ∀ x, Uni Sr (Uni S2 S1) x → Uni S1 (Uni Sr S2) x := fun x z => z.elim (fun z => .inr (.inl z)) fun z => z.elim (fun z => .inr (.inr z)) .inl
      refine sat2 v H2 Z2 Sr (Uni S2 S1) (oP.putB oe2 (fun x y z => dd x z (.inr y)) mv) owr (fun x y z => z.elim (d2 x y) fun z => dd x z (.inl y)) ?_ (ok3.less sub)
      exact ((st1.trans ((st3.more (R := Uni St S1) fun x z => z.elim .inr .inl))).less sub)
    | some (.ex x P), sat =>
      intro c d H2 Z2 S2 oP xr st2 ok2
      have sat2 : SatX X.K cl W σ H Z S x (VL.putB ms P E1) := sat
      have dd := st2.dis okS.sa d1'
      have oe2 := st2.ownE okT.dis d1' oe1
      have st3 := st2.frame (R := S1)
      have ok3 := st2.okk (R := S1) (ok1.less fun _ z => z.elim .inr .inl) ok2 d1'
      have sub : ∀ x, Uni S2 S1 x → Uni S1 S2 x := fun x z => z.elim .inr .inl
      refine sat2 c d H2 Z2 (Uni S2 S1) (oP.putB oe2 (fun x y z => dd x z y) mv) xr ?_ (ok3.less sub)
      exact ((st1.trans ((st3.more (R := Uni St S1) fun x z => z.elim .inr .inl))).less sub)
theorem run_fv {W : WX} {k : Nat} {f : Addr} {fd : FuncData} {ps : List Str} {F : List T → Option (Out T)} {pins : List (Addr × Obj)} {σ : L2.St} {H : Hp} {s : Shared} {Q : VK} {us : List Value} {vs : List V} (tk : Takes X W) (hF : FnV X.prog X.w X.K X.mg X.base cl k f fd ps F)
    (hr : Room k X.A) (hg : X.A.guards = some []) (hb : Binds X.K fd ps []) (I : Inv X pins σ H s) (r : Vals vs us) (h : SpF X.K cl ps.length F vs H Q fun c d H' => W c d σ H') : wpAny (model X.prog X.w) X.A (call (.ref f) us) (EP X pins σ Q) X.xe s := by
  have hl : us.length = ps.length := by rw [← r.length]; exact h.1
  have hbd := hb s us I.kIn (by rw [List.append_nil]; exact hl)
  rw [List.append_nil] at hbd
  refine wpAny_call (codeAny_mono (hF.run X.A X.stack s H ⟨us, []⟩ us vs Q _ hr hg I.env0 hbd r h) fun r s' hq => ?_)
  match r, hq with
  | .error e, hq => exact passAt tk σ pins H s e s' I hq
  | .ok (.ret u), hq => exact I.after hq
  | .ok .next, hq => exact hq.elim
  | .ok .brk, hq => exact hq.elim
  | .ok .cont, hq => exact hq.elim
theorem ie_call {x : Str} {p : Pos} {e : Expr} {k : Nat} {f : Addr} {fd : FuncData} {ps : List Str} {F : List T → Option (Out T)} (hF : FnV X.prog X.w X.K X.mg X.base cl k f fd ps F) (hr : Room k X.A) (hg : X.A.guards = some []) (hb : Binds X.K fd ps [])
    (hm : X.mg x = some (.ref f)) (hk : PySem.W.keepIn X.K (.ref f) = true) (ha : IM X cl (e :: es) ms ts) (hn : ms.length = ps.length := by rfl) (hgl : Gl X x := by rfl)
    (hdb : (x == ("__debug__" : Str)) = false := by decide) (he : starEach (e :: es) X.env = (false, eval e X.env) :: starEach es X.env := by rfl) (hpl : (backTo pos (starEach es X.env)).any (·.1) = false := by rfl) :
    IE X cl (.Call (.Name x p) (e :: es) [] pos) (eFn F ms ts) := by
  refine ⟨fun W tk => ?_⟩
  obtain ⟨ta, pa, qa⟩ := ha.run W tk
  refine ⟨fun σ H Q => ta σ H fun vs H1 => SpF X.K cl ps.length F vs H1 Q fun c d H' => W c d σ H', ⟨fun pins s σ H Q I h => ?_⟩, fun E σ H Z S Q oe ok sat => call_fin qa E σ H Z S Q oe ok sat hn⟩
  refine wpAny_Call_Name_kw (ld_glob I hgl hm ?_ hdb)
  refine PySem.W.callWith_K (h₀ := X.base) I.ok.mod.kin hk (thn (pa.run pos pins s σ H _ I h) fun us s1 ⟨vs, H1, I1, r, q⟩ => ⟨I1.kIn, ?_⟩) he hpl
  exact run_fv tk hF hr hg hb I1 r q
theorem ie_call0 {x : Str} {p : Pos} {k : Nat} {f : Addr} {fd : FuncData} {ps : List Str} {F : List T → Option (Out T)} (hF : FnV X.prog X.w X.K X.mg X.base cl k f fd ps F) (hr : Room k X.A) (hg : X.A.guards = some []) (hb : Binds X.K fd ps [])
    (hm : X.mg x = some (.ref f)) (hk : PySem.W.keepIn X.K (.ref f) = true) (hn : ps.length = 0 := by rfl) (hgl : Gl X x := by rfl) (hdb : (x == ("__debug__" : Str)) = false := by decide) :
    IE X cl (.Call (.Name x p) [] [] pos) (eFn F [] mNil) := by
  refine ⟨fun W tk => ?_⟩
  obtain ⟨ta, pa, qa⟩ := (im_nil (X := X) (cl := cl)).run W tk
  refine ⟨fun σ H Q => SpF X.K cl ps.length F [] H Q fun c d H' => W c d σ H', ⟨fun pins s σ H Q I h => ?_⟩, fun E σ H Z S Q oe ok sat => ?_⟩
  · refine wpAny_Call_Name_kw (ld_glob I hgl hm ?_ hdb)
    exact PySem.W.callWith_K0 I.kIn hk (run_fv (us := []) tk hF hr hg hb I .nil h)
  · exact call_fin (X := X) (ts := mNil) (ts' := fun _ H Q => Q [] H) (fun E σ H Z S Q oe ok sat => (sat : SatM X.K cl W [] σ H Z S Q (some (.ok [] E))) [] H Z Emp S oe .nil (fun _ z _ => z) .nil (Step.refl.less fun _ z => z.elim False.elim id) (ok.less fun _ z => z.elim False.elim id)) E σ H Z S Q oe ok sat hn.symm
end
end VL

namespace VL
open PySem PySem.Spec PyProof.Rows L2

/-! ### what is walked -/
def ItOk (K : PySem.W.Frag) (cl : Str → Addr) (J : It) (ds : List D) (H0 : Hp) (Z0 : PA1) : Prop :=
  ∀ i H (Z : PA1), (∀ a, Z0 a → Z a) → (∀ a o, Z0 a → H0 a = some o → H a = some o) → (∀ a, Z a → H a ≠ none) →
    (∀ d, ds[i]? = some d → J.go i H ∧ ∀ x H2, J.yld i H x H2 → ∃ Z2 : PA1, Step H Z Emp H2 Z2 Emp ∧ (∀ a, Z2 a → H2 a ≠ none) ∧ Rp K cl H2 Z2 d x) ∧ (i = ds.length → J.stop i H)
def SatI (K : PySem.W.Frag) (cl : Str → Addr) (W : WX) (σ : L2.St) (H : Hp) (Z S : PA1) (R : It → Hp → Prop) : Option (Out (List D)) → Prop
  | none => False
  | some (.ok ds E') => ∀ J H' Z' (S' : PA1), OwnE K cl H' Z' E' σ S' → ItOk K cl J ds H' Z' → Step H Z S H' Z' S' → Okk H' Z' S' → R J H'
  | some (.ex x E') => SatX K cl W σ H Z S x E'
structure II (X : Cx) (cl : Str → Addr) (tg iter : Expr) (t : Ev (List D)) : Prop where
  run : ∀ W, Takes X W → ∃ wi, PI X tg iter wi ∧ ∀ E σ H Z (S : PA1) R, OwnE X.K cl H Z E σ S → Okk H Z S → SatI X.K cl W σ H Z S R (t E) → wi σ H R
theorem satI_bnd {K : PySem.W.Frag} {cl : Str → Addr} {W : WX} {σ : L2.St} {H : Hp} {Z S : PA1} {β κ : Type} [Sats β κ] {q : κ} {o : Option (Out (List D))} {f : List D → En → Option (Out β)} {P : It → Hp → Prop} (h : Sats.sat K cl W σ H Z S q (bnd o f))
    (k : ∀ ds E1, Sats.sat K cl W σ H Z S q (f ds E1) → ∀ J H1 Z1 (S1 : PA1), OwnE K cl H1 Z1 E1 σ S1 → ItOk K cl J ds H1 Z1 → Step H Z S H1 Z1 S1 → Okk H1 Z1 S1 → P J H1) : SatI K cl W σ H Z S P o := by
  match o with
  | none => exact (Sats.no h).elim
  | some (.ok r E') => exact k r E' h
  | some (.ex x E') => exact Sats.ex h
theorem RpL.get {K : PySem.W.Frag} {cl : Str → Addr} {H : Hp} {Z : PA1} : ∀ {ds vs} {i : Nat} {d : D}, RpL K cl H Z ds vs → ds[i]? = some d → ∃ v, vs[i]? = some v ∧ Rp K cl H Z d v
  | _, _, _, _, .nil, h => by simp at h
  | _, _, 0, _, .cons q r, h => by simp at h; subst h; exact ⟨_, rfl, q⟩
  | _, _, i + 1, _, .cons q r, h => by
    obtain ⟨v, h1, h2⟩ := RpL.get r (i := i) (by simpa using h)
    exact ⟨v, by simpa using h1, h2⟩
section
variable {X : Cx} {cl : Str → Addr} {kp : Keep}
theorem itok_list {K : PySem.W.Frag} {H : Hp} {Z : PA1} {ds : List D} {a : Addr} (r : Rp K cl H Z (.lst ds) (.ref a)) : ItOk K cl (Itl K a) ds H Z := by
  intro i H1 Z1 hz hr hza
  have r1 := r.mono hz fun a z => .of fun u e => hr a u z e
  cases r1 with
  | @lst _ vs _ _ q rl =>
    refine ⟨fun d hd => ?_, fun e => ?_⟩
    · obtain ⟨v, hv, rv⟩ := rl.get hd
      refine ⟨⟨vs, v, SqL.of q, hv⟩, fun x H2 y => ?_⟩
      obtain ⟨e, y⟩ := y
      subst e
      have := y vs (SqL.of q)
      rw [hv] at this; cases this
      exact ⟨Z1, Step.refl, hza, rv⟩
    · exact ⟨vs, SqL.of q, by rw [e, rl.len]; exact Nat.le_refl _⟩
theorem itok_tup {K : PySem.W.Frag} {H : Hp} {Z : PA1} {ds : List D} {a : Addr} (r : Rp K cl H Z (.tup ds) (.ref a)) : ItOk K cl (Itt K a) ds H Z := by
  intro i H1 Z1 hz hr hza
  have r1 := r.mono hz fun a z => .of fun u e => hr a u z e
  cases r1 with
  | @tup _ vs _ _ q rl =>
    refine ⟨fun d hd => ?_, fun e => ?_⟩
    · obtain ⟨v, hv, rv⟩ := rl.get hd
      refine ⟨⟨vs, v, (TupP.sq q), hv⟩, fun x H2 y => ?_⟩
      obtain ⟨e, y⟩ := y
      subst e
      have := y vs ((TupP.sq q))
      rw [hv] at this; cases this
      exact ⟨Z1, Step.refl, hza, rv⟩
    · exact ⟨vs, (TupP.sq q), by rw [e, rl.len]; exact Nat.le_refl _⟩
def rngD (lo : Int) (n : Nat) : List D := (List.range n).map fun (i : Nat) => D.int (lo + (i : Int))
theorem itok_range {K : PySem.W.Frag} {H : Hp} {Z : PA1} {lo : Int} {n : Nat} : ItOk K cl (Itr lo n) (rngD lo n) H Z := by
  intro i H1 Z1 hz hr hza
  refine ⟨fun d hd => ?_, fun e => ?_⟩
  · unfold rngD at hd
    rw [List.getElem?_map] at hd
    by_cases hi : i < n
    · rw [List.getElem?_range hi] at hd
      cases hd
      refine ⟨hi, fun x H2 y => ?_⟩
      obtain ⟨e, y⟩ := y
      subst e
      subst y
      exact ⟨Z1, Step.refl, hza, .int _⟩
    · rw [List.getElem?_eq_none (by simpa using hi)] at hd; cases hd
  · unfold rngD at e
    simp at e
    show n ≤ i
    omega

/-- a list is walked -/
def iLst (t : Ev T) : Ev (List D) := fun E => bnd (t E) fun r E1 => match frz r with | .lst ds => some (.ok ds E1) | _ => none
def iTup' (t : Ev T) : Ev (List D) := fun E => bnd (t E) fun r E1 => match frz r with | .tup ds => some (.ok ds E1) | _ => none
theorem ii_list {tg l : Expr} {t : Ev T} (h : IE X cl l t) : II X cl tg l (iLst t) := by
  refine ⟨fun W tk => ?_⟩
  obtain ⟨te, p, q⟩ := h.fz W tk
  refine ⟨_, pi_list p, fun E σ H Z S R oe ok sat => ?_⟩
  refine q E σ H Z S _ oe ok ?_
  unfold iLst at sat
  match hE : t E, sat with
  | none, sat => exact sat
  | some (.ex x E1), sat => exact sat
  | some (.ok r E1), sat =>
    intro v H1 Z1 S1 oe1 rp st1 ok1
    simp only [bnd_ok] at sat
    match hf : frz r, sat with
    | .lst ds, sat =>
      rw [hf] at rp
      cases rp with
      | @lst a vs _ q0 q1 rl => exact ⟨a, rfl, ⟨vs, SqL.of q1⟩, sat _ H1 Z1 S1 oe1 (itok_list (.lst q0 q1 rl)) st1 ok1⟩
theorem ii_tup {tg l : Expr} {t : Ev T} (h : IE X cl l t) : II X cl tg l (iTup' t) := by
  refine ⟨fun W tk => ?_⟩
  obtain ⟨te, p, q⟩ := h.fz W tk
  refine ⟨_, pi_tup p, fun E σ H Z S R oe ok sat => ?_⟩
  refine q E σ H Z S _ oe ok ?_
  unfold iTup' at sat
  match hE : t E, sat with
  | none, sat => exact sat
  | some (.ex x E1), sat => exact sat
  | some (.ok r E1), sat =>
    intro v H1 Z1 S1 oe1 rp st1 ok1
    simp only [bnd_ok] at sat
    match hf : frz r, sat with
    | .tup ds, sat =>
      rw [hf] at rp
      cases rp with
      | @tup a vs _ q0 q1 rl => exact ⟨a, rfl, ⟨vs, (TupP.sq q1)⟩, sat _ H1 Z1 S1 oe1 (itok_tup (.tup q0 q1 rl)) st1 ok1⟩
def iRange1 (ts : Ev (List D)) : Ev (List D) := fun E => bnd (ts E) fun xs E1 => match xs with
  | [.int j] => if -(2 ^ 62) ≤ j ∧ j < 2 ^ 62 then some (.ok (rngD 0 j.toNat) E1) else none
  | _ => none
def iRange2 (ts : Ev (List D)) : Ev (List D) := fun E => bnd (ts E) fun xs E1 => match xs with
  | [.int i, .int j] => if (-(2 ^ 62) ≤ i ∧ i < 2 ^ 62) ∧ (-(2 ^ 62) ≤ j ∧ j < 2 ^ 62) then some (.ok (rngD i (j - i).toNat) E1) else none
  | _ => none
theorem ii_range1 {tg a : Expr} {p pos : Pos} {ts : Ev (List D)} (hm : X.mg "range" = none) (ha : IA X cl [a] ts) (hg : Gl X "range" := by rfl) (hs : starEach [a] X.env = [(false, eval a X.env)] := by rfl) : II X cl tg (.Call (.Name "range" p) [a] [] pos) (iRange1 ts) := by
  refine ⟨fun W tk => ?_⟩
  obtain ⟨ta, pa, q⟩ := ha.run W tk
  refine ⟨_, pi_range1 hg hm pa hs, fun E σ H Z S R oe ok sat => ?_⟩
  refine q E σ H Z S _ oe ok ?_
  unfold iRange1 at sat
  match hE : ts E, sat with
  | none, sat => exact sat
  | some (.ex x E1), sat => exact sat
  | some (.ok xs E1), sat =>
    intro vs H1 Z1 S1 oe1 rps st1 ok1
    simp only [bnd_ok] at sat
    match xs, rps, sat with
    | [.int j], .cons (.int _) .nil, sat =>
      dsimp only at sat
      by_cases c : -(2 ^ 62) ≤ j ∧ j < 2 ^ 62
      · rw [if_pos c] at sat
        exact ⟨j, rfl, c.1, c.2, sat _ H1 Z1 S1 oe1 itok_range st1 ok1⟩
      · rw [if_neg c] at sat; exact sat.elim
theorem ii_range2 {tg a b : Expr} {p pos : Pos} {ts : Ev (List D)} (hm : X.mg "range" = none) (ha : IA X cl [a, b] ts) (hg : Gl X "range" := by rfl) (hs : starEach [a, b] X.env = [(false, eval a X.env), (false, eval b X.env)] := by rfl) (hs2 : starEach [b] X.env = [(false, eval b X.env)] := by rfl) : II X cl tg (.Call (.Name "range" p) [a, b] [] pos) (iRange2 ts) := by
  refine ⟨fun W tk => ?_⟩
  obtain ⟨ta, pa, q⟩ := ha.run W tk
  refine ⟨_, pi_range2 hg hm pa hs hs2, fun E σ H Z S R oe ok sat => ?_⟩
  refine q E σ H Z S _ oe ok ?_
  unfold iRange2 at sat
  match hE : ts E, sat with
  | none, sat => exact sat
  | some (.ex x E1), sat => exact sat
  | some (.ok xs E1), sat =>
    intro vs H1 Z1 S1 oe1 rps st1 ok1
    simp only [bnd_ok] at sat
    match xs, rps, sat with
    | [.int i, .int j], .cons (.int _) (.cons (.int _) .nil), sat =>
      dsimp only at sat
      by_cases c : (-(2 ^ 62) ≤ i ∧ i < 2 ^ 62) ∧ (-(2 ^ 62) ≤ j ∧ j < 2 ^ 62)
      · rw [if_pos c] at sat
        exact ⟨i, j, rfl, ⟨c.1.1, c.1.2, c.2.1, c.2.2⟩, sat _ H1 Z1 S1 oe1 itok_range st1 ok1⟩
      · rw [if_neg c] at sat; exact sat.elim

/-! ### targets -/
def SatG (K : PySem.W.Frag) (cl : Str → Addr) (kp : Keep) (σ : L2.St) (H : Hp) (Z S : PA1) (Q : L2.St → Hp → Prop) : Option En → Prop
  | none => False
  | some E' => ∀ τ H' Z' (S' : PA1), OwnE K cl H' Z' E' τ S' → Kp kp σ τ → Step H Z S H' Z' S' → Okk H' Z' S' → Q τ H'
structure IG (X : Cx) (cl : Str → Addr) (kp : Keep) (tg : Expr) (g : T → En → Option En) : Prop where
  run : ∃ g', PG X tg g' ∧ ∀ t v E σ H Z (St S : PA1) Q, OwnE X.K cl H Z E σ S → Own X.K cl H Z t v St → Dis St S → Okk H Z (Uni St S) → SatG X.K cl kp σ H Z (Uni St S) Q (g t E) → g' v σ H Q
/-- frozen into a name -/
def gSet (i : Nat) : T → En → Option En := fun t E => some (E.set i (some (.fz (frz t))))
/-- kept by a name -/
def gOwn (i : Nat) : T → En → Option En := fun t E => some (E.set i (some t))
theorem ig_set (i : Nat) {x : Str} {pos : Pos} (hN : X.N.Nodup) (hi : X.N[i]? = some x := by rfl) (hx : Loc X.env.scope x := by first | exact .inl rfl | exact .inr rfl) (hk : kp i = false := by rfl)
    (hf : X.fn x = true ∨ X.env.scope.names.lookup x = some .local := by first | exact .inl rfl | exact .inr rfl) : IG X cl kp (.Name x pos) (gSet i) := by
  refine ⟨_, pg_name hN hi hx hf, fun t v E σ H Z St S Q oe ow d ok sat => ?_⟩
  have sat2 : SatG X.K cl kp σ H Z (Uni St S) Q (some (E.set i (some (.fz (frz t))))) := sat
  obtain ⟨s2, o2⟩ := freezeStep ok d
  have rp := ow.frz (Z' := Uni Z St) (fun _ z => .inl z) fun _ z => .inr z
  exact sat2 (σ.set i (some v)) H (Uni Z St) S (((oe.zmore (Z' := Uni Z St) fun _ z => .inl z).into (Si := Emp) (i := i) (.fz rp) fun _ z _ => z).up fun a z => z.elim False.elim id) (Kp.set hk) s2 o2
theorem ig_own (i : Nat) {x : Str} {pos : Pos} (hN : X.N.Nodup) (hi : X.N[i]? = some x := by rfl) (hx : Loc X.env.scope x := by first | exact .inl rfl | exact .inr rfl) (hk : kp i = false := by rfl)
    (hf : X.fn x = true ∨ X.env.scope.names.lookup x = some .local := by first | exact .inl rfl | exact .inr rfl) : IG X cl kp (.Name x pos) (gOwn i) := by
  refine ⟨_, pg_name hN hi hx hf, fun t v E σ H Z St S Q oe ow d ok sat => ?_⟩
  have sat2 : SatG X.K cl kp σ H Z (Uni St S) Q (some (E.set i (some t))) := sat
  exact sat2 (σ.set i (some v)) H Z (Uni St S) (oe.into ow d) (Kp.set hk) Step.refl ok
/-- several names -/
structure IGs (X : Cx) (cl : Str → Addr) (kp : Keep) (tgs : List Expr) (g : List T → En → Option En) : Prop where
  run : ∃ g', PGs X tgs g' ∧ ∀ ts vs E σ H Z (St S : PA1) Q, OwnE X.K cl H Z E σ S → OwnL X.K cl H Z ts vs St → Dis St S → Okk H Z (Uni St S) → SatG X.K cl kp σ H Z (Uni St S) Q (g ts E) → g' vs σ H Q
def gNil' : List T → En → Option En := fun ts E => match ts with | [] => some E | _ => none
def gCons' (g : T → En → Option En) (gs : List T → En → Option En) : List T → En → Option En := fun ts E => match ts with
  | [] => none
  | t :: r => match g t E with | none => none | some E1 => gs r E1
theorem igs_nil : IGs X cl kp [] gNil' := by
  refine ⟨_, pgs_nil, fun ts vs E σ H Z St S Q oe ow d ok sat => ?_⟩
  match ts, vs, ow, sat with
  | [], [], _, sat => exact ⟨rfl, sat σ H Z S oe .refl (Step.refl.less fun _ z => .inr z) (ok.less fun _ z => .inr z)⟩
theorem igs_cons {tg : Expr} {tgs : List Expr} {g : T → En → Option En} {gs : List T → En → Option En} (h : IG X cl kp tg g) (hs : IGs X cl kp tgs gs)
    (he : (assignEach (tg :: tgs) X.env).map (·.2) = assign tg X.env :: (assignEach tgs X.env).map (·.2) := by rfl) : IGs X cl kp (tg :: tgs) (gCons' g gs) := by
  obtain ⟨g1, p1, q1⟩ := h.run
  obtain ⟨g2, p2, q2⟩ := hs.run
  refine ⟨_, pgs_cons p1 p2 he, fun ts vs E σ H Z St S Q oe ow d ok sat => ?_⟩
  match ts, vs, ow, sat with
  | t :: r, v :: vr, .cons (S1 := S1) (S2 := S2) q qr a1 a2 dd, sat =>
    refine ⟨v, vr, rfl, ?_⟩
    have dS : Dis S1 (Uni S2 S) := fun x y z => z.elim (dd x y) (d x (a1 x y))
    have ok1 : Okk H Z (Uni S1 S) := ok.less fun x z => z.imp (a1 x) id
    refine q1 t v E σ H Z S1 S _ oe q (fun x y z => d x (a1 x y) z) ok1 ?_
    simp only [gCons'] at sat
    match hE : g t E, sat with
    | none, sat => exact sat
    | some E1, sat =>
      dsimp only at sat
      intro τ H1 Z1 S1' oe1 kk st1 okk1
      have dd2 : Dis S2 (Uni S1 S) := fun x y z => z.elim (fun z => dd x z y) (d x (a2 x y))
      have okS2 : Okk H Z (Uni S2 (Uni S1 S)) := ok.less fun x z => z.elim (fun z => .inl (a2 x z)) fun z => z.imp (a1 x) id
      have ow2 := st1.ownL ok1.dis dd2 qr
      have d3 := st1.dis (R := S2) (fun x z => ok.sa x (.inl (a2 x z))) dd2
      have ok3 := st1.okk (R := S2) okS2 okk1 dd2
      refine q2 r vr E1 τ H1 Z1 S2 S1' Q oe1 ow2 d3 ok3 ?_
      have st2 : Step H Z (Uni St S) H1 Z1 (Uni S2 S1') := (st1.frame (R := S2)).more fun x z => z.elim (fun z => .inl (a2 x z)) fun z => z.imp (a1 x) id
      match hE2 : gs r E1, sat with
      | none, sat => exact sat
      | some E2, sat => exact fun υ H2 Z2 S2' oe2 kk2 st3 okk3 => sat υ H2 Z2 S2' oe2 (kk.trans kk2) (st2.trans st3) okk3
/-- (a, b, ..) -/
def gTup' (n : Nat) (gs : List T → En → Option En) : T → En → Option En := fun t E => match t with
  | .tup ts => if ts.length = n then gs ts E else none
  | .fz (.tup ds) => if ds.length = n then gs (ds.map .fz) E else none
  | .fz (.tpn ds) => if ds.length = n then gs (ds.map .fz) E else none
  | _ => none
theorem OwnL.fzs {K : PySem.W.Frag} {H : Hp} {Z : PA1} : ∀ {ds vs} {S : PA1}, RpL K cl H Z ds vs → OwnL K cl H Z (ds.map .fz) vs S
  | _, _, _, .nil => .nil
  | _, _, S, .cons q r => .cons (S1 := Emp) (S2 := Emp) (.fz q) (OwnL.fzs r) (fun _ z => z.elim) (fun _ z => z.elim) fun _ z _ => z
theorem ig_tup {es : List Expr} {k : Nat} {gs : List T → En → Option En} {n : Nat} {pos : Pos} (hc : X.calm = true) (h : IGs X cl kp es gs)
    (hn : (assignEach es X.env).length = n := by rfl) (hst : (assignEach es X.env).findIdx? (·.1) = none := by rfl) : IG X cl kp (.Tuple es k pos) (gTup' n gs) := by
  obtain ⟨g', p, q⟩ := h.run
  refine ⟨_, pg_tup hc p hn hst, fun t v E σ H Z St S Q oe ow d ok sat => ?_⟩
  match t, ow, sat with
  | .tup ts, .tup (a := a) (vs := vs) (R := R) h1 h2 h3 r, sat =>
    simp only [gTup'] at sat
    by_cases c : ts.length = n
    · rw [if_pos c] at sat
      refine ⟨a, vs, rfl, (TupP.sq h1), by rw [← r.len]; exact c, q ts vs E σ H Z R S Q oe r (fun x y z => d x (h3 x y).1 z) (ok.less fun x z => z.imp (fun z => (h3 x z).1) id) ?_⟩
      match hE : gs ts E, sat with
      | none, sat => exact sat
      | some E1, sat => exact fun τ H1 Z1 S1 oe1 kk st1 ok1 => sat τ H1 Z1 S1 oe1 kk (st1.more fun x z => z.imp (fun z => (h3 x z).1) id) ok1
    · rw [if_neg c] at sat; exact sat.elim
  | .fz (.tup ds), .fz (.tup (a := a) (vs := vs) q0 q1 rl), sat =>
    simp only [gTup'] at sat
    by_cases c : ds.length = n
    · rw [if_pos c] at sat
      refine ⟨a, vs, rfl, (TupP.sq q1), by rw [← rl.len]; exact c, q (ds.map .fz) vs E σ H Z St S Q oe (OwnL.fzs rl) d ok sat⟩
    · rw [if_neg c] at sat; exact sat.elim
  | .fz (.tpn ds), .fz (.tpn (a := a) (vs := vs) q0 q1 rl), sat =>
    simp only [gTup'] at sat
    by_cases c : ds.length = n
    · rw [if_pos c] at sat
      refine ⟨a, vs, rfl, SqT.of q1, by rw [← rl.len]; exact c, q (ds.map .fz) vs E σ H Z St S Q oe (OwnL.fzs rl) d ok sat⟩
    · rw [if_neg c] at sat; exact sat.elim
/-- target = value -/
def sAsg (te : Ev T) (g : T → En → Option En) : Ev Fl := fun E => bnd (te E) fun r E1 => match g r E1 with | none => none | some E2 => some (.ok .nx E2)
theorem is_asg {tg e : Expr} {te : Ev T} {g : T → En → Option En} {pos : Pos} (he : IE X cl e te) (hg : IG X cl kp tg g) (hs : swapsWithSole [tg] e pos.line X.env = pure false := by rfl) (hw : swappedStores [tg] e X.env = pure none := by rfl)
    (h1 : (assignEach [tg] X.env).map (·.2) = [assign tg X.env] := by rfl) : IS X cl kp (.Assign [tg] e pos) (sAsg te g) := by
  refine ⟨fun W tk => ?_⟩
  obtain ⟨te', p, q⟩ := he.run W tk
  obtain ⟨g', pg, qg⟩ := hg.run
  refine ⟨_, ps_asg p pg hs hw h1, fun E σ H Z S D oe ok sat => ?_⟩
  refine q E σ H Z S _ oe ok (satV_bnd (β := Fl) (κ := Keep × Ends) (q := (kp, D)) sat fun r E1 sat1 v H1 Z1 Sr S1 oe1 ow1 d1 st1 ok1 => ?_)
  refine qg r v E1 σ H1 Z1 Sr S1 _ oe1 ow1 d1 ok1 ?_
  match hE : g r E1 with
  | none => rw [hE] at sat1; exact sat1.elim
  | some E2 =>
    rw [hE] at sat1
    have sat2 : SatS X.K cl W kp σ H Z S D (some (.ok .nx E2)) := sat1
    exact fun τ H2 Z2 S2 oe2 kk st2 ok2 => sat2 τ H2 Z2 S2 oe2 kk (st1.trans st2) ok2

/-! ### for -/
def forE (g : T → En → Option En) (tb : Ev Fl) : List D → En → Option (Out Fl)
  | [], E => some (.ok .nx E)
  | d :: ds, E => match g (.fz d) E with
    | none => none
    | some E1 => match tb E1 with
      | some (.ok .nx E2) => forE g tb ds E2
      | some (.ok .ct E2) => forE g tb ds E2
      | some (.ok .bk E2) => some (.ok .nx E2)
      | some (.ok (.ret r) E2) => some (.ok (.ret r) E2)
      | some (.ex x E2) => some (.ex x E2)
      | none => none
def sFor (ti : Ev (List D)) (g : T → En → Option En) (tb : Ev Fl) : Ev Fl := fun E => bnd (ti E) fun ds E1 => forE g tb ds E1
theorem for_go {W : WX} {g : T → En → Option En} {tb : Ev Fl} {g' : TG} {tb' : TS} (qg : ∀ t v E σ H Z (St S : PA1) Q, OwnE X.K cl H Z E σ S → Own X.K cl H Z t v St → Dis St S → Okk H Z (Uni St S) → SatG X.K cl kp σ H Z (Uni St S) Q (g t E) → g' v σ H Q)
    (qb : ∀ E σ H Z (S : PA1) D, OwnE X.K cl H Z E σ S → Okk H Z S → SatS X.K cl W kp σ H Z S D (tb E) → tb' D σ H) {ds : List D} {E1 : En} {σ : L2.St} {H1 : Hp} {Z1 S1 : PA1} {J : It} {D : Ends}
    (oe1 : OwnE X.K cl H1 Z1 E1 σ S1) (it : ItOk X.K cl J ds H1 Z1) (ok1 : Okk H1 Z1 S1) (sat2 : SatS X.K cl W kp σ H1 Z1 S1 D (forE g tb ds E1)) :
    ∃ Wf : Nat → Nat → L2.St → Hp → Prop, (∃ m, Wf 0 m σ H1) ∧ ∀ i m σ H, Wf i m σ H →
      (J.stop i H ∧ D.nx σ H) ∨ (J.go i H ∧ ∃ N : L2.St → Hp → Prop, (∀ σ' H', N σ' H' → ∃ m', m' < m ∧ Wf (i + 1) m' σ' H') ∧ ∀ x H', J.yld i H x H' → g' x σ H' fun σ2 H2 => tb' { D with nx := N, ct := N, bk := D.nx } σ2 H2) := by
  refine ⟨fun i m σ' H' => i ≤ ds.length ∧ m = ds.length - i ∧ ∃ E' Z' S', OwnE X.K cl H' Z' E' σ' S' ∧ Kp kp σ σ' ∧ Step H1 Z1 S1 H' Z' S' ∧ Okk H' Z' S' ∧ SatS X.K cl W kp σ' H' Z' S' D (forE g tb (ds.drop i) E'),
    ⟨_, Nat.zero_le _, rfl, E1, Z1, S1, oe1, .refl, Step.refl, ok1, by simpa using sat2⟩, ?_⟩
  rintro i m σ' H' ⟨hle, rfl, E', Z', S', oe', kk', st', ok', sat'⟩
  obtain ⟨go, stop⟩ := it i H' Z' st'.zz (fun a o z e => st'.kp a o e fun q => ok1.dis a q z) ok'.za
  by_cases hlt : i < ds.length
  · obtain ⟨d, hd⟩ : ∃ d, ds[i]? = some d := ⟨ds[i], by simp [hlt]⟩
    have hdrop : ds.drop i = d :: ds.drop (i + 1) := by
      rw [List.drop_eq_getElem_cons hlt]
      have : ds[i]? = some ds[i] := by simp [hlt]
      rw [hd] at this; cases this; rfl
    rw [hdrop] at sat'
    obtain ⟨hgo, yl⟩ := go d hd
    refine .inr ⟨hgo, fun σ'' H'' => ∃ E'' Z'' S'', OwnE X.K cl H'' Z'' E'' σ'' S'' ∧ Kp kp σ σ'' ∧ Step H1 Z1 S1 H'' Z'' S'' ∧ Okk H'' Z'' S'' ∧ SatS X.K cl W kp σ'' H'' Z'' S'' D (forE g tb (ds.drop (i + 1)) E''), fun σ'' H'' q => ⟨ds.length - (i + 1), by omega, hlt, rfl, q⟩, fun x H2 y => ?_⟩
    obtain ⟨Z2, st2, za2, rp2⟩ := yl x H2 y
    -- the item has come
    have oe2 := st2.ownE (fun _ z => z.elim) (fun _ _ z => z) oe'
    have st2' : Step H' Z' S' H2 Z2 S' := ((st2.frame (R := S')).more fun a z => z.elim id False.elim).less fun a z => .inl z
    have ok2 : Okk H2 Z2 S' := (st2.okk (R := S') (ok'.less fun a z => z.elim id False.elim) ⟨fun _ z => z.elim, fun _ z => z.elim, za2⟩ fun _ _ z => z).less fun a z => .inl z
    refine qg (.fz d) x E' σ' H2 Z2 Emp S' _ oe2 (.fz rp2) (fun _ z _ => z) (ok2.less fun a z => z.elim False.elim id) ?_
    simp only [forE] at sat'
    match hE : g (.fz d) E', sat' with
    | none, sat' => exact sat'
    | some E3, sat' =>
      dsimp only at sat'
      intro τ H3 Z3 S3 oe3 kk3 st3 ok3
      have st3' : Step H' Z' S' H3 Z3 S3 := st2'.trans (st3.more fun a z => z.elim False.elim id)
      refine qb E3 τ H3 Z3 S3 _ oe3 ok3 ?_
      match hE2 : tb E3, sat' with
      | none, sat' => exact sat'
      | some (.ok .nx E4), sat' => exact fun υ H4 Z4 S4 oe4 kk4 st4 ok4 => ⟨E4, Z4, S4, oe4, (kk'.trans kk3).trans kk4, (st'.trans st3').trans st4, ok4, SatS.re (st3'.trans st4) (kk3.trans kk4) sat'⟩
      | some (.ok .ct E4), sat' => exact fun υ H4 Z4 S4 oe4 kk4 st4 ok4 => ⟨E4, Z4, S4, oe4, (kk'.trans kk3).trans kk4, (st'.trans st3').trans st4, ok4, SatS.re (st3'.trans st4) (kk3.trans kk4) sat'⟩
      | some (.ok .bk E4), sat' => exact fun υ H4 Z4 S4 oe4 kk4 st4 ok4 => sat' υ H4 Z4 S4 oe4 (kk3.trans kk4) (st3'.trans st4) ok4
      | some (.ok (.ret r) E4), sat' => exact fun v υ H4 Z4 Sr S4 oe4 kk4 ow4 d4 st4 ok4 => sat' v υ H4 Z4 Sr S4 oe4 (kk3.trans kk4) ow4 d4 (st3'.trans st4) ok4
      | some (.ex e E4), sat' => exact fun c d υ H4 Z4 S4 oe4 kk4 xr st4 ok4 => sat' c d υ H4 Z4 S4 oe4 (kk3.trans kk4) xr (st3'.trans st4) ok4
  · have e : i = ds.length := by omega
    subst e
    rw [List.drop_length] at sat'
    exact .inl ⟨stop rfl, sat' σ' H' Z' S' oe' .refl Step.refl ok'⟩
theorem is_for {tg iter : Expr} {body : List Stmt} {ti : Ev (List D)} {g : T → En → Option En} {tb : Ev Fl} {pos : Pos} (hp : PassesOwn (model X.prog X.w) X.A X.env X.xe) (hc : X.calm = true) (hi : II X cl tg iter ti) (hg : IG X cl kp tg g) (hb : IL X cl kp body tb)
    (hs : ∀ x, foldedSetIterable iter X.env x = pure x := by intro _; rfl) : IS X cl kp (.For tg iter body [] pos) (sFor ti g tb) := by
  refine ⟨fun W tk => ?_⟩
  obtain ⟨wi, pi, qi⟩ := hi.run W tk
  obtain ⟨g', pg, qg⟩ := hg.run
  obtain ⟨tb', pb, qb⟩ := hb.run W tk
  refine ⟨_, ps_for hp hc pi pg pb hs, fun E σ H Z S D oe ok sat => ?_⟩
  refine qi E σ H Z S _ oe ok (satI_bnd (β := Fl) (κ := Keep × Ends) (q := (kp, D)) sat fun ds E1 sat1 J H1 Z1 S1 oe1 it st1 ok1 => ?_)
  exact for_go qg qb oe1 it ok1 (SatS.re st1 .refl sat1)

/-! ### while -/
def whileN (c : Ev Bool) (tb : Ev Fl) : Nat → En → Option (Out Fl)
  | 0, _ => none
  | n + 1, E => bnd (c E) fun b E1 => if b = true then (match tb E1 with
      | some (.ok .nx E2) => whileN c tb n E2
      | some (.ok .ct E2) => whileN c tb n E2
      | some (.ok .bk E2) => some (.ok .nx E2)
      | some (.ok (.ret r) E2) => some (.ok (.ret r) E2)
      | some (.ex x E2) => some (.ex x E2)
      | none => none) else some (.ok .nx E1)
open Classical in
noncomputable def sWhile (c : Ev Bool) (tb : Ev Fl) : Ev Fl := fun E => if h : ∃ n o, whileN c tb n E = some o then whileN c tb h.choose E else none
theorem whileN_succ {c : Ev Bool} {tb : Ev Fl} : ∀ {n : Nat} {E : En} {o}, whileN c tb n E = some o → whileN c tb (n + 1) E = some o
  | 0, _, _, h => by simp [whileN] at h
  | n + 1, E, o, h => by
    rw [whileN] at h ⊢
    match hE : c E, h with
    | some (.ok b E1), h =>
      simp only [bnd_ok] at h ⊢
      cases b with
      | false => exact h
      | true =>
        simp only [if_true] at h ⊢
        match hE2 : tb E1, h with
        | some (.ok .nx E2), h => exact whileN_succ h
        | some (.ok .ct E2), h => exact whileN_succ h
        | some (.ok .bk E2), h => exact h
        | some (.ok (.ret r) E2), h => exact h
        | some (.ex x E2), h => exact h
    | some (.ex x E1), h => exact h
theorem whileN_le {c : Ev Bool} {tb : Ev Fl} {n m : Nat} {E : En} {o} (h : whileN c tb n E = some o) (hl : n ≤ m) : whileN c tb m E = some o := by
  induction hl with
  | refl => exact h
  | step _ ih => exact whileN_succ ih
theorem sWhile_of {c : Ev Bool} {tb : Ev Fl} {n : Nat} {E : En} {o} (h : whileN c tb n E = some o) : sWhile c tb E = some o := by
  unfold sWhile
  have hx : ∃ n o, whileN c tb n E = some o := ⟨n, o, h⟩
  rw [dif_pos hx]
  obtain ⟨o', h'⟩ := hx.choose_spec
  have h1 := whileN_le h' (Nat.le_max_left _ n)
  have h2 := whileN_le h (Nat.le_max_right hx.choose n)
  rw [h1] at h2
  rw [h', h2]
theorem sWhile_some {c : Ev Bool} {tb : Ev Fl} {E : En} {o} (h : sWhile c tb E = some o) : ∃ n, whileN c tb n E = some o := by
  unfold sWhile at h
  split at h
  · exact ⟨_, h⟩
  · cases h
/-- one turn -/
theorem sWhile_turn {c : Ev Bool} {tb : Ev Fl} {E E1 E2 : En} {o} (hc : c E = some (.ok true E1)) (hb : tb E1 = some (.ok .nx E2)) (h : sWhile c tb E2 = some o) : sWhile c tb E = some o := by
  obtain ⟨n, hn⟩ := sWhile_some h
  refine sWhile_of (n := n + 1) ?_
  rw [whileN, hc]
  simp only [bnd_ok, if_true, hb]
  exact hn
theorem sWhile_end {c : Ev Bool} {tb : Ev Fl} {E E1 : En} (hc : c E = some (.ok false E1)) : sWhile c tb E = some (.ok .nx E1) := by
  refine sWhile_of (n := 1) ?_
  rw [whileN, hc]
  rfl
theorem is_while {c : Expr} {body : List Stmt} {tc : Ev Bool} {tb : Ev Fl} {pos : Pos} (hp : PassesOwn (model X.prog X.w) X.A X.env X.xe) (hc : IB X cl c tc) (hb : IL X cl kp body tb) : IS X cl kp (.While c body [] pos) (sWhile tc tb) := by
  refine ⟨fun W tk => ?_⟩
  obtain ⟨tc', pc, qc⟩ := hc.run W tk
  obtain ⟨tb', pb, qb⟩ := hb.run W tk
  refine ⟨_, ps_while hp pc pb, fun E σ H Z S D oe ok sat => ?_⟩
  have hsome : ∃ n, whileN tc tb n E = sWhile tc tb E := by
    match hE : sWhile tc tb E with
    | none => rw [hE] at sat; exact sat.elim
    | some o => exact sWhile_some hE
  obtain ⟨n, hn⟩ := hsome
  rw [← hn] at sat
  refine ⟨fun m σ' H' => ∃ E' Z' S', OwnE X.K cl H' Z' E' σ' S' ∧ Kp kp σ σ' ∧ Step H Z S H' Z' S' ∧ Okk H' Z' S' ∧ SatS X.K cl W kp σ' H' Z' S' D (whileN tc tb m E'), ⟨n, E, Z, S, oe, .refl, Step.refl, ok, sat⟩, ?_⟩
  rintro m σ' H' ⟨E', Z', S', oe', kk', st', ok', sat'⟩
  match m, sat' with
  | m + 1, sat' =>
    refine qc E' σ' H' Z' S' _ oe' ok' (satB_bnd (β := Fl) (κ := Keep × Ends) (q := (kp, D)) sat' fun b E1 sat1 H1 Z1 S1 oe1 st1 ok1 => ?_)
    have sat2 := SatS.re (kp := kp) (σ := σ') st1 .refl sat1
    cases b with
    | false => exact sat2 σ' H1 Z1 S1 oe1 .refl Step.refl ok1
    | true =>
      refine ⟨fun σ'' H'' => ∃ E'' Z'' S'', OwnE X.K cl H'' Z'' E'' σ'' S'' ∧ Kp kp σ σ'' ∧ Step H Z S H'' Z'' S'' ∧ Okk H'' Z'' S'' ∧ SatS X.K cl W kp σ'' H'' Z'' S'' D (whileN tc tb m E''), fun σ'' H'' q => ⟨m, Nat.lt_succ_self _, q⟩, ?_⟩
      refine qb E1 σ' H1 Z1 S1 _ oe1 ok1 ?_
      simp only [if_true] at sat2
      match hE2 : tb E1, sat2 with
      | none, sat2 => exact sat2
      | some (.ok .nx E4), sat2 => exact fun υ H4 Z4 S4 oe4 kk4 st4 ok4 => ⟨E4, Z4, S4, oe4, kk'.trans kk4, (st'.trans st1).trans st4, ok4, SatS.re st4 kk4 sat2⟩
      | some (.ok .ct E4), sat2 => exact fun υ H4 Z4 S4 oe4 kk4 st4 ok4 => ⟨E4, Z4, S4, oe4, kk'.trans kk4, (st'.trans st1).trans st4, ok4, SatS.re st4 kk4 sat2⟩
      | some (.ok .bk E4), sat2 => exact fun υ H4 Z4 S4 oe4 kk4 st4 ok4 => sat2 υ H4 Z4 S4 oe4 kk4 st4 ok4
      | some (.ok (.ret r) E4), sat2 => exact sat2
      | some (.ex e E4), sat2 => exact sat2
end
end VL

namespace VL
open PySem PySem.Spec PyProof.Rows L2
section
variable {X : Cx} {cl : Str → Addr} {kp : Keep} {pos : Pos}

/-! ### displays -/
theorem OwnL.alloc {K : PySem.W.Frag} {H : Hp} {Z S : PA1} (ok : Okk H Z S) {p : Addr} (np : H p = none) : ∀ b, S b → b ≠ p := fun b z e => by subst e; exact ok.sa _ z np
/-- a new object that owns what it holds -/
theorem newObj {K : PySem.W.Frag} {H : Hp} {Z St S : PA1} {E : En} {σ : L2.St} {p : Addr} {o : HO} (ok : Okk H Z (Uni St S)) (d : Dis St S) (oe : OwnE K cl H Z E σ S) (np : H p = none) :
    OwnE K cl (upd H p o) Z E σ S ∧ Step H Z (Uni St S) (upd H p o) Z (Uni (fun a => a = p ∨ St a) S) ∧ Okk (upd H p o) Z (Uni (fun a => a = p ∨ St a) S) ∧ Dis (fun a => a = p ∨ St a) S ∧ (∀ a u, H a = some u → upd H p o a = some u) := by
  have kp : ∀ a u, H a = some u → upd H p o a = some u := fun a u e => by rw [upd_ne (ne_of_none e np)]; exact e
  have al : ∀ a, H a ≠ none → upd H p o a ≠ none := fun a z => by
    cases e : H a with
    | none => exact absurd e z
    | some u => rw [kp a u e]; simp
  refine ⟨oe.mono (fun _ z => z) (fun a _ => .of (kp a)) fun a u _ e => kp a u e,
    ⟨fun _ z => z, fun _ z => .inl z, fun a z => ?_, fun a u e _ => kp a u e, al⟩, ⟨fun a z y => ?_, fun a z => ?_, fun a z => al a (ok.za a z)⟩, fun a z y => ?_, kp⟩
  · rcases z with (z | z) | z
    · exact .inr (by rw [z]; exact np)
    · exact .inl (.inl z)
    · exact .inl (.inr z)
  · rcases z with (z | z) | z
    · subst z; exact ok.za _ y np
    · exact ok.dis a (.inl z) y
    · exact ok.dis a (.inr z) y
  · rcases z with (z | z) | z
    · subst z; rw [upd_same]; simp
    · exact al a (ok.sa a (.inl z))
    · exact al a (ok.sa a (.inr z))
  · rcases z with z | z
    · subst z; exact ok.sa _ (.inr y) np
    · exact d a z y
theorem OwnL.keep {K : PySem.W.Frag} {H H' : Hp} {Z : PA1} {ts vs} {St : PA1} (h : OwnL K cl H Z ts vs St) (k : ∀ a u, H a = some u → H' a = some u) : OwnL K cl H' Z ts vs St :=
  h.mono (fun _ z => z) (fun a _ => .of (k a)) fun a u _ e => k a u e
theorem le1000 {n : Nat} (h : n ≤ 1000) : n ≤ sizeLine := by rw [sizeLine_eq]; omega
def tTupP (t : TA) : TE := fun σ H Q => t σ H fun xs H1 => xs.length ≤ sizeLine ∧ ∀ (p : Addr) (o : Obj), o.dict = none → H1 p = none → Q (.ref p) (upd H1 p (.frz o (.tup xs)))
theorem pe_tupP {X : Cx} {es : List Expr} {t : TA} {pos : Pos} {x1} (h : PA X es t) : PE X (.Tuple es x1 pos) (tTupP t) := by
  refine ⟨fun pins s σ H Q I hq => ?_⟩
  refine wpAny_Tuple_spliced (thn (h.run pos pins s σ H _ I hq) fun us s1 ⟨xs, H1, I1, r, z, q⟩ => ⟨by rw [← r.length]; exact z, ?_⟩)
  have hf : H1 s1.heap.objs.size = none := I1.hok.fresh (Nat.le_refl _)
  refine ⟨.ref s1.heap.objs.size, upd H1 s1.heap.objs.size (.frz { cls := .type "tuple", data := .seq us.toArray } (.tup xs)), I1.laid (t' := s1.toks) (fun b u e => Heap.get?_push_of_some _ e) (Nat.le_refl _) ?_, rfl, q _ _ rfl hf⟩
  exact ⟨Heap.get?_push_size _ rfl, z, us, r, ⟨_, Heap.get?_push_size _ rfl, rfl, _, rfl⟩⟩
def eTup (ts : Ev (List T)) : Ev T := fun E => bnd (ts E) fun xs E1 => some (.ok (.tup xs) E1)
def eLst (ts : Ev (List T)) : Ev T := fun E => bnd (ts E) fun xs E1 => some (.ok (.lst xs) E1)
theorem ie_tup {es : List Expr} {ts : Ev (List T)} {ms : List (Option Nat)} {x1} (h : IM X cl es ms ts) (hn : ms.length ≤ 1000 := by decide) : IE X cl (.Tuple es x1 pos) (eTup ts) := by
  refine ⟨fun W tk => ?_⟩
  obtain ⟨ta, pa, q⟩ := h.run W tk
  refine ⟨_, pe_tupP pa, fun E σ H Z S Q oe ok sat => ?_⟩
  refine q E σ H Z S _ oe ok ?_
  unfold eTup at sat
  match hE : ts E, sat with
  | none, sat => exact sat
  | some (.ex x E1), sat => exact sat
  | some (.ok xs E1), sat =>
    intro vs H1 Z1 St S1 oe1 ow1 d1 mv st1 ok1
    refine ⟨le1000 (by rw [mv.len]; exact hn), fun p ob dn np => ?_⟩
    obtain ⟨oe2, st2, ok2, d2, kp2⟩ := newObj (o := .frz ob (.tup vs)) ok1 d1 oe1 np
    have sat2 : SatV X.K cl W σ H Z S Q (some (.ok (.tup xs) E1)) := sat
    exact sat2 _ _ Z1 _ S1 oe2 (.tup (R := St) (TupP.new dn) (.inl rfl) (fun b z => ⟨.inr z, fun e => by subst e; exact ok1.sa _ (.inl z) np⟩) (ow1.keep kp2)) d2 (st1.trans st2) ok2
theorem ie_lst {es : List Expr} {ts : Ev (List T)} {ms : List (Option Nat)} (h : IM X cl es ms ts) (hn : ms.length ≤ 1000 := by decide) : IE X cl (.List es pos) (eLst ts) := by
  refine ⟨fun W tk => ?_⟩
  obtain ⟨ta, pa, q⟩ := h.run W tk
  refine ⟨_, pe_lst pa, fun E σ H Z S Q oe ok sat => ?_⟩
  refine q E σ H Z S _ oe ok ?_
  unfold eLst at sat
  match hE : ts E, sat with
  | none, sat => exact sat
  | some (.ex x E1), sat => exact sat
  | some (.ok xs E1), sat =>
    intro vs H1 Z1 St S1 oe1 ow1 d1 mv st1 ok1
    refine ⟨le1000 (by rw [mv.len]; exact hn), fun p np => ?_⟩
    obtain ⟨oe2, st2, ok2, d2, kp2⟩ := newObj (o := .lst vs) ok1 d1 oe1 np
    have sat2 : SatV X.K cl W σ H Z S Q (some (.ok (.lst xs) E1)) := sat
    exact sat2 _ _ Z1 _ S1 oe2 (.lst (R := St) upd_same (.inl rfl) (fun b z => ⟨.inr z, fun e => by subst e; exact ok1.sa _ (.inl z) np⟩) (ow1.keep kp2)) d2 (st1.trans st2) ok2
/-- {} -/
def eDnew : Ev T := fun E => some (.ok (.dct []) E)
def eDnewT : Ev T := fun E => some (.ok (.dcT []) E)

/-! ### choices -/
variable {a b c : Expr} {ta tb : Ev T} {tc : Ev Bool}
def eIf (c : Ev Bool) (ta tb : Ev T) : Ev T := fun E => bnd (c E) fun b E1 => if b = true then ta E1 else tb E1
theorem ie_if (hc : IB X cl c tc) (ha : IE X cl a ta) (hb : IE X cl b tb) : IE X cl (.IfExp c a b pos) (eIf tc ta tb) := by
  refine ⟨fun W tk => ?_⟩
  obtain ⟨tc', pc, qc⟩ := hc.run W tk
  obtain ⟨ta', pa, qa⟩ := ha.run W tk
  obtain ⟨tb', pb, qb⟩ := hb.run W tk
  refine ⟨_, pe_ifExp pc pa pb, fun E σ H Z S Q oe ok sat => ?_⟩
  refine qc E σ H Z S _ oe ok (satB_bnd (β := T) (κ := VK) (q := Q) sat fun b E1 sat1 H1 Z1 S1 oe1 st1 ok1 => ?_)
  cases b with
  | true => exact qa E1 σ H1 Z1 S1 Q oe1 ok1 (SatV.re st1 sat1)
  | false => exact qb E1 σ H1 Z1 S1 Q oe1 ok1 (SatV.re st1 sat1)
/-- and, or of truth values, as a value -/
def eAnd (ta tb : Ev T) : Ev T := fun E => bnd (ta E) fun x E1 => match asB (frz x) with
  | some true => tb E1
  | some false => some (.ok (.fz (.bl false)) E1)
  | none => none
def eOr (ta tb : Ev T) : Ev T := fun E => bnd (ta E) fun x E1 => match asB (frz x) with
  | some true => some (.ok (.fz (.bl true)) E1)
  | some false => tb E1
  | none => none
def eNot (ta : Ev T) : Ev T := fun E => bnd (ta E) fun x E1 => match asB (frz x) with
  | some b => some (.ok (.fz (.bl (!b))) E1)
  | none => none
theorem SatV.atom {K : PySem.W.Frag} {W : WX} {σ : L2.St} {H : Hp} {Z S : PA1} {Q : VK} {E : En} {d : D} {v : V} (sat : SatV K cl W σ H Z S Q (some (.ok (.fz d) E))) (oe : OwnE K cl H Z E σ S) (ok : Okk H Z S) (r : Rp K cl H Z d v) : Q v H :=
  sat v H Z Emp S oe (.fz r) (fun _ z _ => z) (Step.refl.less fun _ z => z.elim False.elim id) (ok.less fun _ z => z.elim False.elim id)
theorem ie_one {op} (h : IE X cl a ta) : IE X cl (.BoolOp op [a] pos) ta := ⟨fun W tk => by obtain ⟨te, p, q⟩ := h.run W tk; exact ⟨te, pe_one p, q⟩⟩
theorem ie_and {rest : List Expr} (ha : IE X cl a ta) (hb : IE X cl (.BoolOp .And (b :: rest) pos) tb) : IE X cl (.BoolOp .And (a :: b :: rest) pos) (eAnd ta tb) := by
  refine ⟨fun W tk => ?_⟩
  obtain ⟨ta', pa, qa⟩ := ha.fz W tk
  obtain ⟨tb', pb, qb⟩ := hb.run W tk
  refine ⟨_, pe_and pa pb, fun E σ H Z S Q oe ok sat => ?_⟩
  refine qa E σ H Z S _ oe ok (satD_bnd (β := T) (κ := VK) (q := Q) sat fun x E1 sat1 v H1 Z1 S1 oe1 rp1 st1 ok1 => ?_)
  have sat2 : SatV X.K cl W σ H1 Z1 S1 Q (match asB (frz x) with | some true => tb E1 | some false => some (.ok (.fz (.bl false)) E1) | none => none) := SatV.re st1 sat1
  match hx : asB (frz x) with
  | none => rw [hx] at sat2; exact sat2.elim
  | some true => rw [hx] at sat2; exact ⟨true, asB_rp rp1 hx, by rw [if_pos rfl]; exact qb E1 σ H1 Z1 S1 Q oe1 ok1 sat2⟩
  | some false => rw [hx] at sat2; exact ⟨false, asB_rp rp1 hx, by rw [if_neg Bool.false_ne_true]; exact sat2.atom oe1 ok1 (.bl false)⟩
theorem ie_or {rest : List Expr} (ha : IE X cl a ta) (hb : IE X cl (.BoolOp .Or (b :: rest) pos) tb) : IE X cl (.BoolOp .Or (a :: b :: rest) pos) (eOr ta tb) := by
  refine ⟨fun W tk => ?_⟩
  obtain ⟨ta', pa, qa⟩ := ha.fz W tk
  obtain ⟨tb', pb, qb⟩ := hb.run W tk
  refine ⟨_, pe_or pa pb, fun E σ H Z S Q oe ok sat => ?_⟩
  refine qa E σ H Z S _ oe ok (satD_bnd (β := T) (κ := VK) (q := Q) sat fun x E1 sat1 v H1 Z1 S1 oe1 rp1 st1 ok1 => ?_)
  have sat2 : SatV X.K cl W σ H1 Z1 S1 Q (match asB (frz x) with | some true => some (.ok (.fz (.bl true)) E1) | some false => tb E1 | none => none) := SatV.re st1 sat1
  match hx : asB (frz x) with
  | none => rw [hx] at sat2; exact sat2.elim
  | some true => rw [hx] at sat2; exact ⟨true, asB_rp rp1 hx, by rw [if_pos rfl]; exact sat2.atom oe1 ok1 (.bl true)⟩
  | some false => rw [hx] at sat2; exact ⟨false, asB_rp rp1 hx, by rw [if_neg Bool.false_ne_true]; exact qb E1 σ H1 Z1 S1 Q oe1 ok1 sat2⟩
theorem ie_not (ha : IE X cl a ta) : IE X cl (.UnaryOp .Not a pos) (eNot ta) := by
  refine ⟨fun W tk => ?_⟩
  obtain ⟨ta', pa, qa⟩ := ha.fz W tk
  refine ⟨_, pe_not pa, fun E σ H Z S Q oe ok sat => ?_⟩
  refine qa E σ H Z S _ oe ok (satD_bnd (β := T) (κ := VK) (q := Q) sat fun x E1 sat1 v H1 Z1 S1 oe1 rp1 st1 ok1 => ?_)
  have sat2 : SatV X.K cl W σ H1 Z1 S1 Q (match asB (frz x) with | some b => some (.ok (.fz (.bl (!b))) E1) | none => none) := SatV.re st1 sat1
  match hx : asB (frz x) with
  | none => rw [hx] at sat2; exact sat2.elim
  | some b => rw [hx] at sat2; exact ⟨b, asB_rp rp1 hx, sat2.atom oe1 ok1 (.bl _)⟩
/-- a op b op' c -/
def eChn (g g' : D → D → Option T) (ta tb tc : Ev T) : Ev T := fun E => bnd (ta E) fun x E1 => bnd (tb E1) fun y E2 => bnd (opt (g (frz x) (frz y)) E2) fun z E3 => match asB (frz z) with
  | some true => bnd (tc E3) fun u E4 => opt (g' (frz y) (frz u)) E4
  | some false => some (.ok (.fz (.bl false)) E3)
  | none => none
theorem chn_run {W : WX} {ta' tb' tc' : TE} {tc : Ev T} {g g' : D → D → Option T} {r r' : R2} (qa : ∀ E σ H Z (S : PA1) Q, OwnE X.K cl H Z E σ S → Okk H Z S → SatD X.K cl W σ H Z S Q (ta E) → ta' σ H Q)
    (qb : ∀ E σ H Z (S : PA1) Q, OwnE X.K cl H Z E σ S → Okk H Z S → SatD X.K cl W σ H Z S Q (tb E) → tb' σ H Q) (qc : ∀ E σ H Z (S : PA1) Q, OwnE X.K cl H Z E σ S → Okk H Z S → SatD X.K cl W σ H Z S Q (tc E) → tc' σ H Q)
    (hg : OpV X.K cl r g) (hg' : OpV X.K cl r' g') (E : En) (σ : L2.St) (H : Hp) (Z S : PA1) (Q : VK) (oe : OwnE X.K cl H Z E σ S) (ok : Okk H Z S) (sat : SatV X.K cl W σ H Z S Q (eChn g g' ta tb tc E)) : tChain r r' ta' tb' tc' σ H Q := by
  refine qa E σ H Z S _ oe ok (satD_bnd (β := T) (κ := VK) (q := Q) sat fun x E1 sat1 v H1 Z1 S1 oe1 rp1 st1 ok1 => ?_)
  refine qb E1 σ H1 Z1 S1 _ oe1 ok1 (satD_bnd (β := T) (κ := VK) (q := Q) (SatV.re st1 sat1) fun y E2 sat2 u H2 Z2 S2 oe2 rp2 st2 ok2 => ?_)
  refine hg _ _ v u H2 Z2 _ ok2.za (st2.rp ok1.dis rp1) rp2 (op_fin (W := W) oe2 ok2 ?_)
  have sat3 : SatV X.K cl W σ H2 Z2 S2 Q _ := SatV.re st2 sat2
  refine satV_bnd (β := T) (κ := VK) (q := Q) sat3 fun z E3 sat4 zv H3 Z3 Sr S3 oe3 ow3 d3 st3 ok3 => ?_
  obtain ⟨s4, o4⟩ := freezeStep ok3 d3
  have rz := ow3.frz (Z' := Uni Z3 Sr) (fun _ z => .inl z) fun _ z => .inr z
  have st4 := st3.trans s4
  have sat5 : SatV X.K cl W σ H3 (Uni Z3 Sr) S3 Q (match asB (frz z) with | some true => bnd (tc E3) fun u E4 => opt (g' (frz y) (frz u)) E4 | some false => some (.ok (.fz (.bl false)) E3) | none => none) := SatV.re st4 sat4
  have oe4 := oe3.zmore (Z' := Uni Z3 Sr) fun _ z => .inl z
  match hx : asB (frz z) with
  | none => rw [hx] at sat5; exact sat5.elim
  | some false => rw [hx] at sat5; exact ⟨false, asB_rp rz hx, by rw [if_neg Bool.false_ne_true]; exact sat5.atom oe4 o4 (.bl false)⟩
  | some true =>
    rw [hx] at sat5
    refine ⟨true, asB_rp rz hx, ?_⟩
    rw [if_pos rfl]
    refine qc E3 σ H3 _ S3 _ oe4 o4 (satD_bnd (β := T) (κ := VK) (q := Q) sat5 fun w' E5 sat6 wv H5 Z5 S5 oe5 rp5 st5 ok5 => ?_)
    exact hg' _ _ u wv H5 Z5 Q ok5.za (st5.rp o4.dis (st4.rp ok2.dis rp2)) rp5 (op_fin oe5 ok5 (SatV.re st5 sat6))
theorem ie_chn {op op' : CmpOp} {r r' : R2} {g g' : D → D → Option T} {tc : Ev T} (ho : OpR X (compareOp op) r) (hg : OpV X.K cl r g) (ho' : OpR X (compareOp op') r') (hg' : OpV X.K cl r' g') (ha : IE X cl a ta) (hb : IE X cl b tb) (hc : IE X cl c tc)
    (hm : lastMarks [op, op'] [b, c] = false := by with_unfolding_all rfl) : IE X cl (.Compare a [op, op'] [b, c] pos) (eChn g g' ta tb tc) := by
  refine ⟨fun W tk => ?_⟩
  obtain ⟨ta', pa, qa⟩ := ha.fz W tk
  obtain ⟨tb', pb, qb⟩ := hb.fz W tk
  obtain ⟨tc', pc, qc⟩ := hc.fz W tk
  exact ⟨_, pe_chain ho ho' pa pb pc hm, chn_run qa qb qc hg hg'⟩
/-- an expression's run, its value a truth value, as a test -/
def bVal (t : Ev T) : Ev Bool := fun E => bnd (t E) fun x E1 => opt (asB (frz x)) E1
theorem ib_chn {op op' : CmpOp} {r r' : R2} {g g' : D → D → Option T} {tc : Ev T} (ho : OpR X (compareOp op) r) (hg : OpV X.K cl r g) (ho' : OpR X (compareOp op') r') (hg' : OpV X.K cl r' g') (ha : IE X cl a ta) (hb : IE X cl b tb) (hc : IE X cl c tc)
    (hm : lastMarks [op, op'] [b, c] = false := by with_unfolding_all rfl) : IB X cl (.Compare a [op, op'] [b, c] pos) (bVal (eChn g g' ta tb tc)) := by
  refine ⟨fun W tk => ?_⟩
  obtain ⟨ta', pa, qa⟩ := ha.fz W tk
  obtain ⟨tb', pb, qb⟩ := hb.fz W tk
  obtain ⟨tc', pc, qc⟩ := hc.fz W tk
  refine ⟨_, pt_chain ho ho' pa pb pc hm, fun E σ H Z S Q oe ok sat => ?_⟩
  refine chn_run qa qb qc hg hg' E σ H Z S _ oe ok (satV_bnd (β := Bool) (κ := Bool → Hp → Prop) (q := Q) sat fun x E1 sat1 v H1 Z1 Sr S1 oe1 ow1 d1 st1 ok1 => ?_)
  obtain ⟨k, hk, sat2⟩ := sat_opt (β := Bool) (κ := Bool → Hp → Prop) (q := Q) sat1
  obtain ⟨s2, o2⟩ := freezeStep ok1 d1
  refine ⟨k, asB_rp (ow1.frz (Z' := Uni Z1 Sr) (fun _ z => .inl z) fun _ z => .inr z) hk, ?_⟩
  exact (SatB.re (st1.trans s2) sat2 : SatB X.K cl W σ H1 _ S1 Q _) H1 _ S1 (oe1.zmore fun _ z => .inl z) Step.refl o2

/-! ### slices -/
structure IO (X : Cx) (cl : Str → Addr) (e : Option Expr) (t : Ev (Option Int)) : Prop where
  run : ∀ W, Takes X W → ∃ to, PO X e to ∧ ∀ E σ H Z (S : PA1) (Q : Option Int → Hp → Prop), OwnE X.K cl H Z E σ S → Okk H Z S →
    (match t E with
      | none => False
      | some (.ok i E') => ∀ H' Z' (S' : PA1), OwnE X.K cl H' Z' E' σ S' → Step H Z S H' Z' S' → Okk H' Z' S' → Q i H'
      | some (.ex x E') => SatX X.K cl W σ H Z S x E') → to σ H Q
def oNo : Ev (Option Int) := fun E => some (.ok none E)
def oSo (t : Ev T) : Ev (Option Int) := fun E => bnd (t E) fun x E1 => match frz x with | .int i => some (.ok (some i) E1) | _ => none
theorem io_no : IO X cl none oNo := ⟨fun W tk => ⟨_, po_none, fun E σ H Z S Q oe ok sat => sat H Z S oe Step.refl ok⟩⟩
theorem io_so (h : IE X cl a ta) : IO X cl (some a) (oSo ta) := by
  refine ⟨fun W tk => ?_⟩
  obtain ⟨ta', pa, qa⟩ := h.fz W tk
  refine ⟨_, po_some pa, fun E σ H Z S Q oe ok sat => qa E σ H Z S _ oe ok ?_⟩
  unfold oSo at sat
  match hE : ta E, sat with
  | none, sat => exact sat
  | some (.ex x E1), sat => exact sat
  | some (.ok x E1), sat =>
    intro v H1 Z1 S1 oe1 rp st1 ok1
    simp only [bnd_ok] at sat
    match hf : frz x, sat with
    | .int i, sat =>
      rw [hf] at rp
      cases rp
      exact ⟨i, rfl, sat H1 Z1 S1 oe1 st1 ok1⟩
def SlV (K : PySem.W.Frag) (cl : Str → Addr) (r : V → Option Int → Option Int → Hp → VK → Prop) (g : D → Option Int → Option Int → Option T) : Prop :=
  ∀ x v lo hi H (Z : PA1) Q, (∀ a, Z a → H a ≠ none) → Rp K cl H Z x v → OkR K cl H Z Q (g x lo hi) → r v lo hi H Q
def eSl (g : D → Option Int → Option Int → Option T) (t : Ev T) (tl th : Ev (Option Int)) : Ev T := fun E => bnd (t E) fun x E1 => bnd (tl E1) fun lo E2 => bnd (th E2) fun hi E3 => opt (g (frz x) lo hi) E3
theorem ie_slice {lo hi : Option Expr} {p2 : Pos} {tl th : Ev (Option Int)} {r : V → Option Int → Option Int → Hp → VK → Prop} {g : D → Option Int → Option Int → Option T} (hr : SlR X r) (hg : SlV X.K cl r g) (ha : IE X cl a ta) (hl : IO X cl lo tl) (hh : IO X cl hi th) :
    IE X cl (.Subscript a (.Slice lo hi none p2) pos) (eSl g ta tl th) := by
  refine ⟨fun W tk => ?_⟩
  obtain ⟨ta', pa, qa⟩ := ha.fz W tk
  obtain ⟨tl', pl, ql⟩ := hl.run W tk
  obtain ⟨th', ph, qh⟩ := hh.run W tk
  refine ⟨_, pe_slice hr pa pl ph, fun E σ H Z S Q oe ok sat => ?_⟩
  refine qa E σ H Z S _ oe ok (satD_bnd (β := T) (κ := VK) (q := Q) sat fun x E1 sat1 v H1 Z1 S1 oe1 rp1 st1 ok1 => ?_)
  have sat1' : SatV X.K cl W σ H1 Z1 S1 Q _ := SatV.re st1 sat1
  refine ql E1 σ H1 Z1 S1 _ oe1 ok1 ?_
  match hE : tl E1, sat1' with
  | none, sat1' => exact sat1'
  | some (.ex x E2), sat1' => exact sat1'
  | some (.ok lo E2), sat1' =>
    intro H2 Z2 S2 oe2 st2 ok2
    simp only [bnd_ok] at sat1'
    have sat2 : SatV X.K cl W σ H2 Z2 S2 Q _ := SatV.re st2 sat1'
    refine qh E2 σ H2 Z2 S2 _ oe2 ok2 ?_
    match hE2 : th E2, sat2 with
    | none, sat2 => exact sat2
    | some (.ex x E3), sat2 => exact sat2
    | some (.ok hi E3), sat2 =>
      intro H3 Z3 S3 oe3 st3 ok3
      simp only [bnd_ok] at sat2
      exact hg _ v lo hi H3 Z3 Q ok3.za (st3.rp ok2.dis (st2.rp ok1.dis rp1)) (op_fin oe3 ok3 (SatV.re st3 sat2))

/-! ### methods of built-in types, on frozen data -/
def TyD : String → D → Bool
  | "str", .str _ => true
  | "list", .lst _ => true
  | "tuple", .tup _ => true
  | "dict", .dct _ => true
  | "dict", .dcT _ => true
  | _, _ => false
def MtV (K : PySem.W.Frag) (cl : Str → Addr) (r : V → List V → Hp → VK → Prop) (g : D → List D → Option T) : Prop :=
  ∀ x v xs vs H (Z : PA1) Q, (∀ a, Z a → H a ≠ none) → Rp K cl H Z x v → RpL K cl H Z xs vs → OkR K cl H Z Q (g x xs) → r v vs H Q
end
end VL

namespace VL
open PySem PySem.Spec PyProof.Rows L2
section
variable {K : PySem.W.Frag} {cl : Str → Addr} {H : Hp} {Z : PA1} {Q : VK}

/-! ### ends of operations -/
theorem okr_fz (hz : ∀ a, Z a → H a ≠ none) {d : D} {v : V} (ok : OkR K cl H Z Q (some (.fz d))) (r : Rp K cl H Z d v) : Q v H :=
  ok v H Z Emp (.fz r) (Step.refl.less fun _ z => z.elim) ⟨fun _ z => z.elim, fun _ z => z.elim, hz⟩
theorem fresh_step (hz : ∀ a, Z a → H a ≠ none) {p : Addr} {o : HO} (np : H p = none) : Step H Z Emp (upd H p o) Z (fun a => a = p) ∧ Okk (upd H p o) Z (fun a => a = p) ∧ ∀ a u, H a = some u → upd H p o a = some u := by
  have kp : ∀ a u, H a = some u → upd H p o a = some u := fun a u e => by rw [upd_ne (ne_of_none e np)]; exact e
  have al : ∀ a, H a ≠ none → upd H p o a ≠ none := fun a z => by
    cases e : H a with
    | none => exact absurd e z
    | some u => rw [kp a u e]; simp
  exact ⟨⟨fun _ z => z, fun _ z => .inl z, fun a z => .inr (by subst z; exact np), fun a u e _ => kp a u e, al⟩, ⟨fun a z y => by subst z; exact hz _ y np, fun a z => by subst z; rw [upd_same]; simp, fun a z => al a (hz a z)⟩, kp⟩
theorem RpL.keep {H' : Hp} {ds vs} (h : RpL K cl H Z ds vs) (k : ∀ a u, H a = some u → H' a = some u) : RpL K cl H' Z ds vs := h.mono (fun _ z => z) fun a _ => .of (k a)
theorem Rp.keep {H' : Hp} {d v} (h : Rp K cl H Z d v) (k : ∀ a u, H a = some u → H' a = some u) : Rp K cl H' Z d v := h.mono (fun _ z => z) fun a _ => .of (k a)
theorem okr_lst (hz : ∀ a, Z a → H a ≠ none) {ds : List D} {vs : List V} (ok : OkR K cl H Z Q (some (.lst (ds.map .fz)))) (r : RpL K cl H Z ds vs) {p : Addr} (np : H p = none) : Q (.ref p) (upd H p (.lst vs)) := by
  obtain ⟨st, o, k⟩ := fresh_step (o := .lst vs) hz np
  exact ok _ _ Z (fun a => a = p) (.lst (R := Emp) upd_same rfl (fun _ z => z.elim) (OwnL.fzs (r.keep k))) st o
theorem okr_tup (hz : ∀ a, Z a → H a ≠ none) {ds : List D} {vs : List V} (ok : OkR K cl H Z Q (some (.tup (ds.map .fz)))) (r : RpL K cl H Z ds vs) {p : Addr} {ob : Obj} (dn : ob.dict = none) (np : H p = none) : Q (.ref p) (upd H p (.frz ob (.tup vs))) := by
  obtain ⟨st, o, k⟩ := fresh_step (o := .frz ob (.tup vs)) hz np
  exact ok _ _ Z (fun a => a = p) (.tup (R := Emp) (TupP.new dn) rfl (fun _ z => z.elim) (OwnL.fzs (r.keep k))) st o
/-- the same tuple again -/
theorem okr_tupS (hz : ∀ a, Z a → H a ≠ none) {ds : List D} {v : V} (ok : OkR K cl H Z Q (some (.fz (.tup ds)))) (r : Rp K cl H Z (.tup ds) v) : Q v H := okr_fz hz ok r
theorem RpL.append : ∀ {ds es vs us}, RpL K cl H Z ds vs → RpL K cl H Z es us → RpL K cl H Z (ds ++ es) (vs ++ us)
  | _, _, _, _, .nil, s => s
  | _, _, _, _, .cons r t, s => .cons r (RpL.append t s)
theorem RpL.take : ∀ {ds vs} (n : Nat), RpL K cl H Z ds vs → RpL K cl H Z (ds.take n) (vs.take n)
  | _, _, 0, _ => by simp; exact .nil
  | _, _, _ + 1, .nil => .nil
  | _, _, n + 1, .cons r t => .cons r (RpL.take n t)
theorem RpL.drop : ∀ {ds vs} (n : Nat), RpL K cl H Z ds vs → RpL K cl H Z (ds.drop n) (vs.drop n)
  | _, _, 0, r => r
  | _, _, _ + 1, .nil => .nil
  | _, _, n + 1, .cons _ t => RpL.drop n t

/-! ### data as the library's data -/
def keyPy : Key → PyData
  | .inl i => .int i
  | .inr x => .str x
mutual
def toPy : D → Option PyData
  | .non => some .none
  | .bl b => some (.bool b)
  | .int i => some (.int i)
  | .str x => some (.str x)
  | .lst xs => match toPyL xs with | some l => some (.list l) | none => none
  | .tup xs => match toPyL xs with | some l => some (.tuple l) | none => none
  | _ => none
def toPyL : List D → Option (List PyData)
  | [] => some []
  | d :: ds => match toPy d, toPyL ds with | some x, some l => some (x :: l) | _, _ => none
end
mutual
theorem dp_of : ∀ {d v p}, Rp K cl H Z d v → toPy d = some p → Dp K H v p
  | _, _, _, .non, h => by cases h; exact .non
  | _, _, _, .bl b, h => by cases h; exact .bl b
  | _, _, _, .int i, h => by cases h; exact .int i
  | _, _, _, .str x, h => by cases h; exact .str x
  | _, _, _, .ty _, h => by simp [toPy] at h
  | _, _, _, .gl _, h => by simp [toPy] at h
  | _, _, _, .scr _, h => by simp [toPy] at h
  | _, _, _, .kt _ _, h => by simp [toPy] at h
  | _, _, _, .dct _ _ _ _, h => by simp [toPy] at h
  | _, _, _, .dcT _ _ _ _, h => by simp [toPy] at h
  | _, _, _, .ins _ _ _ _, h => by simp [toPy] at h
  | .tup xs, _, p, .tup _ q r, h => by
    simp only [toPy] at h
    cases e : toPyL xs with
    | none => rw [e] at h; cases h
    | some l => rw [e] at h; cases h; exact .tup ((TupP.sq q)) (dpAll_of r e)
  | .lst xs, _, p, .lst _ q r, h => by
    simp only [toPy] at h
    cases e : toPyL xs with
    | none => rw [e] at h; cases h
    | some l => rw [e] at h; cases h; exact .lst (SqL.of q) (dpAll_of r e)
theorem dpAll_of : ∀ {ds vs ps}, RpL K cl H Z ds vs → toPyL ds = some ps → DpAll K H vs ps
  | _, _, _, .nil, h => by simp [toPyL] at h; subst h; exact .nil
  | d :: ds, _, _, .cons r rs, h => by
    simp only [toPyL] at h
    cases e1 : toPy d with
    | none => rw [e1] at h; cases h
    | some x =>
      cases e2 : toPyL ds with
      | none => rw [e1, e2] at h; cases h
      | some l => rw [e1, e2] at h; cases h; exact .cons (dp_of r e1) (dpAll_of rs e2)
end

/-! ### equality -/
def eqDD (x y : D) : Option Bool := match toPy x, toPy y with
  | some a, some b => if SeqAt.shaped a = true ∧ SeqAt.shaped b = true then some (PyData.eqv a b) else none
  | _, _ => none
def eqD (x y : D) : Option T := (eqDD x y).map fun b => .fz (.bl b)
def neD (x y : D) : Option T := (eqDD x y).map fun b => .fz (.bl (!b))
theorem eqDD_some {x y : D} {b : Bool} (h : eqDD x y = some b) : ∃ p q, toPy x = some p ∧ toPy y = some q ∧ SeqAt.shaped p = true ∧ SeqAt.shaped q = true ∧ PyData.eqv p q = b := by
  unfold eqDD at h
  cases e1 : toPy x with
  | none => rw [e1] at h; cases h
  | some p =>
    cases e2 : toPy y with
    | none => rw [e1, e2] at h; cases h
    | some q =>
      rw [e1, e2] at h
      dsimp only at h
      split at h
      · rename_i c
        cases h
        exact ⟨p, q, rfl, rfl, c.1, c.2, rfl⟩
      · cases h
theorem okr_none {A : Prop} (ok : OkR K cl H Z Q none) : A := ok.elim
theorem opv_eq : OpV K cl (rEqD K) eqD := by
  intro x y v u H Z Q hz rx ry ok
  cases e : eqDD x y with
  | none => unfold eqD at ok; rw [e] at ok; exact okr_none ok
  | some b =>
    unfold eqD at ok; rw [e] at ok
    obtain ⟨p, q, h1, h2, h3, h4, rfl⟩ := eqDD_some e
    exact ⟨p, q, dp_of rx h1, dp_of ry h2, h3, h4, okr_fz hz ok (.bl _)⟩
theorem opv_ne : OpV K cl (rNeD K) neD := by
  intro x y v u H Z Q hz rx ry ok
  cases e : eqDD x y with
  | none => unfold neD at ok; rw [e] at ok; exact okr_none ok
  | some b =>
    unfold neD at ok; rw [e] at ok
    obtain ⟨p, q, h1, h2, h3, h4, rfl⟩ := eqDD_some e
    exact ⟨p, q, dp_of rx h1, dp_of ry h2, h3, h4, okr_fz hz ok (.bl _)⟩

/-! ### order of ints -/
def cmpD (f : Int → Int → Bool) : D → D → Option T
  | .int i, .int j => some (.fz (.bl (f i j)))
  | _, _ => none
theorem opv_cmp {f : Int → Int → Bool} : OpV K cl (rI0 fun i j => .bl (f i j)) (cmpD f) := by
  intro x y v u H Z Q hz rx ry ok
  match x, y, rx, ry, ok with
  | .int i, .int j, .int _, .int _, ok => exact ⟨i, j, rfl, rfl, okr_fz hz ok (.bl _)⟩
abbrev ltD : D → D → Option T := cmpD fun i j => decide (i < j)
abbrev leD : D → D → Option T := cmpD fun i j => decide (i ≤ j)
abbrev gtD : D → D → Option T := cmpD fun i j => decide (j < i)
abbrev geD : D → D → Option T := cmpD fun i j => decide (j ≤ i)
/-- is None -/
def isNB : D → Bool
  | .non => true
  | _ => false
def isND : D → D → Option T
  | x, .non => some (.fz (.bl (isNB x)))
  | _, _ => none
def notND : D → D → Option T
  | x, .non => some (.fz (.bl (!isNB x)))
  | _, _ => none
theorem rp_non {d : D} {v : V} (r : Rp K cl H Z d v) : decide (v = V.non) = isNB d := by
  cases r <;> rfl
theorem opv_isN : OpV K cl (fun x y H Q => y = .non ∧ Q (.bl (decide (x = .non))) H) isND := by
  intro x y v u H Z Q hz rx ry ok
  match y, ry, ok with
  | .non, .non, ok => exact ⟨rfl, by rw [rp_non rx]; exact okr_fz hz ok (.bl _)⟩
theorem opv_notN : OpV K cl (fun x y H Q => y = .non ∧ Q (.bl (!decide (x = .non))) H) notND := by
  intro x y v u H Z Q hz rx ry ok
  match y, ry, ok with
  | .non, .non, ok =>
    refine ⟨rfl, ?_⟩
    rw [rp_non rx]
    exact okr_fz hz ok (.bl _)

/-! ### arithmetic -/
def addD : D → D → Option T
  | .int i, .int j => some (.fz (.int (i + j)))
  | .str x, .str y => if x.length + y.length ≤ sizeLine then some (.fz (.str (x ++ y))) else none
  | .lst xs, .lst ys => if xs.length + ys.length ≤ sizeLine then some (.lst ((xs ++ ys).map .fz)) else none
  | .tup xs, .tup ys => if xs.length + ys.length ≤ sizeLine then (if xs.isEmpty then some (.fz (.tup ys)) else if ys.isEmpty then some (.fz (.tup xs)) else some (.tup ((xs ++ ys).map .fz))) else none
  | _, _ => none
/-- t + u, tuples that are known to have no dict -/
def rCatP (K : PySem.W.Frag) : R2 := fun x y H Q => ∃ a b xs ys, x = .ref a ∧ y = .ref b ∧ SqT K H a xs ∧ SqT K H b ys ∧ xs.length + ys.length ≤ sizeLine ∧
  (xs = [] → Q (.ref b) H) ∧ (xs ≠ [] → ys = [] → Q (.ref a) H) ∧ (xs ≠ [] → ys ≠ [] → ∀ (p : Addr) (o : Obj), o.dict = none → H p = none → Q (.ref p) (upd H p (.frz o (.tup (xs ++ ys)))))
theorem op_catP {X : Cx} : OpR X (binaryOp .Add) (rCatP X.K) := by
  intro pins s σ H x y v u Q I rx ry h
  obtain ⟨a, b, xs, ys, rfl, rfl, ha, hb, hz, q0, q1, q2⟩ := h
  by_cases hx : xs = []
  · subst hx
    cases rx
    cases ry
    obtain ⟨its, r1, p1, _⟩ := I.tuple ha
    obtain ⟨its2, r2, p2, _⟩ := I.tuple hb
    cases r1
    exact cat_tup0 p1 p2 ⟨.ref b, H, I, rfl, q0 rfl⟩
  · cases rx
    cases ry
    obtain ⟨its, r1, p1, _⟩ := I.tuple ha
    obtain ⟨its2, r2, p2, _⟩ := I.tuple hb
    refine HT.cat_tup p1 p2 (fun z => hx (r1.nil_iff.mp z)) (fun z => ⟨.ref a, H, I, rfl, q1 hx (r2.nil_iff.mp z)⟩) (fun z => ?_) (by rw [← r1.length, ← r2.length]; exact hz)
    have I2 := I.laid (t' := s.toks) (o := .frz { cls := .type "tuple", data := .seq (its ++ its2).toArray } (.tup (xs ++ ys))) (h' := s.heap.push { cls := .type "tuple", data := .seq (its ++ its2).toArray }) (fun b ob q => Heap.get?_push_of_some _ q) (Nat.le_refl _) ⟨Heap.get?_push_size _ rfl, by rw [List.length_append]; exact hz, _, r1.append r2, IsTup.new _ _⟩
    exact ⟨.ref s.heap.objs.size, _, I2, rfl, q2 hx (fun w => z (r2.nil_iff.mpr w)) _ _ rfl (I.hok.fresh (Nat.le_refl _))⟩
/-- t[lo:hi], the same -/
def rSlP (K : PySem.W.Frag) : V → Option Int → Option Int → Hp → VK → Prop := fun x lo hi H Q => ∃ a xs, x = .ref a ∧ SqT K H a xs ∧
  (HT.sIx xs.length 0 lo = 0 ∧ HT.sIx xs.length xs.length hi = xs.length → Q (.ref a) H) ∧ (¬ (HT.sIx xs.length 0 lo = 0 ∧ HT.sIx xs.length xs.length hi = xs.length) → ∀ (p : Addr) (o : Obj), o.dict = none → H p = none → Q (.ref p) (upd H p (.frz o (.tup (cutV xs lo hi)))))
theorem sl_tupP {X : Cx} : SlR X (rSlP X.K) := by
  intro pins s σ H x v vl vu lo hi sl Q I rx hs pl pu h
  obtain ⟨a, xs, rfl, hx, q1, q2⟩ := h
  by_cases hw : HT.sIx xs.length 0 lo = 0 ∧ HT.sIx xs.length xs.length hi = xs.length
  · exact sl_tupA pins s σ H _ v vl vu lo hi sl Q I rx hs pl pu ⟨a, xs, rfl, hx, q1, fun z => absurd hw z⟩
  · cases rx
    obtain ⟨its, r, ht, hz⟩ := I.tuple hx
    have hlen : its.toArray.size = xs.length := by rw [List.size_toArray]; exact r.length.symm
    refine ⟨"tuple", _, PyProof.Rows.slot_tuple_getitem.lookup, ht.typeIs, ?_⟩
    refine HT.getItem_tuple_cut ht hs pl pu (by rw [hlen]; exact hw) ?_ (by rw [hlen]; exact hz)
    rw [hlen]
    have I2 := I.laid (t' := s.toks) (o := .frz { cls := .type "tuple", data := .seq ((its.drop (HT.sIx xs.length 0 lo)).take (HT.sIx xs.length xs.length hi - HT.sIx xs.length 0 lo)).toArray } (.tup (cutV xs lo hi))) (h' := s.heap.push { cls := .type "tuple", data := .seq ((its.drop (HT.sIx xs.length 0 lo)).take (HT.sIx xs.length xs.length hi - HT.sIx xs.length 0 lo)).toArray }) (fun b ob q => Heap.get?_push_of_some _ q) (Nat.le_refl _) ⟨Heap.get?_push_size _ rfl, Nat.le_trans (cutV_length xs lo hi) hz, _, (r.drop (HT.sIx xs.length 0 lo)).take (HT.sIx xs.length xs.length hi - HT.sIx xs.length 0 lo), IsTup.new _ _⟩
    exact ⟨.ref s.heap.objs.size, _, I2, rfl, q2 hw _ _ rfl (I.hok.fresh (Nat.le_refl _))⟩
/-- tuple(x), the same -/
theorem call_tupleP {X : Cx} : CallR X (.type "tuple") (fun xs H Q => ∃ p ys, xs = [.ref p] ∧ ((SqL X.K H p ys ∧ ∀ (l : Addr) (o : Obj), o.dict = none → H l = none → Q (.ref l) (upd H l (.frz o (.tup ys)))) ∨ (SqT X.K H p ys ∧ Q (.ref p) H))) := by
  intro pins s σ H xs us Q I r h
  obtain ⟨p, ys, rfl, h⟩ := h
  obtain ⟨u, rfl, rx⟩ := vals1 r
  cases rx
  rcases h with ⟨hq, q⟩ | ⟨hq, q⟩
  · obtain ⟨its, r', pl, hz⟩ := I.list hq
    have hlen := r'.length
    refine call_tuple_list pl.isList (fun h' kp => ?_) (by simp only [List.size_toArray] <;> omega)
    have I1 : Inv X pins σ H { s with heap := h' } := I.kept (t' := s.toks) kp
    have I2 : Inv X pins σ (upd H h'.objs.size (.frz { cls := .type "tuple", data := .seq its.toArray } (.tup ys))) { s with heap := h'.push { cls := .type "tuple", data := .seq its.toArray } } :=
      I1.laid (t' := s.toks) (fun b o e => Heap.get?_push_of_some _ e) (Nat.le_refl _) (show ObjOk X.prog X.w _ _ _ (.frz _ (.tup ys)) from ⟨Heap.get?_push_size _ rfl, hz, its, r', IsTup.new _ _⟩)
    exact ⟨.ref h'.objs.size, _, I2, rfl, q _ _ rfl (I1.hok.fresh (Nat.le_refl _))⟩
  · obtain ⟨its, r', pl, hz⟩ := I.tuple hq
    exact call_tuple_same pl ⟨.ref p, H, I, rfl, q⟩
def rAddA (K : PySem.W.Frag) : R2 := fun x y H Q => rI0 (fun i j => .int (i + j)) x y H Q ∨ (∃ i j, x = .str i ∧ y = .str j ∧ i.length + j.length ≤ sizeLine ∧ Q (.str (i ++ j)) H) ∨ rCat x y H Q ∨ rCatP K x y H Q
theorem op_addA {X : Cx} : OpR X (binaryOp .Add) (rAddA X.K) := op_add.or (op_add_str.or (op_cat.or op_catP))
theorem RpL.nilV {ds vs} (r : RpL K cl H Z ds vs) : vs = [] ↔ ds.isEmpty = true := by cases r <;> simp
theorem opv_add : OpV K cl (rAddA K) addD := by
  intro x y v u H Z Q hz rx ry ok
  match x, y, rx, ry, ok with
  | .int i, .int j, .int _, .int _, ok => exact .inl ⟨i, j, rfl, rfl, okr_fz hz ok (.int _)⟩
  | .str i, .str j, .str _, .str _, ok =>
    simp only [addD] at ok
    by_cases c : i.length + j.length ≤ sizeLine
    · rw [if_pos c] at ok
      exact .inr (.inl ⟨i, j, rfl, rfl, c, okr_fz hz ok (.str _)⟩)
    · rw [if_neg c] at ok; exact okr_none ok
  | .lst xs, .lst ys, .lst _ q1 r1, .lst _ q2 r2, ok =>
    simp only [addD] at ok
    by_cases c : xs.length + ys.length ≤ sizeLine
    · rw [if_pos c] at ok
      exact .inr (.inr (.inl ⟨_, _, _, _, rfl, rfl, q1, q2, by rw [← r1.len, ← r2.len]; exact c, fun p np => okr_lst hz ok (r1.append r2) np⟩))
    · rw [if_neg c] at ok; exact okr_none ok
  | .tup xs, .tup ys, .tup p1 q1 r1, .tup p2 q2 r2, ok =>
    simp only [addD] at ok
    by_cases c : xs.length + ys.length ≤ sizeLine
    · rw [if_pos c] at ok
      refine .inr (.inr (.inr ⟨_, _, _, _, rfl, rfl, (TupP.sq q1), (TupP.sq q2), by rw [← r1.len, ← r2.len]; exact c, fun e => ?_, fun e1 e2 => ?_, fun e1 e2 p o dn np => ?_⟩))
      · rw [if_pos (r1.nilV.mp e)] at ok
        exact okr_fz hz ok (.tup p2 q2 r2)
      · rw [if_neg (fun h => e1 (r1.nilV.mpr h)), if_pos (r2.nilV.mp e2)] at ok
        exact okr_fz hz ok (.tup p1 q1 r1)
      · rw [if_neg (fun h => e1 (r1.nilV.mpr h)), if_neg (fun h => e2 (r2.nilV.mpr h))] at ok
        exact okr_tup hz ok (r1.append r2) dn np
    · rw [if_neg c] at ok; exact okr_none ok
def subD : D → D → Option T
  | .int i, .int j => some (.fz (.int (i - j)))
  | _, _ => none
theorem opv_sub : OpV K cl (rI0 fun i j => .int (i - j)) subD := by
  intro x y v u H Z Q hz rx ry ok
  match x, y, rx, ry, ok with
  | .int i, .int j, .int _, .int _, ok => exact ⟨i, j, rfl, rfl, okr_fz hz ok (.int _)⟩
def mulOkS (x : Str) (n : Int) : Prop := 0 ≤ n ∧ n ≤ 1000 ∧ x.length ≤ 1000
instance (x : Str) (n : Int) : Decidable (mulOkS x n) := by unfold mulOkS; infer_instance
instance (i j : Int) : Decidable (CMul i j) := by unfold CMul; infer_instance
def mulD : D → D → Option T
  | .int i, .int j => if CMul i j then some (.fz (.int (i * j))) else none
  | .str x, .int n => if mulOkS x n then some (.fz (.str (Txt.mul x n))) else none
  | _, _ => none
def rMulA : R2 := fun x y H Q => rI CMul (fun i j => .int (i * j)) x y H Q ∨ (∃ x' n, x = .str x' ∧ y = .int n ∧ mulOkS x' n ∧ Q (.str (Txt.mul x' n)) H)
theorem op_mulS {X : Cx} : OpR X (binaryOp .Mult) (fun x y H Q => ∃ x' n, x = .str x' ∧ y = .int n ∧ mulOkS x' n ∧ Q (.str (Txt.mul x' n)) H) := by
  intro pins s σ H x y v u Q I rx ry h
  obtain ⟨z, n, rfl, rfl, ⟨h1, h2, h3⟩, q⟩ := h
  obtain ⟨t, rfl⟩ := rx
  obtain ⟨t', rfl⟩ := ry
  exact SB.mul (mulOk_of 1000 1000 (by omega) (by omega) (by omega) (by decide) (by decide)) fun t2 k => ⟨.str _, H, I.tok _, ⟨_, rfl⟩, q⟩
theorem op_mulA {X : Cx} : OpR X (binaryOp .Mult) rMulA := op_mul.or op_mulS
theorem opv_mul : OpV K cl rMulA mulD := by
  intro x y v u H Z Q hz rx ry ok
  match x, y, rx, ry, ok with
  | .int i, .int j, .int _, .int _, ok =>
    simp only [mulD] at ok
    by_cases c : CMul i j
    · rw [if_pos c] at ok
      exact .inl ⟨i, j, rfl, rfl, c, okr_fz hz ok (.int _)⟩
    · rw [if_neg c] at ok; exact okr_none ok
  | .str i, .int j, .str _, .int _, ok =>
    simp only [mulD] at ok
    by_cases c : mulOkS i j
    · rw [if_pos c] at ok
      exact .inr ⟨i, j, rfl, rfl, c, okr_fz hz ok (.str _)⟩
    · rw [if_neg c] at ok; exact okr_none ok
instance (i j : Int) : Decidable (CDiv i j) := by unfold CDiv; infer_instance
instance (i j : Int) : Decidable (CPow i j) := by unfold CPow; infer_instance
def intD (C : Int → Int → Prop) [∀ i j, Decidable (C i j)] (g : Int → Int → Int) : D → D → Option T
  | .int i, .int j => if C i j then some (.fz (.int (g i j))) else none
  | _, _ => none
theorem opv_int {C : Int → Int → Prop} [∀ i j, Decidable (C i j)] {g : Int → Int → Int} : OpV K cl (rI C fun i j => .int (g i j)) (intD C g) := by
  intro x y v u H Z Q hz rx ry ok
  match x, y, rx, ry, ok with
  | .int i, .int j, .int _, .int _, ok =>
    simp only [intD] at ok
    by_cases c : C i j
    · rw [if_pos c] at ok
      exact ⟨i, j, rfl, rfl, c, okr_fz hz ok (.int _)⟩
    · rw [if_neg c] at ok; exact okr_none ok
abbrev fdivD : D → D → Option T := intD CDiv fun i j => i / j
abbrev modD : D → D → Option T := intD (fun _ j => 0 < j) fun i j => i % j
abbrev powD : D → D → Option T := intD CPow fun i j => i ^ j.toNat
def negD : D → Option T
  | .int i => some (.fz (.int (-i)))
  | _ => none
theorem unv_neg : UnV K cl (rU fun i => .int (-i)) negD := by
  intro x v H Z Q hz rx ok
  match x, rx, ok with
  | .int i, .int _, ok => exact ⟨i, rfl, okr_fz hz ok (.int _)⟩

/-! ### membership in texts; items; slices -/
def inStr (neg : Bool) : D → D → Option T
  | .str i, .str j => some (.fz (.bl (neg ^^ !(Builtin.Str.occurrences j i 0 j.length 1).isEmpty)))
  | _, _ => none
theorem opv_inStr : OpV K cl (fun x y H Q => ∃ i j, x = .str i ∧ y = .str j ∧ Q (.bl (!(Builtin.Str.occurrences j i 0 j.length 1).isEmpty)) H) (inStr false) := by
  intro x y v u H Z Q hz rx ry ok
  match x, y, rx, ry, ok with
  | .str i, .str j, .str _, .str _, ok => exact ⟨i, j, rfl, rfl, okr_fz hz ok (by simp; exact .bl _)⟩
theorem opv_ninStr : OpV K cl (fun x y H Q => ∃ i j, x = .str i ∧ y = .str j ∧ Q (.bl (!(!(Builtin.Str.occurrences j i 0 j.length 1).isEmpty))) H) (inStr true) := by
  intro x y v u H Z Q hz rx ry ok
  match x, y, rx, ry, ok with
  | .str i, .str j, .str _, .str _, ok => exact ⟨i, j, rfl, rfl, okr_fz hz ok (by simp; exact .bl _)⟩
def ixD : D → D → Option T
  | .lst xs, .int i => (atI xs i).map .fz
  | .tup xs, .int i => (atI xs i).map .fz
  | .str z, .int i => if z.length ≤ sizeLine then (atI z.cps.toList i).map fun c => .fz (.str ⟨#[c]⟩) else none
  | _, _ => none
theorem RpL.atI {ds : List D} {vs : List V} {i : Int} {d : D} (r : RpL K cl H Z ds vs) (h : L2.atI ds i = some d) : ∃ v, L2.atI vs i = some v ∧ Rp K cl H Z d v := by
  unfold L2.atI at h ⊢
  rw [r.len] at h
  cases e : ixN vs.length i with
  | none => rw [e] at h; cases h
  | some j =>
    rw [e] at h
    exact r.get (i := j) h
theorem opv_ix : OpV K cl (rIx K) ixD := by
  intro x y v u H Z Q hz rx ry ok
  match x, y, rx, ry, ok with
  | .lst xs, .int i, .lst _ q r, .int _, ok =>
    simp only [ixD] at ok
    cases e : L2.atI xs i with
    | none => rw [e] at ok; exact okr_none ok
    | some d =>
      rw [e] at ok
      obtain ⟨w, h1, h2⟩ := r.atI e
      exact .inl ⟨_, _, i, w, rfl, rfl, SqL.of q, h1, okr_fz hz ok h2⟩
  | .tup xs, .int i, .tup _ q r, .int _, ok =>
    simp only [ixD] at ok
    cases e : L2.atI xs i with
    | none => rw [e] at ok; exact okr_none ok
    | some d =>
      rw [e] at ok
      obtain ⟨w, h1, h2⟩ := r.atI e
      exact .inr (.inl ⟨_, _, i, w, rfl, rfl, (TupP.sq q), h1, okr_fz hz ok h2⟩)
  | .str z, .int i, .str _, .int _, ok =>
    simp only [ixD] at ok
    by_cases c : z.length ≤ sizeLine
    · rw [if_pos c] at ok
      cases e : L2.atI z.cps.toList i with
      | none => rw [e] at ok; exact okr_none ok
      | some d =>
        rw [e] at ok
        exact .inr (.inr ⟨z, i, d, rfl, rfl, c, e, okr_fz hz ok (.str _)⟩)
    · rw [if_neg c] at ok; exact okr_none ok
def cutD (xs : List D) (lo hi : Option Int) : List D := (xs.drop (HT.sIx xs.length 0 lo)).take (HT.sIx xs.length xs.length hi - HT.sIx xs.length 0 lo)
theorem RpL.cut {ds vs lo hi} (r : RpL K cl H Z ds vs) : RpL K cl H Z (cutD ds lo hi) (cutV vs lo hi) := by
  unfold cutD cutV
  rw [r.len]
  exact (r.drop _).take _
def slD : D → Option Int → Option Int → Option T
  | .lst xs, lo, hi => some (.lst ((cutD xs lo hi).map .fz))
  | .scr ns, lo, hi => some (.lst ((cutD (ns.map .int) lo hi).map .fz))
  | .tup xs, lo, hi => if HT.sIx xs.length 0 lo = 0 ∧ HT.sIx xs.length xs.length hi = xs.length then some (.fz (.tup xs)) else some (.tup ((cutD xs lo hi).map .fz))
  | .str z, lo, hi => if z.length ≤ sizeLine then some (.fz (.str (cutS z lo hi))) else none
  | _, _, _ => none
def rSlAll (K : PySem.W.Frag) : V → Option Int → Option Int → Hp → VK → Prop := fun x lo hi H Q => rSlL K x lo hi H Q ∨ rSlP K x lo hi H Q ∨ (∃ z, x = .str z ∧ z.length ≤ sizeLine ∧ Q (.str (cutS z lo hi)) H)
theorem rpl_ints : ∀ ns : List Int, RpL K cl H Z (ns.map .int) (ns.map V.int)
  | [] => .nil
  | n :: ns => .cons (.int n) (rpl_ints ns)
theorem slv_all : SlV K cl (rSlAll K) slD := by
  intro x v lo hi H Z Q hz rx ok
  match x, rx, ok with
  | .lst xs, .lst _ q r, ok => exact .inl ⟨_, _, rfl, SqL.of q, fun p np => okr_lst hz ok r.cut np⟩
  | .scr ns, .scr q, ok => exact .inl ⟨_, _, rfl, (q.elim (fun ⟨o, its, n, h⟩ => .inr ⟨o, its, n, h⟩) fun ⟨_, o, q⟩ => .inl (.inr ⟨_, q⟩) : SqL K H _ (ns.map V.int)), fun p np => okr_lst hz ok (rpl_ints ns).cut np⟩
  | .tup xs, .tup q0 q r, ok =>
    simp only [slD] at ok
    refine .inr (.inl ⟨_, _, rfl, (TupP.sq q), fun c => ?_, fun c p o dn np => ?_⟩)
    · rw [if_pos (by rw [r.len]; exact c)] at ok
      exact okr_fz hz ok (.tup q0 q r)
    · rw [if_neg (by rw [r.len]; exact c)] at ok
      exact okr_tup hz ok r.cut dn np
  | .str z, .str _, ok =>
    simp only [slD] at ok
    by_cases c : z.length ≤ sizeLine
    · rw [if_pos c] at ok
      exact .inr (.inr ⟨z, rfl, c, okr_fz hz ok (.str _)⟩)
    · rw [if_neg c] at ok; exact okr_none ok

/-! ### built-ins -/
def lenD : List D → Option T
  | [.str x] => if x.length ≤ sizeLine then some (.fz (.int x.length)) else none
  | [.lst xs] => some (.fz (.int xs.length))
  | [.tup xs] => some (.fz (.int xs.length))
  | _ => none
theorem callv_len : CallV K cl (fun xs H Q => ∃ x n, xs = [x] ∧ LenV K x H n ∧ Q (.int n) H) lenD := by
  intro xs vs H Z Q hz rs ok
  match xs, vs, rs, ok with
  | [.str x], [_], .cons (.str _) .nil, ok =>
    simp only [lenD] at ok
    by_cases c : x.length ≤ sizeLine
    · rw [if_pos c] at ok
      exact ⟨_, _, rfl, ⟨c, rfl⟩, okr_fz hz ok (.int _)⟩
    · rw [if_neg c] at ok; exact okr_none ok
  | [.lst xs], [_], .cons (.lst _ q r) .nil, ok => exact ⟨_, _, rfl, .inl ⟨_, SqL.of q, rfl⟩, okr_fz hz ok (by rw [r.len]; exact .int _)⟩
  | [.tup xs], [_], .cons (.tup q0 q r) .nil, ok => exact ⟨_, _, rfl, .inr ⟨_, (TupP.sq q), rfl⟩, okr_fz hz ok (by rw [r.len]; exact .int _)⟩
def absD : List D → Option T
  | [.int i] => some (.fz (.int (if i < 0 then -i else i)))
  | _ => none
theorem callv_abs : CallV K cl (fun xs H Q => ∃ i, xs = [.int i] ∧ Q (.int (if i < 0 then -i else i)) H) absD := by
  intro xs vs H Z Q hz rs ok
  match xs, vs, rs, ok with
  | [.int i], [_], .cons (.int _) .nil, ok => exact ⟨i, rfl, okr_fz hz ok (.int _)⟩
def boolsOf : List D → Option (List Bool)
  | [] => some []
  | .bl b :: ds => (boolsOf ds).map (b :: ·)
  | _ :: _ => none
theorem boolsOf_rp : ∀ {ds vs bs}, RpL K cl H Z ds vs → boolsOf ds = some bs → vs = bs.map V.bl
  | [], _, _, .nil, h => by cases h; rfl
  | .bl b :: ds, _, bs, .cons (.bl _) r, h => by
    simp only [boolsOf] at h
    cases e : boolsOf ds with
    | none => rw [e] at h; cases h
    | some l => rw [e] at h; cases h; rw [boolsOf_rp r e]; rfl
def allD : List D → Option T
  | [.lst xs] => (boolsOf xs).map fun bs => .fz (.bl (bs.all id))
  | _ => none
theorem callv_all : CallV K cl (rAll K) allD := by
  intro xs vs H Z Q hz rs ok
  match xs, vs, rs, ok with
  | [.lst xs], [_], .cons (.lst _ q r) .nil, ok =>
    simp only [allD] at ok
    cases e : boolsOf xs with
    | none => rw [e] at ok; exact okr_none ok
    | some bs =>
      rw [e] at ok
      have := boolsOf_rp r e
      subst this
      exact ⟨_, bs, rfl, SqL.of q, okr_fz hz ok (.bl _)⟩
/-- list(x), tuple(x) -/
def listD : List D → Option T
  | [.lst xs] => some (.lst (xs.map .fz))
  | [.tup xs] => some (.lst (xs.map .fz))
  | _ => none
theorem callv_list : CallV K cl (fun xs H Q => ∃ p ys, xs = [.ref p] ∧ (SqL K H p ys ∨ SqT K H p ys) ∧ ∀ l, H l = none → Q (.ref l) (upd H l (.lst ys))) listD := by
  intro xs vs H Z Q hz rs ok
  match xs, vs, rs, ok with
  | [.lst xs], [_], .cons (.lst _ q r) .nil, ok => exact ⟨_, _, rfl, .inl (SqL.of q), fun p np => okr_lst hz ok r np⟩
  | [.tup xs], [_], .cons (.tup q0 q r) .nil, ok => exact ⟨_, _, rfl, .inr ((TupP.sq q)), fun p np => okr_lst hz ok r np⟩
def tupleD : List D → Option T
  | [.lst xs] => some (.tup (xs.map .fz))
  | [.tup xs] => some (.fz (.tup xs))
  | _ => none
theorem callv_tuple : CallV K cl (fun xs H Q => ∃ p ys, xs = [.ref p] ∧ ((SqL K H p ys ∧ ∀ (l : Addr) (o : Obj), o.dict = none → H l = none → Q (.ref l) (upd H l (.frz o (.tup ys)))) ∨ (SqT K H p ys ∧ Q (.ref p) H))) tupleD := by
  intro xs vs H Z Q hz rs ok
  match xs, vs, rs, ok with
  | [.lst xs], [_], .cons (.lst _ q r) .nil, ok => exact ⟨_, _, rfl, .inl ⟨SqL.of q, fun p o dn np => okr_tup hz ok r dn np⟩⟩
  | [.tup xs], [_], .cons (.tup q0 q r) .nil, ok => exact ⟨_, _, rfl, .inr ⟨(TupP.sq q), okr_fz hz ok (.tup q0 q r)⟩⟩

/-! ### isinstance -/
def tyName : D → Option String
  | .non => some "NoneType" | .bl _ => some "bool" | .int _ => some "int" | .str _ => some "str"
  | .tup _ => some "tuple" | .lst _ => some "list" | .dct _ => some "dict"
  | _ => none
/-- is the built-in class a one of those under b -/
def under (a b : String) : Bool := a == b || (a == "bool" && b == "int")
def knownTy (b : String) : Bool := b == "str" || b == "int" || b == "bool" || b == "list" || b == "tuple" || b == "dict"
theorem kit_under {a b : String} {d : D} (h : tyName d = some a) (hb : knownTy b = true) : kitB a b = some (under a b) := by
  have ha : a = "NoneType" ∨ a = "bool" ∨ a = "int" ∨ a = "str" ∨ a = "tuple" ∨ a = "list" ∨ a = "dict" := by
    cases d <;> simp [tyName] at h <;> simp [← h]
  have hb' : b = "str" ∨ b = "int" ∨ b = "bool" ∨ b = "list" ∨ b = "tuple" ∨ b = "dict" := by
    simp [knownTy] at hb
    rcases hb with ((((h | h) | h) | h) | h) | h <;> simp [h]
  rcases ha with rfl | rfl | rfl | rfl | rfl | rfl | rfl <;> rcases hb' with rfl | rfl | rfl | rfl | rfl | rfl <;> decide +kernel
def isTyD : List D → Option T
  | [x, .ty b] => match tyName x with
    | some a => if knownTy b = true then some (.fz (.bl (under a b))) else none
    | none => none
  | _ => none
theorem tyX_of {d : D} {v : V} {a : String} (r : Rp K cl H Z d v) (h : tyName d = some a) : TyX K H v (.type a) := by
  cases r with
  | non => cases h; exact .base .non
  | bl b => cases h; exact .base (.bl b)
  | int i => cases h; exact .base (.int i)
  | str x => cases h; exact .base (.str x)
  | tup _ q r => cases h; obtain ⟨o, _, q⟩ := q; exact .fTuple q
  | lst _ q r => cases h; exact .base (.lst q)
  | dct _ q _ _ =>
    cases h
    rcases q with q | ⟨o, q⟩
    · exact .base (.dK q)
    · exact .fDict q
  | _ => simp [tyName] at h
theorem callv_isTy : CallV K cl (rIsi K) isTyD := by
  intro xs vs H Z Q hz rs ok
  match xs, vs, rs, ok with
  | [x, .ty b], [v, _], .cons rx (.cons (.ty _) .nil), ok =>
    simp only [isTyD] at ok
    cases e : tyName x with
    | none => rw [e] at ok; exact okr_none ok
    | some a =>
      rw [e] at ok
      dsimp only at ok
      by_cases c : knownTy b = true
      · rw [if_pos c] at ok
        exact ⟨v, .ty b, _, _, _, rfl, .ty b, tyX_of rx e, kit_ty (kit_under e c), okr_fz hz ok (.bl _)⟩
      · rw [if_neg c] at ok; exact okr_none ok
end
end VL

namespace VL
open PySem PySem.Spec PyProof.Rows L2

/-! ### places within owned data -/
@[simp] def setSnd {κ : Type} : List (κ × T) → Nat → T → List (κ × T)
  | [], _, _ => []
  | p :: r, 0, u => (p.1, u) :: r
  | p :: r, n + 1, u => p :: setSnd r n u
theorem setSnd_keys {κ : Type} : ∀ (ks : List (κ × T)) (n : Nat) (u : T), (setSnd ks n u).map (·.1) = ks.map (·.1) ∧ (setSnd ks n u).map (·.2) = (ks.map (·.2)).set n u
  | [], _, _ => ⟨rfl, rfl⟩
  | p :: r, 0, u => ⟨rfl, rfl⟩
  | p :: r, n + 1, u => by
    obtain ⟨h1, h2⟩ := setSnd_keys r n u
    simp [setSnd, h1, h2]
@[simp] def kids : T → List T
  | .fz _ => []
  | .tup ts => ts
  | .lst ts => ts
  | .dct ks => ks.map (·.2)
  | .dcT ks => ks.map (·.2)
  | .ins _ fs => fs.map (·.2)
@[simp] def setKid : T → Nat → T → T
  | .fz d, _, _ => .fz d
  | .tup ts, n, u => .tup (ts.set n u)
  | .lst ts, n, u => .lst (ts.set n u)
  | .dct ks, n, u => .dct (setSnd ks n u)
  | .dcT ks, n, u => .dcT (setSnd ks n u)
  | .ins c fs, n, u => .ins c (setSnd fs n u)
def kidV (H : Hp) (v : V) (n : Nat) : Option V := match v with
  | .ref a => match H a with
    | some (.frz _ (.tup vs)) => vs[n]?
    | some (.lst vs) => vs[n]?
    | some (.dK kvs) => (kvs.map (·.2))[n]?
    | some (.dT kvs) => (kvs.map (·.2))[n]?
    | some (.ins _ _ fvs) => (fvs.map (·.2))[n]?
    | _ => none
  | _ => none
section
variable {K : PySem.W.Frag} {cl : Str → Addr} {H : Hp} {Z : PA1}
theorem OwnL.kid : ∀ {ts vs} {S : PA1} {n : Nat} {t : T}, OwnL K cl H Z ts vs S → ts[n]? = some t →
    ∃ v, ∃ S1 S2 : PA1, vs[n]? = some v ∧ Own K cl H Z t v S1 ∧ (∀ a, S1 a → S a) ∧ (∀ a, S2 a → S a) ∧ Dis S1 S2 ∧ ∀ H' (Z' : PA1) t' (S1' : PA1), (∀ a, Z a → Z' a) → (∀ a, Z a → Kept H H' a) → (∀ a o, S2 a → H a = some o → H' a = some o) →
      Own K cl H' Z' t' v S1' → Dis S1' S2 → OwnL K cl H' Z' (ts.set n t') vs (Uni S1' S2)
  | _, _, _, _, _, .nil, h => by simp at h
  | _, _, S, 0, _, .cons (S1 := A1) (S2 := A2) q r a1 a2 d, h => by
    simp at h; subst h
    exact ⟨_, A1, A2, rfl, q, a1, a2, d, fun H' Z' t' S1' hz hr hs ow dd => .cons ow (r.mono hz hr hs) (fun _ z => .inl z) (fun _ z => .inr z) dd⟩
  | _, _, S, n + 1, _, .cons (S1 := A1) (S2 := A2) q r a1 a2 d, h => by
    obtain ⟨v, S1, S2, h1, h2, h3, h4, h5, h6⟩ := OwnL.kid r (n := n) (by simpa using h)
    refine ⟨v, S1, Uni A1 S2, by simpa using h1, h2, fun a z => a2 a (h3 a z), fun a z => z.elim (a1 a) fun z => a2 a (h4 a z), fun a z y => y.elim (fun y => d a y (h3 a z)) (h5 a z), fun H' Z' t' S1' hz hr hs ow dd => ?_⟩
    refine .cons (q.mono hz hr fun a o z => hs a o (.inl z)) (h6 H' Z' t' S1' hz hr (fun a o z => hs a o (.inr z)) ow fun a z y => dd a z (.inr y)) (fun a z => .inr (.inl z)) (fun a z => z.imp id .inr) fun a z y => ?_
    rcases y with y | y
    · exact dd a y (.inl z)
    · exact d a z (h4 a y)
theorem Own.kid {t v} {S : PA1} {n : Nat} {u : T} (h : Own K cl H Z t v S) (hk : (kids t)[n]? = some u) :
    ∃ w, ∃ Su R : PA1, kidV H v n = some w ∧ Own K cl H Z u w Su ∧ (∀ a, Su a → S a) ∧ (∀ a, R a → S a) ∧ Dis Su R ∧ ∀ H' (Z' : PA1) u' (Su' : PA1), (∀ a, Z a → Z' a) → (∀ a, Z a → Kept H H' a) → (∀ a o, R a → H a = some o → H' a = some o) →
      Own K cl H' Z' u' w Su' → Dis Su' R → Own K cl H' Z' (setKid t n u') v (Uni Su' R) := by
  have go : ∀ {a : Addr} {ts : List T} {vs : List V} {R0 : PA1}, S a → (∀ b, R0 b → S b ∧ b ≠ a) → OwnL K cl H Z ts vs R0 → ts[n]? = some u →
      ∃ w, ∃ Su R : PA1, vs[n]? = some w ∧ Own K cl H Z u w Su ∧ (∀ a, Su a → S a) ∧ (∀ a, R a → S a) ∧ Dis Su R ∧ R a ∧ ∀ H' (Z' : PA1) u' (Su' : PA1), (∀ a, Z a → Z' a) → (∀ a, Z a → Kept H H' a) → (∀ a o, R a → H a = some o → H' a = some o) →
        Own K cl H' Z' u' w Su' → Dis Su' R → ∃ R1 : PA1, (∀ b, R1 b → Uni Su' R b ∧ b ≠ a) ∧ OwnL K cl H' Z' (ts.set n u') vs R1 := by
    intro a ts vs R0 sa sub r hn
    obtain ⟨w, S1, S2, h1, h2, h3, h4, h5, h6⟩ := r.kid hn
    refine ⟨w, S1, fun b => b = a ∨ S2 b, h1, h2, fun b z => (sub b (h3 b z)).1, fun b z => z.elim (fun e => e ▸ sa) fun z => (sub b (h4 b z)).1, fun b z y => y.elim (fun e => (sub b (h3 b z)).2 e) (h5 b z), .inl rfl, fun H' Z' u' Su' hz hr hs ow dd => ?_⟩
    refine ⟨Uni Su' S2, fun b z => ?_, h6 H' Z' u' Su' hz hr (fun b o z => hs b o (.inr z)) ow fun b z y => dd b z (.inr y)⟩
    rcases z with z | z
    · exact ⟨.inl z, fun e => dd b z (.inl e)⟩
    · exact ⟨.inr (.inr z), (sub b (h4 b z)).2⟩
  cases h with
  | fz h => simp [kids] at hk
  | @tup a vs ts _ R0 h1 h2 h3 r =>
    obtain ⟨ob, dn, h1⟩ := h1
    obtain ⟨w, Su, R, g1, g2, g3, g4, g5, ga, g6⟩ := go h2 h3 r hk
    refine ⟨w, Su, R, by simp only [kidV, h1]; exact g1, g2, g3, g4, g5, fun H' Z' u' Su' hz hr hs ow dd => ?_⟩
    obtain ⟨R1, k1, k2⟩ := g6 H' Z' u' Su' hz hr hs ow dd
    exact .tup ⟨ob, dn, hs a _ ga h1⟩ (.inr ga) k1 k2
  | @lst a vs ts _ R0 h1 h2 h3 r =>
    obtain ⟨w, Su, R, g1, g2, g3, g4, g5, ga, g6⟩ := go h2 h3 r hk
    refine ⟨w, Su, R, by simp only [kidV, h1]; exact g1, g2, g3, g4, g5, fun H' Z' u' Su' hz hr hs ow dd => ?_⟩
    obtain ⟨R1, k1, k2⟩ := g6 H' Z' u' Su' hz hr hs ow dd
    exact .lst (hs a _ ga h1) (.inr ga) k1 k2
  | @dct a kvs ks _ R0 h1 h2 h3 h4 r =>
    obtain ⟨w, Su, R, g1, g2, g3, g4, g5, ga, g6⟩ := go h2 h3 r hk
    refine ⟨w, Su, R, by simp only [kidV, h1]; exact g1, g2, g3, g4, g5, fun H' Z' u' Su' hz hr hs ow dd => ?_⟩
    obtain ⟨R1, k1, k2⟩ := g6 H' Z' u' Su' hz hr hs ow dd
    exact .dct (hs a _ ga h1) (.inr ga) k1 ((setSnd_keys ks n u').1.trans h4) (by rw [(setSnd_keys ks n u').2]; exact k2)
  | @dcT a kvs ks _ R0 h1 h2 h3 h4 r =>
    obtain ⟨w, Su, R, g1, g2, g3, g4, g5, ga, g6⟩ := go h2 h3 r hk
    refine ⟨w, Su, R, by simp only [kidV, h1]; exact g1, g2, g3, g4, g5, fun H' Z' u' Su' hz hr hs ow dd => ?_⟩
    obtain ⟨R1, k1, k2⟩ := g6 H' Z' u' Su' hz hr hs ow dd
    exact .dcT (hs a _ ga h1) (.inr ga) k1 ((setSnd_keys ks n u').1.trans h4) (by rw [(setSnd_keys ks n u').2]; exact k2)
  | @ins a c dx fvs ks _ R0 h1 h2 h3 h4 r =>
    obtain ⟨w, Su, R, g1, g2, g3, g4, g5, ga, g6⟩ := go h2 h3 r hk
    refine ⟨w, Su, R, by simp only [kidV, h1]; exact g1, g2, g3, g4, g5, fun H' Z' u' Su' hz hr hs ow dd => ?_⟩
    obtain ⟨R1, k1, k2⟩ := g6 H' Z' u' Su' hz hr hs ow dd
    exact .ins (hs a _ ga h1) (.inr ga) k1 ((setSnd_keys ks n u').1.trans h4) (by rw [(setSnd_keys ks n u').2]; exact k2)
end
/-- a place: down from a value -/
@[simp] def getP : T → List Nat → Option T
  | t, [] => some t
  | t, n :: p => match (kids t)[n]? with
    | some k => getP k p
    | none => none
@[simp] def setP : T → List Nat → T → T
  | _, [], u => u
  | t, n :: p, u => match (kids t)[n]? with
    | some k => setKid t n (setP k p u)
    | none => t
def valP (H : Hp) : V → List Nat → Option V
  | v, [] => some v
  | v, n :: p => match kidV H v n with
    | some w => valP H w p
    | none => none
section
variable {K : PySem.W.Frag} {cl : Str → Addr} {H : Hp} {Z : PA1}
theorem Own.at : ∀ {p : List Nat} {t v} {S : PA1} {u : T}, Own K cl H Z t v S → getP t p = some u →
    ∃ w, ∃ Su R : PA1, valP H v p = some w ∧ Own K cl H Z u w Su ∧ (∀ a, Su a → S a) ∧ (∀ a, R a → S a) ∧ Dis Su R ∧ ∀ H' (Z' : PA1) u' (Su' : PA1), (∀ a, Z a → Z' a) → (∀ a, Z a → Kept H H' a) → (∀ a o, R a → H a = some o → H' a = some o) →
      Own K cl H' Z' u' w Su' → Dis Su' R → Own K cl H' Z' (setP t p u') v (Uni Su' R)
  | [], t, v, S, u, h, hp => by
    cases hp
    exact ⟨v, S, Emp, rfl, h, fun _ z => z, fun _ z => z.elim, fun _ _ z => z, fun H' Z' u' Su' hz hr hs ow dd => ow.up fun _ z => .inl z⟩
  | n :: p, t, v, S, u, h, hp => by
    simp only [getP] at hp
    cases hk : (kids t)[n]? with
    | none => rw [hk] at hp; cases hp
    | some k =>
      rw [hk] at hp
      obtain ⟨w1, S1, R1, a1, a2, a3, a4, a5, a6⟩ := h.kid hk
      obtain ⟨w, Su, R, b1, b2, b3, b4, b5, b6⟩ := Own.at a2 hp
      refine ⟨w, Su, Uni R R1, by simp only [valP, a1]; exact b1, b2, fun a z => a3 a (b3 a z), fun a z => z.elim (fun z => a3 a (b4 a z)) (a4 a), fun a z y => y.elim (b5 a z) (a5 a (b3 a z)), fun H' Z' u' Su' hz hr hs ow dd => ?_⟩
      have q1 := b6 H' Z' u' Su' hz hr (fun a o z => hs a o (.inl z)) ow fun a z y => dd a z (.inl y)
      have q2 := a6 H' Z' _ (Uni Su' R) hz hr (fun a o z => hs a o (.inr z)) q1 fun a z y => z.elim (fun z => dd a z (.inr y)) fun z => a5 a (b4 a z) y
      simp only [setP, hk]
      exact q2.up fun a z => z.elim (fun z => z.imp id .inl) fun z => .inr (.inr z)
structure Loc where
  i : Nat
  p : List Nat
@[simp] def getE (E : En) (l : Loc) : Option T := match E[l.i]? with
  | some (some t) => getP t l.p
  | _ => none
@[simp] def setE (E : En) (l : Loc) (u : T) : En := match E[l.i]? with
  | some (some t) => E.set l.i (some (setP t l.p u))
  | _ => E
def valE (H : Hp) (σ : L2.St) (l : Loc) : Option V := match σ[l.i]? with
  | some (some v) => valP H v l.p
  | _ => none
theorem OwnE.at {E : En} {σ : L2.St} {S : PA1} {l : Loc} {u : T} (h : OwnE K cl H Z E σ S) (hg : getE E l = some u) :
    ∃ w, ∃ Su R : PA1, valE H σ l = some w ∧ Own K cl H Z u w Su ∧ (∀ a, Su a → S a) ∧ (∀ a, R a → S a) ∧ Dis Su R ∧ ∀ H' (Z' : PA1) u' (Su' : PA1), (∀ a, Z a → Z' a) → (∀ a, Z a → Kept H H' a) → (∀ a o, R a → H a = some o → H' a = some o) →
      Own K cl H' Z' u' w Su' → Dis Su' R → OwnE K cl H' Z' (setE E l u') σ (Uni Su' R) := by
  unfold getE at hg
  match hE : E[l.i]?, hg with
  | some (some t), hg =>
    obtain ⟨v, Si, Sr, h1, h2, h3, h4, h5, h6⟩ := h.take hE
    obtain ⟨w, Su, R, b1, b2, b3, b4, b5, b6⟩ := h2.at hg
    refine ⟨w, Su, Uni R Sr, by simp only [valE, h1]; exact b1, b2, fun a z => h5 a (b3 a z), fun a z => z.elim (fun z => h5 a (b4 a z)) (h6 a), fun a z y => y.elim (b5 a z) (h4 a (b3 a z)), fun H' Z' u' Su' hz hr hs ow dd => ?_⟩
    have q1 := b6 H' Z' u' Su' hz hr (fun a o z => hs a o (.inl z)) ow fun a z y => dd a z (.inl y)
    have q2 := OwnE.put (h3.mono hz hr fun a o z => hs a o (.inr z)) (h.slot hE) q1 fun a z y => z.elim (fun z => dd a z (.inr y)) fun z => h4 a (b4 a z) y
    rw [set_get h1] at q2
    simp only [setE, hE]
    exact q2.up fun a z => z.elim (fun z => z.imp id .inl) fun z => .inr (.inr z)
end

/-! ### reading without taking anything -/
@[simp] def atomD : D → Bool
  | .non => true | .bl _ => true | .int _ => true | .str _ => true | .ty _ => true | .gl _ => true
  | _ => false
mutual
/-- nothing frozen but atoms -/
@[simp] def clT : T → Bool
  | .fz d => atomD d
  | .tup ts => clL ts
  | .lst ts => clL ts
  | .dct ks => clK ks
  | .dcT ks => clQ ks
  | .ins _ fs => clF fs
@[simp] def clL : List T → Bool
  | [] => true
  | t :: ts => clT t && clL ts
@[simp] def clK : List (Key × T) → Bool
  | [] => true
  | (_, t) :: ts => clT t && clK ts
@[simp] def clQ : List (List Key × T) → Bool
  | [] => true
  | (_, t) :: ts => clT t && clQ ts
@[simp] def clF : List (Str × T) → Bool
  | [] => true
  | (_, t) :: ts => clT t && clF ts
end
theorem clK_snd : ∀ ks : List (Key × T), clK ks = clL (ks.map (·.2))
  | [] => by simp [clK, clL]
  | (_, t) :: ts => by simp [clK, clL, clK_snd ts]
theorem clQ_snd : ∀ ks : List (List Key × T), clQ ks = clL (ks.map (·.2))
  | [] => by simp [clQ, clL]
  | (_, t) :: ts => by simp [clQ, clL, clQ_snd ts]
theorem clF_snd : ∀ ks : List (Str × T), clF ks = clL (ks.map (·.2))
  | [] => by simp [clF, clL]
  | (_, t) :: ts => by simp [clF, clL, clF_snd ts]
section
variable {K : PySem.W.Frag} {cl : Str → Addr} {H : Hp} {Z Z' : PA1}
theorem Rp.atom {d v} (h : Rp K cl H Z d v) (c : atomD d = true) : Rp K cl H Z' d v := by
  cases h with
  | non => exact .non
  | bl b => exact .bl b
  | int b => exact .int b
  | str b => exact .str b
  | ty b => exact .ty b
  | gl b => exact .gl b
  | _ => simp [atomD] at c
mutual
theorem Own.closed : ∀ {t v} {S : PA1}, Own K cl H Z t v S → clT t = true → Own K cl H Z' t v S
  | _, _, _, .fz h, c => .fz (h.atom (by simpa [clT] using c))
  | _, _, _, .tup h1 h2 h3 r, c => .tup h1 h2 h3 (OwnL.closed r (by simpa [clT] using c))
  | _, _, _, .lst h1 h2 h3 r, c => .lst h1 h2 h3 (OwnL.closed r (by simpa [clT] using c))
  | _, _, _, .dct h1 h2 h3 h4 r, c => .dct h1 h2 h3 h4 (OwnL.closed r (by simpa [clT, clK_snd] using c))
  | _, _, _, .dcT h1 h2 h3 h4 r, c => .dcT h1 h2 h3 h4 (OwnL.closed r (by simpa [clT, clQ_snd] using c))
  | _, _, _, .ins h1 h2 h3 h4 r, c => .ins h1 h2 h3 h4 (OwnL.closed r (by simpa [clT, clF_snd] using c))
theorem OwnL.closed : ∀ {ts vs} {S : PA1}, OwnL K cl H Z ts vs S → clL ts = true → OwnL K cl H Z' ts vs S
  | _, _, _, .nil, _ => .nil
  | _, _, _, .cons h r a1 a2 d, c => .cons (Own.closed h (by simp [clL] at c; exact c.1)) (OwnL.closed r (by simp [clL] at c; exact c.2)) a1 a2 d
end
/-- every name frozen -/
@[simp] def frzE (E : En) : En := E.map fun o => o.map fun t => .fz (frz t)
theorem OwnE.frzE {E : En} {σ : L2.St} {S : PA1} (h : OwnE K cl H Z E σ S) (hz : ∀ a, Z a → Z' a) (hs : ∀ a, S a → Z' a) : OwnE K cl H Z' (VL.frzE E) σ Emp := by
  induction h with
  | nl => exact .nl
  | no r ih => exact .no (ih hs)
  | so q r a1 a2 d ih => exact .so (S1 := Emp) (S2 := Emp) (.fz (q.frz hz fun a z => hs a (a1 a z))) (ih fun a z => hs a (a2 a z)) (fun _ z => z) (fun _ z => z) fun _ z _ => z
/-- what a run beside frozen names leaves of them -/
theorem peekStep {H' : Hp} {S Sr S' Z1 : PA1} (ok : Okk H Z S) (st : Step H (Uni Z S) Emp H' Z1 (Uni Sr S')) (ok1 : Okk H' Z1 (Uni Sr S')) :
    Step H Z S H' Z (Uni Sr S) ∧ Okk H' Z (Uni Sr S) ∧ Dis Sr S ∧ (∀ a o, H a = some o → H' a = some o) := by
  have kp : ∀ a o, H a = some o → H' a = some o := fun a o e => st.kp a o e fun z => z
  refine ⟨⟨fun _ z => z, fun _ z => .inl z, fun a z => z.elim (fun z => (st.sn a (.inl z)).elim False.elim .inr) .inl, fun a o e _ => kp a o e, st.al⟩, ⟨fun a z y => ?_, fun a z => z.elim (fun z => ok1.sa a (.inl z)) fun z => st.al a (ok.sa a z), fun a z => st.al a (ok.za a z)⟩, fun a z y => ?_, kp⟩
  · rcases z with z | z
    · exact ok1.dis a (.inl z) (st.zz a (.inl y))
    · exact ok.dis a z y
  · exact ok1.dis a (.inl z) (st.zz a (.inr y))
theorem Okk.peek {S : PA1} (ok : Okk H Z S) : Okk H (Uni Z S) Emp := ⟨fun _ z => z.elim, fun _ z => z.elim, fun a z => z.elim (ok.za a) (ok.sa a)⟩
end
section
variable {X : Cx} {cl : Str → Addr} {e : Expr} {t : Ev T} {tb : Ev Bool}
def ePeek (t : Ev T) : Ev T := fun E => match t (frzE E) with
  | some (.ok r _) => if clT r = true then some (.ok r E) else none
  | _ => none
theorem ie_peek (h : IE X cl e t) : IE X cl e (ePeek t) := by
  refine ⟨fun W tk => ?_⟩
  obtain ⟨te, p, q⟩ := h.run W tk
  refine ⟨te, p, fun E σ H Z S Q oe ok sat => ?_⟩
  refine q (frzE E) σ H (Uni Z S) Emp Q (oe.frzE (fun _ z => .inl z) fun _ z => .inr z) ok.peek ?_
  unfold ePeek at sat
  match hE : t (frzE E), sat with
  | some (.ok r E1), sat =>
    dsimp only at sat
    by_cases c : clT r = true
    · rw [if_pos c] at sat
      intro v H' Z1 Sr S' oe1 ow1 d1 st1 ok1
      obtain ⟨s1, o1, dd, kp⟩ := peekStep ok st1 ok1
      exact sat v H' Z Sr S (oe.mono (fun _ z => z) (fun a _ => .of (kp a)) fun a o _ e => kp a o e) (ow1.closed c) dd s1 o1
    · rw [if_neg c] at sat; exact sat.elim
  | some (.ex x E1), sat => exact sat.elim
  | none, sat => exact sat.elim
def bPeek (t : Ev Bool) : Ev Bool := fun E => match t (frzE E) with
  | some (.ok b _) => some (.ok b E)
  | _ => none
theorem ib_peek (h : IB X cl e tb) : IB X cl e (bPeek tb) := by
  refine ⟨fun W tk => ?_⟩
  obtain ⟨te, p, q⟩ := h.run W tk
  refine ⟨te, p, fun E σ H Z S Q oe ok sat => ?_⟩
  refine q (frzE E) σ H (Uni Z S) Emp Q (oe.frzE (fun _ z => .inl z) fun _ z => .inr z) ok.peek ?_
  unfold bPeek at sat
  match hE : tb (frzE E), sat with
  | some (.ok b E1), sat =>
    intro H' Z1 S' oe1 st1 ok1
    obtain ⟨s1, o1, dd, kp⟩ := peekStep (Sr := Emp) (S' := S') ok (st1.less fun _ z => z.elim False.elim id) (ok1.less fun _ z => z.elim False.elim id)
    exact (sat : SatB X.K cl W σ H Z S Q (some (.ok b E))) H' Z S (oe.mono (fun _ z => z) (fun a _ => .of (kp a)) fun a o _ e => kp a o e) (s1.less fun _ z => .inr z) (o1.less fun _ z => .inr z)
  | some (.ex x E1), sat => exact sat.elim
  | none, sat => exact sat.elim
end
end VL

namespace VL
open PySem PySem.Spec PyProof.Rows L2

/-! ### dicts: places of keys -/
section
variable {κ : Type} [DecidableEq κ]
def keyIx : List κ → κ → Option Nat
  | [], _ => none
  | a :: r, k => if a = k then some 0 else (keyIx r k).map (· + 1)
theorem keyIx_none : ∀ {ks : List κ} {k : κ}, keyIx ks k = none → k ∉ ks
  | [], _, _ => by simp
  | a :: r, k, h => by
    simp only [keyIx] at h
    by_cases e : a = k
    · rw [if_pos e] at h; cases h
    · rw [if_neg e] at h
      have : keyIx r k = none := by
        cases q : keyIx r k with
        | none => rfl
        | some n => rw [q] at h; cases h
      simp only [List.mem_cons, not_or]
      exact ⟨fun q => e q.symm, keyIx_none this⟩
theorem keyIx_some : ∀ {ks : List κ} {k : κ} {n : Nat}, keyIx ks k = some n → ks[n]? = some k
  | [], _, _, h => by cases h
  | a :: r, k, n, h => by
    simp only [keyIx] at h
    by_cases e : a = k
    · rw [if_pos e] at h; cases h; subst e; rfl
    · rw [if_neg e] at h
      cases q : keyIx r k with
      | none => rw [q] at h; cases h
      | some m =>
        rw [q] at h; cases h
        show (a :: r)[m + 1]? = some k
        simpa using keyIx_some q
theorem valV_ix {V' : Type} : ∀ {kvs : List (κ × V')} {k : κ}, (kvs.find? fun kv => decide (kv.1 = k)).map (·.2) = (match keyIx (kvs.map (·.1)) k with | some n => (kvs.map (·.2))[n]? | none => none)
  | [], _ => rfl
  | p :: r, k => by
    simp only [List.map_cons, keyIx, List.find?_cons]
    by_cases e : p.1 = k
    · simp [e]
    · rw [if_neg e]
      simp only [e, decide_false]
      rw [valV_ix (kvs := r)]
      cases keyIx (r.map (·.1)) k with
      | none => rfl
      | some n => rfl
theorem putK_at : ∀ {kvs : List (κ × V)} {k : κ} {v : V} {n : Nat}, (kvs.map (·.1)).Nodup → keyIx (kvs.map (·.1)) k = some n → (putK kvs k v).map (·.1) = kvs.map (·.1) ∧ (putK kvs k v).map (·.2) = (kvs.map (·.2)).set n v := by
  intro kvs k v n nd h
  have hany : (kvs.any fun kv => decide (kv.1 = k)) = true := by
    have := keyIx_some h
    have hm := List.mem_of_getElem? this
    obtain ⟨p, hp, e⟩ := List.mem_map.mp hm
    exact List.any_eq_true.mpr ⟨p, hp, by simpa using e⟩
  unfold putK
  rw [if_pos hany]
  clear hany
  induction kvs generalizing n with
  | nil => cases h
  | cons p r ih =>
    simp only [List.map_cons, keyIx] at h
    simp only [List.map_cons, List.nodup_cons] at nd
    by_cases e : p.1 = k
    · rw [if_pos e] at h
      cases h
      have hr : r.map (fun kv => if kv.1 = k then (kv.1, v) else kv) = r := by
        have h1 : ∀ q ∈ r, (if q.1 = k then (q.1, v) else q) = q := fun q hq => if_neg fun z => nd.1 (by rw [e, ← z]; exact List.mem_map_of_mem hq)
        rw [List.map_congr_left h1]; simp
      simp [e, hr]
    · rw [if_neg e] at h
      cases q : keyIx (r.map (·.1)) k with
      | none => rw [q] at h; cases h
      | some m =>
        rw [q] at h
        cases h
        obtain ⟨h1, h2⟩ := ih nd.2 q
        simp [e, h1, h2]
theorem putK_new' {kvs : List (κ × V)} {k : κ} {v : V} (h : keyIx (kvs.map (·.1)) k = none) : putK kvs k v = kvs ++ [(k, v)] := by
  have hn := keyIx_none h
  unfold putK
  rw [if_neg]
  intro q
  obtain ⟨p, hp, e⟩ := List.any_eq_true.mp q
  exact hn (by simp at e; rw [← e]; exact List.mem_map_of_mem hp)
end
def keyD : D → Option Key
  | .int i => some (.inl i)
  | .str x => some (.inr x)
  | _ => none
def keysL : List D → Option (List Key)
  | [] => some []
  | d :: ds => match keyD d, keysL ds with | some k, some ks => some (k :: ks) | _, _ => none
def keysD : D → Option (List Key)
  | .tpn ds => keysL ds
  | _ => none
section
variable {K : PySem.W.Frag} {cl : Str → Addr} {H : Hp} {Z : PA1} {Q : VK}
theorem keyD_rp {d : D} {v : V} {k : Key} (r : Rp K cl H Z d v) (h : keyD d = some k) : v = kV k := by
  cases r <;> first | (cases h; rfl) | (cases h; done)
theorem keysL_rp : ∀ {ds vs ks}, RpL K cl H Z ds vs → keysL ds = some ks → vs = ks.map kV
  | [], _, _, .nil, h => by cases h; rfl
  | d :: ds, _, ks, .cons r rs, h => by
    simp only [keysL] at h
    cases e1 : keyD d with
    | none => rw [e1] at h; cases h
    | some k =>
      cases e2 : keysL ds with
      | none => rw [e1, e2] at h; cases h
      | some l =>
        rw [e1, e2] at h; cases h
        rw [keyD_rp r e1, keysL_rp rs e2]; rfl
theorem keysD_rp {d : D} {v : V} {ks : List Key} (r : Rp K cl H Z d v) (h : keysD d = some ks) : ∃ b, v = .ref b ∧ H b = some (.tup (ks.map kV)) := by
  cases r with
  | @tpn a vs xs h1 h2 rl => exact ⟨a, rfl, by rw [h2, keysL_rp rl h]⟩
  | _ => simp [keysD] at h
/-- what is found -/
def findD {κ : Type} [DecidableEq κ] (ds : List (κ × D)) (k : κ) : Option D := match keyIx (ds.map (·.1)) k with | some n => (ds.map (·.2))[n]? | none => none
theorem find_rp {κ : Type} [DecidableEq κ] {ds : List (κ × D)} {kvs : List (κ × V)} (e : ds.map (·.1) = kvs.map (·.1)) (r : RpL K cl H Z (ds.map (·.2)) (kvs.map (·.2))) (k : κ) :
    (∀ d, findD ds k = some d → ∃ v, valV kvs k = some v ∧ Rp K cl H Z d v) ∧ (findD ds k = none → valV kvs k = none) := by
  have hv : valV kvs k = _ := valV_ix (kvs := kvs) (k := k)
  rw [← e] at hv
  unfold findD
  cases q : keyIx (ds.map (·.1)) k with
  | none =>
    rw [q] at hv
    exact And.intro (fun d h => nomatch h) fun _ => hv
  | some n =>
    rw [q] at hv
    refine ⟨fun d h => ?_, fun h => ?_⟩
    · obtain ⟨v, h1, h2⟩ := r.get h
      exact ⟨v, hv.trans h1, h2⟩
    · exfalso
      have h1 := keyIx_some q
      have h2 : n < ds.length := by have := (List.getElem?_eq_some_iff.mp h1).1; simpa using this
      have h3 : ((ds.map (·.2))[n]?).isSome := by simp [h2]
      have h' : (ds.map (·.2))[n]? = none := h
      rw [h'] at h3; cases h3
/-- x[y] of a dict: what is there -/
def dgetD : D → D → Option (Option D)
  | .dct ds, y => (keyD y).map (findD ds)
  | .dcT ds, y => (keysD y).map (findD ds)
  | _, _ => none
theorem dget_rp {x y : D} {v u : V} {o : Option D} (rx : Rp K cl H Z x v) (ry : Rp K cl H Z y u) (h : dgetD x y = some o) :
    ∃ a w, v = .ref a ∧ DGet H a u w ∧ (∀ d, o = some d → ∃ z, w = some z ∧ Rp K cl H Z d z) ∧ (o = none → w = none) := by
  match x, rx, h with
  | .dct ds, .dct (a := a) (kvs := kvs) q0 q1 q2 r, h =>
    simp only [dgetD] at h
    cases e : keyD y with
    | none => rw [e] at h; cases h
    | some k =>
      rw [e] at h; cases h
      exact ⟨a, _, rfl, .inl ⟨kvs, k, q1, keyD_rp ry e, rfl⟩, (find_rp q2 r k).1, (find_rp q2 r k).2⟩
  | .dcT ds, .dcT (a := a) (kvs := kvs) q0 q1 q2 r, h =>
    simp only [dgetD] at h
    cases e : keysD y with
    | none => rw [e] at h; cases h
    | some k =>
      rw [e] at h; cases h
      obtain ⟨b, rfl, hb⟩ := keysD_rp ry e
      exact ⟨a, _, rfl, .inr ⟨kvs, k, b, q1, rfl, hb, rfl⟩, (find_rp q2 r k).1, (find_rp q2 r k).2⟩
end
/-! ### one rule for all subscripts -/
def rIxDc : R2 := fun x y H Q => ∃ a v, x = .ref a ∧ DGet H a y (some v) ∧ Q v H
theorem ix_dict {X : Cx} (hu : X.A.units + 1 < cLine) : IxR X rIxDc := by
  intro value slice pins s σ H x y v u Q I rx ry q hs
  obtain ⟨a, w, rfl, g, q⟩ := q
  cases rx
  have hT := dict_typeIs I g
  have hl := PySem.F.slot_dict_getitem.lookup
  unfold subscriptTail
  refine wpAny_bind ?_
  rw [getitemInPython_of_ne hT.not_modules]
  refine wpAny_bind (wpAny_specialOf hT hl ?_)
  have fin : wpAny (model X.prog X.w) X.A (subscripted slice false (.ref a) u) (fun r s₃ => wpAny (model X.prog X.w) X.A (letTemporaryGo value (.ref a) r >>= fun _ => pure r) (EP X pins σ Q) X.xe s₃) X.xe s := by
    rw [hs]
    refine wpAny_operating (d_getItem hu I g ry fun w' s3 I3 rw' => wpAny_bind (wpAny_letTemporaryGo (wpAny_pure ⟨_, H, I3, rw', q⟩)))
  first
    | exact wpAny_pure (wpAny_bind fin)
    | exact wpAny_bind (wpAny_pure (wpAny_bind fin))
    | exact wpAny_bind fin
def rIxA (K : PySem.W.Frag) : R2 := fun x y H Q => rIx K x y H Q ∨ rIxDc x y H Q
theorem ix_all {X : Cx} (hu : X.A.units + 1 < cLine) : IxR X (rIxA X.K) := ix_seq.or (ix_dict hu)
section
variable {K : PySem.W.Frag} {cl : Str → Addr} {H : Hp} {Z : PA1} {Q : VK}
def ixA (x y : D) : Option T := match dgetD x y with
  | some (some d) => some (.fz d)
  | some none => none
  | none => ixD x y
theorem opv_ixA : OpV K cl (rIxA K) ixA := by
  intro x y v u H Z Q hz rx ry ok
  unfold ixA at ok
  match e : dgetD x y, ok with
  | some (some d), ok =>
    obtain ⟨a, w, e1, g, h1, _⟩ := dget_rp rx ry e
    obtain ⟨z, rfl, rz⟩ := h1 d rfl
    exact .inr ⟨a, z, e1, g, okr_fz hz ok rz⟩
  | some none, ok => exact okr_none ok
  | none, ok => exact .inl (opv_ix x y v u H Z Q hz rx ry ok)

/-! ### in, not in -/
def rInDc (neg : Bool) : R2 := fun x y H Q => ∃ a o, y = .ref a ∧ DGet H a x o ∧ Q (.bl (neg ^^ o.isSome)) H
theorem op_inDc {X : Cx} (hu : X.A.units + 1 < cLine) : OpR X (compareOp .In) (rInDc false) := by
  intro pins s σ H x y v u Q I rx ry h
  obtain ⟨a, o, rfl, g, q⟩ := h
  cases ry
  exact d_in hu I g rx fun s3 I3 => ⟨.bl o.isSome, H, I3, rfl, by simpa using q⟩
theorem op_ninDc {X : Cx} (hu : X.A.units + 1 < cLine) : OpR X (compareOp .NotIn) (rInDc true) := by
  intro pins s σ H x y v u Q I rx ry h
  obtain ⟨a, o, rfl, g, q⟩ := h
  cases ry
  exact d_notIn hu I g rx fun s3 I3 => ⟨.bl (!o.isSome), H, I3, rfl, by simpa using q⟩
def rInStr : R2 := fun x y H Q => ∃ i j, x = .str i ∧ y = .str j ∧ Q (.bl (!(Builtin.Str.occurrences j i 0 j.length 1).isEmpty)) H
def rNinStr : R2 := fun x y H Q => ∃ i j, x = .str i ∧ y = .str j ∧ Q (.bl (!(!(Builtin.Str.occurrences j i 0 j.length 1).isEmpty))) H
def rInSg : R2 := fun x y H Q => ∃ (c : Nat) (z : Str), x = .str ⟨#[c]⟩ ∧ y = .str z ∧ Q (.bl (decide (c ∈ z.cps.toList))) H
def rNinSg : R2 := fun x y H Q => ∃ (c : Nat) (z : Str), x = .str ⟨#[c]⟩ ∧ y = .str z ∧ Q (.bl (!decide (c ∈ z.cps.toList))) H
def rInA (K : PySem.W.Frag) : R2 := fun x y H Q => (rInSg x y H Q ∨ rInStr x y H Q) ∨ rIn K false x y H Q ∨ rInD K x y H Q ∨ rInDc false x y H Q
def rNinA (K : PySem.W.Frag) : R2 := fun x y H Q => (rNinSg x y H Q ∨ rNinStr x y H Q) ∨ rIn K true x y H Q ∨ rNotInD K x y H Q ∨ rInDc true x y H Q
theorem op_inA {X : Cx} (hu : X.A.units + 65 < cLine) : OpR X (compareOp .In) (rInA X.K) := (op_in_sign.or op_in_str).or (op_in_seq.or ((op_inD hu).or (op_inDc (by omega))))
theorem op_ninA {X : Cx} (hu : X.A.units + 65 < cLine) : OpR X (compareOp .NotIn) (rNinA X.K) := (op_notIn_sign.or op_notIn_str).or (op_notIn_seq.or ((op_notInD hu).or (op_ninDc (by omega))))
/-- flat data -/
def flatD : D → Bool
  | .non => true | .bl _ => true | .int _ => true | .str _ => true
  | _ => false
def eqFl : D → D → Bool
  | .non, .non => true
  | .bl a, .bl b => a == b
  | .bl a, .int b => (if a then 1 else 0) == b
  | .int a, .bl b => a == (if b then 1 else 0)
  | .int a, .int b => a == b
  | .str a, .str b => a == b
  | _, _ => false
theorem flat_rp {d : D} {v : V} (r : Rp K cl H Z d v) (h : flatD d = true) : flatV v = true := by
  cases r <;> first | rfl | simp [flatD] at h
theorem eqFl_rp {d e : D} {v u : V} (r : Rp K cl H Z d v) (q : Rp K cl H Z e u) (h : flatD d = true) (h2 : flatD e = true) : eqV v u = eqFl d e := by
  cases r <;> first | (simp [flatD] at h; done) | (cases q <;> first | (simp [flatD] at h2; done) | rfl)
theorem flats_rp : ∀ {ds vs}, RpL K cl H Z ds vs → ds.all flatD = true → vs.all flatV = true
  | _, _, .nil, _ => rfl
  | _, _, .cons r rs, h => by
    simp only [List.all_cons, Bool.and_eq_true] at h ⊢
    exact ⟨flat_rp r h.1, flats_rp rs h.2⟩
theorem inFl_rp {d : D} {v : V} (r : Rp K cl H Z d v) (h : flatD d = true) : ∀ {ds vs}, RpL K cl H Z ds vs → ds.all flatD = true → inV v vs = ds.any fun e => eqFl e d
  | _, _, .nil, _ => rfl
  | _, _, .cons q rs, h2 => by
    simp only [List.all_cons, Bool.and_eq_true] at h2
    have ih := inFl_rp r h rs h2.2
    unfold inV at ih ⊢
    simp only [List.any_cons]
    rw [ih, eqFl_rp q r h2.1 h]
def inB (x y : D) : Option Bool := match x, y with
  | .str i, .str j => match i.cps.toList with
    | [c] => some (decide (c ∈ j.cps.toList))
    | _ => some (!(Builtin.Str.occurrences j i 0 j.length 1).isEmpty)
  | x, .lst ys => if flatD x = true ∧ ys.all flatD = true then some (ys.any fun e => eqFl e x) else match toPy x, toPyL ys with
    | some p, some ps => if SeqAt.shaped p = true ∧ SeqAt.shaped (.list ps) = true then some (ps.any fun z => PyData.eqv z p) else none
    | _, _ => none
  | x, .tup ys => if flatD x = true ∧ ys.all flatD = true then some (ys.any fun e => eqFl e x) else none
  | x, y => (dgetD y x).map (·.isSome)
def inA (neg : Bool) (x y : D) : Option T := (inB x y).map fun b => .fz (.bl (neg ^^ b))
theorem dget_in {x y : D} {v u : V} {o : Option D} (rx : Rp K cl H Z x v) (ry : Rp K cl H Z y u) (h : dgetD y x = some o) : ∃ a w, u = .ref a ∧ DGet H a v w ∧ w.isSome = o.isSome := by
  obtain ⟨a, w, e, g, h1, h2⟩ := dget_rp ry rx h
  refine ⟨a, w, e, g, ?_⟩
  cases o with
  | none => rw [h2 rfl]; rfl
  | some d =>
    obtain ⟨z, rfl, _⟩ := h1 d rfl
    rfl
theorem str_one {i : Str} {c : Nat} (h : i.cps.toList = [c]) : i = ⟨#[c]⟩ := by
  obtain ⟨a⟩ := i
  have : a = #[c] := by
    apply Array.toList_inj.mp
    simpa using h
  rw [this]
theorem inB_run {x y : D} {v u : V} {b : Bool} (rx : Rp K cl H Z x v) (ry : Rp K cl H Z y u) (h : inB x y = some b) (P : Prop) (neg : Bool)
    (h1 : ∀ c z, v = .str ⟨#[c]⟩ → u = .str z → b = decide (c ∈ z.cps.toList) → P) (h2 : ∀ i j, v = .str i → u = .str j → b = !(Builtin.Str.occurrences j i 0 j.length 1).isEmpty → P)
    (h3 : ∀ p xs, u = .ref p → (SqL K H p xs ∨ SqT K H p xs) → flatV v = true → xs.all flatV = true → b = inV v xs → P)
    (h4 : ∀ d ds, Dp K H v d → Dp K H u (.list ds) → SeqAt.shaped d = true → SeqAt.shaped (.list ds) = true → b = (ds.any fun z => PyData.eqv z d) → P)
    (h5 : ∀ a o, u = .ref a → DGet H a v o → b = o.isSome → P) : P := by
  have go : ∀ {o : Option D}, dgetD y x = some o → b = o.isSome → P := fun {o} e1 e2 => by
    obtain ⟨a, w, e, g, k⟩ := dget_in rx ry e1
    exact h5 a w e g (e2.trans k.symm)
  have seq : ∀ {ys : List D} {p : Addr} {vs : List V}, u = .ref p → (SqL K H p vs ∨ SqT K H p vs) → RpL K cl H Z ys vs → (flatD x = true ∧ ys.all flatD = true) → b = (ys.any fun e => eqFl e x) → P := fun {ys p vs} e1 e2 r e3 e4 =>
    h3 p vs e1 e2 (flat_rp rx e3.1) (flats_rp r e3.2) (e4.trans (inFl_rp rx e3.1 r e3.2).symm)
  cases ry with
  | str j =>
    cases rx with
    | str i =>
      simp only [inB] at h
      split at h
      · rename_i c hc
        cases h
        exact h1 c j (by rw [str_one hc]) rfl rfl
      · cases h
        exact h2 i j rfl rfl rfl
    | _ => simp [inB, dgetD] at h
  | @lst a0 vs0 ys q0 q1 r =>
    simp only [inB] at h
    have h' := h
    by_cases c : flatD x = true ∧ ys.all flatD = true
    · rw [if_pos c] at h'
      cases h'
      exact seq rfl (.inl (SqL.of q1)) r c rfl
    · rw [if_neg c] at h'
      split at h'
      · rename_i p ps e1 e2
        split at h'
        · rename_i c2
          cases h'
          exact h4 p ps (dp_of rx e1) (.lst (SqL.of q1) (dpAll_of r e2)) c2.1 c2.2 rfl
        · cases h'
      · cases h'
  | @tup a0 vs0 ys q0 q1 r =>
    simp only [inB] at h
    have h' := h
    by_cases c : flatD x = true ∧ ys.all flatD = true
    · rw [if_pos c] at h'
      cases h'
      exact seq rfl (.inr ((TupP.sq q1))) r c rfl
    · rw [if_neg c] at h'; cases h'
  | @dct a0 kvs0 ds0 q0 q1 q2 r =>
    have h' : (dgetD (.dct ds0) x).map (·.isSome) = some b := by cases rx <;> exact h
    obtain ⟨o, e1, e2⟩ := Option.map_eq_some_iff.mp h'
    exact go e1 e2.symm
  | @dcT a0 kvs0 ds0 q0 q1 q2 r =>
    have h' : (dgetD (.dcT ds0) x).map (·.isSome) = some b := by cases rx <;> exact h
    obtain ⟨o, e1, e2⟩ := Option.map_eq_some_iff.mp h'
    exact go e1 e2.symm
  | _ => cases rx <;> simp [inB, dgetD] at h
theorem opv_in : OpV K cl (rInA K) (inA false) := by
  intro x y v u H Z Q hz rx ry ok
  cases e : inB x y with
  | none => unfold inA at ok; rw [e] at ok; exact okr_none ok
  | some b =>
    unfold inA at ok; rw [e] at ok
    have q := okr_fz hz ok (.bl _)
    rw [Bool.false_xor] at q
    refine inB_run rx ry e _ false ?_ ?_ ?_ ?_ ?_
    · rintro c z rfl rfl rfl; exact .inl (.inl ⟨c, z, rfl, rfl, q⟩)
    · rintro i j rfl rfl rfl; exact .inl (.inr ⟨i, j, rfl, rfl, q⟩)
    · rintro p xs rfl h1 h2 h3 rfl; exact .inr (.inl ⟨p, xs, rfl, h1, h2, h3, q⟩)
    · rintro d ds h1 h2 h3 h4 rfl; exact .inr (.inr (.inl ⟨d, ds, h1, h2, h3, h4, q⟩))
    · rintro a o rfl g rfl; exact .inr (.inr (.inr ⟨a, o, rfl, g, by rw [Bool.false_xor]; exact q⟩))
theorem opv_nin : OpV K cl (rNinA K) (inA true) := by
  intro x y v u H Z Q hz rx ry ok
  cases e : inB x y with
  | none => unfold inA at ok; rw [e] at ok; exact okr_none ok
  | some b =>
    unfold inA at ok; rw [e] at ok
    have q := okr_fz hz ok (.bl _)
    rw [Bool.true_xor] at q
    refine inB_run rx ry e _ true ?_ ?_ ?_ ?_ ?_
    · rintro c z rfl rfl rfl; exact .inl (.inl ⟨c, z, rfl, rfl, q⟩)
    · rintro i j rfl rfl rfl; exact .inl (.inr ⟨i, j, rfl, rfl, q⟩)
    · rintro p xs rfl h1 h2 h3 rfl; exact .inr (.inl ⟨p, xs, rfl, h1, h2, h3, q⟩)
    · rintro d ds h1 h2 h3 h4 rfl; exact .inr (.inr (.inl ⟨d, ds, h1, h2, h3, h4, q⟩))
    · rintro a o rfl g rfl; exact .inr (.inr (.inr ⟨a, o, rfl, g, by rw [Bool.true_xor]; exact q⟩))

/-! ### == of flat data first -/
def scalD : D → D → Bool
  | .non, .non => true | .non, .int _ => true | .int _, .non => true | .non, .bl _ => true | .bl _, .non => true | .non, .str _ => true | .str _, .non => true
  | .int _, .int _ => true | .bl _, .bl _ => true | .str _, .str _ => true
  | .int _, .str _ => true | .str _, .int _ => true | .bl _, .str _ => true | .str _, .bl _ => true
  | _, _ => false
theorem scal_rp {d e : D} {v u : V} (r : Rp K cl H Z d v) (q : Rp K cl H Z e u) (h : scalD d e = true) : scal v u = true ∧ decide (v = u) = eqFl d e := by
  cases r <;> cases q <;> first | (simp [scalD] at h; done) | exact ⟨rfl, dec_int⟩ | exact ⟨rfl, dec_bl⟩ | exact ⟨rfl, dec_str⟩ | exact ⟨rfl, by simp [eqFl]⟩
def eqAD (x y : D) : Option Bool := if scalD x y = true then some (eqFl x y) else eqDD x y
def eqA (x y : D) : Option T := (eqAD x y).map fun b => .fz (.bl b)
def neA (x y : D) : Option T := (eqAD x y).map fun b => .fz (.bl (!b))
def rEqA (K : PySem.W.Frag) : R2 := fun x y H Q => rEq x y H Q ∨ rEqD K x y H Q
def rNeA (K : PySem.W.Frag) : R2 := fun x y H Q => rNe x y H Q ∨ rNeD K x y H Q
theorem op_eqA {X : Cx} (hu : X.A.units + 64 < cLine) : OpR X (compareOp .Eq) (rEqA X.K) := op_eq.or (op_eqD hu)
theorem op_neA {X : Cx} (hu : X.A.units + 64 < cLine) : OpR X (compareOp .NotEq) (rNeA X.K) := op_ne.or (op_neD hu)
theorem opv_eqA : OpV K cl (rEqA K) eqA := by
  intro x y v u H Z Q hz rx ry ok
  unfold eqA eqAD at ok
  by_cases c : scalD x y = true
  · rw [if_pos c] at ok
    obtain ⟨h1, h2⟩ := scal_rp rx ry c
    exact .inl ⟨h1, by rw [h2]; exact okr_fz hz ok (.bl _)⟩
  · rw [if_neg c] at ok
    exact .inr (opv_eq x y v u H Z Q hz rx ry ok)
theorem opv_neA : OpV K cl (rNeA K) neA := by
  intro x y v u H Z Q hz rx ry ok
  unfold neA eqAD at ok
  by_cases c : scalD x y = true
  · rw [if_pos c] at ok
    obtain ⟨h1, h2⟩ := scal_rp rx ry c
    exact .inl ⟨h1, by rw [h2]; exact okr_fz hz ok (.bl _)⟩
  · rw [if_neg c] at ok
    exact .inr (opv_ne x y v u H Z Q hz rx ry ok)
end
end VL

namespace VL
open PySem PySem.Spec PyProof.Rows L2


/-! ### the weakest forms -/
section
variable (K : PySem.W.Frag) (cl : Str → Addr) (W : WX)
def tOf (t : Ev T) : TE := fun σ H Q => ∃ (E : En) (Z S : PA1), OwnE K cl H Z E σ S ∧ Okk H Z S ∧ SatV K cl W σ H Z S Q (t E)
def bOf (t : Ev Bool) : TT := fun σ H Q => ∃ (E : En) (Z S : PA1), OwnE K cl H Z E σ S ∧ Okk H Z S ∧ SatB K cl W σ H Z S Q (t E)
def gOf (kp : Keep) (g : T → En → Option En) : TG := fun v σ H Q => ∃ (t : T) (E : En) (Z St S : PA1), OwnE K cl H Z E σ S ∧ Own K cl H Z t v St ∧ Dis St S ∧ Okk H Z (Uni St S) ∧ SatG K cl kp σ H Z (Uni St S) Q (g t E)
end
abbrev W0 : WX := fun _ _ _ _ => False
theorem takes0 {X : Cx} : Takes X W0 := fun u s' ⟨_, _, _, _, _, _, _, _, _, _, _, _, _, _, _, _, w⟩ => w.elim
section
variable {X : Cx} {cl : Str → Addr} {kp : Keep} {W : WX}
theorem IE.pe {e : Expr} {t : Ev T} (h : IE X cl e t) (tk : Takes X W) : PE X e (tOf X.K cl W t) := by
  obtain ⟨te, p, q⟩ := h.run W tk
  exact ⟨fun pins s σ H Q I ⟨E, Z, S, a, b, c⟩ => p.run pins s σ H Q I (q E σ H Z S Q a b c)⟩
theorem IB.pt {e : Expr} {t : Ev Bool} (h : IB X cl e t) (tk : Takes X W) : PT X e (bOf X.K cl W t) := by
  obtain ⟨te, p, q⟩ := h.run W tk
  exact ⟨fun pins s σ H Q I ⟨E, Z, S, a, b, c⟩ => p.run pins s σ H Q I (q E σ H Z S Q a b c)⟩
theorem IG.pg {e : Expr} {g : T → En → Option En} (h : IG X cl kp e g) : PG X e (gOf X.K cl kp g) := by
  obtain ⟨te, p, q⟩ := h.run
  exact ⟨fun pins s σ H v u Q I r ⟨t, E, Z, Sq, S, a, b, c, d, e⟩ => p.run pins s σ H v u Q I r (q t v E σ H Z Sq S Q a b c d e)⟩
/-- a clause's tests -/
structure ITs (X : Cx) (cl : Str → Addr) (ifs : List Expr) (t : Ev Bool) : Prop where
  run : ∀ W, Takes X W → PTs X ifs (bOf X.K cl W t)
def bYes : Ev Bool := fun E => some (.ok true E)
theorem its_nil : ITs X cl [] bYes := ⟨fun W tk => ⟨fun pins s σ H Q I ⟨E, Z, S, oe, ok, sat⟩ => pts_nil.run pins s σ H Q I ((sat : SatB X.K cl W σ H Z S Q (some (.ok true E))) H Z S oe Step.refl ok)⟩⟩
theorem its_one {c : Expr} {t : Ev Bool} (h : IB X cl c t) : ITs X cl [c] t := ⟨fun W tk => pts_one (h.pt tk)⟩

/-! ### slots -/
theorem OwnE.swap {K : PySem.W.Frag} {H : Hp} {Z : PA1} : ∀ {E : En} {σ τ : L2.St} {S : PA1}, OwnE K cl H Z E σ S → τ.length = σ.length → (∀ (j : Nat) t, E[j]? = some (some t) → τ[j]? = σ[j]?) → OwnE K cl H Z E τ S
  | _, _, [], _, .nl, _, _ => .nl
  | _, _, y :: τ, _, .nl, h, _ => by simp at h
  | _, _, [], _, .no r, h, _ => by simp at h
  | _, _, y :: τ, _, .no r, h, k => .no (OwnE.swap r (by simpa using h) fun j t q => by simpa using k (j + 1) t (by simpa using q))
  | _, _, [], _, .so q r a1 a2 d, h, _ => by simp at h
  | _, _, y :: τ, _, .so q r a1 a2 d, h, k => by
    have := k 0 _ rfl
    simp at this
    subst this
    exact .so q (OwnE.swap r (by simpa using h) fun j t q => by simpa using k (j + 1) t (by simpa using q)) a1 a2 d
def clr (E : En) : List Nat → En
  | [] => E
  | v :: vs => (clr E vs).set v none
theorem clr_get {E : En} {j : Nat} {t : T} : ∀ {vs : List Nat}, (clr E vs)[j]? = some (some t) → j ∉ vs ∧ E[j]? = some (some t)
  | [], h => ⟨by simp, h⟩
  | v :: vs, h => by
    simp only [clr] at h
    by_cases e : v = j
    · subst e
      by_cases hl : v < (clr E vs).length
      · rw [List.getElem?_set_self hl] at h; cases h
      · rw [List.getElem?_eq_none (by simpa using hl)] at h; cases h
    · rw [List.getElem?_set_ne e] at h
      obtain ⟨h1, h2⟩ := clr_get h
      exact ⟨by simp only [List.mem_cons, not_or]; exact ⟨fun q => e q.symm, h1⟩, h2⟩
theorem OwnE.clr {K : PySem.W.Frag} {H : Hp} {Z : PA1} {E : En} {σ : L2.St} {S : PA1} (h : OwnE K cl H Z E σ S) : ∀ vs : List Nat, OwnE K cl H Z (VL.clr E vs) σ S
  | [] => h
  | v :: vs => (OwnE.clr h vs).drop v
theorem OwnE.wiped {K : PySem.W.Frag} {H : Hp} {Z : PA1} {E : En} {σ : L2.St} {S : PA1} (h : OwnE K cl H Z E σ S) (vs : List Nat) : OwnE K cl H Z (VL.clr E vs) (wipe σ vs) S :=
  (h.clr vs).swap (wipe_length σ vs) fun j t q => wipe_out (clr_get q).1
theorem wipe_in {σ : L2.St} {i : Nat} : ∀ {vs : List Nat}, i ∈ vs → (wipe σ vs)[i]? = if i < σ.length then some none else none
  | v :: vs, h => by
    unfold wipe
    by_cases e : v = i
    · subst e
      rw [List.getElem?_set]
      simp [wipe_length]
    · rw [List.getElem?_set_ne e]
      rcases List.mem_cons.mp h with h | h
      · exact absurd h.symm e
      · exact wipe_in h
/-- a block stores to its own names alone -/
def bC (vs : List Nat) : Keep := fun i => !(vs.contains i)
theorem wipe_of {σ τ : L2.St} {vs : List Nat} (k : Kp (bC vs) (wipe σ vs) τ) : wipe τ vs = wipe σ vs := by
  apply List.ext_getElem?
  intro i
  have hl : τ.length = σ.length := by rw [k.1, wipe_length]
  by_cases h : i ∈ vs
  · rw [wipe_in h, wipe_in h, hl]
  · rw [wipe_out h]
    exact k.2 i (by simp [bC, h])
/-- the block's own names as they were -/
def rst (E E2 : En) : List Nat → En
  | [] => E2
  | v :: vs => match E[v]? with
    | some (some (.fz d)) => (rst E E2 vs).set v (some (.fz d))
    | _ => rst E E2 vs
theorem OwnE.rst {K : PySem.W.Frag} {H : Hp} {Z : PA1} {E E2 : En} {σ : L2.St} {S S2 : PA1} {H0 : Hp} {Z0 : PA1} (h0 : OwnE K cl H0 Z0 E σ S) (hz : ∀ a, Z0 a → Z a) (hr : ∀ a, Z0 a → Kept H0 H a) (h : OwnE K cl H Z E2 σ S2) : ∀ vs : List Nat, OwnE K cl H Z (VL.rst E E2 vs) σ S2
  | [] => h
  | v :: vs => by
    have ih := OwnE.rst h0 hz hr h vs
    unfold VL.rst
    split
    · rename_i d hd
      obtain ⟨w, Si, Sr, h1, h2, h3, h4, h5, h6⟩ := h0.take hd
      cases h2 with
      | fz rp =>
        have q := ih.into (i := v) (Si := Emp) (.fz (rp.mono hz hr)) fun _ z _ => z
        rw [set_get h1] at q
        exact q.up fun a z => z.elim False.elim id
    · exact ih
/-- a write to what is owned -/
theorem wr_step {H : Hp} {Z S : PA1} {D : Addr} {o : HO} (ok : Okk H Z S) (hD : S D) : Step H Z S (upd H D o) Z S ∧ Okk (upd H D o) Z S ∧ ∀ a u, a ≠ D → H a = some u → upd H D o a = some u := by
  have k : ∀ a u, a ≠ D → H a = some u → upd H D o a = some u := fun a u n e => by rw [upd_ne n]; exact e
  have al : ∀ a, H a ≠ none → upd H D o a ≠ none := fun a z => by
    by_cases e : a = D
    · subst e; rw [upd_same]; simp
    · rw [upd_ne e]; exact z
  exact ⟨⟨fun _ z => z, fun _ z => .inl z, fun _ z => .inl z, fun a u e n => k a u (fun q => n (q ▸ hD)) e, al⟩, ⟨ok.dis, fun a z => al a (ok.sa a z), fun a z => al a (ok.za a z)⟩, k⟩
theorem OwnL.snoc {K : PySem.W.Frag} {H : Hp} {Z : PA1} : ∀ {ts vs t v} {S S1 : PA1}, OwnL K cl H Z ts vs S → Own K cl H Z t v S1 → Dis S1 S → OwnL K cl H Z (ts ++ [t]) (vs ++ [v]) (Uni S S1)
  | [], _, _, _, S, S1, .nil, q, d => .cons q (.nil (S := Emp)) (fun _ z => .inr z) (fun _ z => z.elim) fun _ _ z => z
  | _ :: ts, _, _, _, S, S1, .cons (S1 := A1) (S2 := A2) p r a1 a2 dd, q, d =>
    .cons (S1 := A1) p (OwnL.snoc r q fun a x y => d a x (a2 a y)) (fun a z => .inl (a1 a z)) (fun a z => z.imp (a2 a) id) fun a x y => y.elim (dd a x) fun y => d a y (a1 a x)

/-! ### list comprehensions -/
def lcE (g : T → En → Option En) (tb : Ev Bool) (te : Ev T) (vs : List Nat) : List D → En → Option (List T × En)
  | [], E => some ([], E)
  | d :: ds, E => match g (.fz d) E with
    | none => none
    | some E1 => match tb E1 with
      | some (.ok true E2) => match te E2 with
        | some (.ok r E3) => match lcE g tb te vs ds (clr E3 vs) with
          | some (rs, E4) => some (r :: rs, E4)
          | none => none
        | _ => none
      | some (.ok false E2) => lcE g tb te vs ds (clr E2 vs)
      | _ => none
def eLc (ti : Ev (List D)) (g : T → En → Option En) (tb : Ev Bool) (te : Ev T) (vs : List Nat) : Ev T := fun E => bnd (ti E) fun ds E1 =>
  if ds.length ≤ 16777216 then match lcE g tb te vs ds (clr E1 vs) with
    | some (rs, E2) => some (.ok (.lst rs) (rst E1 E2 vs))
    | none => none
  else none
theorem lc_go {vs : List Nat} {g : T → En → Option En} {tb : Ev Bool} {te : Ev T} {W : WX} {ds : List D} {E1 : En} {σ : L2.St} {H1 : Hp} {Z1 S1 : PA1} {J : It} {Q : VK}
    (oe1 : OwnE X.K cl H1 Z1 E1 σ S1) (it : ItOk X.K cl J ds H1 Z1) (ok1 : Okk H1 Z1 S1)
    (sat2 : SatV X.K cl W σ H1 Z1 S1 Q (if ds.length ≤ 16777216 then match lcE g tb te vs ds (clr E1 vs) with | some (rs, E2) => some (.ok (.lst rs) (rst E1 E2 vs)) | none => none else none)) (D : Addr) (hD : H1 D = none) :
    ∃ Wf : Nat → Nat → Hp → Prop, (∃ m, Wf 0 m (upd H1 D (.lst []))) ∧ ∀ i m H, Wf i m H →
  (J.stop i H ∧ Q (.ref D) H) ∨ (J.go i H ∧ ∃ Nx : Hp → Prop, (∀ H', Nx H' → ∃ m', m' < m ∧ Wf (i + 1) m' H') ∧ ∀ x H', J.yld i H x H' → gOf X.K cl (bC vs) g x (wipe σ vs) H' fun σ2 H2 => wipe σ2 vs = wipe σ vs ∧ bOf X.K cl W0 tb σ2 H2 fun b H3 =>
    if b = true then tOf X.K cl W0 te σ2 H3 fun y H4 => ∃ acc, H4 D = some (.lst acc) ∧ acc.length < sizeLine ∧ Nx (upd H4 D (.lst (acc ++ [y]))) else Nx H3) := by
  by_cases hsz : ds.length ≤ 16777216
  case neg => rw [if_neg hsz] at sat2; exact sat2.elim
  rw [if_pos hsz] at sat2
  obtain ⟨oeD, stD, okD, dD, kpD⟩ := newObj (St := Emp) (o := .lst []) (ok1.less fun _ z => z.elim False.elim id) (fun _ z _ => z) oe1 hD
  refine ⟨fun i m H' => i ≤ ds.length ∧ m = ds.length - i ∧ ∃ (E' : En) (Z' S' : PA1) (acc : List V) (accT : List T) (Ra : PA1), OwnE X.K cl H' Z' E' (wipe σ vs) S' ∧ H' D = some (.lst acc) ∧ acc.length ≤ i ∧ OwnL X.K cl H' Z' accT acc Ra ∧ ¬ Ra D ∧ ¬ S' D ∧ Dis Ra S' ∧
    Step H1 Z1 S1 H' Z' (Uni (fun a => a = D ∨ Ra a) S') ∧ Okk H' Z' (Uni (fun a => a = D ∨ Ra a) S') ∧
    ∃ rs E'', lcE g tb te vs (ds.drop i) E' = some (rs, E'') ∧ SatV X.K cl W σ H1 Z1 S1 Q (some (.ok (.lst (accT ++ rs)) (rst E1 E'' vs))), ⟨ds.length, Nat.zero_le _, by simp, clr E1 vs, Z1, S1, [], [], Emp, oeD.wiped vs, upd_same, Nat.zero_le _, .nil, fun z => z,
      fun z => dD D (.inl rfl) z, fun _ z _ => z, stD.more fun _ z => z.elim False.elim id, okD, ?_⟩, ?_⟩
  · match hE : lcE g tb te vs ds (clr E1 vs), sat2 with
    | none, sat2 => exact sat2.elim
    | some (rs, E2), sat2 => exact ⟨rs, E2, by simpa using hE, sat2⟩
  rintro i m H' ⟨hle, rfl, E', Z', S', acc, accT, Ra, oe', hD', hacc, owA, nRD, nSD, dRS, st', ok', rs, E'', hlc, satF⟩
  obtain ⟨go, stop⟩ := it i H' Z' st'.zz (fun a o z e => st'.kp a o e fun q => ok1.dis a q z) ok'.za
  by_cases hlt : i < ds.length
  case neg =>
    have e : i = ds.length := by omega
    subst e
    rw [List.drop_length] at hlc
    simp only [lcE] at hlc
    cases hlc
    rw [List.append_nil] at satF
    have oeF : OwnE X.K cl H' Z' E' σ S' → OwnE X.K cl H' Z' (rst E1 E' vs) σ S' := fun q => OwnE.rst oe1 st'.zz (st'.rd ok1.dis) q vs
    have hlenE : ∀ (j : Nat) t, (clr E' vs)[j]? = some (some t) → σ[j]? = (wipe σ vs)[j]? := fun j t q => (wipe_out (clr_get q).1).symm
    refine .inl ⟨stop rfl, ?_⟩
    -- the block's own slots hold nothing any more
    have oe2 : OwnE X.K cl H' Z' (clr E' vs) σ S' := (oe'.clr vs).swap (wipe_length σ vs).symm hlenE
    have oe3 : OwnE X.K cl H' Z' (rst E1 E' vs) σ S' := by
      refine oeF ?_
      refine OwnE.swap oe' (wipe_length σ vs).symm fun j t q => ?_
      by_cases hj : j ∈ vs
      · exfalso
        have hl := oe'.take q
        obtain ⟨w, _, _, h1, _⟩ := hl
        rw [wipe_in hj] at h1
        split at h1 <;> simp at h1
      · exact (wipe_out hj).symm
    exact satF (.ref D) H' Z' (fun a => a = D ∨ Ra a) S' oe3 (.lst (R := Ra) hD' (.inl rfl) (fun b z => ⟨.inr z, fun e => nRD (e ▸ z)⟩) owA) (fun a x y => x.elim (fun e => nSD (e ▸ y)) fun x => dRS a x y) st' ok'
  obtain ⟨d, hd⟩ : ∃ d, ds[i]? = some d := ⟨ds[i], by simp [hlt]⟩
  have hdrop : ds.drop i = d :: ds.drop (i + 1) := by
    rw [List.drop_eq_getElem_cons hlt]
    have : ds[i]? = some ds[i] := by simp [hlt]
    rw [hd] at this; cases this; rfl
  rw [hdrop] at hlc
  obtain ⟨hgo, yl⟩ := go d hd
  refine .inr ⟨hgo, fun H'' => ∃ (E' : En) (Z' S' : PA1) (acc : List V) (accT : List T) (Ra : PA1), OwnE X.K cl H'' Z' E' (wipe σ vs) S' ∧ H'' D = some (.lst acc) ∧ acc.length ≤ i + 1 ∧ OwnL X.K cl H'' Z' accT acc Ra ∧ ¬ Ra D ∧ ¬ S' D ∧ Dis Ra S' ∧
    Step H1 Z1 S1 H'' Z' (Uni (fun a => a = D ∨ Ra a) S') ∧ Okk H'' Z' (Uni (fun a => a = D ∨ Ra a) S') ∧
    ∃ rs E'', lcE g tb te vs (ds.drop (i + 1)) E' = some (rs, E'') ∧ SatV X.K cl W σ H1 Z1 S1 Q (some (.ok (.lst (accT ++ rs)) (rst E1 E'' vs))), fun H'' q => ⟨ds.length - (i + 1), by omega, hlt, rfl, q⟩, fun x H2 y => ?_⟩
  obtain ⟨Z2, st2, za2, rp2⟩ := yl x H2 y
  -- the item has come
  have st2' : Step H' Z' (Uni (fun a => a = D ∨ Ra a) S') H2 Z2 (Uni (fun a => a = D ∨ Ra a) S') := ((st2.frame (R := Uni (fun a => a = D ∨ Ra a) S')).more fun a z => z.elim id False.elim).less fun a z => .inl z
  have ok2 : Okk H2 Z2 (Uni (fun a => a = D ∨ Ra a) S') := (st2.okk (R := Uni (fun a => a = D ∨ Ra a) S') (ok'.less fun a z => z.elim id False.elim) ⟨fun _ z => z.elim, fun _ z => z.elim, za2⟩ fun _ _ z => z).less fun a z => .inl z
  have oe2 := st2.ownE (fun _ z => z.elim) (fun _ _ z => z) oe'
  have owA2 := st2.ownL (fun _ z => z.elim) (fun _ _ z => z) owA
  have hD2 : H2 D = some (.lst acc) := st2.kp D _ hD' fun z => z
  have okS : Okk H2 Z2 S' := ok2.less fun _ z => .inr z
  have stA := st'.trans st2'
  have dHD : Dis (fun a => a = D ∨ Ra a) S' := fun a x y => x.elim (fun e => nSD (e ▸ y)) fun x => dRS a x y
  simp only [lcE] at hlc
  match hE : g (.fz d) E', hlc with
  | some E3, hlc =>
    refine ⟨.fz d, E', Z2, Emp, S', oe2, .fz rp2, fun _ z _ => z, okS.less fun a z => z.elim False.elim id, ?_⟩
    rw [hE]
    intro τ H3 Z3 S3 oe3 kk3 st3 ok3
    have st3' : Step H2 Z2 S' H3 Z3 S3 := st3.more fun a z => z.elim False.elim id
    refine ⟨wipe_of kk3, E3, Z3, S3, oe3, ok3, ?_⟩
    dsimp only at hlc
    match hE2 : tb E3, hlc with
    | some (.ok false E4), hlc =>
      intro H4 Z4 S4 oe4 st4 ok4
      rw [if_neg Bool.false_ne_true]
      have st5 : Step H2 Z2 S' H4 Z4 S4 := st3'.trans st4
      have oe5 := oe4.wiped vs
      rw [wipe_of kk3] at oe5
      exact ⟨clr E4 vs, Z4, S4, acc, accT, Ra, oe5, st5.kp D _ hD2 nSD, by omega, st5.ownL okS.dis dRS owA2, nRD, fun z => st5.dis (R := fun a => a = D) (fun a z => by subst z; rw [hD2]; simp) (fun a x y => nSD (x ▸ y)) D rfl z,
        st5.dis (fun a z => ok2.sa a (.inl (.inr z))) dRS, stA.trans st5.frame, st5.okk ok2 ok4 dHD, rs, E'', hlc, satF⟩
    | some (.ok true E4), hlc =>
      intro H4 Z4 S4 oe4 st4 ok4
      rw [if_pos rfl]
      refine ⟨E4, Z4, S4, oe4, ok4, ?_⟩
      dsimp only at hlc
      match hE3 : te E4, hlc with
      | some (.ok r E5), hlc =>
        intro v H5 Z5 Sr S5 oe5 ow5 d5 st5 ok5
        dsimp only at hlc
        match hE4 : lcE g tb te vs (ds.drop (i + 1)) (clr E5 vs), hlc with
        | some (rs', E6), hlc =>
          cases hlc
          have stT : Step H2 Z2 S' H5 Z5 (Uni Sr S5) := (st3'.trans st4).trans st5
          have hD5 := stT.kp D _ hD2 nSD
          have owA5 := stT.ownL okS.dis dRS owA2
          have okT : Okk H5 Z5 (Uni (fun a => a = D ∨ Ra a) (Uni Sr S5)) := stT.okk ok2 ok5 dHD
          have dT : Dis (fun a => a = D ∨ Ra a) (Uni Sr S5) := stT.dis (fun a z => ok2.sa a (.inl z)) dHD
          have nZ : ¬ Z5 D := fun z => okT.dis D (.inl (.inl rfl)) z
          obtain ⟨stw, okw, kw⟩ := wr_step (o := .lst (acc ++ [v])) okT (D := D) (.inl (.inl rfl))
          have kz : ∀ a, Z5 a → Kept H5 (upd H5 D (.lst (acc ++ [v]))) a := fun a z => .of fun u e => kw a u (fun q => nZ (q ▸ z)) e
          have oe6 := (oe5.wiped vs).mono (fun _ z => z) kz fun a o z e => kw a o (fun q => dT D (.inl rfl) (q ▸ .inr z)) e
          rw [wipe_of kk3] at oe6
          have ow6 : Own X.K cl (upd H5 D (.lst (acc ++ [v]))) Z5 r v Sr := ow5.mono (fun _ z => z) kz fun a o z e => kw a o (fun q => dT D (.inl rfl) (q ▸ .inl z)) e
          have owA6 : OwnL X.K cl (upd H5 D (.lst (acc ++ [v]))) Z5 accT acc Ra := owA5.mono (fun _ z => z) kz fun a o z e => kw a o (fun q => nRD (q ▸ z)) e
          have sub : ∀ a, Uni (fun a => a = D ∨ Uni Ra Sr a) S5 a → Uni (fun a => a = D ∨ Ra a) (Uni Sr S5) a := by intro a z; simp only [Uni] at z ⊢; grind
          refine ⟨acc, hD5, by rw [sizeLine_eq]; omega, clr E5 vs, Z5, S5, acc ++ [v], accT ++ [r], Uni Ra Sr, oe6, upd_same, by simp; omega, owA6.snoc ow6 fun a x y => dT a (.inr y) (.inl x), fun z => z.elim nRD fun z => dT D (.inl rfl) (.inl z),
            fun z => dT D (.inl rfl) (.inr z), fun a x y => x.elim (fun x => dT a (.inr x) (.inr y)) fun x => d5 a x y, ((stA.trans stT.frame).trans stw).less sub, okw.less sub, rs', E'', hE4, by simpa using satF⟩
theorem lc_run {tg iter : Expr} {vs : List Nat} {ti : Ev (List D)} {g : T → En → Option En} {tb : Ev Bool} {te : Ev T} {W : WX} {wi : TI} (qi : ∀ E σ H Z (S : PA1) R, OwnE X.K cl H Z E σ S → Okk H Z S → SatI X.K cl W σ H Z S R (ti E) → wi σ H R)
    (E : En) (σ : L2.St) (H : Hp) (Z S : PA1) (Q : VK) (oe : OwnE X.K cl H Z E σ S) (ok : Okk H Z S) (sat : SatV X.K cl W σ H Z S Q (eLc ti g tb te vs E)) : tLc wi (gOf X.K cl (bC vs) g) (bOf X.K cl W0 tb) (tOf X.K cl W0 te) vs σ H Q := by
  refine qi E σ H Z S _ oe ok (satI_bnd (β := T) (κ := VK) (q := Q) sat fun ds E1 sat1 J H1 Z1 S1 oe1 it st1 ok1 D hD => ?_)
  exact lc_go oe1 it ok1 (SatV.re st1 sat1) D hD

theorem ie_lc {elt tg iter : Expr} {ifs : List Expr} {scope : Scope} (own : List (Str × Nat)) {pos : Pos} {ti : Ev (List D)} {g : T → En → Option En} {tb : Ev Bool} {te : Ev T} (hc : X.calm = true) (hN : X.N.Nodup) (hi : II X cl tg iter ti) (okB : BlkOk X.N X.env.scope scope own)
    (hg : ∀ (s : Shared) (H : Hp) (C : Addr) (clo : List (Str × Addr)) (fp : List Addr), IG (X.blk s H scope (compEnvC scope clo C X.env) fp) cl (bC (own.map (·.2))) tg g)
    (ht : ∀ (s : Shared) (H : Hp) (C : Addr) (clo : List (Str × Addr)) (fp : List Addr), ITs (X.blk s H scope (compEnvC scope clo C X.env) fp) cl ifs tb)
    (he : ∀ (s : Shared) (H : Hp) (C : Addr) (clo : List (Str × Addr)) (fp : List Addr), IE (X.blk s H scope (compEnvC scope clo C X.env) fp) cl elt te) (hs : ∀ x, foldedSetIterable iter X.env x = pure x := by intro _; rfl) :
    IE X cl (.ListComp elt [⟨tg, iter, ifs, 0⟩] scope pos) (eLc ti g tb te (own.map (·.2))) := by
  refine ⟨fun W tk => ?_⟩
  obtain ⟨wi, pi, qi⟩ := hi.run W tk
  exact ⟨_, pe_lc (g := gOf X.K cl (bC (own.map (·.2))) g) (tt := bOf X.K cl W0 tb) (te := tOf X.K cl W0 te) hc hN pi okB (fun s H C clo fp => (hg s H C clo fp).pg) (fun s H C clo fp => (ht s H C clo fp).run W0 takes0) (fun s H C clo fp => (he s H C clo fp).pe (W := W0) takes0) hs,
    fun E σ H Z S Q oe ok sat => lc_run (tg := tg) (iter := iter) qi E σ H Z S Q oe ok sat⟩
/-- name = [..] -/
theorem is_setLc (i : Nat) {y : Str} {py spos : Pos} {elt tg iter : Expr} {ifs : List Expr} {scope : Scope} (own : List (Str × Nat)) {pos : Pos} {ti : Ev (List D)} {g : T → En → Option En} {tb : Ev Bool} {te : Ev T} (hc : X.calm = true) (hN : X.N.Nodup) (hi : II X cl tg iter ti) (okB : BlkOk X.N X.env.scope scope own)
    (hg : ∀ (s : Shared) (H : Hp) (C : Addr) (clo : List (Str × Addr)) (fp : List Addr), IG (X.blk s H scope (compEnvC scope clo C X.env) fp) cl (bC (own.map (·.2))) tg g)
    (ht : ∀ (s : Shared) (H : Hp) (C : Addr) (clo : List (Str × Addr)) (fp : List Addr), ITs (X.blk s H scope (compEnvC scope clo C X.env) fp) cl ifs tb)
    (he : ∀ (s : Shared) (H : Hp) (C : Addr) (clo : List (Str × Addr)) (fp : List Addr), IE (X.blk s H scope (compEnvC scope clo C X.env) fp) cl elt te) (hs : ∀ x, foldedSetIterable iter X.env x = pure x := by intro _; rfl) (hk : kp i = false := by rfl) (hy : X.N[i]? = some y := by rfl) (hyl : X.env.scope.names.lookup y = some .local := by rfl) (hsw : swapsWith (.ListComp elt [⟨tg, iter, ifs, 0⟩] scope pos) (some (.Name y py)) spos.line X.env = pure true := by rfl) :
    IS X cl kp (.Assign [.Name y py] (.ListComp elt [⟨tg, iter, ifs, 0⟩] scope pos) spos) (sSet i (eLc ti g tb te (own.map (·.2)))) := by
  refine ⟨fun W tk => ?_⟩
  obtain ⟨wi, pi, qi⟩ := hi.run W tk
  refine ⟨_, ps_setLc (g := gOf X.K cl (bC (own.map (·.2))) g) (tt := bOf X.K cl W0 tb) (te := tOf X.K cl W0 te) hc hN hy hyl hsw pi okB (fun s H C clo fp => (hg s H C clo fp).pg) (fun s H C clo fp => (ht s H C clo fp).run W0 takes0) (fun s H C clo fp => (he s H C clo fp).pe (W := W0) takes0) hs, fun E σ H Z S D oe ok sat => ?_⟩
  refine lc_run (tg := tg) (iter := iter) qi E σ H Z S _ oe ok (satV_bnd (β := Fl) (κ := Keep × Ends) (q := (kp, D)) sat fun r E1 sat1 v H1 Z1 Sr S1 oe1 ow1 d1 st1 ok1 => ?_)
  have sat2 : SatS X.K cl W kp σ H Z S D (some (.ok .nx (E1.set i (some (.fz (frz r)))))) := sat1
  obtain ⟨s2, o2⟩ := freezeStep ok1 d1
  have rp := ow1.frz (Z' := Uni Z1 Sr) (fun _ z => .inl z) fun _ z => .inr z
  exact sat2 (σ.set i (some v)) H1 (Uni Z1 Sr) S1 (((oe1.zmore (Z' := Uni Z1 Sr) fun _ z => .inl z).into (Si := Emp) (i := i) (.fz rp) fun _ z _ => z).up fun a z => z.elim False.elim id) (Kp.set hk) (st1.trans s2) o2
theorem is_ownLc (i : Nat) {y : Str} {py spos : Pos} {elt tg iter : Expr} {ifs : List Expr} {scope : Scope} (own : List (Str × Nat)) {pos : Pos} {ti : Ev (List D)} {g : T → En → Option En} {tb : Ev Bool} {te : Ev T} (hc : X.calm = true) (hN : X.N.Nodup) (hi : II X cl tg iter ti) (okB : BlkOk X.N X.env.scope scope own)
    (hg : ∀ (s : Shared) (H : Hp) (C : Addr) (clo : List (Str × Addr)) (fp : List Addr), IG (X.blk s H scope (compEnvC scope clo C X.env) fp) cl (bC (own.map (·.2))) tg g)
    (ht : ∀ (s : Shared) (H : Hp) (C : Addr) (clo : List (Str × Addr)) (fp : List Addr), ITs (X.blk s H scope (compEnvC scope clo C X.env) fp) cl ifs tb)
    (he : ∀ (s : Shared) (H : Hp) (C : Addr) (clo : List (Str × Addr)) (fp : List Addr), IE (X.blk s H scope (compEnvC scope clo C X.env) fp) cl elt te) (hs : ∀ x, foldedSetIterable iter X.env x = pure x := by intro _; rfl) (hk : kp i = false := by rfl) (hy : X.N[i]? = some y := by rfl) (hyl : X.env.scope.names.lookup y = some .local := by rfl) (hsw : swapsWith (.ListComp elt [⟨tg, iter, ifs, 0⟩] scope pos) (some (.Name y py)) spos.line X.env = pure true := by rfl) :
    IS X cl kp (.Assign [.Name y py] (.ListComp elt [⟨tg, iter, ifs, 0⟩] scope pos) spos) (sOwn i (eLc ti g tb te (own.map (·.2)))) := by
  refine ⟨fun W tk => ?_⟩
  obtain ⟨wi, pi, qi⟩ := hi.run W tk
  refine ⟨_, ps_setLc (g := gOf X.K cl (bC (own.map (·.2))) g) (tt := bOf X.K cl W0 tb) (te := tOf X.K cl W0 te) hc hN hy hyl hsw pi okB (fun s H C clo fp => (hg s H C clo fp).pg) (fun s H C clo fp => (ht s H C clo fp).run W0 takes0) (fun s H C clo fp => (he s H C clo fp).pe (W := W0) takes0) hs, fun E σ H Z S D oe ok sat => ?_⟩
  refine lc_run (tg := tg) (iter := iter) qi E σ H Z S _ oe ok (satV_bnd (β := Fl) (κ := Keep × Ends) (q := (kp, D)) sat fun r E1 sat1 v H1 Z1 Sr S1 oe1 ow1 d1 st1 ok1 => ?_)
  have sat2 : SatS X.K cl W kp σ H Z S D (some (.ok .nx (E1.set i (some r)))) := sat1
  exact sat2 (σ.set i (some v)) H1 Z1 (Uni Sr S1) (oe1.into ow1 d1) (Kp.set hk) st1 ok1

/-! ### texts, and whatever else, are walked -/
def strD (z : Str) : List D := z.cps.toList.map fun c => .str ⟨#[c]⟩
theorem itok_str {K : PySem.W.Frag} {H : Hp} {Z : PA1} {z : Str} : ItOk K cl (Its z) (strD z) H Z := by
  intro i H1 Z1 hz hr hza
  refine ⟨fun d hd => ?_, fun e => ?_⟩
  · unfold strD at hd
    rw [List.getElem?_map] at hd
    cases hc : z.cps.toList[i]? with
    | none => rw [hc] at hd; cases hd
    | some c =>
      rw [hc] at hd
      cases hd
      have hi : i < z.cps.size := by have := (List.getElem?_eq_some_iff.mp hc).1; simpa using this
      refine ⟨hi, fun x H2 y => ?_⟩
      obtain ⟨e, c', hc', rfl⟩ := y
      subst e
      rw [← Array.getElem?_toList, hc] at hc'
      cases hc'
      exact ⟨Z1, Step.refl, hza, .str _⟩
  · unfold strD at e
    simp at e
    show z.cps.size ≤ i
    omega
def iAny (t : Ev T) : Ev (List D) := fun E => bnd (t E) fun r E1 => match frz r with
  | .lst ds => some (.ok ds E1)
  | .tup ds => some (.ok ds E1)
  | .str z => some (.ok (strD z) E1)
  | _ => none
theorem PI.or {tg e : Expr} {w1 w2 : TI} (h1 : PI X tg e w1) (h2 : PI X tg e w2) : PI X tg e (fun σ H R => w1 σ H R ∨ w2 σ H R) :=
  ⟨fun pins s σ H R I h => h.elim (h1.run pins s σ H R I) (h2.run pins s σ H R I)⟩
theorem ii_any {tg l : Expr} {t : Ev T} (h : IE X cl l t) : II X cl tg l (iAny t) := by
  refine ⟨fun W tk => ?_⟩
  obtain ⟨te, p, q⟩ := h.fz W tk
  refine ⟨_, PI.or (pi_list p) (PI.or (pi_tup p) (pi_str p)), fun E σ H Z S R oe ok sat => ?_⟩
  unfold iAny at sat
  match hE : t E, sat with
  | none, sat => exact sat.elim
  | some (.ex x E1), sat =>
    refine .inl (q E σ H Z S _ oe ok ?_)
    rw [hE]; exact sat
  | some (.ok r E1), sat =>
    simp only [bnd_ok] at sat
    match hf : frz r, sat with
    | .lst ds, sat =>
      refine .inl (q E σ H Z S _ oe ok ?_)
      rw [hE]
      intro v H1 Z1 S1 oe1 rp st1 ok1
      rw [hf] at rp
      cases rp with
      | @lst a vs _ q0 q1 rl => exact ⟨a, rfl, ⟨vs, SqL.of q1⟩, sat _ H1 Z1 S1 oe1 (itok_list (.lst q0 q1 rl)) st1 ok1⟩
    | .tup ds, sat =>
      refine .inr (.inl (q E σ H Z S _ oe ok ?_))
      rw [hE]
      intro v H1 Z1 S1 oe1 rp st1 ok1
      rw [hf] at rp
      cases rp with
      | @tup a vs _ q0 q1 rl => exact ⟨a, rfl, ⟨vs, (TupP.sq q1)⟩, sat _ H1 Z1 S1 oe1 (itok_tup (.tup q0 q1 rl)) st1 ok1⟩
    | .str z, sat =>
      refine .inr (.inr (q E σ H Z S _ oe ok ?_))
      rw [hE]
      intro v H1 Z1 S1 oe1 rp st1 ok1
      rw [hf] at rp
      cases rp with
      | str _ => exact ⟨z, rfl, sat _ H1 Z1 S1 oe1 itok_str st1 ok1⟩
end
end VL

namespace VL
open PySem PySem.Spec PyProof.Rows L2

/-! ### values at places -/
theorem getP_snoc : ∀ {p : List Nat} {t : T} {n : Nat}, getP t (p ++ [n]) = (getP t p).bind fun u => (kids u)[n]?
  | [], t, n => by
    simp only [List.nil_append, getP, Option.bind_some]
    cases (kids t)[n]? <;> rfl
  | m :: p, t, n => by
    simp only [List.cons_append, getP]
    cases (kids t)[m]? with
    | none => rfl
    | some k => exact getP_snoc
theorem valP_snoc {H : Hp} : ∀ {p : List Nat} {v : V} {n : Nat}, valP H v (p ++ [n]) = (valP H v p).bind fun u => kidV H u n
  | [], v, n => by
    simp only [List.nil_append, valP, Option.bind_some]
    cases kidV H v n <;> rfl
  | m :: p, v, n => by
    simp only [List.cons_append, valP]
    cases kidV H v m with
    | none => rfl
    | some k => exact valP_snoc
section
variable {K : PySem.W.Frag} {cl : Str → Addr} {H H' : Hp} {Z : PA1}
theorem Own.kidKeep {t v} {S : PA1} {n : Nat} {u : T} {w : V} (h : Own K cl H Z t v S) (hk : (kids t)[n]? = some u) (k : ∀ a o, S a → H a = some o → H' a = some o) (hv : kidV H v n = some w) : kidV H' v n = some w := by
  cases h with
  | fz h => simp [kids] at hk
  | tup h1 h2 _ _ => obtain ⟨ob, dn, h1⟩ := h1; simp only [kidV, h1] at hv; simp only [kidV, k _ _ h2 h1]; exact hv
  | lst h1 h2 _ _ => simp only [kidV, h1] at hv; simp only [kidV, k _ _ h2 h1]; exact hv
  | dct h1 h2 _ _ _ => simp only [kidV, h1] at hv; simp only [kidV, k _ _ h2 h1]; exact hv
  | dcT h1 h2 _ _ _ => simp only [kidV, h1] at hv; simp only [kidV, k _ _ h2 h1]; exact hv
  | ins h1 h2 _ _ _ => simp only [kidV, h1] at hv; simp only [kidV, k _ _ h2 h1]; exact hv
theorem Own.valKeep : ∀ {p : List Nat} {t v} {S : PA1} {u : T} {w : V}, Own K cl H Z t v S → getP t p = some u → (∀ a o, S a → H a = some o → H' a = some o) → valP H v p = some w → valP H' v p = some w
  | [], _, _, _, _, _, _, _, _, hv => hv
  | n :: p, t, v, S, u, w, h, hp, k, hv => by
    simp only [getP] at hp
    cases hk : (kids t)[n]? with
    | none => rw [hk] at hp; cases hp
    | some kd =>
      rw [hk] at hp
      obtain ⟨w1, S1, R1, a1, a2, a3, a4, a5, a6⟩ := h.kid hk
      simp only [valP, a1] at hv
      simp only [valP, h.kidKeep hk k a1]
      exact Own.valKeep a2 hp (fun a o z => k a o (a3 a z)) hv
end
def SatP (K : PySem.W.Frag) (cl : Str → Addr) (W : WX) (σ : L2.St) (H : Hp) (Z S : PA1) (Q : VK) : Option (Out Loc) → Prop
  | none => False
  | some (.ok l E') => (getE E' l).isSome = true ∧ ∀ w H' Z' (S' : PA1), OwnE K cl H' Z' E' σ S' → valE H' σ l = some w → Step H Z S H' Z' S' → Okk H' Z' S' → Q w H'
  | some (.ex x E') => SatX K cl W σ H Z S x E'
theorem SatP.re {K : PySem.W.Frag} {cl : Str → Addr} {W : WX} {σ : L2.St} {H H1 : Hp} {Z S Z1 S1 : PA1} {Q : VK} {o} (st : Step H Z S H1 Z1 S1) (h : SatP K cl W σ H Z S Q o) : SatP K cl W σ H1 Z1 S1 Q o := by
  match o with
  | none => exact h
  | some (.ok l E') => exact ⟨h.1, fun w H' Z' S' a b s o => h.2 w H' Z' S' a b (st.trans s) o⟩
  | some (.ex x E') => exact SatX.re st h
structure SPk where
  q : VK
instance : Sats Loc SPk := ⟨fun K cl W σ H Z S q o => SatP K cl W σ H Z S q.q o, fun st h => SatP.re st h, fun h => h, fun h => h⟩
structure IP (X : Cx) (cl : Str → Addr) (e : Expr) (t : Ev Loc) : Prop where
  run : ∀ W, Takes X W → ∃ te, PE X e te ∧ ∀ E σ H Z (S : PA1) Q, OwnE X.K cl H Z E σ S → Okk H Z S → SatP X.K cl W σ H Z S Q (t E) → te σ H Q
/-- beside a name whose value stays -/
def Stay (H : Hp) (σ : L2.St) (H' : Hp) (i : Nat) (E E' : En) : Prop := E'[i]? = E[i]? ∧ ∀ l w, l.i = i → (getE E l).isSome = true → valE H σ l = some w → valE H' σ l = some w
def SatVs (K : PySem.W.Frag) (cl : Str → Addr) (W : WX) (i : Nat) (E : En) (σ : L2.St) (H : Hp) (Z S : PA1) (Q : VK) : Option (Out T) → Prop
  | none => False
  | some (.ok r E') => ∀ v H' Z' (Sr S' : PA1), OwnE K cl H' Z' E' σ S' → Own K cl H' Z' r v Sr → Dis Sr S' → Stay H σ H' i E E' → Step H Z S H' Z' (Uni Sr S') → Okk H' Z' (Uni Sr S') → Q v H'
  | some (.ex x E') => SatX K cl W σ H Z S x E'
def SatMs (K : PySem.W.Frag) (cl : Str → Addr) (W : WX) (i : Nat) (E : En) (σ : L2.St) (H : Hp) (Z S : PA1) (Q : List V → Hp → Prop) : Option (Out (List T)) → Prop
  | none => False
  | some (.ok r E') => ∀ v H' Z' (Sr S' : PA1), OwnE K cl H' Z' E' σ S' → OwnL K cl H' Z' r v Sr → Dis Sr S' → Stay H σ H' i E E' → Step H Z S H' Z' (Uni Sr S') → Okk H' Z' (Uni Sr S') → Q v H'
  | some (.ex x E') => SatX K cl W σ H Z S x E'
structure IEs (X : Cx) (cl : Str → Addr) (i : Nat) (e : Expr) (t : Ev T) : Prop where
  run : ∀ W, Takes X W → ∃ te, PE X e te ∧ ∀ E σ H Z (S : PA1) Q, OwnE X.K cl H Z E σ S → Okk H Z S → SatVs X.K cl W i E σ H Z S Q (t E) → te σ H Q
structure IMs (X : Cx) (cl : Str → Addr) (i : Nat) (es : List Expr) (t : Ev (List T)) : Prop where
  run : ∀ W, Takes X W → ∃ te, PA X es te ∧ ∀ E σ H Z (S : PA1) Q, OwnE X.K cl H Z E σ S → Okk H Z S → SatMs X.K cl W i E σ H Z S Q (t E) → te σ H Q
section
variable {X : Cx} {cl : Str → Addr} {kp : Keep} {pos : Pos} {i : Nat}
theorem stay_all {H H' : Hp} {σ : L2.St} {E : En} {K : PySem.W.Frag} {Z S : PA1} (oe : OwnE K cl H Z E σ S) (k : ∀ a o, H a = some o → H' a = some o) : Stay H σ H' i E E := by
  refine ⟨rfl, fun l w _ hg hv => ?_⟩
  unfold getE at hg
  match hE : E[l.i]?, hg with
  | some (some t), hg =>
    obtain ⟨v, Si, Sr, h1, h2, h3, h4, h5, h6⟩ := oe.take hE
    obtain ⟨u, hu⟩ := Option.isSome_iff_exists.mp hg
    simp only [valE, h1] at hv ⊢
    exact h2.valKeep hu (fun a o _ e => k a o e) hv
theorem ies_peek {e : Expr} {t : Ev T} (h : IE X cl e t) : IEs X cl i e (ePeek t) := by
  refine ⟨fun W tk => ?_⟩
  obtain ⟨te, p, q⟩ := h.run W tk
  refine ⟨te, p, fun E σ H Z S Q oe ok sat => ?_⟩
  refine q (frzE E) σ H (Uni Z S) Emp Q (oe.frzE (fun _ z => .inl z) fun _ z => .inr z) ok.peek ?_
  unfold ePeek at sat
  match hE : t (frzE E), sat with
  | some (.ok r E1), sat =>
    dsimp only at sat
    by_cases c : clT r = true
    · rw [if_pos c] at sat
      intro v H' Z1 Sr S' oe1 ow1 d1 st1 ok1
      obtain ⟨s1, o1, dd, kp⟩ := peekStep ok st1 ok1
      exact sat v H' Z Sr S (oe.mono (fun _ z => z) (fun a _ => .of (kp a)) fun a o _ e => kp a o e) (ow1.closed c) dd (stay_all oe kp) s1 o1
    · rw [if_neg c] at sat; exact sat.elim
  | some (.ex x E1), sat => exact sat.elim
  | none, sat => exact sat.elim
def mPeek (t : Ev (List T)) : Ev (List T) := fun E => match t (frzE E) with
  | some (.ok r _) => if clL r = true then some (.ok r E) else none
  | _ => none
theorem ims_peek {es : List Expr} {ms : List (Option Nat)} {t : Ev (List T)} (h : IM X cl es ms t) : IMs X cl i es (mPeek t) := by
  refine ⟨fun W tk => ?_⟩
  obtain ⟨te, p, q⟩ := h.run W tk
  refine ⟨te, p, fun E σ H Z S Q oe ok sat => ?_⟩
  refine q (frzE E) σ H (Uni Z S) Emp Q (oe.frzE (fun _ z => .inl z) fun _ z => .inr z) ok.peek ?_
  unfold mPeek at sat
  match hE : t (frzE E), sat with
  | some (.ok r E1), sat =>
    dsimp only at sat
    by_cases c : clL r = true
    · rw [if_pos c] at sat
      intro v H' Z1 Sr S' oe1 ow1 d1 mv st1 ok1
      obtain ⟨s1, o1, dd, kp⟩ := peekStep ok st1 ok1
      exact sat v H' Z Sr S (oe.mono (fun _ z => z) (fun a _ => .of (kp a)) fun a o _ e => kp a o e) (ow1.closed c) dd (stay_all oe kp) s1 o1
    · rw [if_neg c] at sat; exact sat.elim
  | some (.ex x E1), sat => exact sat.elim
  | none, sat => exact sat.elim
/-- beside the name i, which is taken out meanwhile -/
def sid {α : Type} (i : Nat) (t : Ev α) : Ev α := fun E => match E[i]? with
  | some (some root) => match t (E.set i none) with
    | some (.ok y E2) => some (.ok y (E2.set i (some root)))
    | some (.ex x E2) => some (.ex x (E2.set i (some root)))
    | none => none
  | _ => none
theorem side_back {K : PySem.W.Frag} {H H' : Hp} {Z Z' Si Sr Sq S' : PA1} {E E2 : En} {σ : L2.St} {root : T} {v : V} (hE : E[i]? = some (some root)) (hl : E.length = σ.length) (h1 : σ[i]? = some (some v)) (h2 : Own K cl H Z root v Si) (h4 : Dis Si Sr) (ok : Okk H Z (Uni Si Sr))
    (oe2 : OwnE K cl H' Z' E2 σ S') (st : Step H Z Sr H' Z' (Uni Sq S')) (ok2 : Okk H' Z' (Uni Sq S')) :
    OwnE K cl H' Z' (E2.set i (some root)) σ (Uni Si S') ∧ Dis Sq (Uni Si S') = Dis Sq (Uni Si S') ∧ (∀ a, Sq a → ¬ Si a) ∧ Step H Z (Uni Si Sr) H' Z' (Uni Sq (Uni Si S')) ∧ Okk H' Z' (Uni Sq (Uni Si S')) ∧ Stay H σ H' i E (E2.set i (some root)) := by
  have okr : Okk H Z Sr := ok.less fun _ z => .inr z
  have dd := st.dis (R := Si) (fun a z => ok.sa a (.inl z)) h4
  have ow := st.own okr.dis h4 h2
  have q := oe2.into (i := i) ow fun a x y => dd a x (.inr y)
  rw [set_get h1] at q
  have st2 := st.frame (R := Si)
  have ok3 := st.okk (R := Si) ok ok2 h4
  have sub : ∀ a, Uni Sq (Uni Si S') a → Uni Si (Uni Sq S') a := by intro a z; simp only [Uni] at z ⊢; grind
  refine ⟨q, rfl, fun a x y => dd a y (.inl x), st2.less sub, ok3.less sub, ?_, fun l w hl' hg hv => ?_⟩
  · rw [hE]
    exact List.getElem?_set_self (by rw [oe2.len, ← hl]; exact (List.getElem?_eq_some_iff.mp hE).1)
  · unfold getE at hg
    rw [hl', hE] at hg
    obtain ⟨u, hu⟩ := Option.isSome_iff_exists.mp hg
    simp only [valE, hl', h1] at hv ⊢
    exact h2.valKeep hu (fun a o z e => st.kp a o e fun y => h4 a z y) hv
theorem ies_side {e : Expr} {t : Ev T} (h : IE X cl e t) : IEs X cl i e (sid i t) := by
  refine ⟨fun W tk => ?_⟩
  obtain ⟨te, p, q⟩ := h.run W tk
  refine ⟨te, p, fun E σ H Z S Q oe ok sat => ?_⟩
  unfold sid at sat
  match hE : E[i]?, sat with
  | some (some root), sat =>
    obtain ⟨v, Si, Sr, h1, h2, h3, h4, h5, h6⟩ := oe.take hE
    have ok' : Okk H Z (Uni Si Sr) := ok.less fun a z => z.elim (h5 a) (h6 a)
    refine q (E.set i none) σ H Z Sr Q h3 (ok.less h6) ?_
    dsimp only at sat
    match hT : t (E.set i none), sat with
    | none, sat => exact sat.elim
    | some (.ok r E2), sat =>
      intro w H' Z' Sq S' oe2 ow2 d2 st2 ok2
      obtain ⟨a1, _, a3, a4, a5, a6⟩ := side_back hE oe.len h1 h2 h4 ok' oe2 st2 ok2
      exact sat w H' Z' Sq (Uni Si S') a1 ow2 (fun a x y => y.elim (a3 a x) (d2 a x)) a6 (a4.more fun a z => z.elim (h5 a) (h6 a)) a5
    | some (.ex x E2), sat =>
      intro c d H' Z' S' oe2 xr st2 ok2
      obtain ⟨a1, _, a3, a4, a5, a6⟩ := side_back (Sq := Emp) hE oe.len h1 h2 h4 ok' oe2 (st2.less fun a z => z.elim False.elim id) (ok2.less fun a z => z.elim False.elim id)
      exact sat c d H' Z' (Uni Si S') a1 xr ((a4.more fun a z => z.elim (h5 a) (h6 a)).less fun a z => .inr z) (a5.less fun a z => .inr z)
  | some none, sat => exact sat.elim
  | none, sat => exact sat.elim
theorem ims_side {es : List Expr} {ms : List (Option Nat)} {t : Ev (List T)} (h : IM X cl es ms t) : IMs X cl i es (sid i t) := by
  refine ⟨fun W tk => ?_⟩
  obtain ⟨te, p, q⟩ := h.run W tk
  refine ⟨te, p, fun E σ H Z S Q oe ok sat => ?_⟩
  unfold sid at sat
  match hE : E[i]?, sat with
  | some (some root), sat =>
    obtain ⟨v, Si, Sr, h1, h2, h3, h4, h5, h6⟩ := oe.take hE
    have ok' : Okk H Z (Uni Si Sr) := ok.less fun a z => z.elim (h5 a) (h6 a)
    refine q (E.set i none) σ H Z Sr Q h3 (ok.less h6) ?_
    dsimp only at sat
    match hT : t (E.set i none), sat with
    | none, sat => exact sat.elim
    | some (.ok r E2), sat =>
      intro w H' Z' Sq S' oe2 ow2 d2 mv st2 ok2
      obtain ⟨a1, _, a3, a4, a5, a6⟩ := side_back hE oe.len h1 h2 h4 ok' oe2 st2 ok2
      exact sat w H' Z' Sq (Uni Si S') a1 ow2 (fun a x y => y.elim (a3 a x) (d2 a x)) a6 (a4.more fun a z => z.elim (h5 a) (h6 a)) a5
    | some (.ex x E2), sat =>
      intro c d H' Z' S' oe2 xr st2 ok2
      obtain ⟨a1, _, a3, a4, a5, a6⟩ := side_back (Sq := Emp) hE oe.len h1 h2 h4 ok' oe2 (st2.less fun a z => z.elim False.elim id) (ok2.less fun a z => z.elim False.elim id)
      exact sat c d H' Z' (Uni Si S') a1 xr ((a4.more fun a z => z.elim (h5 a) (h6 a)).less fun a z => .inr z) (a5.less fun a z => .inr z)
  | some none, sat => exact sat.elim
  | none, sat => exact sat.elim

/-! ### places by expressions -/
def pName (i : Nat) : Ev Loc := fun E => match E[i]? with
  | some (some _) => some (.ok ⟨i, []⟩ E)
  | _ => none
theorem ip_name (i : Nat) {x : Str} (hN : X.N[i]? = some x := by rfl) (hv : Vis X.env.scope x := by first | exact Or.inl rfl | exact Or.inr (Or.inl rfl) | exact Or.inr (Or.inr rfl)) (hd : (x == ("__debug__" : Str)) = false := by decide) (hcd : (x == ("__classdict__" : Str)) = false := by decide) : IP X cl (.Name x pos) (pName i) := by
  refine ⟨fun W tk => ⟨tVar i, pe_var hN hv hd hcd, fun E σ H Z S Q oe ok sat => ?_⟩⟩
  unfold pName at sat
  match hE : E[i]?, sat with
  | some (some t), sat =>
    obtain ⟨v, Si, Sr, h1, h2, h3, h4, h5, h6⟩ := oe.take hE
    exact ⟨v, h1, sat.2 v H Z S oe (by simp only [valE, h1, valP]) Step.refl ok⟩
  | some none, sat => exact sat.elim
  | none, sat => exact sat.elim
def kidIx : T → D → Option Nat
  | .lst ts, .int k => ixN ts.length k
  | .tup ts, .int k => ixN ts.length k
  | .dct ks, y => (keyD y).bind fun k => keyIx (ks.map (·.1)) k
  | .dcT ks, y => (keysD y).bind fun k => keyIx (ks.map (·.1)) k
  | _, _ => none
theorem kidIx_run {K : PySem.W.Frag} {H : Hp} {Z Z2 : PA1} {u : T} {w : V} {Su : PA1} {y : D} {yv : V} {n : Nat} {k : T} {Q : VK} (h : Own K cl H Z u w Su) (r : Rp K cl H Z2 y yv) (hn : kidIx u y = some n) (hk : (kids u)[n]? = some k) (q : ∀ z, kidV H w n = some z → Q z H) : rIxA K w yv H Q := by
  have at_ : ∀ {vs : List V} {ts : List T} {R : PA1} {i : Int}, OwnL K cl H Z ts vs R → ixN ts.length i = some n → ts[n]? = some k → ∃ z, vs[n]? = some z ∧ atI vs i = some z := fun {vs ts R i} rl h1 h2 => by
    obtain ⟨z, _, _, hz, _⟩ := rl.kid h2
    refine ⟨z, hz, ?_⟩
    unfold atI
    rw [← rl.len, h1]
    exact hz
  cases h with
  | fz h => simp [kids] at hk
  | @lst a vs ts _ R h1 h2 h3 rl =>
    cases r with
    | int i =>
      obtain ⟨z, hz, ha⟩ := at_ rl hn hk
      exact .inl (.inl ⟨a, vs, i, z, rfl, rfl, SqL.of h1, ha, q z (by simp only [kidV, h1]; exact hz)⟩)
    | _ => simp [kidIx] at hn
  | @tup a vs ts _ R h1 h2 h3 rl =>
    cases r with
    | int i =>
      obtain ⟨z, hz, ha⟩ := at_ rl hn hk
      obtain ⟨ob, dn, h1⟩ := h1
      exact .inl (.inr (.inl ⟨a, vs, i, z, rfl, rfl, TupP.sq ⟨ob, dn, h1⟩, ha, q z (by simp only [kidV, h1]; exact hz)⟩))
    | _ => simp [kidIx] at hn
  | @dct a kvs ks _ R h1 h2 h3 h4 rl =>
    simp only [kidIx] at hn
    cases e : keyD y with
    | none => rw [e] at hn; cases hn
    | some ky =>
      rw [e] at hn
      have hn' : keyIx (ks.map (·.1)) ky = some n := hn
      obtain ⟨z, _, _, hz, _⟩ := rl.kid (n := n) (t := k) hk
      refine .inr ⟨a, z, rfl, .inl ⟨kvs, ky, .inl h1, keyD_rp r e, ?_⟩, q z (by simp only [kidV, h1]; exact hz)⟩
      have hv : valV kvs ky = _ := valV_ix (kvs := kvs) (k := ky)
      rw [← h4, hn'] at hv
      exact (hv.trans hz).symm
  | @dcT a kvs ks _ R h1 h2 h3 h4 rl =>
    simp only [kidIx] at hn
    cases e : keysD y with
    | none => rw [e] at hn; cases hn
    | some ky =>
      rw [e] at hn
      have hn' : keyIx (ks.map (·.1)) ky = some n := hn
      obtain ⟨z, _, _, hz, _⟩ := rl.kid (n := n) (t := k) hk
      obtain ⟨b, rfl, hb⟩ := keysD_rp r e
      refine .inr ⟨a, z, rfl, .inr ⟨kvs, ky, b, .inl h1, rfl, hb, ?_⟩, q z (by simp only [kidV, h1]; exact hz)⟩
      have hv : valV kvs ky = _ := valV_ix (kvs := kvs) (k := ky)
      rw [← h4, hn'] at hv
      exact (hv.trans hz).symm
  | ins => cases r <;> simp [kidIx] at hn
/-- path[index] as a place -/
def pIx (i : Nat) (tp : Ev Loc) (ti : Ev T) : Ev Loc := fun E => bnd (tp E) fun l E1 => if l.i = i then match getE E1 l with
  | some u => bnd (ti E1) fun y E2 => match kidIx u (frz y) with
    | some n => match (kids u)[n]? with
      | some _ => some (.ok ⟨l.i, l.p ++ [n]⟩ E2)
      | none => none
    | none => none
  | none => none else none
theorem getE_eq {E E' : En} {l : Loc} (h : E'[l.i]? = E[l.i]?) : getE E' l = getE E l := by simp only [getE, h]
theorem ip_ix (i : Nat) {a b : Expr} {tp : Ev Loc} {ti : Ev T} (hu : X.A.units + 1 < cLine) (ha : IP X cl a tp) (hb : IEs X cl i b ti) (hs : PlainIx b) : IP X cl (.Subscript a b pos) (pIx i tp ti) := by
  refine ⟨fun W tk => ?_⟩
  obtain ⟨ta', pa, qa⟩ := ha.run W tk
  obtain ⟨tb', pb, qb⟩ := hb.run W tk
  refine ⟨_, pe_ix (ix_all hu) pa pb hs, fun E σ H Z S Q oe ok sat => ?_⟩
  refine qa E σ H Z S _ oe ok ?_
  unfold pIx at sat
  match hE : tp E, sat with
  | none, sat => exact sat.elim
  | some (.ex x E1), sat => exact sat
  | some (.ok l E1), sat =>
    simp only [bnd_ok] at sat
    by_cases hi : l.i = i
    case neg => rw [if_neg hi] at sat; exact sat.elim
    rw [if_pos hi] at sat
    match hg : getE E1 l, sat with
    | none, sat => exact sat.elim
    | some u, sat =>
      refine ⟨by rw [hg]; rfl, fun w H1 Z1 S1 oe1 hv st1 ok1 => ?_⟩
      refine qb E1 σ H1 Z1 S1 _ oe1 ok1 ?_
      dsimp only at sat
      match hT : ti E1, sat with
      | none, sat => exact sat.elim
      | some (.ex x E2), sat => exact SatX.re st1 sat
      | some (.ok y E2), sat =>
        intro yv H2 Z2 Sr S2 oe2 ow2 d2 stay st2 ok2
        simp only [bnd_ok] at sat
        match hk : kidIx u (frz y), sat with
        | none, sat => exact sat.elim
        | some n, sat =>
          dsimp only at sat
          match hkd : (kids u)[n]?, sat with
          | none, sat => exact sat.elim
          | some kd, sat =>
            have hg2 : getE E2 l = some u := (getE_eq (by rw [hi]; exact stay.1)).trans hg
            have hv2 := stay.2 l w hi (by rw [hg]; rfl) hv
            obtain ⟨w', Su, R, b1, b2, _⟩ := oe2.at hg2
            rw [hv2] at b1
            cases b1
            refine kidIx_run b2 (ow2.frz (Z' := Uni Z2 Sr) (fun _ z => .inl z) fun _ z => .inr z) hk hkd fun z hz => ?_
            refine sat.2 z H2 Z2 S2 oe2 ?_ ((st1.trans st2).less fun _ z => .inr z) (ok2.less fun _ z => .inr z)
            unfold valE at hv2 ⊢
            match hs' : σ[l.i]?, hv2 with
            | some (some v0), hv2 =>
              show valP H2 v0 (l.p ++ [n]) = some z
              rw [valP_snoc]
              have hv3 : valP H2 v0 l.p = some w := hv2
              rw [hv3]
              exact hz
end
end VL

namespace VL
open PySem PySem.Spec PyProof.Rows L2

/-! ### stores to items -/
def rSetA : TSet := fun o i v H Q => (∃ p xs k j, o = .ref p ∧ i = .int k ∧ H p = some (.lst xs) ∧ ixN xs.length k = some j ∧ Q (upd H p (.lst (xs.set j v)))) ∨
  (∃ a kvs k, o = .ref a ∧ i = kV k ∧ H a = some (.dK kvs) ∧ kvs.length < sizeLine ∧ ((kvs.map (·.1)).Nodup → Q (upd H a (.dK (putK kvs k v))))) ∨
  ∃ a kvs k b, o = .ref a ∧ i = .ref b ∧ H b = some (.tup (k.map kV)) ∧ H a = some (.dT kvs) ∧ kvs.length < sizeLine ∧ ((kvs.map (·.1)).Nodup → Q (upd H a (.dT (putK kvs k v))))
theorem set_all {X : Cx} (hu : X.A.units + 1 < cLine) : PSet X rSetA := by
  intro pins s σ H o i v ov iv u Q I ro ri rv h
  rcases h with h | ⟨a, kvs, k, rfl, rfl, e, hl, q⟩ | ⟨a, kvs, k, b, rfl, rfl, eb, e, hl, q⟩
  · exact set_list pins s σ H o i v ov iv u Q I ro ri rv h
  · cases ro
    obtain ⟨z, hd, vs, rel, dd⟩ := dk_of I.hok e
    obtain ⟨_, _, _, _, _, _, _, _, nd⟩ := dd
    rw [← rel.keys] at nd
    exact d_setItem hu I (.inl ⟨kvs, k, e, rfl, hl, rfl⟩) ri rv fun s' I' => ⟨_, I', q nd⟩
  · cases ro
    obtain ⟨z, hd, xs, rel, dd⟩ := dt_of I.hok e
    have hk : kvs.map (·.1) = xs.map (·.1) := by
      clear e hd z q hl dd
      induction rel with
      | nil => rfl
      | cons h _ ih => simp only [List.map_cons]; rw [ih, h.1]
    obtain ⟨_, _, _, _, _, _, _, _, nd⟩ := dd
    rw [← hk] at nd
    exact d_setItem hu I (.inr ⟨kvs, k, b, e, rfl, eb, hl, rfl⟩) ri rv fun s' I' => ⟨_, I', q nd⟩
def putD {κ : Type} [DecidableEq κ] (ks : List (κ × T)) (k : κ) (t : T) : List (κ × T) := match keyIx (ks.map (·.1)) k with
  | some n => setSnd ks n t
  | none => ks ++ [(k, t)]
def putKid : T → D → T → Option T
  | .lst ts, .int k, t => (ixN ts.length k).map fun j => .lst (ts.set j t)
  | .dct ks, y, t => if ks.length < 16777216 then (keyD y).map fun k => .dct (putD ks k t) else none
  | .dcT ks, y, t => if ks.length < 16777216 then (keysD y).map fun k => .dcT (putD ks k t) else none
  | _, _, _ => none
section
variable {K : PySem.W.Frag} {cl : Str → Addr} {H : Hp} {Z : PA1}
theorem OwnL.setv : ∀ {ts vs t v} {S S1 : PA1} {n : Nat}, OwnL K cl H Z ts vs S → Own K cl H Z t v S1 → Dis S1 S → OwnL K cl H Z (ts.set n t) (vs.set n v) (Uni S S1)
  | [], _, _, _, _, _, _, .nil, _, _ => .nil
  | _ :: ts, _, _, _, S, S1, 0, .cons (S1 := A1) (S2 := A2) p r a1 a2 dd, q, d => .cons q r (fun _ z => .inr z) (fun a z => .inl (a2 a z)) fun a x y => d a x (a2 a y)
  | _ :: ts, _, _, _, S, S1, n + 1, .cons (S1 := A1) (S2 := A2) p r a1 a2 dd, q, d =>
    .cons p (OwnL.setv r q fun a x y => d a x (a2 a y)) (fun a z => .inl (a1 a z)) (fun a z => z.imp (a2 a) id) fun a x y => y.elim (dd a x) fun y => d a y (a1 a x)
/-- put into a dict's list of values -/
theorem putD_own {κ : Type} [DecidableEq κ] {ks : List (κ × T)} {kvs : List (κ × V)} {k : κ} {t : T} {v : V} {R S1 : PA1} (e : ks.map (·.1) = kvs.map (·.1)) (nd : (kvs.map (·.1)).Nodup) (r : OwnL K cl H Z (ks.map (·.2)) (kvs.map (·.2)) R) (q : Own K cl H Z t v S1) (d : Dis S1 R) :
    (putD ks k t).map (·.1) = (putK kvs k v).map (·.1) ∧ OwnL K cl H Z ((putD ks k t).map (·.2)) ((putK kvs k v).map (·.2)) (Uni R S1) := by
  unfold putD
  rw [e]
  cases hk : keyIx (kvs.map (·.1)) k with
  | some n =>
    obtain ⟨h1, h2⟩ := putK_at (v := v) nd hk
    obtain ⟨g1, g2⟩ := setSnd_keys ks n t
    dsimp only
    exact ⟨g1.trans (e.trans h1.symm), by rw [g2, h2]; exact r.setv q d⟩
  | none =>
    rw [putK_new' hk]
    dsimp only
    refine ⟨by simp [e], ?_⟩
    simp only [List.map_append, List.map_cons, List.map_nil]
    exact r.snoc q d
theorem putKid_run {Z2 : PA1} {u u' : T} {w v iv : V} {t : T} {y : D} {Su Sv : PA1} {Q : Hp → Prop} (h : Own K cl H Z u w Su) (ht : Own K cl H Z t v Sv) (d : Dis Su Sv) (ok : Okk H Z (Uni Su Sv)) (r : Rp K cl H Z2 y iv) (hp : putKid u y t = some u')
    (q : ∀ H', Step H Z (Uni Su Sv) H' Z (Uni Su Sv) → Okk H' Z (Uni Su Sv) → (∀ a o, ¬ Su a → H a = some o → H' a = some o) → Own K cl H' Z u' w (Uni Su Sv) → Q H') : rSetA w iv v H Q := by
  have go : ∀ {a : Addr} {o : HO}, Su a → (∀ {R : PA1} {ts vs}, (∀ b, R b → Su b ∧ b ≠ a) → OwnL K cl H Z ts vs R → OwnL K cl (upd H a o) Z ts vs R) ∧ Own K cl (upd H a o) Z t v Sv ∧ Step H Z (Uni Su Sv) (upd H a o) Z (Uni Su Sv) ∧ Okk (upd H a o) Z (Uni Su Sv) ∧ (∀ b p, ¬ Su b → H b = some p → upd H a o b = some p) := by
    intro a o sa
    obtain ⟨st, ok', k⟩ := wr_step (o := o) ok (D := a) (.inl sa)
    have kz : ∀ b, Z b → Kept H (upd H a o) b := fun b z => .of fun p e => k b p (fun q => ok.dis b (.inl (q ▸ sa)) z) e
    exact ⟨fun hr rl => rl.mono (fun _ z => z) kz fun b p z e => k b p (hr b z).2 e, ht.mono (fun _ z => z) kz fun b p z e => k b p (fun q => d b (q ▸ sa) z) e, st, ok', fun b p n e => k b p (fun q => n (q ▸ sa)) e⟩
  cases h with
  | fz h => cases r <;> simp [putKid] at hp
  | tup => cases r <;> simp [putKid] at hp
  | ins => cases r <;> simp [putKid] at hp
  | @lst a vs ts _ R h1 h2 h3 rl =>
    cases r with
    | int i =>
      simp only [putKid] at hp
      cases e : ixN ts.length i with
      | none => rw [e] at hp; cases hp
      | some j =>
        rw [e] at hp
        cases hp
        obtain ⟨g1, g2, g3, g4, g5⟩ := go (o := .lst (vs.set j v)) h2
        refine .inl ⟨a, vs, i, j, rfl, rfl, h1, by rw [← rl.len]; exact e, q _ g3 g4 g5 ?_⟩
        exact .lst (R := Uni R Sv) upd_same (.inl h2) (fun b z => z.elim (fun z => ⟨.inl (h3 b z).1, (h3 b z).2⟩) fun z => ⟨.inr z, fun q => d b (q ▸ h2) z⟩) ((g1 h3 rl).setv g2 fun b x y => d b (h3 b y).1 x)
    | _ => simp [putKid] at hp
  | @dct a kvs ks _ R h1 h2 h3 h4 rl =>
    simp only [putKid] at hp
    have hlen : ks.length = kvs.length := by have := congrArg List.length h4; simpa using this
    by_cases c : ks.length < 16777216
    case neg => rw [if_neg c] at hp; cases hp
    rw [if_pos c] at hp
    cases e : keyD y with
    | none => rw [e] at hp; cases hp
    | some k =>
      rw [e] at hp
      cases hp
      obtain ⟨g1, g2, g3, g4, g5⟩ := go (o := .dK (putK kvs k v)) h2
      refine .inr (.inl ⟨a, kvs, k, rfl, keyD_rp r e, h1, by rw [sizeLine_eq]; omega, fun nd => q _ g3 g4 g5 ?_⟩)
      obtain ⟨p1, p2⟩ := putD_own (k := k) h4 nd (g1 h3 rl) g2 fun b x y => d b (h3 b y).1 x
      exact .dct (R := Uni R Sv) upd_same (.inl h2) (fun b z => z.elim (fun z => ⟨.inl (h3 b z).1, (h3 b z).2⟩) fun z => ⟨.inr z, fun q => d b (q ▸ h2) z⟩) p1 p2
  | @dcT a kvs ks _ R h1 h2 h3 h4 rl =>
    simp only [putKid] at hp
    have hlen : ks.length = kvs.length := by have := congrArg List.length h4; simpa using this
    by_cases c : ks.length < 16777216
    case neg => rw [if_neg c] at hp; cases hp
    rw [if_pos c] at hp
    cases e : keysD y with
    | none => rw [e] at hp; cases hp
    | some k =>
      rw [e] at hp
      cases hp
      obtain ⟨b, rfl, hb⟩ := keysD_rp r e
      obtain ⟨g1, g2, g3, g4, g5⟩ := go (o := .dT (putK kvs k v)) h2
      refine .inr (.inr ⟨a, kvs, k, b, rfl, rfl, hb, h1, by rw [sizeLine_eq]; omega, fun nd => q _ g3 g4 g5 ?_⟩)
      obtain ⟨p1, p2⟩ := putD_own (k := k) h4 nd (g1 h3 rl) g2 fun b x y => d b (h3 b y).1 x
      exact .dcT (R := Uni R Sv) upd_same (.inl h2) (fun b z => z.elim (fun z => ⟨.inl (h3 b z).1, (h3 b z).2⟩) fun z => ⟨.inr z, fun q => d b (q ▸ h2) z⟩) p1 p2
end
section
variable {X : Cx} {cl : Str → Addr} {kp : Keep} {pos : Pos} {i : Nat}
/-- path[index] = a value -/
def gPut (i : Nat) (tp : Ev Loc) (ti : Ev T) : T → En → Option En := fun t E => match tp E with
  | some (.ok l E1) => if l.i = i then match getE E1 l with
    | some u => match ti E1 with
      | some (.ok y E2) => match putKid u (frz y) t with
        | some u' => some (setE E2 l u')
        | none => none
      | _ => none
    | none => none else none
  | _ => none
theorem ig_put (i : Nat) {a b : Expr} {tp : Ev Loc} {ti : Ev T} (hu : X.A.units + 1 < cLine) (ha : IP X cl a tp) (hb : IEs X cl i b ti)
    (hq : ∀ v, assign (.Subscript a b pos) X.env v = (do
      let ov ← holding [v] (eval a X.env)
      let iv ← holding [v, ov] (eval b X.env)
      standAt pos
      holding [v, ov, iv] (setItem ov iv v)
      release [v, ov, iv] []) := by intro _; rfl) : IG X cl kp (.Subscript a b pos) (gPut i tp ti) := by
  obtain ⟨ta', pa, qa⟩ := ha.run W0 takes0
  obtain ⟨tb', pb, qb⟩ := hb.run W0 takes0
  refine ⟨_, pg_sub pa pb (set_all hu) hq, fun t v E σ H Z Sv S Q oe ow d ok sat => ?_⟩
  have okS : Okk H Z S := ok.less fun _ z => .inr z
  refine qa E σ H Z S _ oe okS ?_
  unfold gPut at sat
  match hE : tp E, sat with
  | none, sat => exact sat.elim
  | some (.ex x E1), sat => exact sat.elim
  | some (.ok l E1), sat =>
    dsimp only at sat
    by_cases hi : l.i = i
    case neg => rw [if_neg hi] at sat; exact sat.elim
    rw [if_pos hi] at sat
    match hg : getE E1 l, sat with
    | none, sat => exact sat.elim
    | some u, sat =>
    dsimp only at sat
    match hT : ti E1, sat with
    | none, sat => exact sat.elim
    | some (.ex x E2), sat => exact sat.elim
    | some (.ok y E2), sat =>
      dsimp only at sat
      match hp : putKid u (frz y) t, sat with
      | none, sat => exact sat.elim
      | some u', sat =>
        refine ⟨by rw [hg]; rfl, fun w H1 Z1 S1 oe1 hv st1 ok1 => ?_⟩
        refine qb E1 σ H1 Z1 S1 _ oe1 ok1 ?_
        rw [hT]
        intro yv H2 Z2 Sr S2 oe2 ow2 d2 stay st2 ok2
        have hg2 : getE E2 l = some u := (getE_eq (by rw [hi]; exact stay.1)).trans hg
        have hv2 := stay.2 l w hi (by rw [hg]; rfl) hv
        obtain ⟨w', Su, R, b1, b2, b3, b4, b5, b6⟩ := oe2.at hg2
        rw [hv2] at b1
        cases b1
        have o1 := st1.okk (R := Sv) ok ok1 d
        have d1 := st1.dis (R := Sv) (fun a z => ok.sa a (.inl z)) d
        have ow1 := st1.own okS.dis d ow
        have d2' := st2.dis (R := Sv) (fun a z => o1.sa a (.inl z)) d1
        have ow2' := st2.own ok1.dis d1 ow1
        have o2 := st2.okk (R := Sv) o1 ok2 d1
        refine putKid_run b2 ow2' (fun a x y => d2' a y (.inr (b3 a x))) (o2.less fun a z => z.elim (fun z => .inr (.inr (b3 a z))) .inl) (ow2.frz (Z' := Uni Z2 Sr) (fun _ z => .inl z) fun _ z => .inr z) hp fun H3 st3 ok3 k3 ow3 => ?_
        have dR : Dis (Uni Su Sv) R := fun a x y => x.elim (fun x => b5 a x y) fun x => d2' a x (.inr (b4 a y))
        have oF := b6 H3 Z2 u' (Uni Su Sv) (fun _ z => z) (fun a z => .of fun o e => k3 a o (fun q => ok2.dis a (.inr (b3 a q)) z) e) (fun a o z e => k3 a o (fun q => b5 a q z) e) ow3 dR
        have okR : Okk H2 Z2 (Uni R (Uni Su Sv)) := o2.less fun a z => z.elim (fun z => .inr (.inr (b4 a z))) fun z => z.elim (fun z => .inr (.inr (b3 a z))) .inl
        have sub : ∀ a, Uni (Uni Su Sv) R a → Uni R (Uni Su Sv) a := fun a z => z.elim .inr .inl
        refine sat σ H3 Z2 (Uni (Uni Su Sv) R) oF .refl ?_ ((st3.okk okR ok3 fun a x y => dR a y x).less sub)
        refine ((st1.frame (R := Sv)).trans ((st2.frame (R := Sv)).trans ((st3.frame (R := R)).more ?_))).less sub
        exact fun a z => z.elim (fun z => .inr (.inr (b4 a z))) fun z => z.elim (fun z => .inr (.inr (b3 a z))) .inl

/-! ### methods that change what they are called on -/
def MutV (K : PySem.W.Frag) (cl : Str → Addr) (r : V → List V → Hp → VK → Prop) (g : T → List T → Option (T × T)) : Prop :=
  ∀ (u : T) (xs : List T) (w : V) (vs : List V) (H : Hp) (Z Su Sx : PA1) (Q : VK), Own K cl H Z u w Su → OwnL K cl H Z xs vs Sx → Dis Su Sx → Okk H Z (Uni Su Sx) →
    (match g u xs with
      | none => False
      | some (r', u') => ∀ v' H' (Sr Su' : PA1), Own K cl H' Z r' v' Sr → Own K cl H' Z u' w Su' → Dis Sr Su' → Step H Z (Uni Su Sx) H' Z (Uni Sr Su') → Okk H' Z (Uni Sr Su') → (∀ a o, ¬ Su a → H a = some o → H' a = some o) → Q v' H') → r w vs H Q
def kindT : String → T → Bool
  | "list", .lst _ => true
  | "dict", .dct _ => true
  | "dict", .dcT _ => true
  | _, _ => false
theorem kindT_ty {K : PySem.W.Frag} {H : Hp} {Z : PA1} {n : String} {u : T} {w : V} {Su : PA1} (h : Own K cl H Z u w Su) (k : kindT n u = true) : tyV K n w H := by
  cases h with
  | fz h => simp [kindT] at k
  | tup => simp [kindT] at k
  | ins => simp [kindT] at k
  | lst h1 _ _ _ =>
    have : n = "list" := by
      unfold kindT at k
      split at k <;> simp_all
    subst this
    exact .inl ⟨rfl, _, SqL.of h1⟩
  | dct h1 _ _ _ _ =>
    have : n = "dict" := by
      unfold kindT at k
      split at k <;> simp_all
    subst this
    exact .inr (.inr (.inl ⟨rfl, .inl ⟨_, h1⟩⟩))
  | dcT h1 _ _ _ _ =>
    have : n = "dict" := by
      unfold kindT at k
      split at k <;> simp_all
    subst this
    exact .inr (.inr (.inl ⟨rfl, .inr ⟨_, h1⟩⟩))
def eMt (i : Nat) (n : String) (g : T → List T → Option (T × T)) (tp : Ev Loc) (ts : Ev (List T)) : Ev T := fun E => bnd (tp E) fun l E1 => if l.i = i then match getE E1 l with
  | some u => if kindT n u = true then bnd (ts E1) fun xs E2 => match g u xs with
    | some (r, u') => some (.ok r (setE E2 l u'))
    | none => none else none
  | none => none else none
theorem mt_core {W : WX} {n : String} {r : V → List V → Hp → VK → Prop} {g : T → List T → Option (T × T)} {tp : Ev Loc} {ts : Ev (List T)} {to : TE} {ta : TA} (hg : MutV X.K cl r g)
    (qa : ∀ E σ H Z (S : PA1) Q, OwnE X.K cl H Z E σ S → Okk H Z S → SatP X.K cl W σ H Z S Q (tp E) → to σ H Q) (qb : ∀ E σ H Z (S : PA1) Q, OwnE X.K cl H Z E σ S → Okk H Z S → SatMs X.K cl W i E σ H Z S Q (ts E) → ta σ H Q)
    (E : En) (σ : L2.St) (H : Hp) (Z S : PA1) (Q : VK) (oe : OwnE X.K cl H Z E σ S) (ok : Okk H Z S) (sat : SatV X.K cl W σ H Z S Q (eMt i n g tp ts E)) : tBM X.K n r to ta σ H Q := by
  refine qa E σ H Z S _ oe ok ?_
  unfold eMt at sat
  match hE : tp E, sat with
  | none, sat => exact sat.elim
  | some (.ex x E1), sat => exact sat
  | some (.ok l E1), sat =>
    simp only [bnd_ok] at sat
    by_cases hi : l.i = i
    case neg => rw [if_neg hi] at sat; exact sat.elim
    rw [if_pos hi] at sat
    match hge : getE E1 l, sat with
    | none, sat => exact sat.elim
    | some u, sat =>
      dsimp only at sat
      by_cases hk : kindT n u = true
      case neg => rw [if_neg hk] at sat; exact sat.elim
      rw [if_pos hk] at sat
      refine ⟨by rw [hge]; rfl, fun w H1 Z1 S1 oe1 hv st1 ok1 => ?_⟩
      refine ⟨?_, ?_⟩
      · obtain ⟨w', Su, R, b1, b2, _⟩ := oe1.at hge
        rw [hv] at b1
        cases b1
        exact kindT_ty b2 hk
      refine qb E1 σ H1 Z1 S1 _ oe1 ok1 ?_
      match hT : ts E1, sat with
      | none, sat => exact sat.elim
      | some (.ex x E2), sat => exact SatX.re st1 sat
      | some (.ok xs E2), sat =>
        intro vs H2 Z2 Sx S2 oe2 ow2 d2 stay st2 ok2
        simp only [bnd_ok] at sat
        have hg2 : getE E2 l = some u := (getE_eq (by rw [hi]; exact stay.1)).trans hge
        have hv2 := stay.2 l w hi (by rw [hge]; rfl) hv
        obtain ⟨w', Su, R, b1, b2, b3, b4, b5, b6⟩ := oe2.at hg2
        rw [hv2] at b1
        cases b1
        refine hg u xs w vs H2 Z2 Su Sx Q b2 ow2 (fun a x y => d2 a y (b3 a x)) (ok2.less fun a z => z.elim (fun z => .inr (b3 a z)) .inl) ?_
        match hgu : g u xs, sat with
        | none, sat => exact sat.elim
        | some (r', u'), sat =>
          intro v' H3 Sr Su' ow3 owu d3 st3 ok3 k3
          have dR : Dis (Uni Su Sx) R := fun a x y => x.elim (fun x => b5 a x y) fun x => d2 a x (b4 a y)
          have okR : Okk H2 Z2 (Uni R (Uni Su Sx)) := ok2.less fun a z => z.elim (fun z => .inr (b4 a z)) fun z => z.elim (fun z => .inr (b3 a z)) .inl
          have dR3 : Dis R (Uni Sr Su') := st3.dis (fun a z => okR.sa a (.inl z)) fun a x y => dR a y x
          have oF := b6 H3 Z2 u' Su' (fun _ z => z) (fun a z => .of fun o e => k3 a o (fun q => ok2.dis a (.inr (b3 a q)) z) e) (fun a o z e => k3 a o (fun q => b5 a q z) e) owu fun a x y => dR3 a y (.inr x)
          have sub : ∀ a, Uni Sr (Uni Su' R) a → Uni R (Uni Sr Su') a := by intro a z; simp only [Uni] at z ⊢; grind
          have sat2 : SatV X.K cl W σ H Z S Q (some (.ok r' (setE E2 l u'))) := sat
          refine sat2 v' H3 Z2 Sr (Uni Su' R) oF ow3 (fun a x y => y.elim (d3 a x) fun y => dR3 a y (.inl x)) ?_ ((st3.okk okR ok3 fun a x y => dR a y x).less sub)
          refine (st1.trans (st2.trans ((st3.frame (R := R)).more ?_))).less sub
          exact fun a z => z.elim (fun z => .inr (b4 a z)) fun z => z.elim (fun z => .inr (b3 a z)) .inl
theorem ie_mt (i : Nat) {T' id : String} {r : V → List V → Hp → VK → Prop} {g : T → List T → Option (T × T)} {o e : Expr} {es : List Expr} {tp : Ev Loc} {ts : Ev (List T)} {name : Str} {apos cpos : Pos} (pa : PlainAttrs T') (slot : Slot T' name id)
    (hty : typeOf (.builtin id) = pure (.type "method_descriptor")) (hm : MtR X id r) (hg : MutV X.K cl r g) (ho : IP X cl o tp) (ha : IMs X cl i (e :: es) ts)
    (hbase : attributeBase o name X.env (eval o X.env) = eval o X.env := by rfl)
    (hfew : ((backTo cpos (starEach (e :: es) X.env)).all (fun x => !x.1) && (backToKw cpos (keywordEach [] X.env)).all (fun x => x.1.isSome)
      && decide ((e :: es).length + ([] : List Keyword).length + (if ([] : List Keyword).isEmpty then 0 else 1) < 30)) = true := by rfl)
    (hline : (apos.endLine == cpos.line) = true := by rfl) (hs : starEach (e :: es) X.env = (false, eval e X.env) :: starEach es X.env := by rfl) (hplain : (backTo cpos (starEach es X.env)).any (·.1) = false := by rfl) :
    IE X cl (.Call (.Attribute o name apos) (e :: es) [] cpos) (eMt i T' g tp ts) := by
  refine ⟨fun W tk => ?_⟩
  obtain ⟨to, po, qo⟩ := ho.run W tk
  obtain ⟨ta, pa', qa⟩ := ha.run W tk
  exact ⟨_, pe_bm pa slot hty hm po pa' hbase hfew hline hs hplain, mt_core hg qo qa⟩
def msNil : Ev (List T) := fun E => some (.ok [] E)
theorem ie_mt0 (i : Nat) {T' id : String} {r : V → List V → Hp → VK → Prop} {g : T → List T → Option (T × T)} {o : Expr} {tp : Ev Loc} {name : Str} {apos cpos : Pos} (pa : PlainAttrs T') (slot : Slot T' name id)
    (hty : typeOf (.builtin id) = pure (.type "method_descriptor")) (hm : MtR X id r) (hg : MutV X.K cl r g) (ho : IP X cl o tp)
    (hbase : attributeBase o name X.env (eval o X.env) = eval o X.env := by rfl) (hline : (apos.endLine == cpos.line) = true := by rfl) :
    IE X cl (.Call (.Attribute o name apos) [] [] cpos) (eMt i T' g tp msNil) := by
  refine ⟨fun W tk => ?_⟩
  obtain ⟨to, po, qo⟩ := ho.run W tk
  refine ⟨_, pe_bm0 pa slot hty hm po hbase hline, fun E σ H Z S Q oe ok sat => ?_⟩
  exact mt_core (ta := fun _ H Q => Q [] H) hg qo (fun E σ H Z S Q oe ok sat => (sat : SatMs X.K cl W i E σ H Z S Q (some (.ok [] E))) [] H Z Emp S oe .nil (fun _ z _ => z) ⟨rfl, fun _ _ _ _ h => h⟩ (Step.refl.less fun _ z => z.elim False.elim (fun z => z)) (ok.less fun _ z => z.elim False.elim (fun z => z))) E σ H Z S Q oe ok sat
end

/-! ### a list's methods -/
section
variable {K : PySem.W.Frag} {cl : Str → Addr}
def gAppend : T → List T → Option (T × T)
  | .lst ts, [t] => if ts.length < 16777216 then some (.fz .non, .lst (ts ++ [t])) else none
  | _, _ => none
theorem mutv_append : MutV K cl rAppend gAppend := by
  intro u xs w vs H Z Su Sx Q ow owx d ok h
  match u, xs, vs, ow, owx, h with
  | .lst ts, [t], [v], .lst (a := a) (vs := us) (R := R) h1 h2 h3 rl, .cons (S1 := S1) q .nil a1 a2 dd, h =>
    simp only [gAppend] at h
    by_cases c : ts.length < 16777216
    case neg => rw [if_neg c] at h; exact h.elim
    rw [if_pos c] at h
    dsimp only at h
    obtain ⟨st, ok', k⟩ := wr_step (o := .lst (us ++ [v])) ok (D := a) (.inl h2)
    have kz : ∀ b, Z b → Kept H (upd H a (.lst (us ++ [v]))) b := fun b z => .of fun p e => k b p (fun q => ok.dis b (.inl (q ▸ h2)) z) e
    have r1 := rl.mono (fun _ z => z) kz fun b p z e => k b p (h3 b z).2 e
    have q1 := q.mono (fun _ z => z) kz fun b p z e => k b p (fun q => d b (q ▸ h2) (a1 b z)) e
    refine ⟨a, us, v, rfl, rfl, h1, by rw [← rl.len, sizeLine_eq]; omega, h .non _ Emp (Uni Su Sx) (.fz .non) ?_ (fun _ z _ => z) (st.less fun b z => z.elim False.elim id) (ok'.less fun b z => z.elim False.elim id) fun b o n e => k b o (fun q => n (q ▸ h2)) e⟩
    refine .lst (R := Uni R S1) upd_same (.inl h2) (fun b z => z.elim (fun z => ⟨.inl (h3 b z).1, (h3 b z).2⟩) fun z => ⟨.inr (a1 b z), fun q => d b (q ▸ h2) (a1 b z)⟩) (r1.snoc q1 fun b x y => d b (h3 b y).1 (a1 b x))
end
end VL

namespace VL
open PySem PySem.Spec PyProof.Rows L2

/-! ### methods of texts and lists, by values -/
section
variable {X : Cx} {cl : Str → Addr} {kp : Keep} {pos : Pos}
def tyD : String → D → Bool
  | "str", .str _ => true
  | "list", .lst _ => true
  | _, _ => false
theorem tyD_ty {K : PySem.W.Frag} {H : Hp} {Z : PA1} {n : String} {d : D} {v : V} (r : Rp K cl H Z d v) (k : tyD n d = true) : tyV K n v H := by
  cases r with
  | str x =>
    have : n = "str" := by
      unfold tyD at k
      split at k <;> simp_all
    subst this; rfl
  | lst h0 h1 rl =>
    have : n = "list" := by
      unfold tyD at k
      split at k <;> simp_all
    subst this
    exact .inl ⟨rfl, _, SqL.of h1⟩
  | _ => simp [tyD] at k
def eMv (n : String) (g : D → List D → Option T) (to : Ev T) (ts : Ev (List D)) : Ev T := fun E => bnd (to E) fun x E1 => if tyD n (frz x) = true then bnd (ts E1) fun xs E2 => opt (g (frz x) xs) E2 else none
theorem mv_core {W : WX} {n : String} {r : V → List V → Hp → VK → Prop} {g : D → List D → Option T} {to : Ev T} {ts : Ev (List D)} {to' : TE} {ta' : TA} (hg : MtV X.K cl r g)
    (qa : ∀ E σ H Z (S : PA1) Q, OwnE X.K cl H Z E σ S → Okk H Z S → SatD X.K cl W σ H Z S Q (to E) → to' σ H Q) (qb : ∀ E σ H Z (S : PA1) Q, OwnE X.K cl H Z E σ S → Okk H Z S → SatA X.K cl W σ H Z S Q (ts E) → ta' σ H Q)
    (E : En) (σ : L2.St) (H : Hp) (Z S : PA1) (Q : VK) (oe : OwnE X.K cl H Z E σ S) (ok : Okk H Z S) (sat : SatV X.K cl W σ H Z S Q (eMv n g to ts E)) : tBM X.K n r to' ta' σ H Q := by
  refine qa E σ H Z S _ oe ok (satD_bnd (β := T) (κ := VK) (q := Q) sat fun x E1 sat1 v H1 Z1 S1 oe1 rp1 st1 ok1 => ?_)
  have sat2 : SatV X.K cl W σ H1 Z1 S1 Q (if tyD n (frz x) = true then bnd (ts E1) fun xs E2 => opt (g (frz x) xs) E2 else none) := SatV.re st1 sat1
  by_cases c : tyD n (frz x) = true
  case neg => rw [if_neg c] at sat2; exact sat2.elim
  rw [if_pos c] at sat2
  refine ⟨tyD_ty rp1 c, ?_⟩
  refine qb E1 σ H1 Z1 S1 _ oe1 ok1 (satA_bnd (β := T) (κ := VK) (q := Q) sat2 fun xs E2 sat3 vs H2 Z2 S2 oe2 rps st2 ok2 => ?_)
  exact hg _ v xs vs H2 Z2 Q ok2.za (st2.rp ok1.dis rp1) rps (op_fin oe2 ok2 (SatV.re st2 sat3))
theorem ie_mv {T' id : String} {r : V → List V → Hp → VK → Prop} {g : D → List D → Option T} {o e : Expr} {es : List Expr} {to : Ev T} {ts : Ev (List D)} {name : Str} {apos cpos : Pos} (pa : PlainAttrs T') (slot : Slot T' name id)
    (hty : typeOf (.builtin id) = pure (.type "method_descriptor")) (hm : MtR X id r) (hg : MtV X.K cl r g) (ho : IE X cl o to) (ha : IA X cl (e :: es) ts)
    (hbase : attributeBase o name X.env (eval o X.env) = eval o X.env := by rfl)
    (hfew : ((backTo cpos (starEach (e :: es) X.env)).all (fun x => !x.1) && (backToKw cpos (keywordEach [] X.env)).all (fun x => x.1.isSome)
      && decide ((e :: es).length + ([] : List Keyword).length + (if ([] : List Keyword).isEmpty then 0 else 1) < 30)) = true := by rfl)
    (hline : (apos.endLine == cpos.line) = true := by rfl) (hs : starEach (e :: es) X.env = (false, eval e X.env) :: starEach es X.env := by rfl) (hplain : (backTo cpos (starEach es X.env)).any (·.1) = false := by rfl) :
    IE X cl (.Call (.Attribute o name apos) (e :: es) [] cpos) (eMv T' g to ts) := by
  refine ⟨fun W tk => ?_⟩
  obtain ⟨to', po, qo⟩ := ho.fz W tk
  obtain ⟨ta', pa', qa⟩ := ha.run W tk
  exact ⟨_, pe_bm pa slot hty hm po pa' hbase hfew hline hs hplain, mv_core hg qo qa⟩
theorem ie_mv0 {T' id : String} {r : V → List V → Hp → VK → Prop} {g : D → List D → Option T} {o : Expr} {to : Ev T} {name : Str} {apos cpos : Pos} (pa : PlainAttrs T') (slot : Slot T' name id)
    (hty : typeOf (.builtin id) = pure (.type "method_descriptor")) (hm : MtR X id r) (hg : MtV X.K cl r g) (ho : IE X cl o to)
    (hbase : attributeBase o name X.env (eval o X.env) = eval o X.env := by rfl) (hline : (apos.endLine == cpos.line) = true := by rfl) :
    IE X cl (.Call (.Attribute o name apos) [] [] cpos) (eMv T' g to aNil) := by
  refine ⟨fun W tk => ?_⟩
  obtain ⟨to', po, qo⟩ := ho.fz W tk
  refine ⟨_, pe_bm0 pa slot hty hm po hbase hline, fun E σ H Z S Q oe ok sat => ?_⟩
  exact mv_core (ta' := fun _ H Q => Q [] H) hg qo (fun E σ H Z S Q oe ok sat => (sat : SatA X.K cl W σ H Z S Q (some (.ok [] E))) [] H Z S oe .nil Step.refl ok) E σ H Z S Q oe ok sat
end
section
variable {K : PySem.W.Frag} {cl : Str → Addr} {H : Hp} {Z : PA1} {Q : VK}
def strsOf : List D → Option (List Str)
  | [] => some []
  | .str x :: ds => (strsOf ds).map (x :: ·)
  | _ :: _ => none
theorem strsOf_rp : ∀ {ds vs xs}, RpL K cl H Z ds vs → strsOf ds = some xs → vs = xs.map V.str
  | [], _, _, .nil, h => by cases h; rfl
  | .str b :: ds, _, bs, .cons (.str _) r, h => by
    simp only [strsOf] at h
    cases e : strsOf ds with
    | none => rw [e] at h; cases h
    | some l => rw [e] at h; cases h; rw [strsOf_rp r e]; rfl
def mJoin : D → List D → Option T
  | .str a, [.lst ds] => (strsOf ds).bind fun ys => if (ys.map (·.length)).sum + ys.length * a.length ≤ 16777216 then some (.fz (.str (Txt.join a ys))) else none
  | .str a, [.tup ds] => (strsOf ds).bind fun ys => if (ys.map (·.length)).sum + ys.length * a.length ≤ 16777216 then some (.fz (.str (Txt.join a ys))) else none
  | _, _ => none
theorem mtv_join : MtV K cl (fun x xs H Q => ∃ a p, ∃ ys : List Str, x = .str a ∧ xs = [.ref p] ∧ (SqL K H p (ys.map V.str) ∨ SqT K H p (ys.map V.str)) ∧ (ys.map (·.length)).sum + ys.length * a.length ≤ 16777216 ∧ Q (.str (Txt.join a ys)) H) mJoin := by
  intro x v xs vs H Z Q hz rx rs ok
  match x, v, xs, vs, rx, rs, ok with
  | .str a, _, [.lst ds], [_], .str _, .cons (.lst _ q r) .nil, ok =>
    simp only [mJoin] at ok
    cases e : strsOf ds with
    | none => rw [e] at ok; exact okr_none ok
    | some ys =>
      rw [e] at ok
      simp only [Option.bind_some] at ok
      by_cases c : (ys.map (·.length)).sum + ys.length * a.length ≤ 16777216
      · rw [if_pos c] at ok
        have := strsOf_rp r e
        subst this
        exact ⟨a, _, ys, rfl, rfl, .inl (SqL.of q), c, okr_fz hz ok (.str _)⟩
      · rw [if_neg c] at ok; exact okr_none ok
  | .str a, _, [.tup ds], [_], .str _, .cons (.tup _ q r) .nil, ok =>
    simp only [mJoin] at ok
    cases e : strsOf ds with
    | none => rw [e] at ok; exact okr_none ok
    | some ys =>
      rw [e] at ok
      simp only [Option.bind_some] at ok
      by_cases c : (ys.map (·.length)).sum + ys.length * a.length ≤ 16777216
      · rw [if_pos c] at ok
        have := strsOf_rp r e
        subst this
        exact ⟨a, _, ys, rfl, rfl, .inr ((TupP.sq q)), c, okr_fz hz ok (.str _)⟩
      · rw [if_neg c] at ok; exact okr_none ok
def mUpper : D → List D → Option T
  | .str a, [] => if a.length ≤ 5592405 then some (.fz (.str (Txt.upper a))) else none
  | _, _ => none
theorem mtv_upper : MtV K cl (fun x xs H Q => ∃ a, x = .str a ∧ xs = [] ∧ a.length ≤ 5592405 ∧ Q (.str (Txt.upper a)) H) mUpper := by
  intro x v xs vs H Z Q hz rx rs ok
  match x, v, xs, vs, rx, rs, ok with
  | .str a, _, [], [], .str _, .nil, ok =>
    simp only [mUpper] at ok
    by_cases c : a.length ≤ 5592405
    · rw [if_pos c] at ok
      exact ⟨a, rfl, rfl, c, okr_fz hz ok (.str _)⟩
    · rw [if_neg c] at ok; exact okr_none ok
end

/-! ### dict displays -/
def SatQ (K : PySem.W.Frag) (cl : Str → Addr) (W : WX) (σ : L2.St) (H : Hp) (Z S : PA1) (Q : List (V × V) → Hp → Prop) : Option (Out (List (Key × T))) → Prop
  | none => False
  | some (.ok ks E') => ∀ (kvs : List (Key × V)) H' Z' (St S' : PA1), ks.map (·.1) = kvs.map (·.1) → OwnE K cl H' Z' E' σ S' → OwnL K cl H' Z' (ks.map (·.2)) (kvs.map (·.2)) St → Dis St S' → Step H Z S H' Z' (Uni St S') → Okk H' Z' (Uni St S') → Q (kvs.map fun kv => (kV kv.1, kv.2)) H'
  | some (.ex x E') => SatX K cl W σ H Z S x E'
theorem SatQ.re {K : PySem.W.Frag} {cl : Str → Addr} {W : WX} {σ : L2.St} {H H1 : Hp} {Z S Z1 S1 : PA1} {Q : List (V × V) → Hp → Prop} {o} (st : Step H Z S H1 Z1 S1) (h : SatQ K cl W σ H Z S Q o) : SatQ K cl W σ H1 Z1 S1 Q o := by
  match o with
  | none => exact h
  | some (.ok r E') => exact fun v H' Z' St S' e a b d s o => h v H' Z' St S' e a b d (st.trans s) o
  | some (.ex x E') => exact SatX.re st h
structure SQk where
  q : List (V × V) → Hp → Prop
instance : Sats (List (Key × T)) SQk := ⟨fun K cl W σ H Z S q o => SatQ K cl W σ H Z S q.q o, fun st h => SatQ.re st h, fun h => h, fun h => h⟩
structure IQ (X : Cx) (cl : Str → Addr) (pos : Pos) (keys : List (Option Expr)) (values : List Expr) (t : Ev (List (Key × T))) : Prop where
  run : ∀ W, Takes X W → ∃ trs, PPs X pos keys values trs ∧ ∀ E σ H Z (S : PA1) Q, OwnE X.K cl H Z E σ S → Okk H Z S → SatQ X.K cl W σ H Z S Q (t E) → tPairs trs σ H Q
section
variable {X : Cx} {cl : Str → Addr} {pos : Pos}
def qNil : Ev (List (Key × T)) := fun E => some (.ok [] E)
def qCons (tk tv : Ev T) (r : Ev (List (Key × T))) : Ev (List (Key × T)) := fun E => bnd (tk E) fun x E1 => match keyD (frz x) with
  | some k => bnd (tv E1) fun v E2 => bnd (r E2) fun ks E3 => some (.ok ((k, v) :: ks) E3)
  | none => none
theorem iq_nil : IQ X cl pos [] [] qNil := ⟨fun W tk => ⟨[], pps_nil, fun E σ H Z S Q oe ok sat =>
  (sat : SatQ X.K cl W σ H Z S Q (some (.ok [] E))) [] H Z Emp S rfl oe .nil (fun _ z _ => z) (Step.refl.less fun _ z => z.elim False.elim (fun z => z)) (ok.less fun _ z => z.elim False.elim (fun z => z))⟩⟩
theorem iq_cons {k v : Expr} {ks : List (Option Expr)} {vs : List Expr} {tk tv : Ev T} {r : Ev (List (Key × T))} (hk : IE X cl k tk) (hv : IE X cl v tv) (hr : IQ X cl pos ks vs r) : IQ X cl pos (some k :: ks) (v :: vs) (qCons tk tv r) := by
  refine ⟨fun W tkk => ?_⟩
  obtain ⟨tk', pk, qk⟩ := hk.fz W tkk
  obtain ⟨tv', pv, qv⟩ := hv.run W tkk
  obtain ⟨trs, pr, qr⟩ := hr.run W tkk
  refine ⟨_, pps_cons pk pv pr, fun E σ H Z S Q oe ok sat => ?_⟩
  refine qk E σ H Z S _ oe ok (satD_bnd (β := List (Key × T)) (κ := SQk) (q := ⟨Q⟩) sat fun x E1 sat1 xv H1 Z1 S1 oe1 rp1 st1 ok1 => ?_)
  match hx : keyD (frz x) with
  | none => rw [hx] at sat1; exact (sat1 : False).elim
  | some key =>
    rw [hx] at sat1
    dsimp only at sat1
    have ex := keyD_rp rp1 hx
    subst ex
    have sat2 : SatQ X.K cl W σ H1 Z1 S1 Q _ := SatQ.re st1 sat1
    refine qv E1 σ H1 Z1 S1 _ oe1 ok1 (satV_bnd (β := List (Key × T)) (κ := SQk) (q := ⟨Q⟩) sat2 fun y E2 sat3 yv H2 Z2 Sr S2 oe2 ow2 d2 st2 ok2 => ?_)
    have sat4 : SatQ X.K cl W σ H1 Z1 S1 Q (bnd (r E2) fun ks E3 => some (.ok ((key, y) :: ks) E3)) := sat3
    have ok2' : Okk H2 Z2 S2 := ok2.less fun _ z => .inr z
    refine qr E2 σ H2 Z2 S2 _ oe2 ok2' ?_
    match hE : r E2, sat4 with
    | none, sat4 => exact sat4.elim
    | some (.ex x E3), sat4 => exact SatX.re (st2.less fun _ z => .inr z) sat4
    | some (.ok kts E3), sat4 =>
      intro kvs H3 Z3 Sq S3 ek oe3 ow3 d3 st3 ok3
      have sat5 : SatQ X.K cl W σ H1 Z1 S1 Q (some (.ok ((key, y) :: kts) E3)) := sat4
      have dd := st3.dis (R := Sr) (fun a z => ok2.sa a (.inl z)) d2
      have owy := st3.own ok2'.dis d2 ow2
      have sub : ∀ a, Uni (Uni Sr Sq) S3 a → Uni Sr (Uni Sq S3) a := by intro a z; simp only [Uni] at z ⊢; grind
      refine sat5 ((key, yv) :: kvs) H3 Z3 (Uni Sr Sq) S3 (by simp [ek]) oe3 (.cons owy ow3 (fun _ z => .inl z) (fun _ z => .inr z) fun a x y => dd a x (.inl y)) (fun a x y => x.elim (fun x => dd a x (.inr y)) fun x => d3 a x y)
        ((st2.trans (st3.frame (R := Sr))).less sub) ((st3.okk (R := Sr) ok2 ok3 d2).less sub)
theorem mergeK_nodup : ∀ {kvs acc : List (Key × V)}, (kvs.map (·.1)).Nodup → (∀ k ∈ kvs.map (·.1), k ∉ acc.map (·.1)) → mergeK acc kvs = acc ++ kvs
  | [], acc, _, _ => by simp [mergeK]
  | p :: r, acc, nd, h => by
    have h1 : putK acc p.1 p.2 = acc ++ [(p.1, p.2)] := putK_new' (by
      cases e : keyIx (acc.map (·.1)) p.1 with
      | none => rfl
      | some n => exact absurd (List.mem_of_getElem? (keyIx_some e)) (h p.1 (by simp)))
    have nd' := nd
    rw [List.map_cons, List.nodup_cons] at nd'
    show mergeK (putK acc p.1 p.2) r = _
    rw [h1, mergeK_nodup nd'.2 fun k hk => ?_]
    · simp
    · simp only [List.map_append, List.map_cons, List.map_nil, List.mem_append, List.mem_singleton, not_or]
      exact ⟨h k (by rw [List.map_cons]; exact List.mem_cons_of_mem _ hk), fun e => nd'.1 (e ▸ hk)⟩
def eDct (t : Ev (List (Key × T))) : Ev T := fun E => bnd (t E) fun ks E1 => if (ks.map (·.1)).Nodup ∧ ks.length ≤ 15 then some (.ok (.dct ks) E1) else none
theorem ie_dct {keys : List (Option Expr)} {values : List Expr} {t : Ev (List (Key × T))} (h : IQ X cl pos keys values t) (hall : keys.all (·.isSome) = true := by rfl) (hl : keys.length = values.length := by rfl) (h0 : keys ≠ [] := by exact fun h => nomatch h)
    (h15 : keys.length ≤ 15 := by decide) : IE X cl (.Dict keys values pos) (eDct t) := by
  refine ⟨fun W tk => ?_⟩
  obtain ⟨trs, p, q⟩ := h.run W tk
  refine ⟨_, pe_disp p hall hl h0 h15, fun E σ H Z S Q oe ok sat D hD => ?_⟩
  obtain ⟨oeD, stD, okD, dD, kpD⟩ := newObj (St := Emp) (o := .dK []) (ok.less fun _ z => z.elim False.elim (fun z => z)) (fun _ z _ => z) oe hD
  have stD' : Step H Z S (upd H D (.dK [])) Z (Uni (fun a => a = D) S) := (stD.more fun _ z => z.elim False.elim (fun z => z)).less fun a z => z.imp .inl (fun z => z)
  have okD' : Okk (upd H D (.dK [])) Z (Uni (fun a => a = D) S) := okD.less fun a z => z.imp .inl (fun z => z)
  have dD' : Dis (fun a => a = D) S := fun a x y => dD a (.inl x) y
  have okS : Okk (upd H D (.dK [])) Z S := okD'.less fun _ z => .inr z
  refine q E σ (upd H D (.dK [])) Z S _ oeD okS ?_
  unfold eDct at sat
  match hE : t E, sat with
  | none, sat => exact sat.elim
  | some (.ex x E1), sat => exact SatX.re (stD'.less fun _ z => .inr z) sat
  | some (.ok ks E1), sat =>
    simp only [bnd_ok] at sat
    by_cases c : (ks.map (·.1)).Nodup ∧ ks.length ≤ 15
    case neg => rw [if_neg c] at sat; exact sat.elim
    rw [if_pos c] at sat
    intro kvs H1 Z1 Sq S1 ek oe1 ow1 d1 st1 ok1
    have hD1 : H1 D = some (.dK []) := st1.kp D _ upd_same fun z => dD' D rfl z
    have hlen : ks.length = kvs.length := by have := congrArg List.length ek; simpa using this
    refine ⟨hD1, kvs, rfl, by omega, ?_⟩
    rw [mergeK_nodup (acc := []) (by rw [← ek]; exact c.1) (fun _ _ => by simp), List.nil_append]
    have dd := st1.dis (R := fun a => a = D) (fun a z => by subst z; rw [upd_same]; simp) dD'
    have okA : Okk H1 Z1 (Uni (fun a => a = D) (Uni Sq S1)) := st1.okk okD' ok1 dD'
    obtain ⟨stw, okw, kw⟩ := wr_step (o := .dK kvs) okA (D := D) (.inl rfl)
    have kz : ∀ b, Z1 b → Kept H1 (upd H1 D (.dK kvs)) b := fun b z => .of fun p e => kw b p (fun q => okA.dis b (.inl q) z) e
    have sat2 : SatV X.K cl W σ H Z S Q (some (.ok (.dct ks) E1)) := sat
    have sub : ∀ a, Uni (fun a => a = D ∨ Sq a) S1 a → Uni (fun a => a = D) (Uni Sq S1) a := by intro a z; simp only [Uni] at z ⊢; grind
    refine sat2 (.ref D) (upd H1 D (.dK kvs)) Z1 (fun a => a = D ∨ Sq a) S1 (oe1.mono (fun _ z => z) kz fun a o z e => kw a o (fun q => dd a q (.inr z)) e)
      (.dct (R := Sq) upd_same (.inl rfl) (fun b z => ⟨.inr z, fun q => dd b q (.inl z)⟩) ek (ow1.mono (fun _ z => z) kz fun a o z e => kw a o (fun q => dd a q (.inl z)) e)) (fun a x y => x.elim (fun x => dd a x (.inr y)) fun x => d1 a x y) ?_ (okw.less sub)
    exact ((stD'.trans (st1.frame (R := fun a => a = D))).trans stw).less sub
theorem ie_dnew : IE X cl (.Dict [] [] pos) eDnew := by
  refine ⟨fun W tk => ⟨_, pe_dnewK, fun E σ H Z S Q oe ok sat D hD => ?_⟩⟩
  obtain ⟨oeD, stD, okD, dD, kpD⟩ := newObj (St := Emp) (o := .dK []) (ok.less fun _ z => z.elim False.elim (fun z => z)) (fun _ z _ => z) oe hD
  exact (sat : SatV X.K cl W σ H Z S Q (some (.ok (.dct []) E))) (.ref D) _ Z _ S oeD (.dct (R := Emp) upd_same (.inl rfl) (fun _ z => z.elim) rfl .nil) dD (stD.more fun _ z => z.elim False.elim (fun z => z)) okD
theorem ie_dnewT : IE X cl (.Dict [] [] pos) eDnewT := by
  refine ⟨fun W tk => ⟨_, pe_dnewT, fun E σ H Z S Q oe ok sat D hD => ?_⟩⟩
  obtain ⟨oeD, stD, okD, dD, kpD⟩ := newObj (St := Emp) (o := .dT []) (ok.less fun _ z => z.elim False.elim (fun z => z)) (fun _ z _ => z) oe hD
  exact (sat : SatV X.K cl W σ H Z S Q (some (.ok (.dcT []) E))) (.ref D) _ Z _ S oeD (.dcT (R := Emp) upd_same (.inl rfl) (fun _ z => z.elim) rfl .nil) dD (stD.more fun _ z => z.elim False.elim (fun z => z)) okD
end
end VL

namespace VL
open PySem PySem.Spec PyProof.Rows L2

/-! ### repr -/
mutual
def toPyF : D → Option PyData
  | .non => some .none
  | .bl b => some (.bool b)
  | .int i => some (.int i)
  | .str x => some (.str x)
  | .lst xs => (toPyFL xs).map .list
  | .tup xs => (toPyFL xs).map .tuple
  | .dct ks => (toPyFK ks).map .dict
  | .dcT ks => (toPyFQ ks).map .dict
  | _ => none
def toPyFL : List D → Option (List PyData)
  | [] => some []
  | d :: ds => match toPyF d, toPyFL ds with | some x, some l => some (x :: l) | _, _ => none
def toPyFK : List (Key × D) → Option (List (PyData × PyData))
  | [] => some []
  | (k, d) :: ds => match toPyF d, toPyFK ds with | some x, some l => some ((keyPy k, x) :: l) | _, _ => none
def toPyFQ : List (List Key × D) → Option (List (PyData × PyData))
  | [] => some []
  | (k, d) :: ds => match toPyF d, toPyFQ ds with | some x, some l => some ((.tuple (k.map keyPy), x) :: l) | _, _ => none
end
theorem toPyFK_eq : ∀ {ds : List (Key × D)} {ps}, toPyFK ds = some ps → toPyFL (ds.map (·.2)) = some (ps.map (·.2)) ∧ ps.map (·.1) = ds.map fun p => keyPy p.1
  | [], _, h => by simp only [toPyFK] at h; cases h; exact ⟨rfl, rfl⟩
  | (k, d) :: ds, ps, h => by
    simp only [toPyFK] at h
    cases e1 : toPyF d with
    | none => rw [e1] at h; cases h
    | some x =>
      cases e2 : toPyFK ds with
      | none => rw [e1, e2] at h; cases h
      | some l =>
        rw [e1, e2] at h; cases h
        obtain ⟨h1, h2⟩ := toPyFK_eq e2
        simp [toPyFL, e1, h1, h2]
theorem toPyFQ_eq : ∀ {ds : List (List Key × D)} {ps}, toPyFQ ds = some ps → toPyFL (ds.map (·.2)) = some (ps.map (·.2)) ∧ ps.map (·.1) = ds.map fun p => .tuple (p.1.map keyPy)
  | [], _, h => by simp only [toPyFQ] at h; cases h; exact ⟨rfl, rfl⟩
  | (k, d) :: ds, ps, h => by
    simp only [toPyFQ] at h
    cases e1 : toPyF d with
    | none => rw [e1] at h; cases h
    | some x =>
      cases e2 : toPyFQ ds with
      | none => rw [e1, e2] at h; cases h
      | some l =>
        rw [e1, e2] at h; cases h
        obtain ⟨h1, h2⟩ := toPyFQ_eq e2
        simp [toPyFL, e1, h1, h2]
section
variable {X : Cx} {pins : List (Addr × Obj)} {σ : L2.St} {H : Hp} {s : Shared} {cl : Str → Addr} {Z : PA1}
theorem key_reads {h : Heap} {k : Key} {u : Value} (r : RelV (kV k) u) : Reads h u (keyPy k) [] := by
  cases k with
  | inl i => obtain ⟨t, rfl⟩ := r; exact .int i t
  | inr x => obtain ⟨t, rfl⟩ := r; exact .str x t
theorem keys_reads {h : Heap} : ∀ {ks : List Key} {us : List Value}, Vals (ks.map kV) us → ReadsAll h us (ks.map keyPy) []
  | [], _, .nil => .nil
  | k :: ks, _, .cons r rs => .cons (key_reads r) (keys_reads rs)
theorem kv_vals : ∀ {kvs : List (Key × V)} {vs : List (Key × Value)} {es : List DictEntry} {P : Program} {w : World}, KV kvs vs → Pairs (mixKind P w) es vs → Vals (kvs.map fun p => kV p.1) (es.map (·.key)) ∧ Vals (kvs.map (·.2)) (es.map (·.val))
  | [], _, _, _, _, .nil, .nil => ⟨.nil, .nil⟩
  | p :: kvs, _, _, P, w, .cons h t, .cons h1 h2 h3 => by
    obtain ⟨a, b⟩ := kv_vals t h3
    refine ⟨.cons ?_ a, .cons (by dsimp only; rw [h2]; exact h.2) b⟩
    have := relV_key h1
    rw [← h.1] at this
    exact this
theorem kt_vals : ∀ {kvs : List (List Key × V)} {xs : List (List Key × Addr × Value)} {P : Program} {w : World}, Paired (fun (p : List Key × V) (q : List Key × Addr × Value) => p.1 = q.1 ∧ H q.2.1 = some (.tup (p.1.map kV)) ∧ RelV p.2 q.2.2) kvs xs →
    Vals (kvs.map (·.2)) ((xs.map (entryOfKey (tupleKind (mixKind P w)))).map (·.val))
  | [], _, _, _, .nil => .nil
  | p :: kvs, _, P, w, .cons h t => .cons h.2.2 (kt_vals t)
theorem kt_keys (I : Inv X pins σ H s) : ∀ {kvs : List (List Key × V)} {xs : List (List Key × Addr × Value)}, Paired (fun (p : List Key × V) (q : List Key × Addr × Value) => p.1 = q.1 ∧ H q.2.1 = some (.tup (p.1.map kV)) ∧ RelV p.2 q.2.2) kvs xs →
    ReadsAll s.heap ((xs.map (entryOfKey (tupleKind (mixKind X.prog X.w)))).map (·.key)) (kvs.map fun p => .tuple (p.1.map keyPy)) []
  | [], _, .nil => .nil
  | p :: kvs, _, .cons h t => by
    obtain ⟨its, rv, ⟨o, ho, hc, n, hd⟩, _⟩ := I.tuple (SqT.of h.2.1)
    exact .cons (.tuple ho hc hd (keys_reads rv)) (kt_keys I t)
mutual
theorem rp_reads (I : Inv X pins σ H s) (hs : ∃ o, X.base.get? sysModules = some o) : ∀ {d v u p}, Rp X.K cl H Z d v → RelV v u → toPyF d = some p → ∃ as, Reads s.heap u p as ∧ sysModules ∉ as
  | _, _, _, _, .non, r, h => by simp only [toPyF] at h; cases h; cases r; exact ⟨_, .none, by simp⟩
  | _, _, _, _, .bl b, r, h => by simp only [toPyF] at h; cases h; cases r; exact ⟨_, .bool b, by simp⟩
  | _, _, _, _, .int i, r, h => by simp only [toPyF] at h; cases h; obtain ⟨t, rfl⟩ := r; exact ⟨_, .int i t, by simp⟩
  | _, _, _, _, .str x, r, h => by simp only [toPyF] at h; cases h; obtain ⟨t, rfl⟩ := r; exact ⟨_, .str x t, by simp⟩
  | _, _, _, _, .ty _, _, h => by simp [toPyF] at h
  | _, _, _, _, .gl _, _, h => by simp [toPyF] at h
  | _, _, _, _, .scr _, _, h => by simp [toPyF] at h
  | _, _, _, _, .kt _ _, _, h => by simp [toPyF] at h
  | _, _, _, _, .tpn _ _ _, _, h => by simp [toPyF] at h
  | _, _, _, _, .ex0 _ _, _, h => by simp [toPyF] at h
  | _, _, _, _, .exn _ _ _ _ _ _, _, h => by simp [toPyF] at h
  | _, _, _, _, .ins _ _ _ _, _, h => by simp [toPyF] at h
  | _, _, _, p, .lst (a := a) (vs := vs) (xs := xs) _ q rl, r, h => by
    simp only [toPyF] at h
    cases e : toPyFL xs with
    | none => rw [e] at h; cases h
    | some l =>
      rw [e] at h; cases h
      cases r
      obtain ⟨its, rv, ⟨o, n, ho, hc, _, hd⟩, _⟩ := I.list (SqL.of q)
      obtain ⟨as, hr, hn⟩ := rpl_reads I hs rl rv e
      refine ⟨_, .list ho hc hd hr, ?_⟩
      simp only [List.mem_cons, not_or]
      refine ⟨fun z => ?_, hn⟩
      obtain ⟨o', ho'⟩ := hs
      have := (I.bs _ _ ho').2
      rw [z, q] at this; cases this
  | _, _, _, p, .tup (a := a) (vs := vs) (xs := xs) _ q rl, r, h => by
    simp only [toPyF] at h
    cases e : toPyFL xs with
    | none => rw [e] at h; cases h
    | some l =>
      rw [e] at h; cases h
      cases r
      obtain ⟨its, rv, ⟨o, ho, hc, n, hd⟩, _⟩ := I.tuple (TupP.sq q)
      obtain ⟨as, hr, hn⟩ := rpl_reads I hs rl rv e
      exact ⟨_, .tuple ho hc hd hr, hn⟩
  | _, _, _, p, .dct (a := a) (kvs := kvs) (ds := ds) _ q ek rl, r, h => by
    simp only [toPyF] at h
    cases e : toPyFK ds with
    | none => rw [e] at h; cases h
    | some l =>
      rw [e] at h; cases h
      cases r
      obtain ⟨z, hd, vs, rel, o, es, ep, ho, hex, hdat, hkeys, prs, nd⟩ := dk_rd I.hok q
      obtain ⟨e1, e2⟩ := toPyFK_eq e
      obtain ⟨r1, r2⟩ := kv_vals rel prs
      obtain ⟨as, hr, hn⟩ := rpl_reads I hs rl r2 e1
      have ek' : l.map (·.1) = (kvs.map (·.1)).map keyPy := by rw [e2, ← ek]; simp
      have r1' : ReadsAll s.heap (es.toList.map (·.key)) (l.map (·.1)) [] := by
        rw [ek']
        refine keys_reads ?_
        rw [List.map_map]
        exact r1
      refine ⟨_, .dict ho hex.1 hdat r1' hr, ?_⟩
      simp only [List.append_nil, List.cons_append, List.nil_append, List.mem_cons, not_or]
      exact ⟨fun z => by rw [← z] at hd; simp at hd, hn⟩
  | _, _, _, p, .dcT (a := a) (kvs := kvs) (ds := ds) _ q ek rl, r, h => by
    simp only [toPyF] at h
    cases e : toPyFQ ds with
    | none => rw [e] at h; cases h
    | some l =>
      rw [e] at h; cases h
      cases r
      obtain ⟨z, hd, xs, rel, o, es, ep, ho, hex, hdat, hes, hkeys, nd⟩ := dt_rd I.hok q
      obtain ⟨e1, e2⟩ := toPyFQ_eq e
      obtain ⟨as, hr, hn⟩ := rpl_reads I hs rl (kt_vals (P := X.prog) (w := X.w) rel) e1
      have ek' : l.map (·.1) = kvs.map fun p => .tuple (p.1.map keyPy) := by
        have : kvs.map (fun p => PyData.tuple (p.1.map keyPy)) = (kvs.map (·.1)).map fun k => PyData.tuple (k.map keyPy) := by simp
        rw [e2, this, ← ek]; simp
      have r1' : ReadsAll s.heap (es.toList.map (·.key)) (l.map (·.1)) [] := by
        rw [ek', hes]
        exact kt_keys I rel
      refine ⟨_, .dict ho hex.1 hdat r1' (by rw [hes]; exact hr), ?_⟩
      simp only [List.append_nil, List.cons_append, List.nil_append, List.mem_cons, not_or]
      exact ⟨fun z => by rw [← z] at hd; simp at hd, hn⟩
theorem rpl_reads (I : Inv X pins σ H s) (hs : ∃ o, X.base.get? sysModules = some o) : ∀ {ds vs us ps}, RpL X.K cl H Z ds vs → Vals vs us → toPyFL ds = some ps → ∃ as, ReadsAll s.heap us ps as ∧ sysModules ∉ as
  | _, _, _, _, .nil, .nil, h => by simp only [toPyFL] at h; cases h; exact ⟨_, .nil, by simp⟩
  | d :: ds, _, _, _, .cons r rs, .cons q qs, h => by
    simp only [toPyFL] at h
    cases e1 : toPyF d with
    | none => rw [e1] at h; cases h
    | some x =>
      cases e2 : toPyFL ds with
      | none => rw [e1, e2] at h; cases h
      | some l =>
        rw [e1, e2] at h; cases h
        obtain ⟨as, a1, a2⟩ := rp_reads I hs r q e1
        obtain ⟨bs, b1, b2⟩ := rpl_reads I hs rs qs e2
        exact ⟨_, .cons a1 b1, by simp only [List.mem_append, not_or]; exact ⟨a2, b2⟩⟩
end
end
/-- what may be shown, and is -/
def reprS (d : D) : Option Str := match toPyF d with
  | some p => if p.showable = true ∧ p.depth ≤ 60 ∧ p.shown.length ≤ 16777216 then some p.shown else none
  | none => none
def rRepr (K : PySem.W.Frag) (cl : Str → Addr) : List V → Hp → VK → Prop := fun vs H Q => ∃ (Z : PA1) (x : D) (v : V) (z : Str), vs = [v] ∧ Rp K cl H Z x v ∧ reprS x = some z ∧ Q (.str z) H
theorem call_reprA {X : Cx} {cl : Str → Addr} (hu : X.A.units + 64 < cLine) (hg : X.A.guards = some []) (hs : ∃ o, X.base.get? sysModules = some o) : CallR X (.builtin "repr") (rRepr X.K cl) := by
  intro pins s σ H xs us Q I r h
  obtain ⟨Z, x, v, z, rfl, rp, hz, q⟩ := h
  obtain ⟨u, rfl, ru⟩ := r.one
  unfold reprS at hz
  cases e : toPyF x with
  | none => rw [e] at hz; cases hz
  | some p =>
    rw [e] at hz
    dsimp only at hz
    split at hz
    case isFalse => cases hz
    rename_i c
    cases hz
    obtain ⟨c1, c2, c3⟩ := c
    have c3' : p.shown.length ≤ sizeLine := by rw [sizeLine_eq]; exact c3
    obtain ⟨as, rd, hn⟩ := rp_reads I hs rp ru e
    cases v with
    | non =>
      cases rp
      cases ru
      simp only [toPyF] at e; cases e
      exact PySem.P.repr_of_none ⟨.str _, H, I.tok _, ⟨_, rfl⟩, q⟩
    | bl b =>
      cases rp
      cases ru
      simp only [toPyF] at e; cases e
      exact PySem.P.repr_of_bool ⟨.str _, H, I.tok _, ⟨_, rfl⟩, q⟩
    | int i =>
      cases rp
      obtain ⟨t, rfl⟩ := ru
      simp only [toPyF] at e; cases e
      exact PySem.P.repr_of_int (by simpa [PyData.showable] using c1) ⟨.str _, H, I.tok _, ⟨_, rfl⟩, q⟩
    | str i =>
      cases rp
      obtain ⟨t, rfl⟩ := ru
      simp only [toPyF] at e; cases e
      exact PySem.P.repr_of_str ⟨.str _, H, I.tok _, ⟨_, rfl⟩, q⟩ (by simpa [PyData.shown] using c3')
    | ref a =>
      cases ru
      refine repr_of_reads' rd c1 (fun _ => hn) hg (by omega) (fun b o e => e) (fun h' t tk k => ?_) c3'
      exact ⟨.str p.shown, H, I.kept k, ⟨_, rfl⟩, q⟩
    | ty n => cases rp; simp [toPyF] at e
    | _ => cases rp
def reprD : List D → Option T
  | [x] => (reprS x).map fun z => .fz (.str z)
  | _ => none
theorem callv_repr {K : PySem.W.Frag} {cl : Str → Addr} : CallV K cl (rRepr K cl) reprD := by
  intro xs vs H Z Q hz rs ok
  match xs, vs, rs, ok with
  | [x], [v], .cons rx .nil, ok =>
    simp only [reprD] at ok
    cases e : reprS x with
    | none => rw [e] at ok; exact okr_none ok
    | some z => rw [e] at ok; exact ⟨Z, x, v, z, rfl, rx, e, okr_fz hz ok (.str _)⟩
end VL

namespace VL
open PySem PySem.Spec PyProof.Rows L2
/-! ### the rules as a derivation names them -/
section
variable {X : Cx} {cl : Str → Addr} {kp : Keep} {pos : Pos} {k : Nat} {a b c e : Expr} {ta tb tc : Ev T} {es : List Expr} {ts : Ev (List D)}
theorem iv (i : Nat) {x : Str} {pos : Pos} (hN : X.N[i]? = some x := by rfl) (hv : Vis X.env.scope x := by first | exact Or.inl rfl | exact Or.inr (Or.inl rfl) | exact Or.inr (Or.inr rfl)) (hd : (x == ("__debug__" : Str)) = false := by decide) (hcd : (x == ("__classdict__" : Str)) = false := by decide) : IE X cl (.Name x pos) (eVar i) := ie_var hN hv hd hcd
theorem ifz (i : Nat) {x : Str} {pos : Pos} (hN : X.N[i]? = some x := by rfl) (hv : Vis X.env.scope x := by first | exact Or.inl rfl | exact Or.inr (Or.inl rfl) | exact Or.inr (Or.inr rfl)) (hd : (x == ("__debug__" : Str)) = false := by decide) (hcd : (x == ("__classdict__" : Str)) = false := by decide) : IE X cl (.Name x pos) (eFrz i) := ie_frz hN hv hd hcd
theorem imv (i : Nat) {x : Str} {pos : Pos} (hN : X.N[i]? = some x := by rfl) (hv : Vis X.env.scope x := by first | exact Or.inl rfl | exact Or.inr (Or.inl rfl) | exact Or.inr (Or.inr rfl)) (hd : (x == ("__debug__" : Str)) = false := by decide) (hcd : (x == ("__classdict__" : Str)) = false := by decide) : IE X cl (.Name x pos) (eMov i) := ie_mov hN hv hd hcd
theorem igint {x : Str} {i : Int} {pos : Pos} (hm : ∃ t, X.mg x = some (.int i t)) (hg : Gl X x := by rfl) (hd : (x == ("__debug__" : Str)) = false := by decide) : IE X cl (.Name x pos) (eC (.int i)) := let ⟨_, h⟩ := hm; ie_gint h hg hd
theorem igstr {x : Str} {i : Str} {pos : Pos} (hm : ∃ t, X.mg x = some (.str i t)) (hg : Gl X x := by rfl) (hd : (x == ("__debug__" : Str)) = false := by decide) : IE X cl (.Name x pos) (eC (.str i)) := let ⟨_, h⟩ := hm; ie_gstr h hg hd
theorem ity {x : Str} {n : String} {pos : Pos} (hm : X.mg x = none) (hb : bootBuiltins x = some (.type n)) (hg : Gl X x := by rfl) (hn : x ≠ "__name__" := by decide) (hd : (x == ("__debug__" : Str)) = false := by decide) : IE X cl (.Name x pos) (eC (.ty n)) := ie_ty hm hb hg hn hd
theorem u65 (hr : Room k X.A) : X.A.units + 65 < cLine := by have := hr.un; omega
theorem u1 (hr : Room k X.A) : X.A.units + 1 < cLine := by have := hr.un; omega
theorem bAdd (ha : IE X cl a ta) (hb : IE X cl b tb) : IE X cl (.BinOp a .Add b pos) (eBin addD ta tb) := ie_bin op_addA opv_add ha hb
theorem bSub (ha : IE X cl a ta) (hb : IE X cl b tb) : IE X cl (.BinOp a .Sub b pos) (eBin subD ta tb) := ie_bin op_sub opv_sub ha hb
theorem bMul (ha : IE X cl a ta) (hb : IE X cl b tb) : IE X cl (.BinOp a .Mult b pos) (eBin mulD ta tb) := ie_bin op_mulA opv_mul ha hb
theorem bDiv (ha : IE X cl a ta) (hb : IE X cl b tb) : IE X cl (.BinOp a .FloorDiv b pos) (eBin fdivD ta tb) := ie_bin op_fdiv opv_int ha hb
theorem bMod (ha : IE X cl a ta) (hb : IE X cl b tb) : IE X cl (.BinOp a .Mod b pos) (eBin modD ta tb) := ie_bin op_mod opv_int ha hb
theorem bPow (ha : IE X cl a ta) (hb : IE X cl b tb) : IE X cl (.BinOp a .Pow b pos) (eBin powD ta tb) := ie_bin op_pow opv_int ha hb
theorem uNeg (ha : IE X cl a ta) : IE X cl (.UnaryOp .USub a pos) (eUn negD ta) := ie_un un_neg unv_neg ha
/-- the readings of comparisons -/
structure CmpW (X : Cx) (cl : Str → Addr) (op : CmpOp) (g : D → D → Option T) : Prop where
  ex : ∃ r, OpR X (compareOp op) r ∧ OpV X.K cl r g
theorem kEq (hr : Room k X.A) : CmpW X cl .Eq eqA := ⟨_, op_eqA hr.units, opv_eqA⟩
theorem kNe (hr : Room k X.A) : CmpW X cl .NotEq neA := ⟨_, op_neA hr.units, opv_neA⟩
theorem kLt : CmpW X cl .Lt ltD := ⟨_, op_lt, opv_cmp⟩
theorem kLe : CmpW X cl .LtE leD := ⟨_, op_le, opv_cmp⟩
theorem kGt : CmpW X cl .Gt gtD := ⟨_, op_gt, opv_cmp⟩
theorem kGe : CmpW X cl .GtE geD := ⟨_, op_ge, opv_cmp⟩
theorem kIn (hr : Room k X.A) : CmpW X cl .In (inA false) := ⟨_, op_inA (u65 hr), opv_in⟩
theorem kNin (hr : Room k X.A) : CmpW X cl .NotIn (inA true) := ⟨_, op_ninA (u65 hr), opv_nin⟩
theorem kIs : CmpW X cl .Is isND := ⟨_, op_isN, opv_isN⟩
theorem kIsnt : CmpW X cl .IsNot notND := ⟨_, op_notN, opv_notN⟩
theorem vCmp {op : CmpOp} {g : D → D → Option T} (h : CmpW X cl op g) (ha : IE X cl a ta) (hb : IE X cl b tb) (hm : behindInMarks op b = false := by with_unfolding_all rfl) : IE X cl (.Compare a [op] [b] pos) (eBin g ta tb) := let ⟨_, ho, hg⟩ := h.ex; ie_cmp ho hg ha hb hm
theorem qCmp {op : CmpOp} {g : D → D → Option T} (h : CmpW X cl op g) (ha : IE X cl a ta) (hb : IE X cl b tb) (hm : behindInMarks op b = false := by with_unfolding_all rfl) : IB X cl (.Compare a [op] [b] pos) (bBin g ta tb) := let ⟨_, ho, hg⟩ := h.ex; ib_cmp ho hg ha hb hm
theorem vChn {op op' : CmpOp} {g g' : D → D → Option T} (h : CmpW X cl op g) (h' : CmpW X cl op' g') (ha : IE X cl a ta) (hb : IE X cl b tb) (hc : IE X cl c tc) (hm : lastMarks [op, op'] [b, c] = false := by with_unfolding_all rfl) : IE X cl (.Compare a [op, op'] [b, c] pos) (eChn g g' ta tb tc) :=
  let ⟨_, ho, hg⟩ := h.ex; let ⟨_, ho', hg'⟩ := h'.ex; ie_chn ho hg ho' hg' ha hb hc hm
theorem qChn {op op' : CmpOp} {g g' : D → D → Option T} (h : CmpW X cl op g) (h' : CmpW X cl op' g') (ha : IE X cl a ta) (hb : IE X cl b tb) (hc : IE X cl c tc) (hm : lastMarks [op, op'] [b, c] = false := by with_unfolding_all rfl) : IB X cl (.Compare a [op, op'] [b, c] pos) (bVal (eChn g g' ta tb tc)) :=
  let ⟨_, ho, hg⟩ := h.ex; let ⟨_, ho', hg'⟩ := h'.ex; ib_chn ho hg ho' hg' ha hb hc hm
theorem ix (hr : Room k X.A) (ha : IE X cl a ta) (hb : IE X cl b tb) (hs : PlainIx b := by exact fun _ _ => rfl) : IE X cl (.Subscript a b pos) (eBin ixA ta tb) := ie_ix (ix_all (u1 hr)) opv_ixA ha hb hs
theorem sl_allR : SlR X (rSlAll X.K) := sl_list.or (sl_tupP.or sl_str)
theorem islice {lo hi : Option Expr} {p2 : Pos} {tl th : Ev (Option Int)} (ha : IE X cl a ta) (hl : IO X cl lo tl) (hh : IO X cl hi th) : IE X cl (.Subscript a (.Slice lo hi none p2) pos) (eSl slD ta tl th) := ie_slice sl_allR slv_all ha hl hh
/-- the readings of calls of built-ins -/
structure CallW (X : Cx) (cl : Str → Addr) (f : Value) (g : List D → Option T) : Prop where
  ex : ∃ r, CallR X f r ∧ CallV X.K cl r g
theorem fLen : CallW X cl (.builtin "len") lenD := ⟨_, call_len, callv_len⟩
theorem fAbs : CallW X cl (.builtin "abs") absD := ⟨_, call_abs, callv_abs⟩
theorem fAll (hc : X.calm = true := by rfl) : CallW X cl (.builtin "all") allD := ⟨_, cr_all hc, callv_all⟩
theorem fIsi : CallW X cl (.builtin "isinstance") isTyD := ⟨_, call_isi, callv_isTy⟩
theorem fRepr (hr : Room k X.A) (hg : X.A.guards = some []) (hs : ∃ o, X.base.get? sysModules = some o) : CallW X cl (.builtin "repr") reprD := ⟨_, call_reprA hr.units hg hs, callv_repr⟩
theorem fList : CallW X cl (.type "list") listD := ⟨_, call_list_of, callv_list⟩
theorem fTuple : CallW X cl (.type "tuple") tupleD := ⟨_, call_tupleP, callv_tuple⟩
theorem iB {x : Str} {id : String} {p : Pos} {g : List D → Option T} (h : CallW X cl (.builtin id) g) (hm : X.mg x = none) (hv : bootBuiltins x = some (.builtin id)) (ha : IA X cl (e :: es) ts)
    (hg : Gl X x := by rfl) (hn : x ≠ "__name__" := by decide) (hdb : (x == ("__debug__" : Str)) = false := by decide)
    (he : starEach (e :: es) X.env = (false, eval e X.env) :: starEach es X.env := by rfl) (hpl : (backTo pos (starEach es X.env)).any (·.1) = false := by rfl) : IE X cl (.Call (.Name x p) (e :: es) [] pos) (eCall g ts) := let ⟨_, hc, hgv⟩ := h.ex; ie_callB hc hgv hm hv ha hg hn hdb he hpl
theorem iT {x : Str} {n : String} {p : Pos} {g : List D → Option T} (h : CallW X cl (.type n) g) (hm : X.mg x = none) (hv : bootBuiltins x = some (.type n)) (ha : IA X cl (e :: es) ts)
    (hg : Gl X x := by rfl) (hn : x ≠ "__name__" := by decide) (hdb : (x == ("__debug__" : Str)) = false := by decide)
    (he : starEach (e :: es) X.env = (false, eval e X.env) :: starEach es X.env := by rfl) (hpl : (backTo pos (starEach es X.env)).any (·.1) = false := by rfl) : IE X cl (.Call (.Name x p) (e :: es) [] pos) (eCall g ts) := let ⟨_, hc, hgv⟩ := h.ex; ie_callT hc hgv hm hv ha hg hn hdb he hpl
/-- methods -/
theorem mJoinR {o : Expr} {to : Ev T} {apos cpos : Pos} (ho : IE X cl o to) (ha : IA X cl [e] ts) (hbase : attributeBase o "join" X.env (eval o X.env) = eval o X.env := by rfl)
    (hfew : ((backTo cpos (starEach [e] X.env)).all (fun x => !x.1) && (backToKw cpos (keywordEach [] X.env)).all (fun x => x.1.isSome)
      && decide (([e] : List Expr).length + ([] : List Keyword).length + (if ([] : List Keyword).isEmpty then 0 else 1) < 30)) = true := by rfl)
    (hline : (apos.endLine == cpos.line) = true := by rfl) (hs : starEach [e] X.env = (false, eval e X.env) :: starEach [] X.env := by rfl) (hplain : (backTo cpos (starEach [] X.env)).any (·.1) = false := by rfl) :
    IE X cl (.Call (.Attribute o "join" apos) [e] [] cpos) (eMv "str" mJoin to ts) := ie_mv F.plainAttrs_str F.slot_str_join F.type_str_join mt_join mtv_join ho ha hbase hfew hline hs hplain
theorem mUpperR {o : Expr} {to : Ev T} {apos cpos : Pos} (ho : IE X cl o to) (hbase : attributeBase o "upper" X.env (eval o X.env) = eval o X.env := by rfl) (hline : (apos.endLine == cpos.line) = true := by rfl) :
    IE X cl (.Call (.Attribute o "upper" apos) [] [] cpos) (eMv "str" mUpper to aNil) := ie_mv0 F.plainAttrs_str F.slot_str_upper F.type_str_upper mt_upper mtv_upper ho hbase hline
theorem mAppendR (i : Nat) {o : Expr} {tp : Ev Loc} {ms : Ev (List T)} {apos cpos : Pos} (ho : IP X cl o tp) (ha : IMs X cl i [e] ms) (hbase : attributeBase o "append" X.env (eval o X.env) = eval o X.env := by rfl)
    (hfew : ((backTo cpos (starEach [e] X.env)).all (fun x => !x.1) && (backToKw cpos (keywordEach [] X.env)).all (fun x => x.1.isSome)
      && decide (([e] : List Expr).length + ([] : List Keyword).length + (if ([] : List Keyword).isEmpty then 0 else 1) < 30)) = true := by rfl)
    (hline : (apos.endLine == cpos.line) = true := by rfl) (hs : starEach [e] X.env = (false, eval e X.env) :: starEach [] X.env := by rfl) (hplain : (backTo cpos (starEach [] X.env)).any (·.1) = false := by rfl) :
    IE X cl (.Call (.Attribute o "append" apos) [e] [] cpos) (eMt i "list" gAppend tp ms) := ie_mt i F.plainAttrs_list F.slot_list_append F.type_list_append mt_append mutv_append ho ha hbase hfew hline hs hplain
end
end VL

namespace VL
open PySem PySem.Spec PyProof.Rows L2
/-! ### a, b = x, y -/
def putN : List (Nat × Bool) → List T → En → Option En
  | [], [], E => some E
  | (i, o) :: r, t :: ts, E => putN r ts (E.set i (some (if o = true then t else .fz (frz t))))
  | _, _, _ => none
def putV : List Nat → List V → L2.St → L2.St
  | i :: r, v :: vs, σ => putV r vs (σ.set i (some v))
  | _, _, σ => σ
theorem putN_run {K : PySem.W.Frag} {cl : Str → Addr} {kp : Keep} {H : Hp} : ∀ {is : List (Nat × Bool)} {ts : List T} {vs : List V} {E E' : En} {σ : L2.St} {Z Sq S : PA1}, OwnE K cl H Z E σ S → OwnL K cl H Z ts vs Sq → Dis Sq S → Okk H Z (Uni Sq S) → putN is ts E = some E' → (∀ p ∈ is, kp p.1 = false) →
    ∃ Z' S' : PA1, OwnE K cl H Z' E' (putV (is.map (·.1)) vs σ) S' ∧ Kp kp σ (putV (is.map (·.1)) vs σ) ∧ Step H Z (Uni Sq S) H Z' S' ∧ Okk H Z' S' ∧ vs.length = is.length
  | [], [], vs, E, E', σ, Z, Sq, S, oe, ow, d, ok, h, hk => by
    cases ow
    simp only [putN] at h
    cases h
    exact ⟨Z, S, oe, .refl, Step.refl.less fun _ z => .inr z, ok.less fun _ z => .inr z, rfl⟩
  | (i, o) :: r, t :: ts, _, E, E', σ, Z, Sq, S, oe, .cons (v := v) (vs := vs) (S1 := A1) (S2 := A2) q qr a1 a2 dd, d, ok, h, hk => by
    simp only [putN] at h
    have hki : kp i = false := hk (i, o) (by simp)
    cases o with
    | true =>
      rw [if_pos rfl] at h
      obtain ⟨Z', S', h1, h2, h3, h4, h5⟩ := putN_run (kp := kp) (oe.into (i := i) q fun a x y => d a (a1 a x) y) qr (fun a x y => y.elim (fun y => dd a y x) (d a (a2 a x))) (ok.less fun a z => z.elim (fun z => .inl (a2 a z)) fun z => z.imp (a1 a) id) h fun p hp => hk p (by simp [hp])
      exact ⟨Z', S', h1, (Kp.set hki).trans h2, h3.more fun a z => z.elim (fun z => .inl (a2 a z)) fun z => z.imp (a1 a) id, h4, by simp [h5]⟩
    | false =>
      rw [if_neg Bool.false_ne_true] at h
      have okA : Okk H Z (Uni A1 (Uni A2 S)) := ok.less fun a z => z.elim (fun z => .inl (a1 a z)) fun z => z.imp (a2 a) id
      have dA : Dis A1 (Uni A2 S) := fun a x y => y.elim (dd a x) (d a (a1 a x))
      obtain ⟨s2, o2⟩ := freezeStep okA dA
      have rp := q.frz (Z' := Uni Z A1) (fun _ z => .inl z) fun _ z => .inr z
      have oe1 := ((oe.zmore (Z' := Uni Z A1) fun _ z => .inl z).into (Si := Emp) (i := i) (.fz rp) fun _ z _ => z).up fun a z => z.elim False.elim id
      have qr1 := qr.mono (Z' := Uni Z A1) (fun _ z => .inl z) (fun _ _ => .refl) fun _ _ _ e => e
      obtain ⟨Z', S', h1, h2, h3, h4, h5⟩ := putN_run (kp := kp) oe1 qr1 (fun a x y => d a (a2 a x) y) o2 h fun p hp => hk p (by simp [hp])
      exact ⟨Z', S', h1, (Kp.set hki).trans h2, (s2.trans h3).more fun a z => z.elim (fun z => .inl (a1 a z)) fun z => z.imp (a2 a) id, h4, by simp [h5]⟩
  | [], t :: ts, _, _, _, _, _, _, _, _, _, _, _, h, _ => by simp [putN] at h
  | (i, o) :: r, [], _, _, _, _, _, _, _, _, _, _, _, h, _ => by simp [putN] at h
def sPar (is : List (Nat × Bool)) (ts : Ev (List T)) : Ev Fl := fun E => bnd (ts E) fun xs E1 => match putN is xs E1 with
  | some E2 => some (.ok .nx E2)
  | none => none
section
variable {X : Cx} {cl : Str → Addr} {kp : Keep} {pos : Pos} {k : Nat}
theorem par_core {W : WX} {is : List (Nat × Bool)} {ts : Ev (List T)} {ms : List (Option Nat)} {ta : TA} (hk : ∀ p ∈ is, kp p.1 = false) (q : ∀ E σ H Z (S : PA1) Q, OwnE X.K cl H Z E σ S → Okk H Z S → SatM X.K cl W ms σ H Z S Q (ts E) → ta σ H Q)
    (E : En) (σ : L2.St) (H : Hp) (Z S : PA1) (D : Ends) (oe : OwnE X.K cl H Z E σ S) (ok : Okk H Z S) (sat : SatS X.K cl W kp σ H Z S D (sPar is ts E)) : ta σ H fun vs H1 => vs.length = is.length ∧ D.nx (putV (is.map (·.1)) vs σ) H1 := by
  refine q E σ H Z S _ oe ok ?_
  unfold sPar at sat
  match hE : ts E, sat with
  | none, sat => exact sat.elim
  | some (.ex x E1), sat =>
    intro c d H' Z' S' a b s o
    exact (sat : SatXs X.K cl W kp σ H Z S x E1) c d σ H' Z' S' a .refl b s o
  | some (.ok xs E1), sat =>
    intro vs H1 Z1 Sq S1 oe1 ow1 d1 mv st1 ok1
    simp only [bnd_ok] at sat
    match hp : putN is xs E1, sat with
    | none, sat => exact sat.elim
    | some E2, sat =>
      obtain ⟨Z', S', h1, h2, h3, h4, h5⟩ := putN_run (kp := kp) oe1 ow1 d1 ok1 hp hk
      have sat2 : SatS X.K cl W kp σ H Z S D (some (.ok .nx E2)) := sat
      exact ⟨h5, sat2 _ H1 Z' S' h1 h2 (st1.trans h3) h4⟩
theorem is_par2 (i j : Nat) (oi oj : Bool) {x y : Str} {a b : Expr} {ts : Ev (List T)} {ms : List (Option Nat)} {px py pt : Pos} {kt k2 pt2} (hc : X.calm = true) (hN : X.N.Nodup) (ha : IM X cl [a, b] ms ts) (hi : X.N[i]? = some x := by rfl) (hj : X.N[j]? = some y := by rfl) (hij : i ≠ j := by decide)
    (hx : X.env.scope.names.lookup x = some .local := by rfl) (hy : X.env.scope.names.lookup y = some .local := by rfl) (hki : kp i = false := by rfl) (hkj : kp j = false := by rfl)
    (hw : swappedStores [.Tuple [.Name x px, .Name y py] kt pt] (.Tuple [a, b] k2 pt2) X.env = pure (some [x, y]) := by rfl)
    (hs : swapsWithSole [.Tuple [.Name x px, .Name y py] kt pt] (.Tuple [a, b] k2 pt2) pos.line X.env = pure false := by rfl) :
    IS X cl kp (.Assign [.Tuple [.Name x px, .Name y py] kt pt] (.Tuple [a, b] k2 pt2) pos) (sPar [(i, oi), (j, oj)] ts) := by
  refine ⟨fun W tk => ?_⟩
  obtain ⟨ta, pa, q⟩ := ha.run W tk
  refine ⟨_, ps_par hc hN hi hj hij hx hy pa hw hs, fun E σ H Z S D oe ok sat => ?_⟩
  have hk : ∀ p ∈ [(i, oi), (j, oj)], kp p.1 = false := by
    intro p hp
    simp only [List.mem_cons, List.not_mem_nil, or_false] at hp
    rcases hp with rfl | rfl
    · exact hki
    · exact hkj
  have core := par_core (ta := ta) (is := [(i, oi), (j, oj)]) hk q E σ H Z S D oe ok sat
  obtain ⟨te, pe, qe⟩ := ha.run W tk
  refine q E σ H Z S _ oe ok ?_
  unfold sPar at sat
  match hE : ts E, sat with
  | none, sat => exact sat.elim
  | some (.ex x E1), sat =>
    intro c d H' Z' S' a b s o
    exact (sat : SatXs X.K cl W kp σ H Z S x E1) c d σ H' Z' S' a .refl b s o
  | some (.ok xs E1), sat =>
    intro vs H1 Z1 Sq S1 oe1 ow1 d1 mv st1 ok1
    simp only [bnd_ok] at sat
    match hp : putN [(i, oi), (j, oj)] xs E1, sat with
    | none, sat => exact sat.elim
    | some E2, sat =>
      obtain ⟨Z', S', h1, h2, h3, h4, h5⟩ := putN_run (kp := kp) oe1 ow1 d1 ok1 hp hk
      have sat2 : SatS X.K cl W kp σ H Z S D (some (.ok .nx E2)) := sat
      match vs, h5, h1, h2 with
      | [v, w], _, h1, h2 => exact ⟨v, w, rfl, sat2 _ H1 Z' S' h1 h2 (st1.trans h3) h4⟩
theorem is_par3 (i j l : Nat) (oi oj ol : Bool) {x y z : Str} {a b c : Expr} {ts : Ev (List T)} {ms : List (Option Nat)} {px py pz pt : Pos} {kt k2 pt2} (hc : X.calm = true) (hN : X.N.Nodup) (ha : IM X cl [a, b, c] ms ts) (hi : X.N[i]? = some x := by rfl) (hj : X.N[j]? = some y := by rfl) (hl : X.N[l]? = some z := by rfl)
    (hij : i ≠ j := by decide) (hil : i ≠ l := by decide) (hjl : j ≠ l := by decide)
    (hx : X.env.scope.names.lookup x = some .local := by rfl) (hy : X.env.scope.names.lookup y = some .local := by rfl) (hz : X.env.scope.names.lookup z = some .local := by rfl) (hki : kp i = false := by rfl) (hkj : kp j = false := by rfl) (hkl : kp l = false := by rfl)
    (hw : swappedStores [.Tuple [.Name x px, .Name y py, .Name z pz] kt pt] (.Tuple [a, b, c] k2 pt2) X.env = pure (some [x, y, z]) := by rfl)
    (hs : swapsWithSole [.Tuple [.Name x px, .Name y py, .Name z pz] kt pt] (.Tuple [a, b, c] k2 pt2) pos.line X.env = pure false := by rfl) :
    IS X cl kp (.Assign [.Tuple [.Name x px, .Name y py, .Name z pz] kt pt] (.Tuple [a, b, c] k2 pt2) pos) (sPar [(i, oi), (j, oj), (l, ol)] ts) := by
  refine ⟨fun W tk => ?_⟩
  obtain ⟨ta, pa, q⟩ := ha.run W tk
  refine ⟨_, ps_par3 hc hN hi hj hl hij hil hjl hx hy hz pa hw hs, fun E σ H Z S D oe ok sat => ?_⟩
  have hk : ∀ p ∈ [(i, oi), (j, oj), (l, ol)], kp p.1 = false := by
    intro p hp
    simp only [List.mem_cons, List.not_mem_nil, or_false] at hp
    rcases hp with rfl | rfl | rfl
    · exact hki
    · exact hkj
    · exact hkl
  refine q E σ H Z S _ oe ok ?_
  unfold sPar at sat
  match hE : ts E, sat with
  | none, sat => exact sat.elim
  | some (.ex x E1), sat =>
    intro c d H' Z' S' a b s o
    exact (sat : SatXs X.K cl W kp σ H Z S x E1) c d σ H' Z' S' a .refl b s o
  | some (.ok xs E1), sat =>
    intro vs H1 Z1 Sq S1 oe1 ow1 d1 mv st1 ok1
    simp only [bnd_ok] at sat
    match hp : putN [(i, oi), (j, oj), (l, ol)] xs E1, sat with
    | none, sat => exact sat.elim
    | some E2, sat =>
      obtain ⟨Z', S', h1, h2, h3, h4, h5⟩ := putN_run (kp := kp) oe1 ow1 d1 ok1 hp hk
      have sat2 : SatS X.K cl W kp σ H Z S D (some (.ok .nx E2)) := sat
      match vs, h5, h1, h2 with
      | [v, w, u], _, h1, h2 => exact ⟨v, w, u, rfl, sat2 _ H1 Z' S' h1 h2 (st1.trans h3) h4⟩
end

/-! ### a def, as it is called -/
structure Cal (P : Program) (w : World) (K : PySem.W.Frag) (mg : Str → Option Value) (base : Heap) (cl : Str → Addr) (x : Str) (k : Nat) (ps : List Str) (F : List T → Option (Out T)) : Prop where
  ex : ∃ f fd, mg x = some (.ref f) ∧ PySem.W.keepIn K (.ref f) = true ∧ Binds K fd ps [] ∧ FnV P w K mg base cl k f fd ps F
section
variable {X : Cx} {cl : Str → Addr} {pos : Pos} {k j : Nat} {e : Expr} {es : List Expr} {ms : List (Option Nat)} {ts : Ev (List T)}
theorem iCall {x : Str} {p : Pos} {ps : List Str} {F : List T → Option (Out T)} (c : Cal X.prog X.w X.K X.mg X.base cl x j ps F) (hr : Room k X.A) (hg : X.A.guards = some []) (ha : IM X cl (e :: es) ms ts) (hj : j ≤ k := by decide) (hn : ms.length = ps.length := by rfl) (hgl : Gl X x := by rfl)
    (hdb : (x == ("__debug__" : Str)) = false := by decide) (he : starEach (e :: es) X.env = (false, eval e X.env) :: starEach es X.env := by rfl) (hpl : (backTo pos (starEach es X.env)).any (·.1) = false := by rfl) :
    IE X cl (.Call (.Name x p) (e :: es) [] pos) (eFn F ms ts) := by
  obtain ⟨f, fd, hm, hk, hb, hF⟩ := c.ex
  exact ie_call hF (hr.mono hj) hg hb hm hk ha hn hgl hdb he hpl
theorem iCall0 {x : Str} {p : Pos} {ps : List Str} {F : List T → Option (Out T)} (c : Cal X.prog X.w X.K X.mg X.base cl x j ps F) (hr : Room k X.A) (hg : X.A.guards = some []) (hj : j ≤ k := by decide) (hn : ps.length = 0 := by rfl) (hgl : Gl X x := by rfl)
    (hdb : (x == ("__debug__" : Str)) = false := by decide) : IE X cl (.Call (.Name x p) [] [] pos) (eFn F [] mNil) := by
  obtain ⟨f, fd, hm, hk, hb, hF⟩ := c.ex
  exact ie_call0 hF (hr.mono hj) hg hb hm hk hn hgl hdb
end
end VL

namespace VL
open PySem PySem.Spec PyProof.Rows L2
theorem room_caller {k : Nat} (h : Room k callerA) : callerA.guards = some [] := rfl
/-- the law's promise at the heap behind the top -/
theorem law_callV {P : Program} {w : World} {K : PySem.W.Frag} {mg mb : Str → Option Value} {cl : Str → Addr} {k : Nat} {fa a : Addr} {fd : FuncData} {x : Str} {F : List T → Option (Out T)} {s₁ : Shared} {vs : List Value} {ns : List Int}
    (KX : K.In s₁.heap) (hns : s₁.heap.Ns mainGlobals mg) (hb : s₁.heap.Ns builtinsNs mb) (hbb : ∀ x : Str, x ≠ "__name__" → mb x = bootBuiltins x) (hlim : s₁.heap.NoLimit) (hsy : ∃ m, s₁.heap.Ns sysModules m) (hg : s₁.gens = #[])
    (ha : s₁.heap.get? a = some { cls := .type "list", data := .seq vs.toArray }) (hi : IntsAre vs ns) (hl : ns.length ≤ sizeLine) (hr : Room k callerA)
    (hF : ∀ base : Heap, K.In base → base.Ns mainGlobals mg → (∃ o, base.get? sysModules = some o) → FnV P w K mg base cl k fa fd [x] F) (hbind : ∀ (s : Shared) (u : Value), BindsTo s fd ⟨[u], []⟩ [(x, u)])
    (hsp : ∃ E, F [.fz (.scr ns)] = some (.ok (.fz (.bl true)) E)) :
    codeAny (model P w) callerA (.call (.ref fa) ⟨[.ref a], []⟩) (fun r s' => r = .ok (.ret (.bool true)) ∧ OldK s₁.heap s'.heap ∧ s'.os = s₁.os ∧ AllBare s'.gens) s₁ := by
  have rv := vals_ints hi
  have lenV := hi.length
  have core : ∀ (H : Hp) (Z : PA1), (∀ a, Z a → H a ≠ none) → Only H → Rp K cl H Z (.scr ns) (.ref a) → HOk P w H s₁.heap → (∀ b, H b ≠ none → b = a) → (H a ≠ none → K.lookup a = none) →
      codeAny (model P w) callerA (.call (.ref fa) ⟨[.ref a], []⟩) (fun r s' => r = .ok (.ret (.bool true)) ∧ OldK s₁.heap s'.heap ∧ s'.os = s₁.os ∧ AllBare s'.gens) s₁ := by
    intro H Z hz hO hS hok hA hK
    have base_of : ∀ {b : Addr} {o : Obj}, s₁.heap.get? b = some o → H b = none → (hidT s₁.heap H).get? b = some o := fun e n => hidT_get e n
    have noA : ∀ {b : Addr} {o : Obj} {es : Array DictEntry} {ep : Nat}, s₁.heap.get? b = some o → o.data = .dict es ep → H b = none := fun {b o es ep} e d => by
      cases q : H b with
      | none => rfl
      | some u =>
        have e' : b = a := hA b (by rw [q]; simp)
        subst e'
        rw [ha] at e; cases e
        have d' : Data.seq vs.toArray _ = Data.dict es ep := d
        cases d'
    have nsK : ∀ {b : Addr} {m : Str → Option Value}, s₁.heap.Ns b m → (hidT s₁.heap H).Ns b m := fun {b m} ⟨o, es, ep, e, d, r⟩ => ⟨o, es, ep, base_of e (noA e d), d, r⟩
    have hKb : K.In (hidT s₁.heap H) := fun b o e => base_of (KX b o e) (by
      cases q : H b with
      | none => rfl
      | some u =>
        have e' : b = a := hA b (by rw [q]; simp)
        subst e'
        rw [hK (by rw [q]; simp)] at e; cases e)
    have hM : Mod K mg (hidT s₁.heap H) := ⟨hKb, nsK hns, ⟨mb, nsK hb, hbb⟩, let ⟨mc, h1, h2⟩ := hlim; ⟨mc, nsK h1, h2⟩⟩
    have e0 : Env0 P w K mg (hidT s₁.heap H) callerA [] s₁ H := ⟨rfl, hM, fun b o e => of_hidT e, Nat.le_of_eq (hidT_size _ _), trivial, fun b hb => absurd (show b ∈ ([] : List Addr) from hb) (by simp), hok, .of_eq hg⟩
    have hsy' : ∃ o, (hidT s₁.heap H).get? sysModules = some o := let ⟨m, o, es, ep, e, d, _⟩ := hsy; ⟨o, base_of e (noA e d)⟩
    obtain ⟨EE, hE⟩ := hsp
    have sp : SpF K cl ([x] : List Str).length F [.ref a] H (fun v _ => v = .bl true) (fun _ _ _ => False) := by
      refine ⟨rfl, [.fz (.scr ns)], Z, Emp, .cons (S1 := Emp) (S2 := Emp) (.fz hS) .nil (fun _ z => z) (fun _ z => z) fun _ z _ => z, ⟨fun _ z => z.elim, fun _ z => z.elim, hz⟩, ?_⟩
      rw [hE]
      intro v H' Z' Sr S' _ ow _ _ _
      cases ow with
      | fz rp => cases rp; rfl
    refine codeAny_mono ((hF _ hKb (nsK hns) hsy').run callerA [] s₁ H ⟨[.ref a], []⟩ [.ref a] [.ref a] _ _ hr rfl e0 (hbind s₁ (.ref a)) (.cons rfl .nil) sp) fun r s' h => ?_
    cases r with
    | error e =>
      obtain ⟨_, _, _, _, _, _, _, _, _, _, _, _, q⟩ := h
      exact q.elim
    | ok fl =>
      cases fl with
      | next => exact False.elim h
      | brk => exact False.elim h
      | cont => exact False.elim h
      | ret u =>
        obtain ⟨v, H', os, bare, un, hok', r', q⟩ := h
        have q' : v = .bl true := q
        subst q'
        obtain rfl : u = Value.bool true := r'
        refine ⟨rfl, OldK.of_keep fun b o e => ?_, os, bare⟩
        cases q : H b with
        | none => exact un.keep b o e q (by intro z; exact absurd (show b ∈ ([] : List Addr) from z) (by simp)) (by simp)
        | some u =>
          rcases hO b with z | ⟨ob, xs, z⟩
          · rw [q] at z; cases z
          · have z2 := un.frzs b ob _ z
            obtain ⟨e1, _⟩ := hok b _ z
            obtain ⟨e2, _⟩ := hok' b _ z2
            rw [e] at e1; cases e1
            exact e2
  cases hk : K.lookup a with
  | some o =>
    have e := KX a o hk
    rw [ha] at e
    cases e
    refine core (fun _ => none) Emp (fun _ z => z.elim) (fun _ => .inl rfl) (.scr (.inl ⟨_, vs.toArray, _, hk, rfl, rfl, rfl, by rw [List.size_toArray, lenV]; exact hl, by simpa using rv⟩)) (fun b u z => by have z' : (none : Option HO) = some u := z; cases z') (fun b z => absurd rfl z) fun z => absurd rfl z
  | none =>
    refine core (fun b => if b = a then some (.frz { cls := .type "list", data := .seq vs.toArray } (.lst (ns.map V.int))) else none) (fun b => b = a) (fun b z => by subst z; simp) (fun b => ?_) (.scr (.inr ⟨rfl, { cls := .type "list", data := .seq vs.toArray }, if_pos rfl⟩)) (fun b u z => ?_) (fun b z => ?_) fun _ => hk
    · by_cases hb : b = a
      · exact .inr ⟨_, _, if_pos hb⟩
      · exact .inl (if_neg hb)
    · by_cases hb : b = a
      · have z' := (if_pos hb).symm.trans z
        cases z'
        subst hb
        exact ⟨ha, by rw [List.length_map]; exact hl, vs, _, rv, ha⟩
      · have z' := (if_neg hb).symm.trans z
        cases z'
    · by_cases hb : b = a
      · exact hb
      · exact absurd (if_neg hb) z
theorem walk_ofV {l : PySem.W.OpenLaw} {n k : Nat} {q : Program} {loose : List Str} {XP : (Str → Option Value) → Heap → Prop} {YP : World → Heap → Prop} {d : DefRec} {x : Str}
    (hn : l.most = some n) (hn2 : n ≤ sizeLine) (hdf : d.params.defaults = []) (hr : Room k callerA) (him : PyProof.Rows.importsNone q = true)
    (F : ∀ (w : World) (mg : Str → Option Value) (fa : Addr) (h : Heap), YP w h → h.Ns mainGlobals mg → mg d.name = some (.ref fa) →
      ∃ (K : PySem.W.Frag) (cl : Str → Addr) (fd : FuncData) (F : List T → Option (Out T)), K.In h ∧ (∀ (s : Shared) (u : Value), BindsTo s fd ⟨[u], []⟩ [(x, u)]) ∧
        (∀ ns : List Int, ns.length ≤ n → (∀ z ∈ ns, Builtin.Int.intBits z ≤ 1048576) → ∃ E, F [.fz (.scr ns)] = some (.ok (.fz (.bl true)) E)) ∧
        ∀ base : Heap, K.In base → base.Ns mainGlobals mg → (∃ o, base.get? sysModules = some o) → FnV l.prog w K mg base cl k fa fd [x] F) :
    PySem.W.WalkO q loose XP YP l.row.toRowW d [] (fun f vs => PySem.call f vs) := by
  refine Att.attach_callB hn hdf fun w s₀ s₁ mg mb fa o pm cd doc a vs ns G Y ho hd hcd hmg hobj hints hlen hbits hg => ?_
  obtain ⟨K, cl, fd, FF, KX, hb, hsp, hF⟩ := F w mg fa _ Y G.T.g hmg
  exact law_callV KX G.T.g G.T.b G.T.builtins G.T.nolimit (let ⟨m, e, _⟩ := (G.T.seer him).mods; ⟨m, e⟩) hg hobj hints (Nat.le_trans hlen hn2) hr hF hb (hsp ns hlen hbits)
end VL

namespace VL
open PySem PySem.Spec PyProof.Rows L2
/-! ### the evaluators, applied -/
variable {α : Type} (E : En)
@[simp] theorem frzL_fz' (ds : List D) : frzL (ds.map T.fz) = ds := frzL_fz ds
@[simp] theorem frzL_fz2 {β : Type} (f : β → D) (ds : List β) : frzL (ds.map fun x => T.fz (f x)) = ds.map f := by
  have := frzL_fz (ds.map f)
  rw [List.map_map] at this
  exact this
@[simp] theorem eC_a (d : D) : eC d E = some (.ok (.fz d) E) := rfl
@[simp] theorem eVar_a (i : Nat) : eVar i E = match E[i]? with | some (some (.fz d)) => some (.ok (.fz d) E) | _ => none := rfl
@[simp] theorem eFrz_a (i : Nat) : eFrz i E = match E[i]? with | some (some t) => some (.ok (.fz (frz t)) (E.set i (some (.fz (frz t))))) | _ => none := rfl
@[simp] theorem eMov_a (i : Nat) : eMov i E = match E[i]? with | some (some t) => some (.ok t (E.set i none)) | _ => none := rfl
@[simp] theorem eBin_a (g : D → D → Option T) (ta tb : Ev T) : eBin g ta tb E = bnd (ta E) fun x E1 => bnd (tb E1) fun y E2 => opt (g (frz x) (frz y)) E2 := rfl
@[simp] theorem bBin_a (g : D → D → Option T) (ta tb : Ev T) : bBin g ta tb E = bnd (eBin g ta tb E) fun x E1 => opt (asB (frz x)) E1 := rfl
@[simp] theorem bVal_a (t : Ev T) : bVal t E = bnd (t E) fun x E1 => opt (asB (frz x)) E1 := rfl
@[simp] theorem asB_bl (b : Bool) : asB (.bl b) = some b := rfl
@[simp] theorem eChn_a (g g' : D → D → Option T) (ta tb tc : Ev T) : eChn g g' ta tb tc E = bnd (ta E) fun x E1 => bnd (tb E1) fun y E2 => bnd (opt (g (frz x) (frz y)) E2) fun z E3 => match asB (frz z) with
  | some true => bnd (tc E3) fun u E4 => opt (g' (frz y) (frz u)) E4
  | some false => some (.ok (.fz (.bl false)) E3)
  | none => none := rfl
@[simp] theorem eUn_a (g : D → Option T) (ta : Ev T) : eUn g ta E = bnd (ta E) fun x E1 => opt (g (frz x)) E1 := rfl
@[simp] theorem eCall_a (g : List D → Option T) (ts : Ev (List D)) : eCall g ts E = bnd (ts E) fun xs E1 => opt (g xs) E1 := rfl
@[simp] theorem aNil_a : aNil E = some (.ok [] E) := rfl
@[simp] theorem aCons_a (t : Ev T) (ts : Ev (List D)) : aCons t ts E = bnd (t E) fun x E1 => bnd (ts E1) fun xs E2 => some (.ok (frz x :: xs) E2) := rfl
@[simp] theorem mNil_a : mNil E = some (.ok [] E) := rfl
@[simp] theorem msNil_a : msNil E = some (.ok [] E) := rfl
@[simp] theorem mOwn_a (t : Ev T) (ts : Ev (List T)) : mOwn t ts E = bnd (t E) fun x E1 => bnd (ts E1) fun xs E2 => some (.ok (x :: xs) E2) := rfl
@[simp] theorem mVal_a (t : Ev T) (ts : Ev (List T)) : mVal t ts E = bnd (t E) fun x E1 => bnd (ts E1) fun xs E2 => some (.ok (.fz (frz x) :: xs) E2) := rfl
@[simp] theorem mLate_a (i : Nat) (ts : Ev (List T)) : mLate i ts E = match E[i]? with
  | some (some _) => bnd (ts E) fun xs E1 => match E1[i]? with
    | some (some t) => some (.ok (t :: xs) (E1.set i none))
    | _ => none
  | _ => none := rfl
@[simp] theorem eFn_a (F : List T → Option (Out T)) (ms : List (Option Nat)) (t : Ev (List T)) : eFn F ms t E = bnd (t E) fun ts E1 => match F ts with
  | none => none
  | some (.ok r P) => some (.ok r (putB ms P E1))
  | some (.ex x P) => some (.ex x (putB ms P E1)) := rfl
@[simp] theorem putB_nil (P E : En) : putB [] P E = E := by cases P <;> rfl
@[simp] theorem putB_no (ms : List (Option Nat)) (p : Option T) (P E : En) : putB (none :: ms) (p :: P) E = putB ms P E := rfl
@[simp] theorem putB_so (i : Nat) (ms : List (Option Nat)) (p : Option T) (P E : En) : putB (some i :: ms) (p :: P) E = putB ms P (E.set i p) := rfl
@[simp] theorem eTup_a (ts : Ev (List T)) : eTup ts E = bnd (ts E) fun xs E1 => some (.ok (.tup xs) E1) := rfl
@[simp] theorem eLst_a (ts : Ev (List T)) : eLst ts E = bnd (ts E) fun xs E1 => some (.ok (.lst xs) E1) := rfl
@[simp] theorem eDnew_a : eDnew E = some (.ok (.dct []) E) := rfl
@[simp] theorem eDnewT_a : eDnewT E = some (.ok (.dcT []) E) := rfl
@[simp] theorem eDct_a (t : Ev (List (Key × T))) : eDct t E = bnd (t E) fun ks E1 => if (ks.map (·.1)).Nodup ∧ ks.length ≤ 15 then some (.ok (.dct ks) E1) else none := rfl
@[simp] theorem qNil_a : qNil E = some (.ok [] E) := rfl
@[simp] theorem qCons_a (tk tv : Ev T) (r : Ev (List (Key × T))) : qCons tk tv r E = bnd (tk E) fun x E1 => match keyD (frz x) with
  | some k => bnd (tv E1) fun v E2 => bnd (r E2) fun ks E3 => some (.ok ((k, v) :: ks) E3)
  | none => none := rfl
@[simp] theorem keyD_str (x : Str) : keyD (.str x) = some (.inr x) := rfl
@[simp] theorem keyD_int (i : Int) : keyD (.int i) = some (.inl i) := rfl
@[simp] theorem eIf_a (c : Ev Bool) (ta tb : Ev T) : eIf c ta tb E = bnd (c E) fun b E1 => if b = true then ta E1 else tb E1 := rfl
@[simp] theorem eAnd_a (ta tb : Ev T) : eAnd ta tb E = bnd (ta E) fun x E1 => match asB (frz x) with
  | some true => tb E1
  | some false => some (.ok (.fz (.bl false)) E1)
  | none => none := rfl
@[simp] theorem eOr_a (ta tb : Ev T) : eOr ta tb E = bnd (ta E) fun x E1 => match asB (frz x) with
  | some true => some (.ok (.fz (.bl true)) E1)
  | some false => tb E1
  | none => none := rfl
@[simp] theorem eNot_a (ta : Ev T) : eNot ta E = bnd (ta E) fun x E1 => match asB (frz x) with
  | some b => some (.ok (.fz (.bl (!b))) E1)
  | none => none := rfl
@[simp] theorem oNo_a : oNo E = some (.ok none E) := rfl
@[simp] theorem oSo_a (t : Ev T) : oSo t E = bnd (t E) fun x E1 => match frz x with | .int i => some (.ok (some i) E1) | _ => none := rfl
@[simp] theorem eSl_a (g : D → Option Int → Option Int → Option T) (t : Ev T) (tl th : Ev (Option Int)) : eSl g t tl th E = bnd (t E) fun x E1 => bnd (tl E1) fun lo E2 => bnd (th E2) fun hi E3 => opt (g (frz x) lo hi) E3 := rfl
@[simp] theorem ePeek_a (t : Ev T) : ePeek t E = match t (frzE E) with
  | some (.ok r _) => if clT r = true then some (.ok r E) else none
  | _ => none := rfl
@[simp] theorem bPeek_a (t : Ev Bool) : bPeek t E = match t (frzE E) with
  | some (.ok b _) => some (.ok b E)
  | _ => none := rfl
@[simp] theorem mPeek_a (t : Ev (List T)) : mPeek t E = match t (frzE E) with
  | some (.ok r _) => if clL r = true then some (.ok r E) else none
  | _ => none := rfl
@[simp] theorem sid_a (i : Nat) (t : Ev α) : sid i t E = match E[i]? with
  | some (some root) => match t (E.set i none) with
    | some (.ok y E2) => some (.ok y (E2.set i (some root)))
    | some (.ex x E2) => some (.ex x (E2.set i (some root)))
    | none => none
  | _ => none := rfl
@[simp] theorem bTru_a (t : Ev T) : bTru t E = bnd (t E) fun x E1 => opt (truD (frz x)) E1 := rfl
@[simp] theorem truD_bl (b : Bool) : truD (.bl b) = some b := rfl
@[simp] theorem truD_int (i : Int) : truD (.int i) = some (i != 0) := rfl
@[simp] theorem truD_non : truD .non = some false := rfl
@[simp] theorem truD_lst (xs : List D) : truD (.lst xs) = some (!xs.isEmpty) := rfl
@[simp] theorem truD_tup (xs : List D) : truD (.tup xs) = some (!xs.isEmpty) := rfl
@[simp] theorem bNot_a (t : Ev Bool) : bNot t E = bnd (t E) fun b E1 => some (.ok (!b) E1) := rfl
@[simp] theorem bAnd_a (t u : Ev Bool) : bAnd t u E = bnd (t E) fun c E1 => if c = true then u E1 else some (.ok false E1) := rfl
@[simp] theorem bOr_a (t u : Ev Bool) : bOr t u E = bnd (t E) fun c E1 => if c = true then some (.ok true E1) else u E1 := rfl
@[simp] theorem eLc_a (ti : Ev (List D)) (g : T → En → Option En) (tb : Ev Bool) (te : Ev T) (vs : List Nat) : eLc ti g tb te vs E = bnd (ti E) fun ds E1 =>
  if ds.length ≤ 16777216 then match lcE g tb te vs ds (clr E1 vs) with
    | some (rs, E2) => some (.ok (.lst rs) (rst E1 E2 vs))
    | none => none
  else none := rfl
@[simp] theorem clr_nil : clr E [] = E := rfl
@[simp] theorem clr_cons (v : Nat) (vs : List Nat) : clr E (v :: vs) = (clr E vs).set v none := rfl
@[simp] theorem rst_nil (E2 : En) : rst E E2 [] = E2 := rfl
@[simp] theorem rst_cons (E2 : En) (v : Nat) (vs : List Nat) : rst E E2 (v :: vs) = match E[v]? with
    | some (some (.fz d)) => (rst E E2 vs).set v (some (.fz d))
    | _ => rst E E2 vs := by
  rw [rst]
  first | done | (split <;> simp_all)
@[simp] theorem iAny_a (t : Ev T) : iAny t E = bnd (t E) fun r E1 => match frz r with
  | .lst ds => some (.ok ds E1)
  | .tup ds => some (.ok ds E1)
  | .str z => some (.ok (strD z) E1)
  | _ => none := rfl
@[simp] theorem iRange1_a (ts : Ev (List D)) : iRange1 ts E = bnd (ts E) fun xs E1 => match xs with
  | [.int j] => if -(2 ^ 62) ≤ j ∧ j < 2 ^ 62 then some (.ok (rngD 0 j.toNat) E1) else none
  | _ => none := rfl
@[simp] theorem iRange2_a (ts : Ev (List D)) : iRange2 ts E = bnd (ts E) fun xs E1 => match xs with
  | [.int i, .int j] => if (-(2 ^ 62) ≤ i ∧ i < 2 ^ 62) ∧ (-(2 ^ 62) ≤ j ∧ j < 2 ^ 62) then some (.ok (rngD i (j - i).toNat) E1) else none
  | _ => none := rfl
@[simp] theorem gSet_a (i : Nat) (t : T) : gSet i t E = some (E.set i (some (.fz (frz t)))) := rfl
@[simp] theorem gOwn_a (i : Nat) (t : T) : gOwn i t E = some (E.set i (some t)) := rfl
@[simp] theorem gNil_a : gNil' [] E = some E := rfl
@[simp] theorem gCons_a (g : T → En → Option En) (gs : List T → En → Option En) (t : T) (r : List T) : gCons' g gs (t :: r) E = match g t E with | none => none | some E1 => gs r E1 := rfl
@[simp] theorem gTup_a (n : Nat) (gs : List T → En → Option En) (ts : List T) : gTup' n gs (.tup ts) E = if ts.length = n then gs ts E else none := rfl
@[simp] theorem gTup_b (n : Nat) (gs : List T → En → Option En) (ds : List D) : gTup' n gs (.fz (.tup ds)) E = if ds.length = n then gs (ds.map .fz) E else none := rfl
@[simp] theorem gTup_c (n : Nat) (gs : List T → En → Option En) (ds : List D) : gTup' n gs (.fz (.tpn ds)) E = if ds.length = n then gs (ds.map .fz) E else none := rfl
@[simp] theorem sNx_a : sNx E = some (.ok .nx E) := rfl
@[simp] theorem sBk_a : sBk E = some (.ok .bk E) := rfl
@[simp] theorem sCt_a : sCt E = some (.ok .ct E) := rfl
@[simp] theorem sSeq_a (t u : Ev Fl) : sSeq t u E = match t E with
  | some (.ok .nx E1) => u E1
  | o => o := rfl
@[simp] theorem sRet_a (te : Ev T) : sRet te E = bnd (te E) fun r E1 => some (.ok (.ret r) E1) := rfl
@[simp] theorem sRetN_a : sRetN E = some (.ok (.ret (.fz .non)) E) := rfl
@[simp] theorem sDrop_a (te : Ev T) : sDrop te E = bnd (te E) fun _ E1 => some (.ok .nx E1) := rfl
@[simp] theorem sIf_a (c : Ev Bool) (t u : Ev Fl) : sIf c t u E = bnd (c E) fun b E1 => if b = true then t E1 else u E1 := rfl
@[simp] theorem sOwn_a (i : Nat) (te : Ev T) : sOwn i te E = bnd (te E) fun r E1 => some (.ok .nx (E1.set i (some r))) := rfl
@[simp] theorem sSet_a (i : Nat) (te : Ev T) : sSet i te E = bnd (te E) fun r E1 => some (.ok .nx (E1.set i (some (.fz (frz r))))) := rfl
@[simp] theorem sAsg_a (te : Ev T) (g : T → En → Option En) : sAsg te g E = bnd (te E) fun r E1 => match g r E1 with | none => none | some E2 => some (.ok .nx E2) := rfl
@[simp] theorem sFor_a (ti : Ev (List D)) (g : T → En → Option En) (tb : Ev Fl) : sFor ti g tb E = bnd (ti E) fun ds E1 => forE g tb ds E1 := rfl
@[simp] theorem sPar_a (is : List (Nat × Bool)) (ts : Ev (List T)) : sPar is ts E = bnd (ts E) fun xs E1 => match putN is xs E1 with
  | some E2 => some (.ok .nx E2)
  | none => none := rfl
@[simp] theorem putN_nil : putN [] [] E = some E := rfl
@[simp] theorem putN_cons (i : Nat) (o : Bool) (r : List (Nat × Bool)) (t : T) (ts : List T) : putN ((i, o) :: r) (t :: ts) E = putN r ts (E.set i (some (if o = true then t else .fz (frz t)))) := rfl
@[simp] theorem eMv_a (n : String) (g : D → List D → Option T) (to : Ev T) (ts : Ev (List D)) : eMv n g to ts E = bnd (to E) fun x E1 => if tyD n (frz x) = true then bnd (ts E1) fun xs E2 => opt (g (frz x) xs) E2 else none := rfl
@[simp] theorem tyD_str (z : Str) : tyD "str" (.str z) = true := rfl
@[simp] theorem tyD_lst (z : List D) : tyD "list" (.lst z) = true := rfl
@[simp] theorem pName_a (i : Nat) : pName i E = match E[i]? with
  | some (some _) => some (.ok ⟨i, []⟩ E)
  | _ => none := rfl
@[simp] theorem pIx_a (i : Nat) (tp : Ev Loc) (ti : Ev T) : pIx i tp ti E = bnd (tp E) fun l E1 => if l.i = i then match getE E1 l with
  | some u => bnd (ti E1) fun y E2 => match kidIx u (frz y) with
    | some n => match (kids u)[n]? with
      | some _ => some (.ok ⟨l.i, l.p ++ [n]⟩ E2)
      | none => none
    | none => none
  | none => none else none := rfl
@[simp] theorem gPut_a (i : Nat) (tp : Ev Loc) (ti : Ev T) (t : T) : gPut i tp ti t E = match tp E with
  | some (.ok l E1) => if l.i = i then match getE E1 l with
    | some u => match ti E1 with
      | some (.ok y E2) => match putKid u (frz y) t with
        | some u' => some (setE E2 l u')
        | none => none
      | _ => none
    | none => none else none
  | _ => none := rfl
@[simp] theorem eMt_a (i : Nat) (n : String) (g : T → List T → Option (T × T)) (tp : Ev Loc) (ts : Ev (List T)) : eMt i n g tp ts E = bnd (tp E) fun l E1 => if l.i = i then match getE E1 l with
  | some u => if kindT n u = true then bnd (ts E1) fun xs E2 => match g u xs with
    | some (r, u') => some (.ok r (setE E2 l u'))
    | none => none else none
  | none => none else none := rfl
@[simp] theorem kindT_lst (ts : List T) : kindT "list" (.lst ts) = true := rfl
@[simp] theorem kindT_dct (ts : List (Key × T)) : kindT "dict" (.dct ts) = true := rfl
@[simp] theorem kindT_dcT (ts : List (List Key × T)) : kindT "dict" (.dcT ts) = true := rfl
@[simp] theorem runF_a (N : List Str) (n : Nat) (kp : Keep) (t : Ev Fl) (ts : List T) : runF N n kp t ts = match t (startE N ts) with
  | some (.ok (.ret r) E) => some (.ok r (maskE kp 0 n E))
  | some (.ok .nx E) => some (.ok (.fz .non) (maskE kp 0 n E))
  | some (.ex x E) => some (.ex x (maskE kp 0 n E))
  | _ => none := rfl
@[simp] theorem startE_a (N : List Str) (ts : List T) : startE N ts = ts.map some ++ List.replicate (N.length - ts.length) none := rfl
/-! ### operations -/
@[simp] theorem addD_i (i j : Int) : addD (.int i) (.int j) = some (.fz (.int (i + j))) := rfl
@[simp] theorem subD_i (i j : Int) : subD (.int i) (.int j) = some (.fz (.int (i - j))) := rfl
@[simp] theorem mulD_i (i j : Int) : mulD (.int i) (.int j) = if CMul i j then some (.fz (.int (i * j))) else none := rfl
@[simp] theorem mulD_s (x : Str) (j : Int) : mulD (.str x) (.int j) = if mulOkS x j then some (.fz (.str (Txt.mul x j))) else none := rfl
@[simp] theorem intD_i (C : Int → Int → Prop) [∀ i j, Decidable (C i j)] (g : Int → Int → Int) (i j : Int) : intD C g (.int i) (.int j) = if C i j then some (.fz (.int (g i j))) else none := rfl
@[simp] theorem negD_i (i : Int) : negD (.int i) = some (.fz (.int (-i))) := rfl
@[simp] theorem cmpD_i (f : Int → Int → Bool) (i j : Int) : cmpD f (.int i) (.int j) = some (.fz (.bl (f i j))) := rfl
@[simp] theorem isND_n (x : D) : isND x .non = some (.fz (.bl (isNB x))) := rfl
@[simp] theorem notND_n (x : D) : notND x .non = some (.fz (.bl (!isNB x))) := rfl
@[simp] theorem absD_i (i : Int) : absD [.int i] = some (.fz (.int (if i < 0 then -i else i))) := rfl
@[simp] theorem lenD_l (xs : List D) : lenD [.lst xs] = some (.fz (.int xs.length)) := rfl
@[simp] theorem lenD_t (xs : List D) : lenD [.tup xs] = some (.fz (.int xs.length)) := rfl
@[simp] theorem lenD_s (x : Str) : lenD [.str x] = if x.length ≤ sizeLine then some (.fz (.int x.length)) else none := rfl
@[simp] theorem listD_l (xs : List D) : listD [.lst xs] = some (.lst (xs.map .fz)) := rfl
@[simp] theorem listD_t (xs : List D) : listD [.tup xs] = some (.lst (xs.map .fz)) := rfl
@[simp] theorem tupleD_l (xs : List D) : tupleD [.lst xs] = some (.tup (xs.map .fz)) := rfl
@[simp] theorem tupleD_t (xs : List D) : tupleD [.tup xs] = some (.fz (.tup xs)) := rfl
@[simp] theorem eqA_u (x y : D) : eqA x y = (eqAD x y).map fun b => .fz (.bl b) := rfl
@[simp] theorem neA_u (x y : D) : neA x y = (eqAD x y).map fun b => .fz (.bl (!b)) := rfl
@[simp] theorem eqAD_s (x y : Str) : eqAD (.str x) (.str y) = some (x == y) := rfl
@[simp] theorem eqAD_i (x y : Int) : eqAD (.int x) (.int y) = some (x == y) := rfl
@[simp] theorem eqAD_b (x y : Bool) : eqAD (.bl x) (.bl y) = some (x == y) := rfl
@[simp] theorem inA_u (neg : Bool) (x y : D) : inA neg x y = (inB x y).map fun b => .fz (.bl (neg ^^ b)) := rfl
theorem ixA_lst (xs : List D) (i : Int) : ixA (.lst xs) (.int i) = (L2.atI xs i).map .fz := rfl
theorem ixA_tup (xs : List D) (i : Int) : ixA (.tup xs) (.int i) = (L2.atI xs i).map .fz := rfl
theorem ixA_dct (ds : List (Key × D)) (k : Str) : ixA (.dct ds) (.str k) = match findD ds (.inr k) with | some d => some (.fz d) | none => none := by
  unfold ixA; simp only [dgetD, keyD, Option.map_some]
  cases findD ds (.inr k) <;> rfl
theorem ixA_dcti (ds : List (Key × D)) (k : Int) : ixA (.dct ds) (.int k) = match findD ds (.inl k) with | some d => some (.fz d) | none => none := by
  unfold ixA; simp only [dgetD, keyD, Option.map_some]
  cases findD ds (.inl k) <;> rfl

@[simp] theorem frzL_fz3 {β : Type} (f : β → D) (ds : List β) : frzL (ds.map (T.fz ∘ f)) = ds.map f := frzL_fz2 f ds
@[simp] theorem frzL_take (ts : List T) (n : Nat) : frzL (ts.take n) = (frzL ts).take n := by rw [frzL_map, frzL_map, List.map_take]
@[simp] theorem frzL_drop (ts : List T) (n : Nat) : frzL (ts.drop n) = (frzL ts).drop n := by rw [frzL_map, frzL_map, List.map_drop]
@[simp] theorem frzL_append (ts us : List T) : frzL (ts ++ us) = frzL ts ++ frzL us := by rw [frzL_map, frzL_map, frzL_map, List.map_append]
@[simp] theorem frzL_len (ts : List T) : (frzL ts).length = ts.length := by rw [frzL_map, List.length_map]
theorem atI_some {β : Type} {xs : List β} {i : Int} (h0 : 0 ≤ i) (h1 : i < xs.length) : ∃ x, L2.atI xs i = some x ∧ x ∈ xs := by
  have hn : i.toNat < xs.length := by omega
  refine ⟨xs[i.toNat], ?_, List.getElem_mem hn⟩
  unfold L2.atI L2.ixN
  rw [if_pos h0, if_pos h1]
  simp [hn]
theorem atI_map {β γ : Type} (f : β → γ) (xs : List β) (i : Int) : L2.atI (xs.map f) i = (L2.atI xs i).map f := by
  unfold L2.atI
  rw [List.length_map]
  cases L2.ixN xs.length i <;> simp
theorem toPyL_ints : ∀ ns : List Int, toPyL (ns.map D.int) = some (ns.map PyData.int)
  | [] => rfl
  | n :: ns => by simp [toPyL, toPy, toPyL_ints ns]
theorem lay_ints : ∀ ns : List Int, PyData.canLayAll0 (ns.map PyData.int) = true ∧ PyData.depthAll (ns.map PyData.int) = 0
  | [] => ⟨rfl, rfl⟩
  | n :: ns => by
    obtain ⟨h1, h2⟩ := lay_ints ns
    simp [PyData.canLayAll0, PyData.canLay0, PyData.depthAll, PyData.depth, h1, h2]
theorem toPyL_strs : ∀ ns : List Str, toPyL (ns.map D.str) = some (ns.map PyData.str)
  | [] => rfl
  | n :: ns => by simp [toPyL, toPy, toPyL_strs ns]
theorem lay_strs : ∀ ns : List Str, (∀ z ∈ ns, PyData.strOk z = true) → PyData.canLayAll0 (ns.map PyData.str) = true ∧ PyData.depthAll (ns.map PyData.str) = 0
  | [], _ => ⟨rfl, rfl⟩
  | n :: ns, h => by
    obtain ⟨h1, h2⟩ := lay_strs ns fun z q => h z (by simp [q])
    simp [PyData.canLayAll0, PyData.canLay0, PyData.depthAll, PyData.depth, h1, h2, h n (by simp)]
theorem eqAD_ints_nil (ns : List Int) : eqAD (.lst (ns.map D.int)) (.lst []) = some ns.isEmpty := by
  obtain ⟨h1, h2⟩ := lay_ints ns
  have e : eqAD (.lst (ns.map D.int)) (.lst []) = eqDD (.lst (ns.map D.int)) (.lst []) := rfl
  rw [e]
  unfold eqDD
  simp only [toPy, toPyL_ints, toPyL]
  have c : SeqAt.shaped (.list (ns.map PyData.int)) = true ∧ SeqAt.shaped (.list []) = true := by
    constructor
    · simp [SeqAt.shaped, PyData.canLay0, PyData.depth, h1, h2]
    · decide
  rw [if_pos c]
  cases ns <;> simp [PyData.eqv, PyData.eqvAll]
theorem eqAD_strs_nil (ns : List Str) (h : ∀ z ∈ ns, PyData.strOk z = true) : eqAD (.lst (ns.map D.str)) (.lst []) = some ns.isEmpty := by
  obtain ⟨h1, h2⟩ := lay_strs ns h
  have e : eqAD (.lst (ns.map D.str)) (.lst []) = eqDD (.lst (ns.map D.str)) (.lst []) := rfl
  rw [e]
  unfold eqDD
  simp only [toPy, toPyL_strs, toPyL]
  have c : SeqAt.shaped (.list (ns.map PyData.str)) = true ∧ SeqAt.shaped (.list []) = true := by
    constructor
    · simp [SeqAt.shaped, PyData.canLay0, PyData.depth, h1, h2]
    · decide
  rw [if_pos c]
  cases ns <;> simp [PyData.eqv, PyData.eqvAll]

/-! ### loops -/
theorem forE_inv {g : T → En → Option En} {tb : Ev Fl} (I : Nat → En → Prop) : ∀ (ds : List D) (n : Nat) (E : En), I n E →
    (∀ (i : Nat) (d : D) (E : En), ds[i]? = some d → I (n + i) E → ∃ E1, g (.fz d) E = some E1 ∧ ∃ E2, (tb E1 = some (.ok .nx E2) ∨ tb E1 = some (.ok .ct E2)) ∧ I (n + i + 1) E2) →
    ∃ E', forE g tb ds E = some (.ok .nx E') ∧ I (n + ds.length) E'
  | [], n, E, h, _ => ⟨E, rfl, h⟩
  | d :: ds, n, E, h, step => by
    obtain ⟨E1, h1, E2, h2, h3⟩ := step 0 d E rfl h
    obtain ⟨E', h4, h5⟩ := forE_inv I ds (n + 1) E2 h3 fun i d' E q hI => by
      have := step (i + 1) d' E (by simpa using q) (by rw [show n + (i + 1) = n + 1 + i by omega]; exact hI)
      rw [show n + (i + 1) + 1 = n + 1 + i + 1 by omega] at this
      exact this
    refine ⟨E', ?_, by rw [List.length_cons, show n + (ds.length + 1) = n + 1 + ds.length by omega]; exact h5⟩
    simp only [forE, h1]
    rcases h2 with h2 | h2 <;> rw [h2] <;> exact h4
theorem lcE_inv {g : T → En → Option En} {tb : Ev Bool} {te : Ev T} {vs : List Nat} (I : Nat → List T → En → Prop) : ∀ (ds : List D) (n : Nat) (acc : List T) (E : En), I n acc E →
    (∀ (i : Nat) (d : D) (acc : List T) (E : En), ds[i]? = some d → I (n + i) acc E → ∃ E1, g (.fz d) E = some E1 ∧ ((∃ E2 r E3, tb E1 = some (.ok true E2) ∧ te E2 = some (.ok r E3) ∧ I (n + i + 1) (acc ++ [r]) (clr E3 vs)) ∨ ∃ E2, tb E1 = some (.ok false E2) ∧ I (n + i + 1) acc (clr E2 vs))) →
    ∃ rs E', lcE g tb te vs ds E = some (rs, E') ∧ I (n + ds.length) (acc ++ rs) E'
  | [], n, acc, E, h, _ => ⟨[], E, rfl, by simpa using h⟩
  | d :: ds, n, acc, E, h, step => by
    obtain ⟨E1, h1, h2⟩ := step 0 d acc E rfl h
    have next : ∀ acc' E', I (n + 1) acc' E' → ∃ rs E'', lcE g tb te vs ds E' = some (rs, E'') ∧ I (n + 1 + ds.length) (acc' ++ rs) E'' := fun acc' E' h' => lcE_inv I ds (n + 1) acc' E' h' fun i d' a' E q hI => by
      have := step (i + 1) d' a' E (by simpa using q) (by rw [show n + (i + 1) = n + 1 + i by omega]; exact hI)
      rw [show n + (i + 1) + 1 = n + 1 + i + 1 by omega] at this
      exact this
    have hn : n + (d :: ds).length = n + 1 + ds.length := by rw [List.length_cons]; omega
    rw [hn]
    rcases h2 with ⟨E2, r, E3, a1, a2, a3⟩ | ⟨E2, a1, a2⟩
    · obtain ⟨rs, E'', b1, b2⟩ := next _ _ a3
      exact ⟨r :: rs, E'', by simp only [lcE, h1, a1, a2, b1], by simpa using b2⟩
    · obtain ⟨rs, E'', b1, b2⟩ := next _ _ a2
      exact ⟨rs, E'', by simp only [lcE, h1, a1, b1], b2⟩
/-- a comprehension that changes nothing -/
theorem lcE_pure {v : Nat} {tb : Ev Bool} {te : Ev T} {p : D → Bool} {f : D → T} : ∀ (ds : List D) (E : En), E[v]? = some none →
    (∀ d ∈ ds, tb (E.set v (some (.fz d))) = some (.ok (p d) (E.set v (some (.fz d))))) → (∀ d ∈ ds, p d = true → te (E.set v (some (.fz d))) = some (.ok (f d) (E.set v (some (.fz d))))) →
    lcE (gSet v) tb te [v] ds E = some ((ds.filter p).map f, E)
  | [], E, _, _, _ => rfl
  | d :: ds, E, hv, h1, h2 => by
    have ih := lcE_pure ds E hv (fun d' q => h1 d' (by simp [q])) fun d' q => h2 d' (by simp [q])
    have e0 : (E.set v (some (.fz d))).set v none = E := by rw [List.set_set]; exact set_get hv
    have e1 := h1 d (by simp)
    simp only [lcE, gSet_a, frz, e1]
    cases hp : p d with
    | false => simp only [clr_cons, clr_nil, e0, ih, List.filter_cons, hp]; rfl
    | true =>
      simp only [h2 d (by simp) hp, clr_cons, clr_nil, e0, ih, List.filter_cons, hp]
      rfl
end VL

namespace VL
open PySem PySem.Spec PyProof.Rows L2

/-! ### instances of the text's classes -/
section
variable {K : PySem.W.Frag} {cl : Str → Addr} {H : Hp} {Z : PA1}
theorem flds_rp : ∀ {fs : List (Str × D)} {fvs : List (Str × V)} {f : Str}, fs.map (·.1) = fvs.map (·.1) → RpL K cl H Z (fs.map (·.2)) (fvs.map (·.2)) →
    (∀ d, fs.lookup f = some d → ∃ v, fvs.lookup f = some v ∧ Rp K cl H Z d v) ∧ (fs.lookup f = none → fvs.lookup f = none)
  | [], [], f, _, _ => ⟨fun d h => by simp at h, fun _ => rfl⟩
  | [], _ :: _, f, h, _ => by simp at h
  | _ :: _, [], f, h, _ => by simp at h
  | p :: fs, q :: fvs, f, h, r => by
    simp only [List.map_cons, List.cons.injEq] at h r
    cases r with
    | cons r1 r2 =>
      obtain ⟨h1, h2⟩ := h
      have ih := flds_rp (f := f) h2 r2
      obtain ⟨a, x⟩ := p
      obtain ⟨b, y⟩ := q
      simp only at h1 r1
      subst h1
      simp only [List.lookup_cons]
      cases e : f == a with
      | true => exact ⟨fun d hd => ⟨y, rfl, by cases hd; exact r1⟩, fun hd => nomatch hd⟩
      | false => exact ih
end
def fldD (c : Str) (f : Str) : D → Option T
  | .ins c' fs => if c' = c then (fs.lookup f).map .fz else none
  | _ => none
section
variable {X : Cx} {cl : Str → Addr} {kp : Keep} {pos : Pos} {k : Nat}
def eFld (c : Str) (f : Str) (t : Ev T) : Ev T := fun E => bnd (t E) fun x E1 => opt (fldD c f (frz x)) E1
theorem ie_fld {c f : Str} {e : Expr} {t : Ev T} (hc : Cls X.K (cl c)) (hn : NoAttr X.K (cl c) f) (he : IE X cl e t) (hb : attributeBase e f X.env (eval e X.env) = eval e X.env := by rfl) : IE X cl (.Attribute e f pos) (eFld c f t) := by
  refine ⟨fun W tk => ?_⟩
  obtain ⟨te, p, q⟩ := he.fz W tk
  refine ⟨_, pe_fld p hb, fun E σ H Z S Q oe ok sat => ?_⟩
  refine q E σ H Z S _ oe ok (satD_bnd (β := T) (κ := VK) (q := Q) sat fun x E1 sat1 v H1 Z1 S1 oe1 rp1 st1 ok1 => ?_)
  have sat2 : SatV X.K cl W σ H1 Z1 S1 Q (opt (fldD c f (frz x)) E1) := SatV.re st1 sat1
  have okr := op_fin (W := W) oe1 ok1 sat2
  generalize frz x = d at rp1 okr
  cases rp1 with
  | @ins a c' dx fvs fs h1 h2 h3 r =>
    simp only [fldD] at okr
    by_cases e : c' = c
    case neg => rw [if_neg e] at okr; exact okr_none okr
    rw [if_pos e] at okr
    subst e
    cases hl : fs.lookup f with
    | none => rw [hl] at okr; exact okr_none okr
    | some d =>
      rw [hl] at okr
      obtain ⟨v, hv, rv⟩ := (flds_rp h3 r).1 d hl
      exact ⟨a, cl c', dx, fvs, v, rfl, h2, hc, hn, hv, okr_fz ok1.za okr rv⟩
  | _ => exact okr_none okr
/-! stores of attributes -/
def putFd (f : Str) (t : T) : List (Str × T) → List (Str × T)
  | [] => [(f, t)]
  | (g, x) :: r => if g = f then (g, t) :: r else (g, x) :: putFd f t r
theorem putFd_own {K : PySem.W.Frag} {H : Hp} {Z : PA1} {f : Str} {t : T} {v : V} {S1 : PA1} (q : Own K cl H Z t v S1) : ∀ {fs : List (Str × T)} {fvs : List (Str × V)} {R : PA1}, fs.map (·.1) = fvs.map (·.1) → OwnL K cl H Z (fs.map (·.2)) (fvs.map (·.2)) R → Dis S1 R →
    (putFd f t fs).map (·.1) = (putF f v fvs).map (·.1) ∧ OwnL K cl H Z ((putFd f t fs).map (·.2)) ((putF f v fvs).map (·.2)) (Uni R S1)
  | [], [], R, _, _, d => ⟨rfl, .cons q (.nil (S := Emp)) (fun _ z => .inr z) (fun _ z => z.elim) fun _ _ z => z⟩
  | [], _ :: _, _, h, _, _ => by simp at h
  | _ :: _, [], _, h, _, _ => by simp at h
  | (g, x) :: fs, (g', y) :: fvs, R, h, r, d => by
    simp only [List.map_cons, List.cons.injEq] at h r
    obtain ⟨h1, h2⟩ := h
    subst h1
    cases r with
    | @cons _ _ _ _ _ A1 A2 r1 r2 a1 a2 dd =>
      simp only [putFd, putF]
      by_cases e : g = f
      · rw [if_pos e, if_pos e]
        exact ⟨by simp [h2], .cons q r2 (fun _ z => .inr z) (fun a z => .inl (a2 a z)) fun a z w => d a z (a2 a w)⟩
      · rw [if_neg e, if_neg e]
        obtain ⟨i1, i2⟩ := putFd_own q h2 r2 fun a z w => d a z (a2 a w)
        exact ⟨by simp [i1], .cons r1 i2 (fun a z => .inl (a1 a z)) (fun a z => z.imp (a2 a) id) fun a z w => w.elim (dd a z) fun w => d a w (a1 a z)⟩
/-- path.f = a value -/
def sFldP (c : Str) (f : Str) (tp : Ev Loc) (tv : Ev T) : Ev Fl := fun E => bnd (tv E) fun t E1 => match tp E1 with
  | some (.ok l E2) => match getE E2 l with
    | some (.ins c' fs) => if c' = c ∧ fs.length < 1000 then some (.ok .nx (setE E2 l (.ins c' (putFd f t fs)))) else none
    | _ => none
  | _ => none
theorem is_fld {c f : Str} {o value : Expr} {pos' : Pos} {tp : Ev Loc} {tv : Ev T} (hc : Cls X.K (cl c)) (hn : NoAttr X.K (cl c) f) (ho : IP X cl o tp) (hv : IE X cl value tv)
    (hs : swapsWith value (some (.Attribute o f pos')) pos.line X.env = pure false := by rfl) : IS X cl kp (.Assign [.Attribute o f pos'] value pos) (sFldP c f tp tv) := by
  refine ⟨fun W tk => ?_⟩
  obtain ⟨tv', pv, qv⟩ := hv.run W tk
  obtain ⟨to', po, qo⟩ := ho.run W0 takes0
  refine ⟨_, ps_fld po pv hs, fun E σ H Z S D oe ok sat => ?_⟩
  refine qv E σ H Z S _ oe ok (satV_bnd (β := Fl) (κ := Keep × Ends) (q := (kp, D)) sat fun t E1 sat1 v H1 Z1 Sv S1 oe1 ow1 d1 st1 ok1 => ?_)
  have ok1' : Okk H1 Z1 S1 := ok1.less fun _ z => .inr z
  refine qo E1 σ H1 Z1 S1 _ oe1 ok1' ?_
  match hE : tp E1 with
  | none => rw [hE] at sat1; exact (sat1 : False).elim
  | some (.ex x E2) => rw [hE] at sat1; exact (sat1 : False).elim
  | some (.ok l E2) =>
    rw [hE] at sat1
    dsimp only at sat1
    match hg : getE E2 l with
    | none => rw [hg] at sat1; exact (sat1 : False).elim
    | some (.fz _) => rw [hg] at sat1; exact (sat1 : False).elim
    | some (.tup _) => rw [hg] at sat1; exact (sat1 : False).elim
    | some (.lst _) => rw [hg] at sat1; exact (sat1 : False).elim
    | some (.dct _) => rw [hg] at sat1; exact (sat1 : False).elim
    | some (.dcT _) => rw [hg] at sat1; exact (sat1 : False).elim
    | some (.ins c' fs) =>
      rw [hg] at sat1
      dsimp only at sat1
      by_cases cc : c' = c ∧ fs.length < 1000
      case neg => rw [if_neg cc] at sat1; exact (sat1 : False).elim
      rw [if_pos cc] at sat1
      obtain ⟨rfl, hlen⟩ := cc
      have sat2 : SatS X.K cl W kp σ H Z S D (some (.ok .nx (setE E2 l (.ins c' (putFd f t fs))))) := sat1
      refine ⟨by rw [hg]; rfl, fun w H2 Z2 S2 oe2 hv2 st2 ok2 => ?_⟩
      obtain ⟨w', Su, R, b1, b2, b3, b4, b5, b6⟩ := oe2.at hg
      rw [hv2] at b1
      cases b1
      have o2 := st2.okk (R := Sv) ok1 ok2 d1
      have d2 := st2.dis (R := Sv) (fun a z => ok1.sa a (.inl z)) d1
      have ow2 := st2.own ok1'.dis d1 ow1
      cases b2 with
      | @ins a _ dx fvs _ _ R0 h1 h2 h3 h4 r =>
        refine ⟨a, cl c', dx, fvs, rfl, h1, hc, hn, ?_, ?_⟩
        · have := congrArg List.length h4
          simp only [List.length_map] at this
          omega
        have okA : Okk H2 Z2 (Uni Su Sv) := o2.less fun a z => z.elim (fun z => .inr (b3 a z)) .inl
        obtain ⟨stw, okw, kw⟩ := wr_step (o := .ins (cl c') dx (putF f v fvs)) okA (D := a) (.inl h2)
        have kz : ∀ b, Z2 b → Kept H2 (upd H2 a (.ins (cl c') dx (putF f v fvs))) b := fun b z => .of fun p e => kw b p (fun q => okA.dis b (.inl (q ▸ h2)) z) e
        have dSuSv : Dis Su Sv := fun b x y => d2 b y (b3 b x)
        have r2 := r.mono (fun _ z => z) kz fun b p z e => kw b p (h3 b z).2 e
        have q2 := ow2.mono (fun _ z => z) kz fun b p z e => kw b p (fun q => dSuSv b (q ▸ h2) z) e
        obtain ⟨p1, p2⟩ := putFd_own (f := f) q2 h4 r2 fun b x y => dSuSv b (h3 b y).1 x
        have own3 : Own X.K cl (upd H2 a (.ins (cl c') dx (putF f v fvs))) Z2 (.ins c' (putFd f t fs)) (.ref a) (Uni Su Sv) :=
          .ins (R := Uni R0 Sv) upd_same (.inl h2) (fun b z => z.elim (fun z => ⟨.inl (h3 b z).1, (h3 b z).2⟩) fun z => ⟨.inr z, fun q => dSuSv b (q ▸ h2) z⟩) p1 p2
        have dR : Dis (Uni Su Sv) R := fun b x y => x.elim (fun x => b5 b x y) fun x => d2 b x (b4 b y)
        have oF := b6 _ Z2 _ (Uni Su Sv) (fun _ z => z) kz (fun b p z e => kw b p (fun q => b5 b (q ▸ h2) z) e) own3 dR
        have okR : Okk H2 Z2 (Uni R (Uni Su Sv)) := o2.less fun b z => z.elim (fun z => .inr (b4 b z)) fun z => z.elim (fun z => .inr (b3 b z)) .inl
        have sub : ∀ b, Uni (Uni Su Sv) R b → Uni R (Uni Su Sv) b := fun b z => z.elim .inr .inl
        refine sat2 σ _ Z2 (Uni (Uni Su Sv) R) oF .refl ?_ ((stw.okk okR okw fun b x y => dR b y x).less sub)
        refine (st1.trans ((st2.frame (R := Sv)).trans ((stw.frame (R := R)).more ?_))).less sub
        exact fun b z => z.elim (fun z => .inr (b4 b z)) fun z => z.elim (fun z => .inr (b3 b z)) .inl

/-! ### methods of the text's classes, on frozen instances -/
/-- a method, as it is called -/
structure CalM (P : Program) (w : World) (K : PySem.W.Frag) (mg : Str → Option Value) (base : Heap) (cl : Str → Addr) (c m : Str) (k : Nat) (ps : List Str) (F : List T → Option (Out T)) : Prop where
  cls : Cls K (cl c)
  ex : ∃ f fd, Meth K (cl c) m f ∧ Binds K fd ps [] ∧ FnV P w K mg base cl k f fd ps F
def insOf (c m : Str) : D → Bool
  | .ins c' fs => decide (c' = c) && (fs.lookup m).isNone
  | _ => false
def eMth (c m : Str) (F : List T → Option (Out T)) (ms : List (Option Nat)) (to : Ev T) (ts : Ev (List T)) : Ev T := fun E => bnd (to E) fun x E1 => if insOf c m (frz x) = true then bnd (ts E1) fun xs E2 => match F (.fz (frz x) :: xs) with
  | none => none
  | some (.ok r P) => some (.ok r (putB (none :: ms) P E2))
  | some (.ex y P) => some (.ex y (putB (none :: ms) P E2)) else none
/-- a promise of a def at its arguments -/
theorem spf_of {W : WX} {F : List T → Option (Out T)} {n : Nat} {xs : List T} {vs : List V} {E1 : En} {σ : L2.St} {H1 : Hp} {Z1 Sq S1 : PA1} {ms : List (Option Nat)} {Q : VK} (hn : ms.length = n) (oe1 : OwnE X.K cl H1 Z1 E1 σ S1) (ow1 : OwnL X.K cl H1 Z1 xs vs Sq) (d1 : Dis Sq S1) (mv : Mv σ ms vs) (ok1 : Okk H1 Z1 (Uni Sq S1))
    (sat : SatV X.K cl W σ H1 Z1 (Uni Sq S1) Q (match F xs with
      | none => none
      | some (.ok r P) => some (.ok r (putB ms P E1))
      | some (.ex x P) => some (.ex x (putB ms P E1)))) : SpF X.K cl n F vs H1 Q fun c d H' => W c d σ H' := by
  have okT : Okk H1 Z1 Sq := ok1.less fun _ z => .inl z
  have okS : Okk H1 Z1 S1 := ok1.less fun _ z => .inr z
  have d1' : Dis S1 Sq := fun x y z => d1 x z y
  refine ⟨by rw [← hn]; exact mv.len, xs, Z1, Sq, ow1, okT, ?_⟩
  match hF : F xs, sat with
  | none, sat => exact sat
  | some (.ok r P), sat =>
    intro v H2 Z2 Sr S2 oP owr d2 st2 ok2
    have dd := st2.dis okS.sa d1'
    have oe2 := st2.ownE okT.dis d1' oe1
    have ok3 := st2.okk (R := S1) (ok1.less fun _ z => z.elim .inr .inl) ok2 d1'
    have sub : ∀ x, Uni Sr (Uni S2 S1) x → Uni S1 (Uni Sr S2) x := fun x z => z.elim (fun z => .inr (.inl z)) fun z => z.elim (fun z => .inr (.inr z)) .inl
    exact sat v H2 Z2 Sr (Uni S2 S1) (oP.putB oe2 (fun x y z => dd x z (.inr y)) mv) owr (fun x y z => z.elim (d2 x y) fun z => dd x z (.inl y)) (((st2.frame (R := S1)).more fun x z => z.elim .inr .inl).less sub) (ok3.less sub)
  | some (.ex x P), sat =>
    intro c d H2 Z2 S2 oP xr st2 ok2
    have dd := st2.dis okS.sa d1'
    have oe2 := st2.ownE okT.dis d1' oe1
    have ok3 := st2.okk (R := S1) (ok1.less fun _ z => z.elim .inr .inl) ok2 d1'
    have sub : ∀ x, Uni S2 S1 x → Uni S1 S2 x := fun x z => z.elim .inr .inl
    exact sat c d H2 Z2 (Uni S2 S1) (oP.putB oe2 (fun x y z => dd x z y) mv) xr (((st2.frame (R := S1)).more fun x z => z.elim .inr .inl).less sub) (ok3.less sub)
theorem mth_core {W : WX} {c m : Str} {F : List T → Option (Out T)} {n : Nat} {ms : List (Option Nat)} {to : Ev T} {ts : Ev (List T)} {to' : TE} {ts' : TA} (qa : ∀ E σ H Z (S : PA1) Q, OwnE X.K cl H Z E σ S → Okk H Z S → SatD X.K cl W σ H Z S Q (to E) → to' σ H Q)
    (hs : ∀ E σ H Z (S : PA1) Q, OwnE X.K cl H Z E σ S → Okk H Z S → SatM X.K cl W ms σ H Z S Q (ts E) → ts' σ H Q) (E : En) (σ : L2.St) (H : Hp) (Z S : PA1) (Q : VK) (oe : OwnE X.K cl H Z E σ S) (ok : Okk H Z S) (sat : SatV X.K cl W σ H Z S Q (eMth c m F ms to ts E)) (hn : (none :: ms).length = n) :
    to' σ H fun x H1 => ∃ a dx fs, x = .ref a ∧ H1 a = some (.ins (cl c) dx fs) ∧ fs.lookup m = none ∧ ts' σ H1 fun vs H2 => SpF X.K cl n F (x :: vs) H2 Q fun c d H' => W c d σ H' := by
  refine qa E σ H Z S _ oe ok (satD_bnd (β := T) (κ := VK) (q := Q) sat fun x E1 sat1 v H1 Z1 S1 oe1 rp1 st1 ok1 => ?_)
  have sat2 : SatV X.K cl W σ H1 Z1 S1 Q (if insOf c m (frz x) = true then bnd (ts E1) fun xs E2 => match F (.fz (frz x) :: xs) with
    | none => none
    | some (.ok r P) => some (.ok r (putB (none :: ms) P E2))
    | some (.ex y P) => some (.ex y (putB (none :: ms) P E2)) else none) := SatV.re st1 sat1
  by_cases ci : insOf c m (frz x) = true
  case neg => rw [if_neg ci] at sat2; exact sat2.elim
  rw [if_pos ci] at sat2
  have core : ts' σ H1 fun vs H2 => SpF X.K cl n F (v :: vs) H2 Q fun c d H' => W c d σ H' := by
    refine hs E1 σ H1 Z1 S1 _ oe1 ok1 ?_
    match hE : ts E1, sat2 with
    | none, sat2 => exact sat2.elim
    | some (.ex y E2), sat2 => exact sat2
    | some (.ok xs E2), sat2 =>
      intro vs H2 Z2 Sq S2 oe2 ow2 d2 mv st2 ok2
      simp only [bnd_ok] at sat2
      have rp2 := st2.rp ok1.dis rp1
      exact spf_of hn oe2 (.cons (S1 := Emp) (.fz rp2) ow2 (fun _ z => z.elim) (fun _ z => z) fun _ z _ => z) d2 (.no mv) ok2 (SatV.re st2 sat2)
  generalize hd : frz x = d at rp1 ci
  cases rp1 with
  | @ins a c' dx fvs fs h1 h2 h3 r =>
    simp only [insOf, Bool.and_eq_true, decide_eq_true_eq, Option.isNone_iff_eq_none] at ci
    obtain ⟨rfl, hl⟩ := ci
    exact ⟨a, dx, fvs, rfl, h2, (flds_rp h3 r).2 hl, core⟩
  | _ => simp [insOf] at ci
theorem ie_mth {c m : Str} {ps : List Str} {F : List T → Option (Out T)} {j : Nat} {o e : Expr} {es : List Expr} {ms : List (Option Nat)} {to : Ev T} {ts : Ev (List T)} {apos : Pos} {pl : Sem Bool} (cm : CalM X.prog X.w X.K X.mg X.base cl c m j ps F) (hr : Room k X.A) (hg : X.A.guards = some []) (ho : IE X cl o to) (ha : IM X cl (e :: es) ms ts) (hj : j ≤ k := by decide) (hn : (none :: ms).length = ps.length := by rfl)
    (hst : starEach (e :: es) X.env = (false, eval e X.env) :: starEach es X.env := by rfl) (hpl : (backTo pos (starEach es X.env)).any (·.1) = false := by rfl)
    (ht : eval (.Call (.Attribute o m apos) (e :: es) [] pos) X.env = (do
      let ov ← eval o X.env
      standAt apos.atName
      let (f, first) ← holding [ov] (getMethod ov m pl)
      callWith pos f first (backTo pos (starEach (e :: es) X.env)) (backToKw pos (keywordEach [] X.env))) := by rfl) : IE X cl (.Call (.Attribute o m apos) (e :: es) [] pos) (eMth c m F ms to ts) := by
  obtain ⟨f, fd, hm, hb, hF⟩ := cm.ex
  refine ⟨fun W tk => ?_⟩
  obtain ⟨to', po, qo⟩ := ho.fz W tk
  obtain ⟨ts', pa, qa⟩ := ha.run W tk
  refine ⟨_, ⟨fun pins s σ H Q I h => ?_⟩, fun E σ H Z S Q oe ok sat => mth_core qo qa E σ H Z S Q oe ok sat hn⟩
  refine PySem.W.methodCall_KW (pl := pl) (thn (po.run pins s σ H _ I h) fun u s1 ⟨x, H1, I1, rx, a, dx, fs, ex, ea, l, q⟩ => ?_) ht
  subst ex
  cases rx
  refine getmeth_ok I1 ea cm.cls hm l ?_
  refine PySem.W.callWith_K (first := [.ref a]) (h₀ := X.base) I.ok.mod.kin hm.kp (thn (pa.run pos pins s1 σ H1 _ I1 q) fun us s2 ⟨vs, H2, I2, r, q2⟩ => ⟨I2.kIn, ?_⟩) hst hpl
  exact run_fv (us := .ref a :: us) (vs := .ref a :: vs) tk hF (hr.mono hj) hg hb I2 (.cons rfl r) q2
theorem ie_mth0 {c m : Str} {ps : List Str} {F : List T → Option (Out T)} {j : Nat} {o : Expr} {to : Ev T} {apos : Pos} {pl : Sem Bool} (cm : CalM X.prog X.w X.K X.mg X.base cl c m j ps F) (hr : Room k X.A) (hg : X.A.guards = some []) (ho : IE X cl o to) (hj : j ≤ k := by decide) (hn : 1 = ps.length := by rfl)
    (ht : eval (.Call (.Attribute o m apos) [] [] pos) X.env = (do
      let ov ← eval o X.env
      standAt apos.atName
      let (f, first) ← holding [ov] (getMethod ov m pl)
      callWith pos f first (backTo pos (starEach [] X.env)) (backToKw pos (keywordEach [] X.env))) := by rfl) : IE X cl (.Call (.Attribute o m apos) [] [] pos) (eMth c m F [] to mNil) := by
  obtain ⟨f, fd, hm, hb, hF⟩ := cm.ex
  refine ⟨fun W tk => ?_⟩
  obtain ⟨to', po, qo⟩ := ho.fz W tk
  obtain ⟨ts', pa, qa⟩ := (im_nil (X := X) (cl := cl)).run W tk
  refine ⟨_, ⟨fun pins s σ H Q I h => ?_⟩, fun E σ H Z S Q oe ok sat => mth_core (ts' := fun _ H Q => Q [] H) qo (fun E σ H Z S Q oe ok sat => (sat : SatM X.K cl W [] σ H Z S Q (some (.ok [] E))) [] H Z Emp S oe .nil (fun _ z _ => z) .nil (Step.refl.less fun _ z => z.elim False.elim (fun z => z)) (ok.less fun _ z => z.elim False.elim (fun z => z))) E σ H Z S Q oe ok sat hn⟩
  refine PySem.W.methodCall_KW (pl := pl) (thn (po.run pins s σ H _ I h) fun u s1 ⟨x, H1, I1, rx, a, dx, fs, ex, ea, l, q⟩ => ?_) ht
  subst ex
  cases rx
  refine getmeth_ok I1 ea cm.cls hm l ?_
  exact PySem.W.callWith_K0 (first := [.ref a]) I1.kIn hm.kp (run_fv (us := [.ref a]) (vs := [.ref a]) tk hF (hr.mono hj) hg hb I1 (.cons rfl .nil) q)

/-! ### new instances -/
theorem OwnE.two {K : PySem.W.Frag} {H : Hp} {Z : PA1} {o : T} {P : En} {v : V} {τ : L2.St} {S : PA1} (h : OwnE K cl H Z (some o :: P) (some v :: τ) S) : ∃ A1 A2 : PA1, Own K cl H Z o v A1 ∧ OwnE K cl H Z P τ A2 ∧ (∀ a, A1 a → S a) ∧ (∀ a, A2 a → S a) ∧ Dis A1 A2 := by
  cases h with
  | so q r a1 a2 d => exact ⟨_, _, q, r, a1, a2, d⟩
structure CalC (P : Program) (w : World) (K : PySem.W.Frag) (mg : Str → Option Value) (base : Heap) (cl : Str → Addr) (c : Str) (k : Nat) (ps : List Str) (F : List T → Option (Out T)) : Prop where
  glo : mg c = some (.ref (cl c))
  ex : ∃ f fd, Mk K (cl c) f ∧ Binds K fd ps [] ∧ FnV P w K mg base cl k f fd ps F
def eMk (c : Str) (F : List T → Option (Out T)) (ms : List (Option Nat)) (ts : Ev (List T)) : Ev T := fun E => bnd (ts E) fun xs E1 => match F (.ins c [] :: xs) with
  | some (.ok (.fz .non) (some o :: P)) => some (.ok o (putB ms P E1))
  | _ => none
theorem under_guards {A : Around} {C : Addr} {us : List Value} : (A.under (.builtin "type.__call__" ⟨.ref C :: us, []⟩)).guards = A.guards := by
  first | rfl | simp [Around.under, Code.weight, Code.isCreation, Code.isGuard, Code.isCaller, Code.frames, Code.isFrame, guardIds]
theorem run_mk {W : WX} {c : Str} {f : Addr} {fd : FuncData} {ps : List Str} {F : List T → Option (Out T)} {j : Nat} {pins : List (Addr × Obj)} {σ : L2.St} {H : Hp} {s : Shared} {Q : VK} {us : List Value} {vs : List V} (tk : Takes X W) (M : Mk X.K (cl c) f) (hF : FnV X.prog X.w X.K X.mg X.base cl j f fd ps F)
    (hr : Room (j + 1) X.A) (hg : X.A.guards = some []) (hb : Binds X.K fd ps []) (I : Inv X pins σ H s) (r : Vals vs us)
    (h : ∀ x dx, H x = none → H dx = none → dx ≠ x → SpF X.K cl ps.length F (.ref x :: vs) (upd (upd H dx (.own x)) x (.ins (cl c) dx [])) (fun v H2 => v = .non ∧ Q (.ref x) H2) fun c d H' => W c d σ H') :
    wpAny (model X.prog X.w) X.A (call (.ref (cl c)) us) (EP X pins σ Q) X.xe s := by
  have sp := h (s.heap.objs.size + 1) s.heap.objs.size (I.hok.fresh (Nat.le_succ _)) (I.hok.fresh (Nat.le_refl _)) (Nat.ne_of_lt (Nat.lt_succ_self _))
  have J := Inv.made (C := cl c) I
  have rs : Vals (V.ref (s.heap.objs.size + 1) :: vs) (Value.ref (s.heap.objs.size + 1) :: us) := .cons rfl r
  have hl : (Value.ref (s.heap.objs.size + 1) :: us).length = ps.length := by rw [← rs.length]; exact sp.1
  have hbd := hb _ (Value.ref (s.heap.objs.size + 1) :: us) J.kIn (by rw [List.append_nil]; exact hl)
  rw [List.append_nil] at hbd
  refine wpAny_call (make_map (f := f) I.kIn M.makes M.init (beq_iff_eq.mp M.fn) (codeAny_mono (hF.run _ X.stack _ _ ⟨Value.ref (s.heap.objs.size + 1) :: us, []⟩ (Value.ref (s.heap.objs.size + 1) :: us) _ _ _ (hr.make (cl c) us [])
    (under_guards.trans hg) (J.env0.make (cl c) us []) hbd rs sp) fun r s' hq => ?_))
  match r, hq with
  | .error e, hq => exact passAt tk σ pins _ _ e s' J hq
  | .ok (.ret u), hq =>
    obtain ⟨v, H', I3, rv, ev, q3⟩ := J.after hq
    subst ev
    exact ⟨rv, ⟨V.ref (s.heap.objs.size + 1), H', I3, rfl, q3⟩⟩
  | .ok .next, hq => exact hq.elim
  | .ok .brk, hq => exact hq.elim
  | .ok .cont, hq => exact hq.elim
theorem ie_mk {c : Str} {p : Pos} {ps : List Str} {F : List T → Option (Out T)} {j : Nat} {e : Expr} {es : List Expr} {ms : List (Option Nat)} {ts : Ev (List T)} (cc : CalC X.prog X.w X.K X.mg X.base cl c j ps F) (hr : Room k X.A) (hg : X.A.guards = some []) (ha : IM X cl (e :: es) ms ts) (hj : j + 1 ≤ k := by decide) (hn : (none :: ms).length = ps.length := by rfl)
    (hgl : Gl X c := by rfl) (hdb : (c == ("__debug__" : Str)) = false := by decide) (he : starEach (e :: es) X.env = (false, eval e X.env) :: starEach es X.env := by rfl) (hpl : (backTo pos (starEach es X.env)).any (·.1) = false := by rfl) :
    IE X cl (.Call (.Name c p) (e :: es) [] pos) (eMk c F ms ts) := by
  obtain ⟨f, fd, M, hb, hF⟩ := cc.ex
  refine ⟨fun W tk => ?_⟩
  obtain ⟨ts', pa, qa⟩ := ha.run W tk
  refine ⟨fun σ H Q => ts' σ H fun vs H1 => ∀ x dx, H1 x = none → H1 dx = none → dx ≠ x → SpF X.K cl ps.length F (.ref x :: vs) (upd (upd H1 dx (.own x)) x (.ins (cl c) dx [])) (fun v H2 => v = .non ∧ Q (.ref x) H2) fun c d H' => W c d σ H', ⟨fun pins s σ H Q I h => ?_⟩, fun E σ H Z S Q oe ok sat => ?_⟩
  · refine wpAny_Call_Name_kw (ld_glob I hgl cc.glo ?_ hdb)
    refine PySem.W.callWith_K (h₀ := X.base) I.ok.mod.kin M.kp (thn (pa.run pos pins s σ H _ I h) fun us s1 ⟨vs, H1, I1, r, q⟩ => ⟨I1.kIn, ?_⟩) he hpl
    exact run_mk tk M hF (hr.mono hj) hg hb I1 r q
  · refine qa E σ H Z S _ oe ok ?_
    unfold eMk at sat
    match hE : ts E, sat with
    | none, sat => exact sat.elim
    | some (.ex x E1), sat => exact sat
    | some (.ok xs E1), sat =>
      intro vs H1 Z1 Sq S1 oe1 ow1 d1 mv st1 ok1 x dx hx hdx hne
      simp only [bnd_ok] at sat
      have k1 : ∀ a u, H1 a = some u → upd (upd H1 dx (.own x)) x (.ins (cl c) dx []) a = some u := fun a u e => by
        rw [upd_ne (ne_of_none e hx), upd_ne (ne_of_none e hdx)]; exact e
      have al : ∀ a, H1 a ≠ none → upd (upd H1 dx (.own x)) x (.ins (cl c) dx []) a ≠ none := fun a z => by
        cases e : H1 a with
        | none => exact absurd e z
        | some u => rw [k1 a u e]; simp
      generalize hH : upd (upd H1 dx (.own x)) x (.ins (cl c) dx []) = H2 at k1 al
      have ex : H2 x = some (.ins (cl c) dx []) := by rw [← hH]; exact upd_same
      have nS : ∀ a, Uni Sq S1 a → a ≠ x := fun a z e => ok1.sa a z (e ▸ hx)
      have stA : Step H1 Z1 (Uni Sq S1) H2 Z1 (Uni (fun a => a = x) (Uni Sq S1)) := ⟨fun _ z => z, fun _ z => .inl z, fun a z => z.elim (fun z => .inr (z ▸ hx)) .inl, fun a u e _ => k1 a u e, al⟩
      have okA : Okk H2 Z1 (Uni (fun a => a = x) (Uni Sq S1)) := ⟨fun a z y => z.elim (fun z => ok1.za a y (z ▸ hx)) fun z => ok1.dis a z y, fun a z => z.elim (fun z => by rw [z, ex]; simp) fun z => al a (ok1.sa a z), fun a z => al a (ok1.za a z)⟩
      have kz : ∀ a, Z1 a → Kept H1 H2 a := fun a _ => .of (k1 a)
      have ow2 := ow1.mono (fun _ z => z) kz fun a u _ e => k1 a u e
      have oe2 := oe1.mono (fun _ z => z) kz fun a u _ e => k1 a u e
      have okT : Okk H2 Z1 (Uni (fun a => a = x) Sq) := okA.less fun a z => z.imp (fun z => z) .inl
      have okS : Okk H2 Z1 S1 := okA.less fun a z => .inr (.inr z)
      have dS : Dis S1 (Uni (fun a => a = x) Sq) := fun a z y => y.elim (fun y => nS a (.inr z) y) fun y => d1 a y z
      refine ⟨?_, .ins c [] :: xs, Z1, Uni (fun a => a = x) Sq, .cons (S1 := fun a => a = x) (.ins (R := Emp) ex rfl (fun _ z => z.elim) rfl .nil) ow2 (fun _ z => .inl z) (fun _ z => .inr z) (fun a z y => nS a (.inl y) z), okT, ?_⟩
      · rw [← hn]; simp [mv.len]
      match hF2 : F (.ins c [] :: xs), sat with
      | none, sat => exact sat.elim
      | some (.ex y P), sat => exact sat.elim
      | some (.ok r P), sat =>
        intro v H3 Z3 Sr S3 oP owr d3 st3 ok3
        match r, P, owr, oP, sat with
        | .fz .non, some o :: P, .fz rp, oP, sat =>
          cases rp
          refine ⟨rfl, ?_⟩
          obtain ⟨A1, A2, q1, q2, a1, a2, dA⟩ := oP.two
          have dd := st3.dis okS.sa dS
          have oe3 := st3.ownE okT.dis dS oe2
          have ok4 := st3.okk (R := S1) (okA.less fun a z => z.elim (fun z => .inr (.inr z)) fun z => z.imp (fun z => z) .inl) ok3 dS
          have sat2 : SatV X.K cl W σ H Z S Q (some (.ok o (VL.putB ms P E1))) := sat
          have sub : ∀ a, Uni A1 (Uni A2 S1) a → Uni S1 (Uni Sr S3) a := fun a z => z.elim (fun z => .inr (.inr (a1 a z))) fun z => z.elim (fun z => .inr (.inr (a2 a z))) .inl
          refine sat2 (.ref x) H3 Z3 A1 (Uni A2 S1) (q2.putB oe3 (fun a z y => dd a y (.inr (a2 a z))) mv) q1 (fun a z y => y.elim (dA a z) fun y => dd a y (.inr (a1 a z))) ?_ (ok4.less sub)
          refine (st1.trans (stA.trans ((st3.frame (R := S1)).more ?_))).less sub
          exact fun a z => z.elim (fun z => .inr (.inr z)) fun z => z.imp (fun z => z) .inl
end
end VL

namespace VL
open PySem PySem.Spec PyProof.Rows L2

/-! ### values that are known ahead: a name, its fields, its items -/
structure IV (X : Cx) (cl : Str → Addr) (e : Expr) (t : En → Option (D × En)) : Prop where
  run : ∀ W, Takes X W → ∃ te, PE X e te ∧ ∀ E σ H Z (S : PA1) d E1, OwnE X.K cl H Z E σ S → Okk H Z S → t E = some (d, E1) →
    ∃ v Z1, ∃ S1 : PA1, OwnE X.K cl H Z1 E1 σ S1 ∧ Step H Z S H Z1 S1 ∧ Okk H Z1 S1 ∧ Rp X.K cl H Z1 d v ∧ ∀ H' Q, (∀ a, Z1 a → Kept H H' a) → Q v H' → te σ H' Q
section
variable {X : Cx} {cl : Str → Addr} {kp : Keep} {pos : Pos} {k : Nat}
def vVar (i : Nat) : En → Option (D × En) := fun E => match E[i]? with
  | some (some t) => some (frz t, E.set i (some (.fz (frz t))))
  | _ => none
theorem iv_var (i : Nat) {x : Str} (hN : X.N[i]? = some x := by rfl) (hv : Vis X.env.scope x := by first | exact Or.inl rfl | exact Or.inr (Or.inl rfl) | exact Or.inr (Or.inr rfl)) (hd : (x == ("__debug__" : Str)) = false := by decide) (hcd : (x == ("__classdict__" : Str)) = false := by decide) : IV X cl (.Name x pos) (vVar i) := by
  refine ⟨fun W tk => ⟨tVar i, pe_var hN hv hd hcd, fun E σ H Z S d E1 oe ok h => ?_⟩⟩
  unfold vVar at h
  split at h
  · rename_i t ht
    cases h
    obtain ⟨v, Si, Sr, h1, h2, h3, h4, h5, h6⟩ := oe.take ht
    obtain ⟨s2, o2⟩ := freezeStep (ok.less fun a z => z.elim (h5 a) (h6 a) : Okk H Z (Uni Si Sr)) h4
    have rp := h2.frz (Z' := Uni Z Si) (fun _ z => .inl z) fun _ z => .inr z
    have pe := OwnE.put (i := i) (t := .fz (frz t)) (v := v) (Si := Emp) (h3.zmore (Z' := Uni Z Si) fun _ z => .inl z) (oe.slot ht) (.fz rp) (fun _ z _ => z)
    have e1 : σ.set i (some v) = σ := set_get h1
    rw [e1] at pe
    refine ⟨v, Uni Z Si, Sr, pe.up fun a z => z.elim False.elim id, ?_, o2, rp, fun H' Q _ q => ⟨v, h1, q⟩⟩
    exact (Step.refl.less fun a z => z.elim (h5 a) (h6 a)).trans s2
  · cases h
def vFld (c f : Str) (t : En → Option (D × En)) : En → Option (D × En) := fun E => match t E with
  | some (.ins c' fs, E1) => if c' = c then (fs.lookup f).map fun d => (d, E1) else none
  | _ => none
theorem iv_fld {c f : Str} {e : Expr} {t : En → Option (D × En)} (hc : Cls X.K (cl c)) (hn : NoAttr X.K (cl c) f) (he : IV X cl e t) (hb : attributeBase e f X.env (eval e X.env) = eval e X.env := by rfl) : IV X cl (.Attribute e f pos) (vFld c f t) := by
  refine ⟨fun W tk => ?_⟩
  obtain ⟨te, p, q⟩ := he.run W tk
  refine ⟨_, pe_fld p hb, fun E σ H Z S d E1 oe ok h => ?_⟩
  unfold vFld at h
  split at h
  · rename_i c' fs E2 hE
    by_cases e1 : c' = c
    case neg => rw [if_neg e1] at h; cases h
    rw [if_pos e1] at h
    subst e1
    cases hl : fs.lookup f with
    | none => rw [hl] at h; cases h
    | some d' =>
      rw [hl] at h
      cases h
      obtain ⟨v, Z1, S1, oe1, st1, ok1, rp, hq⟩ := q E σ H Z S _ _ oe ok hE
      cases rp with
      | @ins a _ dx fvs _ h1 h2 h3 r =>
        obtain ⟨w, hw, rw'⟩ := (flds_rp h3 r).1 d hl
        exact ⟨w, Z1, S1, oe1, st1, ok1, rw', fun H' Q kk q2 => hq H' _ kk ⟨a, cl c', dx, fvs, w, rfl, (kk a h1).ex _ rfl h2, hc, hn, hw, q2⟩⟩
  · cases h
def vIx (n : Int) (t : En → Option (D × En)) : En → Option (D × En) := fun E => match t E with
  | some (.tup ds, E1) => (L2.atI ds n).map fun d => (d, E1)
  | some (.lst ds, E1) => (L2.atI ds n).map fun d => (d, E1)
  | _ => none
theorem iv_ix {e : Expr} {n : Int} {j : Nat} {p1 : Pos} {t : En → Option (D × En)} (he : IV X cl e t) : IV X cl (.Subscript e (.Constant (.int n) j p1) pos) (vIx n t) := by
  refine ⟨fun W tk => ?_⟩
  obtain ⟨te, p, q⟩ := he.run W tk
  refine ⟨_, pe_ix ix_seq p pe_int (fun _ _ => rfl), fun E σ H Z S d E1 oe ok h => ?_⟩
  unfold vIx at h
  split at h
  · rename_i ds E2 hE
    cases hl : L2.atI ds n with
    | none => rw [hl] at h; cases h
    | some d' =>
      rw [hl] at h
      cases h
      obtain ⟨v, Z1, S1, oe1, st1, ok1, rp, hq⟩ := q E σ H Z S _ _ oe ok hE
      cases rp with
      | @tup a vs _ h1 h2 r =>
        obtain ⟨w, hw, rw'⟩ := r.atI hl
        exact ⟨w, Z1, S1, oe1, st1, ok1, rw', fun H' Q kk q2 => hq H' _ kk (.inr (.inl ⟨a, vs, n, w, rfl, rfl, TupP.sq (h2.kept (kk a h1)), hw, q2⟩))⟩
  · rename_i ds E2 hE
    cases hl : L2.atI ds n with
    | none => rw [hl] at h; cases h
    | some d' =>
      rw [hl] at h
      cases h
      obtain ⟨v, Z1, S1, oe1, st1, ok1, rp, hq⟩ := q E σ H Z S _ _ oe ok hE
      cases rp with
      | @lst a vs _ h1 h2 r =>
        obtain ⟨w, hw, rw'⟩ := r.atI hl
        exact ⟨w, Z1, S1, oe1, st1, ok1, rw', fun H' Q kk q2 => hq H' _ kk (.inl ⟨a, vs, n, w, rfl, rfl, SqL.of ((kk a h1).ex _ rfl h2), hw, q2⟩)⟩
  · cases h

/-! ### what a walk over a dict gives -/
def keyOf : Key → D
  | .inl i => .int i
  | .inr x => .str x
theorem keyOf_rp {K : PySem.W.Frag} {H : Hp} {Z : PA1} (k : Key) : Rp K cl H Z (keyOf k) (kV k) := by
  cases k with
  | inl i => exact .int i
  | inr x => exact .str x
def keysOf (ds : List (Key × D)) : List D := ds.map fun p => keyOf p.1
def valsOf (ds : List (Key × D)) : List D := ds.map (·.2)
def itemsOf (ds : List (Key × D)) : List D := ds.map fun p => .tpn [keyOf p.1, p.2]
section
variable {K : PySem.W.Frag} {H : Hp} {Z : PA1} {d : Addr} {o : Obj} {kvs : List (Key × V)} {ds : List (Key × D)}
theorem itok_keys (hz : Z d) (hd : H d = some (.frz o (.dK kvs))) (hk : ds.map (·.1) = kvs.map (·.1)) : ItOk K cl (Itk d o kvs) (keysOf ds) H Z := by
  have e0 : keysOf ds = kvs.map fun p => keyOf p.1 := by
    have : ds.map (fun p => keyOf p.1) = (ds.map (·.1)).map keyOf := by rw [List.map_map]; rfl
    unfold keysOf
    rw [this, hk, List.map_map]; rfl
  rw [e0]
  intro i H1 Z1 hz1 hr hza
  have e := hr d _ hz hd
  refine ⟨fun x hx => ?_, fun ei => ?_⟩
  · rw [List.getElem?_map] at hx
    cases hv : kvs[i]? with
    | none => rw [hv] at hx; cases hx
    | some p =>
      rw [hv] at hx
      cases hx
      refine ⟨⟨e, (List.getElem?_eq_some_iff.mp hv).1⟩, fun y H2 hy => ?_⟩
      obtain ⟨eH, k, v, hkv, rfl⟩ := hy
      subst eH
      rw [hv] at hkv
      cases hkv
      exact ⟨Z1, Step.refl, hza, keyOf_rp _⟩
  · refine ⟨e, ?_⟩
    simp at ei
    omega
theorem RpL.get2 {ds : List (Key × D)} {kvs : List (Key × V)} {i : Nat} {k : Key} {v : V} (hk : ds.map (·.1) = kvs.map (·.1)) (r : RpL K cl H Z (ds.map (·.2)) (kvs.map (·.2))) (hv : kvs[i]? = some (k, v)) : ∃ d, ds[i]? = some (k, d) ∧ Rp K cl H Z d v := by
  have h1 : (ds.map (·.1))[i]? = some k := by rw [hk, List.getElem?_map, hv]; rfl
  rw [List.getElem?_map] at h1
  cases hd : ds[i]? with
  | none => rw [hd] at h1; cases h1
  | some p =>
    rw [hd] at h1
    cases h1
    obtain ⟨w, hw, rw'⟩ := r.get (i := i) (d := p.2) (by rw [List.getElem?_map, hd]; rfl)
    rw [List.getElem?_map, hv] at hw
    cases hw
    exact ⟨p.2, rfl, rw'⟩
theorem itok_vals (hz : Z d) (hd : H d = some (.frz o (.dK kvs))) (hk : ds.map (·.1) = kvs.map (·.1)) (r : RpL K cl H Z (ds.map (·.2)) (kvs.map (·.2))) : ItOk K cl (Itd d o kvs) (valsOf ds) H Z := by
  have hlen : ds.length = kvs.length := by have := congrArg List.length hk; simpa using this
  intro i H1 Z1 hz1 hr hza
  have e := hr d _ hz hd
  have r1 := r.mono hz1 fun a z => .of fun u q => hr a u z q
  refine ⟨fun x hx => ?_, fun ei => ?_⟩
  · unfold valsOf at hx
    have hi : i < kvs.length := by rw [← hlen]; have := (List.getElem?_eq_some_iff.mp hx).1; simpa using this
    refine ⟨⟨e, hi⟩, fun y H2 hy => ?_⟩
    obtain ⟨eH, k, hkv⟩ := hy
    subst eH
    obtain ⟨q, hq, rq⟩ := RpL.get2 hk r1 hkv
    rw [List.getElem?_map, hq] at hx
    cases hx
    exact ⟨Z1, Step.refl, hza, rq⟩
  · refine ⟨e, ?_⟩
    unfold valsOf at ei
    simp at ei
    omega
theorem itok_items (hz : Z d) (hd : H d = some (.frz o (.dK kvs))) (hk : ds.map (·.1) = kvs.map (·.1)) (r : RpL K cl H Z (ds.map (·.2)) (kvs.map (·.2))) : ItOk K cl (Iti d o kvs) (itemsOf ds) H Z := by
  have hlen : ds.length = kvs.length := by have := congrArg List.length hk; simpa using this
  intro i H1 Z1 hz1 hr hza
  have e := hr d _ hz hd
  have r1 := r.mono hz1 fun a z => .of fun u q => hr a u z q
  refine ⟨fun x hx => ?_, fun ei => ?_⟩
  · unfold itemsOf at hx
    have hi : i < kvs.length := by rw [← hlen]; have := (List.getElem?_eq_some_iff.mp hx).1; simpa using this
    refine ⟨⟨e, hi⟩, fun y H2 hy => ?_⟩
    obtain ⟨T, k, v, hkv, rfl, hT, rfl⟩ := hy
    obtain ⟨q, hq, rq⟩ := RpL.get2 hk r1 hkv
    rw [List.getElem?_map, hq] at hx
    cases hx
    have nT : ∀ a o', H1 a = some o' → upd H1 T (.tup [kV k, v]) a = some o' := fun a o' q => by rw [upd_ne (fun z => by rw [z, hT] at q; cases q)]; exact q
    have al : ∀ a, H1 a ≠ none → upd H1 T (.tup [kV k, v]) a ≠ none := fun a q => by
      cases e2 : H1 a with
      | none => exact absurd e2 q
      | some o' => rw [nT a o' e2]; simp
    refine ⟨fun a => Z1 a ∨ a = T, ⟨fun _ z => .inl z, fun a z => z.elim .inl fun z => .inr (.inr (by rw [z]; exact hT)), fun _ z => z.elim, fun a o' q _ => nT a o' q, al⟩, fun a z => z.elim (fun z => al a (hza a z)) fun z => by rw [z, upd_same]; simp, ?_⟩
    exact .tpn (.inr rfl) upd_same (.cons (keyOf_rp k) (.cons (rq.mono (fun _ z => .inl z) fun a _ => .of fun u q => nT a u q) .nil))
  · refine ⟨e, ?_⟩
    unfold itemsOf at ei
    simp at ei
    omega
end
/-! ### a dict that stays as it is: locked for the time of a walk -/
/-- a walk over the dict at a -/
structure ID (X : Cx) (cl : Str → Addr) (tg iter : Expr) (t : En → Option (List D × En)) : Prop where
  run : ∀ W, Takes X W → ∃ wi, PI X tg iter wi ∧ ∀ E σ H Z (S : PA1) ds E1, OwnE X.K cl H Z E σ S → Okk H Z S → t E = some (ds, E1) →
    ∃ Z1, ∃ S1 : PA1, OwnE X.K cl H Z1 E1 σ S1 ∧ Step H Z S H Z1 S1 ∧ Okk H Z1 S1 ∧
      ((∀ R, (∀ J, ItOk X.K cl J ds H Z1 → R J H) → wi σ H R) ∨
       ∃ a kvs, Z1 a ∧ H a = some (.dK kvs) ∧ ∀ od R, (∀ J, ItOk X.K cl J ds (upd H a (.frz od (.dK kvs))) Z1 → R J (upd H a (.frz od (.dK kvs)))) → wi σ (upd H a (.frz od (.dK kvs))) R)
/-- what the lock keeps -/
theorem lock_kept {H : Hp} {a : Addr} {kvs : List (Key × V)} {od : Obj} (h : H a = some (.dK kvs)) : ∀ b, Kept H (upd H a (.frz od (.dK kvs))) b := fun b => by
  by_cases e : b = a
  · subst e
    refine ⟨fun u hs q => ?_, fun l q => ?_, fun l q => ?_⟩
    · rw [h] at q; cases q; cases hs
    · rcases q with q | ⟨o, q⟩
      · rw [h] at q; cases q; exact .inr ⟨od, upd_same⟩
      · rw [h] at q; cases q
    · rcases q with q | ⟨o, q⟩ <;> (rw [h] at q; cases q)
  · exact .of fun u q => by rw [upd_ne e]; exact q
theorem unlock_kept {H : Hp} {a : Addr} {kvs : List (Key × V)} {od : Obj} (h : H a = some (.frz od (.dK kvs))) : ∀ b, Kept H (upd H a (.dK kvs)) b := fun b => by
  by_cases e : b = a
  · subst e
    refine ⟨fun u hs q => ?_, fun l q => ?_, fun l q => ?_⟩
    · rw [h] at q; cases q; cases hs
    · rcases q with q | ⟨o, q⟩
      · rw [h] at q; cases q
      · rw [h] at q; cases q; exact .inl upd_same
    · rcases q with q | ⟨o, q⟩ <;> (rw [h] at q; cases q)
  · exact .of fun u q => by rw [upd_ne e]; exact q
end
end VL

namespace VL
open PySem PySem.Spec PyProof.Rows L2

/-! ### walks over what is known ahead -/
section
variable {X : Cx} {cl : Str → Addr} {kp : Keep} {pos : Pos} {k : Nat}
def iAhd (t : En → Option (List D × En)) : Ev (List D) := fun E => match t E with
  | some (ds, E1) => some (.ok ds E1)
  | none => none
def walkD : D → Option (List D)
  | .dct ds => some (keysOf ds)
  | .lst ds => some ds
  | .tup ds => some ds
  | .str z => some (strD z)
  | _ => none
def vAny (t : En → Option (D × En)) : En → Option (List D × En) := fun E => match t E with
  | some (d, E1) => (walkD d).map fun ds => (ds, E1)
  | none => none
/-- the Rd of a frozen dict: locked already, or not -/
theorem id_any {tg e : Expr} {t : En → Option (D × En)} (h : IV X cl e t) : ID X cl tg e (vAny t) := by
  refine ⟨fun W tk => ?_⟩
  obtain ⟨te, p, q⟩ := h.run W tk
  refine ⟨_, PI.or (pi_keys p) (PI.or (pi_list p) (PI.or (pi_tup p) (pi_str p))), fun E σ H Z S ds E1 oe ok h => ?_⟩
  unfold vAny at h
  match hE : t E with
  | none => rw [hE] at h; cases h
  | some (d, E2) =>
    rw [hE] at h
    dsimp only at h
    obtain ⟨v, Z1, S1, oe1, st1, ok1, rp, hq⟩ := q E σ H Z S _ _ oe ok hE
    match d, rp, h with
    | .dct ks, .dct (a := a) (kvs := kvs) h0 h1 h2 r, h =>
      cases h
      refine ⟨Z1, S1, oe1, st1, ok1, ?_⟩
      rcases h1 with h1 | ⟨o, h1⟩
      · refine .inr ⟨a, kvs, h0, h1, fun od R hR => .inl (hq _ _ (fun b _ => lock_kept h1 b) ⟨a, od, rfl, .inl ⟨kvs, upd_same, hR _ (itok_keys h0 upd_same h2)⟩⟩)⟩
      · exact .inl fun R hR => .inl (hq _ _ (fun _ _ => .refl) ⟨a, o, rfl, .inl ⟨kvs, h1, hR _ (itok_keys h0 h1 h2)⟩⟩)
    | .lst ks, .lst (a := a) (vs := vs) h0 h1 r, h =>
      cases h
      exact ⟨Z1, S1, oe1, st1, ok1, .inl fun R hR => .inr (.inl (hq _ _ (fun _ _ => .refl) ⟨a, rfl, ⟨vs, SqL.of h1⟩, hR _ (itok_list (.lst h0 h1 r))⟩))⟩
    | .tup ks, .tup (a := a) (vs := vs) h0 h1 r, h =>
      cases h
      exact ⟨Z1, S1, oe1, st1, ok1, .inl fun R hR => .inr (.inr (.inl (hq _ _ (fun _ _ => .refl) ⟨a, rfl, ⟨vs, (TupP.sq h1)⟩, hR _ (itok_tup (.tup h0 h1 r))⟩)))⟩
    | .str z, .str _, h =>
      cases h
      exact ⟨Z1, S1, oe1, st1, ok1, .inl fun R hR => .inr (.inr (.inr (hq _ _ (fun _ _ => .refl) ⟨z, rfl, hR _ itok_str⟩)))⟩
def vDct (f : List (Key × D) → List D) (t : En → Option (D × En)) : En → Option (List D × En) := fun E => match t E with
  | some (.dct ks, E1) => some (f ks, E1)
  | _ => none
theorem id_items {e : Expr} {elts : List Expr} {kk : Nat} {tpos apos cpos : Pos} {t : En → Option (D × En)} (h : IV X cl e t) (hbase : attributeBase e "items" X.env (eval e X.env) = eval e X.env := by rfl) (hline : (apos.endLine == cpos.line) = true := by rfl) :
    ID X cl (.Tuple elts kk tpos) (.Call (.Attribute e "items" apos) [] [] cpos) (vDct itemsOf t) := by
  refine ⟨fun W tk => ?_⟩
  obtain ⟨te, p, q⟩ := h.run W tk
  refine ⟨_, pi_items p hbase hline, fun E σ H Z S ds E1 oe ok h => ?_⟩
  unfold vDct at h
  split at h
  · rename_i ks E2 hE
    cases h
    obtain ⟨v, Z1, S1, oe1, st1, ok1, rp, hq⟩ := q E σ H Z S _ _ oe ok hE
    cases rp with
    | @dct a kvs _ h0 h1 h2 r =>
      refine ⟨Z1, S1, oe1, st1, ok1, ?_⟩
      rcases h1 with h1 | ⟨o, h1⟩
      · exact .inr ⟨a, kvs, h0, h1, fun od R hR => hq _ _ (fun b _ => lock_kept h1 b) ⟨a, od, kvs, rfl, upd_same, hR _ (itok_items h0 upd_same h2 (r.mono (fun _ z => z) fun b _ => lock_kept h1 b))⟩⟩
      · exact .inl fun R hR => hq _ _ (fun _ _ => .refl) ⟨a, o, kvs, rfl, h1, hR _ (itok_items h0 h1 h2 r)⟩
  · cases h
theorem id_vals {tg e : Expr} {apos cpos : Pos} {t : En → Option (D × En)} (h : IV X cl e t) (hbase : attributeBase e "values" X.env (eval e X.env) = eval e X.env := by rfl) (hline : (apos.endLine == cpos.line) = true := by rfl) :
    ID X cl tg (.Call (.Attribute e "values" apos) [] [] cpos) (vDct valsOf t) := by
  refine ⟨fun W tk => ?_⟩
  obtain ⟨te, p, q⟩ := h.run W tk
  refine ⟨_, pi_values p hbase hline, fun E σ H Z S ds E1 oe ok h => ?_⟩
  unfold vDct at h
  split at h
  · rename_i ks E2 hE
    cases h
    obtain ⟨v, Z1, S1, oe1, st1, ok1, rp, hq⟩ := q E σ H Z S _ _ oe ok hE
    cases rp with
    | @dct a kvs _ h0 h1 h2 r =>
      refine ⟨Z1, S1, oe1, st1, ok1, ?_⟩
      rcases h1 with h1 | ⟨o, h1⟩
      · exact .inr ⟨a, kvs, h0, h1, fun od R hR => hq _ _ (fun b _ => lock_kept h1 b) ⟨a, od, kvs, rfl, upd_same, hR _ (itok_vals h0 upd_same h2 (r.mono (fun _ z => z) fun b _ => lock_kept h1 b))⟩⟩
      · exact .inl fun R hR => hq _ _ (fun _ _ => .refl) ⟨a, o, kvs, rfl, h1, hR _ (itok_vals h0 h1 h2 r)⟩
  · cases h
theorem id_keys {tg e : Expr} {apos cpos : Pos} {t : En → Option (D × En)} (h : IV X cl e t) (hbase : attributeBase e "keys" X.env (eval e X.env) = eval e X.env := by rfl) (hline : (apos.endLine == cpos.line) = true := by rfl) :
    ID X cl tg (.Call (.Attribute e "keys" apos) [] [] cpos) (vDct keysOf t) := by
  refine ⟨fun W tk => ?_⟩
  obtain ⟨te, p, q⟩ := h.run W tk
  refine ⟨_, pi_keysM p hbase hline, fun E σ H Z S ds E1 oe ok h => ?_⟩
  unfold vDct at h
  split at h
  · rename_i ks E2 hE
    cases h
    obtain ⟨v, Z1, S1, oe1, st1, ok1, rp, hq⟩ := q E σ H Z S _ _ oe ok hE
    cases rp with
    | @dct a kvs _ h0 h1 h2 r =>
      refine ⟨Z1, S1, oe1, st1, ok1, ?_⟩
      rcases h1 with h1 | ⟨o, h1⟩
      · exact .inr ⟨a, kvs, h0, h1, fun od R hR => hq _ _ (fun b _ => lock_kept h1 b) ⟨a, od, kvs, rfl, upd_same, hR _ (itok_keys h0 upd_same h2)⟩⟩
      · exact .inl fun R hR => hq _ _ (fun _ _ => .refl) ⟨a, o, kvs, rfl, h1, hR _ (itok_keys h0 h1 h2)⟩
  · cases h

/-! ### locks -/
/-- an exception's wish may speak of the heap without the lock -/
def WL (X : Cx) (W : WX) : WX := fun c d τ H => W c d τ H ∨ ∃ a od kvs, (∀ o' u', X.H_0 a ≠ some (.frz o' u')) ∧ H a = some (.frz od (.dK kvs)) ∧ W c d τ (upd H a (.dK kvs))
theorem takesL {W : WX} (tk : Takes X W) : Takes X (WL X W) := fun u s' ⟨a, B, sI, pins, σ, H, c, d, e, I, nb, up, sky, na, os, ag, w⟩ => by
  rcases w with w | ⟨b, od, kvs, hn, hb, w⟩
  · exact tk u s' ⟨a, B, sI, pins, σ, H, c, d, e, I, nb, up, sky, na, os, ag, w⟩
  · exact tk u s' ⟨a, B, sI, pins, σ, _, c, d, e, I.unlock hb hn, nb, up, sky, by rw [upd_ne (fun z => by rw [z, hb] at na; cases na)]; exact na, os, ag, w⟩
def lkE (D : Ends) (a : Addr) (od : Obj) (u : HO) : Ends :=
  ⟨fun σ' H' => H' a = some (.frz od u) ∧ D.nx σ' (upd H' a u), fun v H' => H' a = some (.frz od u) ∧ D.rt v (upd H' a u), fun σ' H' => H' a = some (.frz od u) ∧ D.bk σ' (upd H' a u), fun σ' H' => H' a = some (.frz od u) ∧ D.ct σ' (upd H' a u)⟩
def tLk (X : Cx) (t : TS) : TS := fun D σ H => ∃ a kvs, H a = some (.dK kvs) ∧ ∀ od, (∀ o' u', X.H_0 a ≠ some (.frz o' u')) → t (lkE D a od (.dK kvs)) σ (upd H a (.frz od (.dK kvs)))
theorem ps_lk {st : Stmt} {t : TS} (h : PS X st t) : PS X st (tLk X t) := by
  refine ⟨fun pins s σ H D I hw => ?_⟩
  obtain ⟨d, kvs, hd, hw⟩ := hw
  have mu : Mut (some (HO.dK kvs)) := True.intro
  obtain ⟨od, I1⟩ := I.lock hd mu
  refine thn (h.run pins s σ _ _ I1 (hw od (I.nofrz hd mu))) fun f s1 q => ?_
  cases f with
  | next => obtain ⟨σ', H', I2, e, q⟩ := q; exact ⟨σ', _, I2.unlock e (I.nofrz hd mu), q⟩
  | brk => obtain ⟨σ', H', I2, e, q⟩ := q; exact ⟨σ', _, I2.unlock e (I.nofrz hd mu), q⟩
  | cont => obtain ⟨σ', H', I2, e, q⟩ := q; exact ⟨σ', _, I2.unlock e (I.nofrz hd mu), q⟩
  | ret v => obtain ⟨x, σ', H', I2, r, e, q⟩ := q; exact ⟨x, σ', _, I2.unlock e (I.nofrz hd mu), r, q⟩
def tLkE (X : Cx) (t : TE) : TE := fun σ H Q => ∃ a kvs, H a = some (.dK kvs) ∧ ∀ od, (∀ o' u', X.H_0 a ≠ some (.frz o' u')) → t σ (upd H a (.frz od (.dK kvs))) fun v H' => H' a = some (.frz od (.dK kvs)) ∧ Q v (upd H' a (.dK kvs))
theorem pe_lk {e : Expr} {t : TE} (h : PE X e t) : PE X e (tLkE X t) := by
  refine ⟨fun pins s σ H Q I hw => ?_⟩
  obtain ⟨d, kvs, hd, hw⟩ := hw
  have mu : Mut (some (HO.dK kvs)) := True.intro
  obtain ⟨od, I1⟩ := I.lock hd mu
  refine thn (h.run pins s σ _ _ I1 (hw od (I.nofrz hd mu))) fun v s1 ⟨x, H1, I2, r, e2, q⟩ => ?_
  exact ⟨x, _, I2.unlock e2 (I.nofrz hd mu), r, q⟩
theorem PS.or {st : Stmt} {t1 t2 : TS} (h1 : PS X st t1) (h2 : PS X st t2) : PS X st (fun D σ H => t1 D σ H ∨ t2 D σ H) :=
  ⟨fun pins s σ H D I h => h.elim (h1.run pins s σ H D I) (h2.run pins s σ H D I)⟩
theorem PE.or {e : Expr} {t1 t2 : TE} (h1 : PE X e t1) (h2 : PE X e t2) : PE X e (fun σ H Q => t1 σ H Q ∨ t2 σ H Q) :=
  ⟨fun pins s σ H Q I h => h.elim (h1.run pins s σ H Q I) (h2.run pins s σ H Q I)⟩
section
variable {K : PySem.W.Frag} {W : WX} {σ : L2.St} {H H' : Hp} {Z S Z' S' : PA1} {D : Ends} {a : Addr} {kvs : List (Key × V)} {od : Obj}
theorem unlock_all (ha : H a = some (.dK kvs)) (za : Z a) (dis : Dis S Z) (st : Step (upd H a (.frz od (.dK kvs))) Z S H' Z' S') (ok : Okk H' Z' S') :
    H' a = some (.frz od (.dK kvs)) ∧ Step H Z S (upd H' a (.dK kvs)) Z' S' ∧ Okk (upd H' a (.dK kvs)) Z' S' ∧ (∀ b, Kept H' (upd H' a (.dK kvs)) b) ∧ ∀ b o, S' b → H' b = some o → upd H' a (.dK kvs) b = some o := by
  have e : H' a = some (.frz od (.dK kvs)) := st.kp a _ upd_same fun q => dis a q za
  have nS : ¬ S' a := fun q => by
    rcases st.sn a q with q | q
    · exact dis a q za
    · rw [upd_same] at q; cases q
  have al : ∀ b, H' b ≠ none → upd H' a (.dK kvs) b ≠ none := fun b q => by
    by_cases eb : b = a
    · subst eb; rw [upd_same]; simp
    · rw [upd_ne eb]; exact q
  have nn : ∀ b, upd H a (.frz od (.dK kvs)) b = none → H b = none := fun b q => by
    by_cases eb : b = a
    · subst eb; rw [upd_same] at q; cases q
    · rw [upd_ne eb] at q; exact q
  refine ⟨e, ⟨st.zz, fun b q => (st.zn b q).imp id fun q => q.imp id (nn b), fun b q => (st.sn b q).imp id (nn b), fun b o q n => ?_, fun b q => al b (st.al b ?_)⟩, ⟨ok.dis, fun b q => al b (ok.sa b q), fun b q => al b (ok.za b q)⟩, unlock_kept e, fun b o q qe => ?_⟩
  · by_cases eb : b = a
    · subst eb; rw [upd_same]; rw [ha] at q; exact q
    · rw [upd_ne eb]; exact st.kp b o (by rw [upd_ne eb]; exact q) n
  · by_cases eb : b = a
    · subst eb; rw [upd_same]; simp
    · rw [upd_ne eb]; exact q
  · have nb : b ≠ a := fun z => nS (by rw [← z]; exact q)
    rw [upd_ne nb]; exact qe
theorem lock_env (ha : H a = some (.dK kvs)) (za : Z a) {E : En} (oe : OwnE K cl H Z E σ S) (ok : Okk H Z S) : OwnE K cl (upd H a (.frz od (.dK kvs))) Z E σ S ∧ Okk (upd H a (.frz od (.dK kvs))) Z S := by
  have nS : ¬ S a := fun q => ok.dis a q za
  have al : ∀ b, H b ≠ none → upd H a (.frz od (.dK kvs)) b ≠ none := fun b q => by
    by_cases eb : b = a
    · subst eb; rw [upd_same]; simp
    · rw [upd_ne eb]; exact q
  exact ⟨oe.mono (fun _ z => z) (fun b _ => lock_kept ha b) fun b o q qe => (upd_ne (fun z : b = a => nS (z.subst (motive := fun x => S x) q))).trans qe, ok.dis, fun b q => al b (ok.sa b q), fun b q => al b (ok.za b q)⟩
theorem ExR.keep {x : Exn} {c : Value} {d : Option Addr} (h : ExR K cl H Z x c d) (k : ∀ b, Z b → Kept H H' b) : ExR K cl H' Z x c d := by
  obtain ⟨e, h⟩ := h
  refine ⟨e, h.imp id fun ⟨da, fv, h1, h2, h3, h4, h5⟩ => ⟨da, fv, h1, h2, (k da h2).ex _ rfl h3, h4, h5.mono (fun _ z => z) k⟩⟩
theorem SatN.lock {R : L2.St → Hp → Prop} {E' : En} (ha : H a = some (.dK kvs)) (za : Z a) (dis : Dis S Z) (h : SatN K cl kp σ H Z S R E') : SatN K cl kp σ (upd H a (.frz od (.dK kvs))) Z S (fun σ' H' => H' a = some (.frz od (.dK kvs)) ∧ R σ' (upd H' a (.dK kvs))) E' := fun τ H' Z' S' oe kk st ok => by
  obtain ⟨e, st2, ok2, kz, ks⟩ := unlock_all ha za dis st ok
  exact ⟨e, h τ _ Z' S' (oe.mono (fun _ z => z) (fun b _ => kz b) ks) kk st2 ok2⟩
theorem SatS.lock {o : Option (Out Fl)} (hn : ∀ o' u', X.H_0 a ≠ some (.frz o' u')) (ha : H a = some (.dK kvs)) (za : Z a) (dis : Dis S Z) (h : SatS K cl W kp σ H Z S D o) : SatS K cl (WL X W) kp σ (upd H a (.frz od (.dK kvs))) Z S (lkE D a od (.dK kvs)) o := by
  match o, h with
  | some (.ok .nx E'), h => exact SatN.lock ha za dis h
  | some (.ok .bk E'), h => exact SatN.lock ha za dis h
  | some (.ok .ct E'), h => exact SatN.lock ha za dis h
  | some (.ok (.ret r) E'), h =>
    intro v τ H' Z' Sr S' oe kk ow d st ok
    obtain ⟨e, st2, ok2, kz, ks⟩ := unlock_all ha za dis st ok
    exact ⟨e, h v τ _ Z' Sr S' (oe.mono (fun _ z => z) (fun b _ => kz b) fun b o q => ks b o (.inr q)) kk (ow.mono (fun _ z => z) (fun b _ => kz b) fun b o q => ks b o (.inl q)) d st2 ok2⟩
  | some (.ex x E'), h =>
    intro c d τ H' Z' S' oe kk xr st ok
    obtain ⟨e, st2, ok2, kz, ks⟩ := unlock_all ha za dis st ok
    exact .inr ⟨a, od, kvs, hn, e, h c d τ _ Z' S' (oe.mono (fun _ z => z) (fun b _ => kz b) ks) kk (xr.keep fun b _ => kz b) st2 ok2⟩
theorem SatS.wx {W' : WX} {o : Option (Out Fl)} (i : ∀ c d τ H, W c d τ H → W' c d τ H) (h : SatS K cl W kp σ H Z S D o) : SatS K cl W' kp σ H Z S D o := by
  match o, h with
  | some (.ok .nx E'), h => exact h
  | some (.ok .bk E'), h => exact h
  | some (.ok .ct E'), h => exact h
  | some (.ok (.ret r) E'), h => exact h
  | some (.ex x E'), h => exact fun c d τ H' Z' S' oe kk xr st ok => i _ _ _ _ (h c d τ H' Z' S' oe kk xr st ok)
theorem SatV.lock {Q : VK} {r : T} {E' : En} (ha : H a = some (.dK kvs)) (za : Z a) (dis : Dis S Z) (h : SatV K cl W σ H Z S Q (some (.ok r E'))) : SatV K cl W σ (upd H a (.frz od (.dK kvs))) Z S (fun v H' => H' a = some (.frz od (.dK kvs)) ∧ Q v (upd H' a (.dK kvs))) (some (.ok r E')) := by
  intro v H' Z' Sr S' oe ow d st ok
  obtain ⟨e, st2, ok2, kz, ks⟩ := unlock_all ha za dis st ok
  exact ⟨e, h v _ Z' Sr S' (oe.mono (fun _ z => z) (fun b _ => kz b) fun b o q => ks b o (.inr q)) (ow.mono (fun _ z => z) (fun b _ => kz b) fun b o q => ks b o (.inl q)) d st2 ok2⟩
end

/-! ### for -/
theorem is_forD {tg iter : Expr} {body : List Stmt} {t : En → Option (List D × En)} {g : T → En → Option En} {tb : Ev Fl} (hp : PassesOwn (model X.prog X.w) X.A X.env X.xe) (hc : X.calm = true) (hi : ID X cl tg iter t) (hg : IG X cl kp tg g) (hb : IL X cl kp body tb)
    (hs : ∀ x, foldedSetIterable iter X.env x = pure x := by intro _; rfl) : IS X cl kp (.For tg iter body [] pos) (sFor (iAhd t) g tb) := by
  refine ⟨fun W tk => ?_⟩
  obtain ⟨wi, pi, qi⟩ := hi.run (WL X W) (takesL tk)
  obtain ⟨g', pg, qg⟩ := hg.run
  obtain ⟨tb', pb, qb⟩ := hb.run (WL X W) (takesL tk)
  refine ⟨_, PS.or (ps_lk (ps_for hp hc pi pg pb hs)) (ps_for hp hc pi pg pb hs), fun E σ H Z S D oe ok sat => ?_⟩
  unfold sFor iAhd at sat
  match hE : t E with
  | none => rw [hE] at sat; exact sat.elim
  | some (ds, E1) =>
    rw [hE] at sat
    simp only [bnd_ok] at sat
    obtain ⟨Z1, S1, oe1, st1, ok1, alt⟩ := qi E σ H Z S ds E1 oe ok hE
    have sat1 := SatS.re st1 .refl sat
    rcases alt with alt | ⟨a, kvs, za, ha, alt⟩
    · exact .inr (alt _ fun J it => for_go qg qb oe1 it ok1 (sat1.wx fun _ _ _ _ w => .inl w))
    · refine .inl ⟨a, kvs, ha, fun od hn => alt od _ fun J it => ?_⟩
      obtain ⟨oeL, okL⟩ := lock_env (od := od) ha za oe1 ok1
      exact for_go qg qb oeL it okL (sat1.lock hn ha za ok1.dis)

/-! ### list comprehensions -/
/-- at a comprehension's walk: locked or not -/
theorem lcD_run {vs : List Nat} {t : En → Option (List D × En)} {g : T → En → Option En} {tb : Ev Bool} {te : Ev T} {W : WX} {wi : TI}
    (qi : ∀ E σ H Z (S : PA1) ds E1, OwnE X.K cl H Z E σ S → Okk H Z S → t E = some (ds, E1) → ∃ Z1, ∃ S1 : PA1, OwnE X.K cl H Z1 E1 σ S1 ∧ Step H Z S H Z1 S1 ∧ Okk H Z1 S1 ∧
      ((∀ R, (∀ J, ItOk X.K cl J ds H Z1 → R J H) → wi σ H R) ∨ ∃ a kvs, Z1 a ∧ H a = some (.dK kvs) ∧ ∀ od R, (∀ J, ItOk X.K cl J ds (upd H a (.frz od (.dK kvs))) Z1 → R J (upd H a (.frz od (.dK kvs)))) → wi σ (upd H a (.frz od (.dK kvs))) R))
    (E : En) (σ : L2.St) (H : Hp) (Z S : PA1) (Q : VK) (oe : OwnE X.K cl H Z E σ S) (ok : Okk H Z S) (sat : SatV X.K cl W σ H Z S Q (eLc (iAhd t) g tb te vs E)) :
    tLc wi (gOf X.K cl (bC vs) g) (bOf X.K cl W0 tb) (tOf X.K cl W0 te) vs σ H Q ∨ ∃ a kvs, H a = some (.dK kvs) ∧ ∀ od, tLc wi (gOf X.K cl (bC vs) g) (bOf X.K cl W0 tb) (tOf X.K cl W0 te) vs σ (upd H a (.frz od (.dK kvs))) fun v H' => H' a = some (.frz od (.dK kvs)) ∧ Q v (upd H' a (.dK kvs)) := by
  unfold eLc iAhd at sat
  match hE : t E with
  | none => rw [hE] at sat; exact sat.elim
  | some (ds, E1) =>
    rw [hE] at sat
    simp only [bnd_ok] at sat
    obtain ⟨Z1, S1, oe1, st1, ok1, alt⟩ := qi E σ H Z S ds E1 oe ok hE
    have sat1 := SatV.re st1 sat
    rcases alt with alt | ⟨a, kvs, za, ha, alt⟩
    · exact .inl (alt _ fun J it D hD => lc_go oe1 it ok1 sat1 D hD)
    · refine .inr ⟨a, kvs, ha, fun od => alt od _ fun J it D hD => ?_⟩
      obtain ⟨oeL, okL⟩ := lock_env (od := od) ha za oe1 ok1
      refine lc_go (W := W) (vs := vs) (g := g) (tb := tb) (te := te) (Q := fun v H' => H' a = some (.frz od (.dK kvs)) ∧ Q v (upd H' a (.dK kvs))) oeL it okL ?_ D hD
      by_cases c : ds.length ≤ 16777216
      case neg => rw [if_neg c] at sat1; exact sat1.elim
      rw [if_pos c] at sat1 ⊢
      match hl : lcE g tb te vs ds (clr E1 vs) with
      | none => rw [hl] at sat1; exact sat1.elim
      | some (rs, E2) => rw [hl] at sat1; exact SatV.lock ha za ok1.dis sat1
section
variable {elt tg iter : Expr} {ifs : List Expr} {scope : Scope} {t : En → Option (List D × En)} {g : T → En → Option En} {tb : Ev Bool} {te : Ev T}
theorem ie_lcD (own : List (Str × Nat)) (hc : X.calm = true) (hN : X.N.Nodup) (hi : ID X cl tg iter t) (okB : BlkOk X.N X.env.scope scope own)
    (hg : ∀ (s : Shared) (H : Hp) (C : Addr) (clo : List (Str × Addr)) (fp : List Addr), IG (X.blk s H scope (compEnvC scope clo C X.env) fp) cl (bC (own.map (·.2))) tg g)
    (ht : ∀ (s : Shared) (H : Hp) (C : Addr) (clo : List (Str × Addr)) (fp : List Addr), ITs (X.blk s H scope (compEnvC scope clo C X.env) fp) cl ifs tb)
    (he : ∀ (s : Shared) (H : Hp) (C : Addr) (clo : List (Str × Addr)) (fp : List Addr), IE (X.blk s H scope (compEnvC scope clo C X.env) fp) cl elt te) (hs : ∀ x, foldedSetIterable iter X.env x = pure x := by intro _; rfl) :
    IE X cl (.ListComp elt [⟨tg, iter, ifs, 0⟩] scope pos) (eLc (iAhd t) g tb te (own.map (·.2))) := by
  refine ⟨fun W tk => ?_⟩
  obtain ⟨wi, pi, qi⟩ := hi.run W tk
  have pe := pe_lc (pos := pos) (g := gOf X.K cl (bC (own.map (·.2))) g) (tt := bOf X.K cl W0 tb) (te := tOf X.K cl W0 te) hc hN pi okB (fun s H C clo fp => (hg s H C clo fp).pg) (fun s H C clo fp => (ht s H C clo fp).run W0 takes0) (fun s H C clo fp => (he s H C clo fp).pe (W := W0) takes0) hs
  refine ⟨_, PE.or pe (pe_lk pe), fun E σ H Z S Q oe ok sat => ?_⟩
  refine (lcD_run qi E σ H Z S Q oe ok sat).imp id fun ⟨a, kvs, ha, h⟩ => ⟨a, kvs, ha, fun od _ => h od⟩
theorem is_lcD {ts0 : TS} {st : Stmt} {own : List (Str × Nat)} {W : WX} {wi : TI} {i : Nat} {F : T → En → Option (Out Fl)}
    (qi : ∀ E σ H Z (S : PA1) ds E1, OwnE X.K cl H Z E σ S → Okk H Z S → t E = some (ds, E1) → ∃ Z1, ∃ S1 : PA1, OwnE X.K cl H Z1 E1 σ S1 ∧ Step H Z S H Z1 S1 ∧ Okk H Z1 S1 ∧
      ((∀ R, (∀ J, ItOk X.K cl J ds H Z1 → R J H) → wi σ H R) ∨ ∃ a kvs, Z1 a ∧ H a = some (.dK kvs) ∧ ∀ od R, (∀ J, ItOk X.K cl J ds (upd H a (.frz od (.dK kvs))) Z1 → R J (upd H a (.frz od (.dK kvs)))) → wi σ (upd H a (.frz od (.dK kvs))) R))
    (p0 : PS X st ts0) (hts : ∀ D σ H, tLc wi (gOf X.K cl (bC (own.map (·.2))) g) (bOf X.K cl W0 tb) (tOf X.K cl W0 te) (own.map (·.2)) σ H (fun v H' => D.nx (σ.set i (some v)) H') → ts0 D σ H)
    (hF : ∀ r E1 (D : Ends) σ H Z (S : PA1), SatS X.K cl W kp σ H Z S D (F r E1) → ∀ v H1 Z1 (Sr S1 : PA1), OwnE X.K cl H1 Z1 E1 σ S1 → Own X.K cl H1 Z1 r v Sr → Dis Sr S1 → Step H Z S H1 Z1 (Uni Sr S1) → Okk H1 Z1 (Uni Sr S1) → D.nx (σ.set i (some v)) H1) :
    ∃ ts, PS X st ts ∧ ∀ E σ H Z (S : PA1) D, OwnE X.K cl H Z E σ S → Okk H Z S → SatS X.K cl W kp σ H Z S D (bnd (eLc (iAhd t) g tb te (own.map (·.2)) E) F) → ts D σ H := by
  refine ⟨_, PS.or p0 (ps_lk p0), fun E σ H Z S D oe ok sat => ?_⟩
  have q := lcD_run (Q := fun v H' => D.nx (σ.set i (some v)) H') qi E σ H Z S oe ok (satV_bnd (β := Fl) (κ := Keep × Ends) (q := (kp, D)) sat fun r E1 sat1 => hF r E1 D σ H Z S sat1)
  exact q.imp (hts D σ H) fun ⟨a, kvs, ha, h⟩ => ⟨a, kvs, ha, fun od _ => hts _ _ _ (h od)⟩
theorem is_setLcD (i : Nat) {y : Str} {py spos : Pos} (own : List (Str × Nat)) (hc : X.calm = true) (hN : X.N.Nodup) (hi : ID X cl tg iter t) (okB : BlkOk X.N X.env.scope scope own)
    (hg : ∀ (s : Shared) (H : Hp) (C : Addr) (clo : List (Str × Addr)) (fp : List Addr), IG (X.blk s H scope (compEnvC scope clo C X.env) fp) cl (bC (own.map (·.2))) tg g)
    (ht : ∀ (s : Shared) (H : Hp) (C : Addr) (clo : List (Str × Addr)) (fp : List Addr), ITs (X.blk s H scope (compEnvC scope clo C X.env) fp) cl ifs tb)
    (he : ∀ (s : Shared) (H : Hp) (C : Addr) (clo : List (Str × Addr)) (fp : List Addr), IE (X.blk s H scope (compEnvC scope clo C X.env) fp) cl elt te) (hs : ∀ x, foldedSetIterable iter X.env x = pure x := by intro _; rfl) (hk : kp i = false := by rfl) (hy : X.N[i]? = some y := by rfl) (hyl : X.env.scope.names.lookup y = some .local := by rfl) (hsw : swapsWith (.ListComp elt [⟨tg, iter, ifs, 0⟩] scope pos) (some (.Name y py)) spos.line X.env = pure true := by rfl) :
    IS X cl kp (.Assign [.Name y py] (.ListComp elt [⟨tg, iter, ifs, 0⟩] scope pos) spos) (sSet i (eLc (iAhd t) g tb te (own.map (·.2)))) := by
  refine ⟨fun W tk => ?_⟩
  obtain ⟨wi, pi, qi⟩ := hi.run W tk
  have p0 := ps_setLc (g := gOf X.K cl (bC (own.map (·.2))) g) (tt := bOf X.K cl W0 tb) (te := tOf X.K cl W0 te) hc hN hy hyl hsw pi okB (fun s H C clo fp => (hg s H C clo fp).pg) (fun s H C clo fp => (ht s H C clo fp).run W0 takes0) (fun s H C clo fp => (he s H C clo fp).pe (W := W0) takes0) hs
  refine is_lcD (own := own) (g := g) (tb := tb) (te := te) (i := i) qi p0 (fun D σ H h => h) fun r E1 D σ H Z S sat1 v H1 Z1 Sr S1 oe1 ow1 d1 st1 ok1 => ?_
  have sat2 : SatS X.K cl W kp σ H Z S D (some (.ok .nx (E1.set i (some (.fz (frz r)))))) := sat1
  obtain ⟨s2, o2⟩ := freezeStep ok1 d1
  have rp := ow1.frz (Z' := Uni Z1 Sr) (fun _ z => .inl z) fun _ z => .inr z
  exact sat2 (σ.set i (some v)) H1 (Uni Z1 Sr) S1 (((oe1.zmore (Z' := Uni Z1 Sr) fun _ z => .inl z).into (Si := Emp) (i := i) (.fz rp) fun _ z _ => z).up fun a z => z.elim False.elim id) (Kp.set hk) (st1.trans s2) o2
theorem is_ownLcD (i : Nat) {y : Str} {py spos : Pos} (own : List (Str × Nat)) (hc : X.calm = true) (hN : X.N.Nodup) (hi : ID X cl tg iter t) (okB : BlkOk X.N X.env.scope scope own)
    (hg : ∀ (s : Shared) (H : Hp) (C : Addr) (clo : List (Str × Addr)) (fp : List Addr), IG (X.blk s H scope (compEnvC scope clo C X.env) fp) cl (bC (own.map (·.2))) tg g)
    (ht : ∀ (s : Shared) (H : Hp) (C : Addr) (clo : List (Str × Addr)) (fp : List Addr), ITs (X.blk s H scope (compEnvC scope clo C X.env) fp) cl ifs tb)
    (he : ∀ (s : Shared) (H : Hp) (C : Addr) (clo : List (Str × Addr)) (fp : List Addr), IE (X.blk s H scope (compEnvC scope clo C X.env) fp) cl elt te) (hs : ∀ x, foldedSetIterable iter X.env x = pure x := by intro _; rfl) (hk : kp i = false := by rfl) (hy : X.N[i]? = some y := by rfl) (hyl : X.env.scope.names.lookup y = some .local := by rfl) (hsw : swapsWith (.ListComp elt [⟨tg, iter, ifs, 0⟩] scope pos) (some (.Name y py)) spos.line X.env = pure true := by rfl) :
    IS X cl kp (.Assign [.Name y py] (.ListComp elt [⟨tg, iter, ifs, 0⟩] scope pos) spos) (sOwn i (eLc (iAhd t) g tb te (own.map (·.2)))) := by
  refine ⟨fun W tk => ?_⟩
  obtain ⟨wi, pi, qi⟩ := hi.run W tk
  have p0 := ps_setLc (g := gOf X.K cl (bC (own.map (·.2))) g) (tt := bOf X.K cl W0 tb) (te := tOf X.K cl W0 te) hc hN hy hyl hsw pi okB (fun s H C clo fp => (hg s H C clo fp).pg) (fun s H C clo fp => (ht s H C clo fp).run W0 takes0) (fun s H C clo fp => (he s H C clo fp).pe (W := W0) takes0) hs
  refine is_lcD (own := own) (g := g) (tb := tb) (te := te) (i := i) qi p0 (fun D σ H h => h) fun r E1 D σ H Z S sat1 v H1 Z1 Sr S1 oe1 ow1 d1 st1 ok1 => ?_
  have sat2 : SatS X.K cl W kp σ H Z S D (some (.ok .nx (E1.set i (some r)))) := sat1
  exact sat2 (σ.set i (some v)) H1 Z1 (Uni Sr S1) (oe1.into ow1 d1) (Kp.set hk) st1 ok1
end
end
end VL

namespace VL
open PySem PySem.Spec PyProof.Rows L2

/-! ### enumerate over a tuple -/
section
open AutoSeq1 (wpAny_loadPart')
abbrev tupIt (t : Addr) : Obj := { cls := .type "tuple_iterator", data := .fields #[.ref t, .int 0 0] }
abbrev enO (i : Addr) : Obj := { cls := .type "enumerate", data := .fields #[.none, .bool false, .ref i, rawInt 0, .none, .none] }
theorem enum_new_tup (t : Addr) (xs : Array Value) : Meets (Builtin.«enumerate.__new__» ⟨[.type "enumerate", .ref t], []⟩) (fun _ R s => s.heap.IsTuple t xs ∧
    R (.ok (.ret (.ref (s.heap.push (tupIt t)).objs.size))) { s with heap := (s.heap.push (tupIt t)).push (enO s.heap.objs.size) }) :=
  .of_wp fun prog w A R s h => by
    obtain ⟨hp, gs, ds, tk, os⟩ := s
    obtain ⟨ht, hR⟩ := h
    have sub := sub_enumerate
    have it : ∀ {B : Around} {E : Value → Shared → Prop} {Q : Value → Shared → Prop}, Q (.ref hp.objs.size) ⟨hp.push (tupIt t), gs, ds, tk, os⟩ → wpAny (model prog w) B (pyIter (.ref t)) Q E ⟨hp, gs, ds, tk, os⟩ := fun q => wpAny_pyIter_tuple ht q
    wp_walk using it
    refine wpAny_stack_any fun st => wpAny_pure ?_
    split
    · rename_i c0 _ _ _ _ _
      cases (c0 == Value.type "enumerate")
      · wp_walk using it
        exact ⟨_, rfl, hR⟩
      · wp_walk using it
        exact ⟨_, rfl, hR⟩
    · wp_walk using it
      exact ⟨_, rfl, hR⟩
variable {prog : Program} {w : World} {A : Around} {E : Value → Shared → Prop} {s : Shared}
theorem enum_call_tup {t : Addr} {xs : Array Value} {Q : Value → Shared → Prop} (ht : s.heap.IsTuple t xs)
    (h : ∀ h2, IsEnum h2 (s.heap.objs.size + 1) s.heap.objs.size 0 .none → h2.IsTupleIter s.heap.objs.size t 0 → (∀ b o, s.heap.get? b = some o → h2.get? b = some o) → Q (.ref (s.heap.objs.size + 1)) { s with heap := h2 }) :
    wpAny (model prog w) A (call (.type "enumerate") [.ref t]) Q E s := by
  refine callType_new F.called_enumerate (by decide) (F.typeCall_enumerate_1 _) (F.newCall_enumerate_1 _) (fun ob => F.args_object_init_2 ob _) F.entry_enumerate_new (enum_new_tup t xs) ⟨ht, ?_⟩
  have z1 : (s.heap.push (tupIt t)).objs.size = s.heap.objs.size + 1 := Heap.size_push ..
  show _ ∧ _
  rw [z1]
  have en : IsEnum ((s.heap.push (tupIt t)).push (enO s.heap.objs.size)) (s.heap.objs.size + 1) s.heap.objs.size 0 .none := by
    have q := Heap.get?_push_size (s.heap.push (tupIt t)) (o := enO s.heap.objs.size) rfl
    rw [z1] at q
    exact q
  exact ⟨⟨_, en, rfl⟩, h _ en ⟨_, Heap.get?_push_of_some _ (Heap.get?_push_size _ rfl), rfl, rfl⟩ fun b o x => Heap.get?_push_of_some _ (Heap.get?_push_of_some _ x)⟩
end
/-- the tuple at a, each item in a new pair -/
def Iet (K : PySem.W.Frag) (a : Addr) (xs : List V) : It :=
  ⟨fun i H => i < xs.length ∧ SqT K H a xs, fun i H v H' => ∃ T x, v = .ref T ∧ H T = none ∧ H' = upd H T (.tup [.int (i : Nat), x]) ∧ xs[i]? = some x, fun i H => xs.length ≤ i ∧ SqT K H a xs⟩
theorem turn_enT {P : Program} {w : World} {K : PySem.W.Frag} {elts : List Expr} {kk : Nat} {tpos : Pos} (a e it : Addr) (xs : List V) :
    Turn P w K (.Tuple elts kk tpos) (Iet K a xs) [e, it] e (fun i h => (∃ old, IsEnum h e it ((i : Nat) : Int) old) ∧ h.IsTupleIter it a i ∧ e ≠ it ∧ a ≠ it ∧ e ≠ a) where
  mem := by simp
  obj := fun i h st b hb => by
    obtain ⟨⟨old, he⟩, ⟨o, ho, hc, hd⟩, _⟩ := st
    have eb : b = e ∨ b = it := by simpa using hb
    rcases eb with rfl | rfl
    · exact ⟨_, he, fun v q => nomatch q⟩
    · exact ⟨o, ho, fun v q => by rw [hd] at q; cases q⟩
  keep := fun i h h' st k => let ⟨⟨old, he⟩, hi, hne⟩ := st; ⟨⟨old, k e (by simp) _ he⟩, hi.at fun o q => k it (by simp) o q, hne⟩
  item := by
    intro X hP hw hK hc i pins s σ H E I hf st hg
    subst hP hw hK
    obtain ⟨⟨old, he⟩, hit, hne, hai, hea⟩ := st
    obtain ⟨hlt, hq⟩ := hg
    obtain ⟨x, hx⟩ : ∃ x, xs[i]? = some x := ⟨xs[i], by simp [hlt]⟩
    obtain ⟨its, rv, p, hz⟩ := I.tuple hq
    obtain ⟨u, hu, ru⟩ := rv.get hx
    have lE : e < s.heap.objs.size := Heap.lt_size he
    have lI : it < s.heap.objs.size := by obtain ⟨_, q, _⟩ := hit; exact Heap.lt_size q
    have hh : X.A.in1.handled = none := I.ok.hd hc
    have D := Draws.tuple (prog := X.prog) (w := X.w) (A := X.A.in1) hh it a hai its.toArray
    have hin : i < its.toArray.size := by have := (List.getElem?_eq_some_iff.mp hu).1; simpa using this
    refine wpAny_pyNext_enum_itemD D he ⟨hit, p⟩ hin hne (by simp only [List.mem_cons, List.not_mem_nil, or_false, not_or]; exact ⟨hne, hea⟩) fun v h' tk hv ho st' hT hsz hk => ?_
    have ev : v = u := by
      have q : its.toArray[i]? = some u := by simpa using hu
      rw [hv] at q; exact Option.some.inj q
    subst ev
    refine ⟨_, rfl, wpAny_letOwnedTupleGo_enum (s := { s with heap := h', toks := tk + 1 }) ho fun h'' en sb => ?_⟩
    have hT2 : h''.get? s.heap.objs.size = some { cls := .type "tuple", data := .seq #[.int i tk, v] } := (sb.2 _ (Nat.ne_of_gt lE)).trans hT
    have new : ObjOk X.prog X.w (upd H s.heap.objs.size (.tup [.int (i : Nat), x])) h'' s.heap.objs.size (.tup [.int (i : Nat), x]) :=
      ⟨by show 2 ≤ sizeLine; decide, [.int i tk, v], .cons ⟨_, rfl⟩ (.cons ru .nil), ⟨_, hT2, rfl, _, rfl⟩⟩
    have keep : ∀ b o, b ∉ [e, it] → s.heap.get? b = some o → h''.get? b = some o := fun b o hb q => (sb.2 b fun z => hb (by simp [z])).trans (hk b o (fun z => hb (by simp [z])) (fun z => hb (by simp [z])) q)
    have I1 : Inv X pins σ (upd H s.heap.objs.size (.tup [.int (i : Nat), x])) { s with heap := h'', toks := tk + 1 } := I.turnedNew (ch := [e, it]) keep hf (Nat.le_refl _) new
    refine ⟨.ref s.heap.objs.size, _, I1, rfl, ⟨_, x, rfl, I.hok.fresh (Nat.le_refl _), rfl, hx⟩, ⟨⟨v, ?_⟩, st'.1.at fun o q => (sb.2 it (Ne.symm hne)).trans q, hne, hai, hea⟩, fun b hb => ?_⟩
    · have e1 : ((i + 1 : Nat) : Int) = (i : Int) + 1 := by omega
      rw [e1]; exact en
    · have lb : b < s.heap.objs.size := by
        have eb : b = e ∨ b = it := by simpa using hb
        rcases eb with z | z
        · rw [z]; exact lE
        · rw [z]; exact lI
      rw [upd_ne (Nat.ne_of_lt lb)]
      exact (hf b hb).1
  done := by
    intro X hP hw hK hc i pins s σ H E I hf st hg
    subst hP hw hK
    obtain ⟨⟨old, he⟩, hit, hne, hai, hea⟩ := st
    obtain ⟨hle, hq⟩ := hg
    obtain ⟨its, rv, p, hz⟩ := I.tuple hq
    obtain ⟨f0, f1, f2, f3, f4, f5⟩ := hf it (by simp)
    have hl := rv.length
    have hh : X.A.in1.handled = none := I.ok.hd hc
    unfold pyNext
    refine wpAny_bind (wpAny_attempt (wpAny_callSpecial?_slot (name := Str.ofString "__next__") (T := "enumerate") ⟨_, he, rfl⟩ F.slot_enumerate_next
      (wpAny_call_entry F.slot_enumerate_next ⟨_, he, rfl⟩ F.entry_enumerate_next ?_ (F.args_enumerate_next_1 _))))
    show wpAny _ _ (field (.ref e) 2 >>= _) _ _ _
    refine wpAny_bind (wpAny_field he rfl (x := .ref it) rfl ?_)
    refine wpAny_bind (wpAny_nextOf_tuple_end hh hit p (by simp; omega) fun h' x he' hx' => ?_)
    obtain ⟨o, ho, hco⟩ := hx'
    refine wpAny_bind (wpAny_isInstance (T := "StopIteration") (b := true) ⟨o, ho, hco⟩ isSubtype_stop ?_)
    exact wpAny_pure ⟨rfl, I.turned (t' := s.toks) (fun b o hb q => he' b o hb q) f0 f1 f3 f4 f5⟩
  self := fun A i s Q E st h => let ⟨⟨_, he⟩, _⟩ := st; wpAny_pyIter_enum he h
def iEnT (K : PySem.W.Frag) (ta : TA) : TI := fun σ H R => ta σ H fun vs H1 => ∃ a xs, vs = [.ref a] ∧ SqT K H1 a xs ∧ R (Iet K a xs) H1
section
variable {X : Cx} {cl : Str → Addr}
theorem pi_enT {e : Expr} {ta : TA} {p pos tpos : Pos} {elts : List Expr} {kk : Nat} (hg : Gl X "enumerate") (hm : X.mg "enumerate" = none) (ha : PA X [e] ta) (hs : starEach [e] X.env = [(false, eval e X.env)] := by rfl) :
    PI X (.Tuple elts kk tpos) (.Call (.Name "enumerate" p) [e] [] pos) (iEnT X.K ta) := by
  refine ⟨fun pins s σ H R I h => ?_⟩
  refine Call_ (ld_blt I hg hm boot_enumerate (PyProof.Rows.callWith_type1 (thn (ha.run pos pins s σ H _ I h) fun us s1 ⟨vs, H1, I1, r1, a, xs, ex, hq, q⟩ => ?_) hs rfl))
  subst ex
  cases r1 with
  | cons r rr =>
    cases rr
    cases r
    obtain ⟨its, rv, p1, hz⟩ := I1.tuple hq
    have la : a < s1.heap.objs.size := by obtain ⟨_, q, _⟩ := p1; exact Heap.lt_size q
    refine enum_call_tup p1 fun h' en hit hk => wpAny_pyIter_enum en ?_
    have I2 : Inv X pins σ H1 { s1 with heap := h' } := I1.kept (t' := s1.toks) hk
    refine ⟨s1.heap.objs.size + 1, [s1.heap.objs.size + 1, s1.heap.objs.size], _, _, H1, rfl, I2, turn_enT a (s1.heap.objs.size + 1) s1.heap.objs.size xs, ⟨⟨.none, en⟩, hit, Nat.succ_ne_self _, Nat.ne_of_lt la, fun z => absurd la (by rw [← z]; exact Nat.not_lt.mpr (Nat.le_succ _))⟩, fun b hb => ?_, q⟩
    have eb : b = s1.heap.objs.size + 1 ∨ b = s1.heap.objs.size := by simpa using hb
    have ge : s1.heap.objs.size ≤ b := by
      rcases eb with z | z
      · rw [z]; exact Nat.le_succ _
      · rw [z]; exact Nat.le_refl _
    exact I1.fpOk ge (I1.hok.fresh ge)
/-- (0, x), (1, y), .. -/
def enumD (ds : List D) : List D := (List.range ds.length).map fun i => .tpn [.int (i : Nat), ds.getD i .non]
theorem enumD_get {ds : List D} {i : Nat} {d : D} (h : (enumD ds)[i]? = some d) : ∃ x, ds[i]? = some x ∧ d = .tpn [.int (i : Nat), x] := by
  unfold enumD at h
  rw [List.getElem?_map] at h
  by_cases hi : i < ds.length
  · rw [List.getElem?_range hi] at h
    cases h
    exact ⟨ds[i], by simp [hi], by simp [hi]⟩
  · rw [List.getElem?_eq_none (by simpa using hi)] at h; cases h
theorem enumD_len (ds : List D) : (enumD ds).length = ds.length := by simp [enumD]
section
variable {K : PySem.W.Frag} {H : Hp} {Z : PA1} {T : Addr}
theorem pair_new {H1 : Hp} {Z1 : PA1} (hza : ∀ a, Z1 a → H1 a ≠ none) (hT : H1 T = none) {d e : D} {v u : V} (rv : Rp K cl H1 Z1 d v) (ru : Rp K cl H1 Z1 e u) :
    ∃ Z2 : PA1, Step H1 Z1 Emp (upd H1 T (.tup [v, u])) Z2 Emp ∧ (∀ a, Z2 a → upd H1 T (.tup [v, u]) a ≠ none) ∧ Rp K cl (upd H1 T (.tup [v, u])) Z2 (.tpn [d, e]) (.ref T) := by
  have nT : ∀ a o', H1 a = some o' → upd H1 T (.tup [v, u]) a = some o' := fun a o' q => by rw [upd_ne (fun z => by rw [z, hT] at q; cases q)]; exact q
  have al : ∀ a, H1 a ≠ none → upd H1 T (.tup [v, u]) a ≠ none := fun a q => by
    cases e2 : H1 a with
    | none => exact absurd e2 q
    | some o' => rw [nT a o' e2]; simp
  have mv : ∀ {d : D} {v' : V}, Rp K cl H1 Z1 d v' → Rp K cl (upd H1 T (.tup [v, u])) (fun a => Z1 a ∨ a = T) d v' := fun r => r.mono (fun _ z => .inl z) fun a _ => .of fun o q => nT a o q
  exact ⟨fun a => Z1 a ∨ a = T, ⟨fun _ z => .inl z, fun a z => z.elim .inl fun z => .inr (.inr (by rw [z]; exact hT)), fun _ z => z.elim, fun a o' q _ => nT a o' q, al⟩,
    fun a z => z.elim (fun z => al a (hza a z)) fun z => by rw [z, upd_same]; simp, .tpn (.inr rfl) upd_same (.cons (mv rv) (.cons (mv ru) .nil))⟩
theorem itok_enT {ds : List D} {a : Addr} {vs : List V} (h0 : Z a) (h1 : TupP H a vs) (r : RpL K cl H Z ds vs) : ItOk K cl (Iet K a vs) (enumD ds) H Z := by
  intro i H1 Z1 hz hr hza
  have r1 := r.mono hz fun a z => .of fun u e => hr a u z e
  have sq : SqT K H1 a vs := TupP.sq (h1.on fun o e => hr a o h0 e)
  refine ⟨fun d hd => ?_, fun e => ⟨by rw [enumD_len, r.len] at e; omega, sq⟩⟩
  obtain ⟨x, hx, rfl⟩ := enumD_get hd
  obtain ⟨v, hv, rv⟩ := r1.get hx
  refine ⟨⟨(List.getElem?_eq_some_iff.mp hv).1, sq⟩, fun y H2 hy => ?_⟩
  obtain ⟨T, w, rfl, hT, rfl, hw⟩ := hy
  rw [hv] at hw
  cases hw
  exact pair_new hza hT (.int _) rv
theorem itok_enL {ds : List D} {a : Addr} {vs : List V} (h0 : Z a) (h1 : H a = some (.lst vs)) (r : RpL K cl H Z ds vs) : ItOk K cl (Ite K a) (enumD ds) H Z := by
  intro i H1 Z1 hz hr hza
  have r1 := r.mono hz fun a z => .of fun u e => hr a u z e
  have sq : SqL K H1 a vs := SqL.of (hr a _ h0 h1)
  refine ⟨fun d hd => ?_, fun e => ⟨vs, sq, by rw [enumD_len, r.len] at e; omega⟩⟩
  obtain ⟨x, hx, rfl⟩ := enumD_get hd
  obtain ⟨v, hv, rv⟩ := r1.get hx
  refine ⟨⟨vs, v, sq, hv⟩, fun y H2 hy => ?_⟩
  obtain ⟨T, w, rfl, hT, rfl, hw⟩ := hy
  have := hw vs sq
  rw [hv] at this
  cases this
  exact pair_new hza hT (.int _) rv
end
def iEnumD (ts : Ev (List D)) : Ev (List D) := fun E => bnd (ts E) fun xs E1 => match xs with
  | [.lst ds] => some (.ok (enumD ds) E1)
  | [.tup ds] => some (.ok (enumD ds) E1)
  | _ => none
theorem ii_enum {e : Expr} {p pos tpos : Pos} {elts : List Expr} {kk : Nat} {ts : Ev (List D)} (hm : X.mg "enumerate" = none) (ha : IA X cl [e] ts) (hg : Gl X "enumerate" := by rfl) (hs : starEach [e] X.env = [(false, eval e X.env)] := by rfl) :
    II X cl (.Tuple elts kk tpos) (.Call (.Name "enumerate" p) [e] [] pos) (iEnumD ts) := by
  refine ⟨fun W tk => ?_⟩
  obtain ⟨ta, pa, q⟩ := ha.run W tk
  refine ⟨_, PI.or (pi_enum hg hm pa hs) (pi_enT hg hm pa hs), fun E σ H Z S R oe ok sat => ?_⟩
  unfold iEnumD at sat
  match hE : ts E, sat with
  | none, sat => exact sat.elim
  | some (.ex x E1), sat =>
    refine .inl (q E σ H Z S _ oe ok ?_)
    rw [hE]; exact sat
  | some (.ok xs E1), sat =>
    simp only [bnd_ok] at sat
    match xs, sat with
    | [.lst ds], sat =>
      refine .inl (q E σ H Z S _ oe ok ?_)
      rw [hE]
      intro vs H1 Z1 S1 oe1 rps st1 ok1
      cases rps with
      | cons r rr =>
        cases rr
        cases r with
        | @lst a us _ q0 q1 rl => exact ⟨a, us, rfl, SqL.of q1, sat _ H1 Z1 S1 oe1 (itok_enL q0 q1 rl) st1 ok1⟩
    | [.tup ds], sat =>
      refine .inr (q E σ H Z S _ oe ok ?_)
      rw [hE]
      intro vs H1 Z1 S1 oe1 rps st1 ok1
      cases rps with
      | cons r rr =>
        cases rr
        cases r with
        | @tup a us _ q0 q1 rl => exact ⟨a, us, rfl, (TupP.sq q1), sat _ H1 Z1 S1 oe1 (itok_enT q0 q1 rl) st1 ok1⟩
end
end VL

namespace VL
open PySem PySem.Spec PyProof.Rows L2

/-! ### dict comprehensions -/
theorem putD_nodup {κ : Type} [DecidableEq κ] {ks : List (κ × T)} {k : κ} {t : T} (h : (ks.map (·.1)).Nodup) : ((putD ks k t).map (·.1)).Nodup := by
  unfold putD
  cases hk : keyIx (ks.map (·.1)) k with
  | some n => dsimp only; rw [(setSnd_keys ks n t).1]; exact h
  | none =>
    dsimp only
    rw [List.map_append, List.map_cons, List.map_nil, List.nodup_append]
    refine ⟨h, by simp, fun a ha b hb => ?_⟩
    simp only [List.mem_singleton] at hb
    subst hb
    exact fun e => keyIx_none hk (e ▸ ha)
theorem putD_len {κ : Type} [DecidableEq κ] {ks : List (κ × T)} {k : κ} {t : T} : (putD ks k t).length ≤ ks.length + 1 := by
  unfold putD
  cases hk : keyIx (ks.map (·.1)) k with
  | some n =>
    dsimp only
    have := congrArg List.length (setSnd_keys ks n t).1
    simp only [List.length_map] at this
    omega
  | none => simp
def dcE (g : T → En → Option En) (tb : Ev Bool) (tk te : Ev T) (vs : List Nat) : List D → En → List (Key × T) → Option (List (Key × T) × En)
  | [], E, acc => some (acc, E)
  | d :: ds, E, acc => match g (.fz d) E with
    | none => none
    | some E1 => match tb E1 with
      | some (.ok true E2) => match tk E2 with
        | some (.ok x E3) => match keyD (frz x) with
          | some k => match te E3 with
            | some (.ok r E4) => dcE g tb tk te vs ds (clr E4 vs) (putD acc k r)
            | _ => none
          | none => none
        | _ => none
      | some (.ok false E2) => dcE g tb tk te vs ds (clr E2 vs) acc
      | _ => none
def eDc (ti : Ev (List D)) (g : T → En → Option En) (tb : Ev Bool) (tk te : Ev T) (vs : List Nat) : Ev T := fun E => bnd (ti E) fun ds E1 =>
  if ds.length ≤ 16777216 then match dcE g tb tk te vs ds (clr E1 vs) [] with
    | some (rs, E2) => some (.ok (.dct rs) (rst E1 E2 vs))
    | none => none
  else none
section
variable {X : Cx} {cl : Str → Addr} {kp : Keep} {pos : Pos}
theorem dc_go {vs : List Nat} {g : T → En → Option En} {tb : Ev Bool} {tk te : Ev T} {W : WX} {ds : List D} {E1 : En} {σ : L2.St} {H1 : Hp} {Z1 S1 : PA1} {J : It} {Q : VK}
    (oe1 : OwnE X.K cl H1 Z1 E1 σ S1) (it : ItOk X.K cl J ds H1 Z1) (ok1 : Okk H1 Z1 S1)
    (sat2 : SatV X.K cl W σ H1 Z1 S1 Q (if ds.length ≤ 16777216 then match dcE g tb tk te vs ds (clr E1 vs) [] with | some (rs, E2) => some (.ok (.dct rs) (rst E1 E2 vs)) | none => none else none)) (D : Addr) (hD : H1 D = none) :
    ∃ Wf : Nat → Nat → Hp → Prop, (∃ m, Wf 0 m (upd H1 D (.dK []))) ∧ ∀ i m H, Wf i m H →
  (J.stop i H ∧ Q (.ref D) H) ∨ (J.go i H ∧ ∃ Nx : Hp → Prop, (∀ H', Nx H' → ∃ m', m' < m ∧ Wf (i + 1) m' H') ∧ ∀ x H', J.yld i H x H' → gOf X.K cl (bC vs) g x (wipe σ vs) H' fun σ2 H2 => wipe σ2 vs = wipe σ vs ∧ bOf X.K cl W0 tb σ2 H2 fun b H3 =>
    if b = true then tOf X.K cl W0 tk σ2 H3 fun y H4 => tOf X.K cl W0 te σ2 H4 fun z H5 => ∃ kvs k, y = kV k ∧ H5 D = some (.dK kvs) ∧ kvs.length < sizeLine ∧ Nx (upd H5 D (.dK (putK kvs k z))) else Nx H3) := by
  by_cases hsz : ds.length ≤ 16777216
  case neg => rw [if_neg hsz] at sat2; exact sat2.elim
  rw [if_pos hsz] at sat2
  obtain ⟨oeD, stD, okD, dD, kpD⟩ := newObj (St := Emp) (o := .dK []) (ok1.less fun _ z => z.elim False.elim id) (fun _ z _ => z) oe1 hD
  refine ⟨fun i m H' => i ≤ ds.length ∧ m = ds.length - i ∧ ∃ (E' : En) (Z' S' : PA1) (acc : List (Key × V)) (accT : List (Key × T)) (Ra : PA1), OwnE X.K cl H' Z' E' (wipe σ vs) S' ∧ H' D = some (.dK acc) ∧ acc.length ≤ i ∧ accT.map (·.1) = acc.map (·.1) ∧ (accT.map (·.1)).Nodup ∧
    OwnL X.K cl H' Z' (accT.map (·.2)) (acc.map (·.2)) Ra ∧ ¬ Ra D ∧ ¬ S' D ∧ Dis Ra S' ∧
    Step H1 Z1 S1 H' Z' (Uni (fun a => a = D ∨ Ra a) S') ∧ Okk H' Z' (Uni (fun a => a = D ∨ Ra a) S') ∧
    ∃ rs E'', dcE g tb tk te vs (ds.drop i) E' accT = some (rs, E'') ∧ SatV X.K cl W σ H1 Z1 S1 Q (some (.ok (.dct rs) (rst E1 E'' vs))), ⟨ds.length, Nat.zero_le _, by simp, clr E1 vs, Z1, S1, [], [], Emp, oeD.wiped vs, upd_same, Nat.zero_le _, rfl, by simp, .nil, fun z => z,
      fun z => dD D (.inl rfl) z, fun _ z _ => z, stD.more fun _ z => z.elim False.elim id, okD, ?_⟩, ?_⟩
  · match hE : dcE g tb tk te vs ds (clr E1 vs) [], sat2 with
    | none, sat2 => exact sat2.elim
    | some (rs, E2), sat2 => exact ⟨rs, E2, by simpa using hE, sat2⟩
  rintro i m H' ⟨hle, rfl, E', Z', S', acc, accT, Ra, oe', hD', hacc, hkeys, hnd, owA, nRD, nSD, dRS, st', ok', rs, E'', hlc, satF⟩
  obtain ⟨go, stop⟩ := it i H' Z' st'.zz (fun a o z e => st'.kp a o e fun q => ok1.dis a q z) ok'.za
  by_cases hlt : i < ds.length
  case neg =>
    have e : i = ds.length := by omega
    subst e
    rw [List.drop_length] at hlc
    simp only [dcE] at hlc
    cases hlc
    have hlenE : ∀ (j : Nat) t, (clr E' vs)[j]? = some (some t) → σ[j]? = (wipe σ vs)[j]? := fun j t q => (wipe_out (clr_get q).1).symm
    refine .inl ⟨stop rfl, ?_⟩
    have oe3 : OwnE X.K cl H' Z' (rst E1 E' vs) σ S' := by
      refine OwnE.rst oe1 st'.zz (st'.rd ok1.dis) ?_ vs
      refine OwnE.swap oe' (wipe_length σ vs).symm fun j t q => ?_
      by_cases hj : j ∈ vs
      · exfalso
        obtain ⟨w, _, _, h1, _⟩ := oe'.take q
        rw [wipe_in hj] at h1
        split at h1 <;> simp at h1
      · exact (wipe_out hj).symm
    exact satF (.ref D) H' Z' (fun a => a = D ∨ Ra a) S' oe3 (.dct (R := Ra) hD' (.inl rfl) (fun b z => ⟨.inr z, fun e => nRD (e ▸ z)⟩) hkeys owA) (fun a x y => x.elim (fun e => nSD (e ▸ y)) fun x => dRS a x y) st' ok'
  obtain ⟨d, hd⟩ : ∃ d, ds[i]? = some d := ⟨ds[i], by simp [hlt]⟩
  have hdrop : ds.drop i = d :: ds.drop (i + 1) := by
    rw [List.drop_eq_getElem_cons hlt]
    have : ds[i]? = some ds[i] := by simp [hlt]
    rw [hd] at this; cases this; rfl
  rw [hdrop] at hlc
  obtain ⟨hgo, yl⟩ := go d hd
  refine .inr ⟨hgo, fun H'' => ∃ (E' : En) (Z' S' : PA1) (acc : List (Key × V)) (accT : List (Key × T)) (Ra : PA1), OwnE X.K cl H'' Z' E' (wipe σ vs) S' ∧ H'' D = some (.dK acc) ∧ acc.length ≤ i + 1 ∧ accT.map (·.1) = acc.map (·.1) ∧ (accT.map (·.1)).Nodup ∧
    OwnL X.K cl H'' Z' (accT.map (·.2)) (acc.map (·.2)) Ra ∧ ¬ Ra D ∧ ¬ S' D ∧ Dis Ra S' ∧
    Step H1 Z1 S1 H'' Z' (Uni (fun a => a = D ∨ Ra a) S') ∧ Okk H'' Z' (Uni (fun a => a = D ∨ Ra a) S') ∧
    ∃ rs E'', dcE g tb tk te vs (ds.drop (i + 1)) E' accT = some (rs, E'') ∧ SatV X.K cl W σ H1 Z1 S1 Q (some (.ok (.dct rs) (rst E1 E'' vs))), fun H'' q => ⟨ds.length - (i + 1), by omega, hlt, rfl, q⟩, fun x H2 y => ?_⟩
  obtain ⟨Z2, st2, za2, rp2⟩ := yl x H2 y
  have st2' : Step H' Z' (Uni (fun a => a = D ∨ Ra a) S') H2 Z2 (Uni (fun a => a = D ∨ Ra a) S') := ((st2.frame (R := Uni (fun a => a = D ∨ Ra a) S')).more fun a z => z.elim id False.elim).less fun a z => .inl z
  have ok2 : Okk H2 Z2 (Uni (fun a => a = D ∨ Ra a) S') := (st2.okk (R := Uni (fun a => a = D ∨ Ra a) S') (ok'.less fun a z => z.elim id False.elim) ⟨fun _ z => z.elim, fun _ z => z.elim, za2⟩ fun _ _ z => z).less fun a z => .inl z
  have oe2 := st2.ownE (fun _ z => z.elim) (fun _ _ z => z) oe'
  have owA2 := st2.ownL (fun _ z => z.elim) (fun _ _ z => z) owA
  have hD2 : H2 D = some (.dK acc) := st2.kp D _ hD' fun z => z
  have okS : Okk H2 Z2 S' := ok2.less fun _ z => .inr z
  have stA := st'.trans st2'
  have dHD : Dis (fun a => a = D ∨ Ra a) S' := fun a x y => x.elim (fun e => nSD (e ▸ y)) fun x => dRS a x y
  simp only [dcE] at hlc
  match hE : g (.fz d) E', hlc with
  | some E3, hlc =>
    refine ⟨.fz d, E', Z2, Emp, S', oe2, .fz rp2, fun _ z _ => z, okS.less fun a z => z.elim False.elim id, ?_⟩
    rw [hE]
    intro τ H3 Z3 S3 oe3 kk3 st3 ok3
    have st3' : Step H2 Z2 S' H3 Z3 S3 := st3.more fun a z => z.elim False.elim id
    refine ⟨wipe_of kk3, E3, Z3, S3, oe3, ok3, ?_⟩
    dsimp only at hlc
    match hE2 : tb E3, hlc with
    | some (.ok false E4), hlc =>
      intro H4 Z4 S4 oe4 st4 ok4
      rw [if_neg Bool.false_ne_true]
      have st5 : Step H2 Z2 S' H4 Z4 S4 := st3'.trans st4
      have oe5 := oe4.wiped vs
      rw [wipe_of kk3] at oe5
      exact ⟨clr E4 vs, Z4, S4, acc, accT, Ra, oe5, st5.kp D _ hD2 nSD, by omega, hkeys, hnd, st5.ownL okS.dis dRS owA2, nRD, fun z => st5.dis (R := fun a => a = D) (fun a z => by subst z; rw [hD2]; simp) (fun a x y => nSD (x ▸ y)) D rfl z,
        st5.dis (fun a z => ok2.sa a (.inl (.inr z))) dRS, stA.trans st5.frame, st5.okk ok2 ok4 dHD, rs, E'', hlc, satF⟩
    | some (.ok true E4), hlc =>
      intro H4 Z4 S4 oe4 st4 ok4
      rw [if_pos rfl]
      refine ⟨E4, Z4, S4, oe4, ok4, ?_⟩
      dsimp only at hlc
      match hEk : tk E4, hlc with
      | some (.ok kx E6), hlc =>
        intro kv H6 Z6 Sk S6 oe6 ow6 d6 st6 ok6
        dsimp only at hlc
        match hkx : keyD (frz kx), hlc with
        | some key, hlc =>
          have ekv : kv = kV key := keyD_rp (ow6.frz (Z' := Uni Z6 Sk) (fun _ z => .inl z) fun _ z => .inr z) hkx
          have ok6' : Okk H6 Z6 S6 := ok6.less fun _ z => .inr z
          refine ⟨E6, Z6, S6, oe6, ok6', ?_⟩
          dsimp only at hlc
          match hE3 : te E6, hlc with
          | some (.ok r E5), hlc =>
            intro v H5 Z5 Sr S5 oe5 ow5 d5 st5 ok5
            dsimp only at hlc
            have stT : Step H2 Z2 S' H5 Z5 (Uni Sr S5) := ((st3'.trans st4).trans (st6.less fun _ z => .inr z)).trans st5
            have hD5 := stT.kp D _ hD2 nSD
            have owA5 := stT.ownL okS.dis dRS owA2
            have okT : Okk H5 Z5 (Uni (fun a => a = D ∨ Ra a) (Uni Sr S5)) := stT.okk ok2 ok5 dHD
            have dT : Dis (fun a => a = D ∨ Ra a) (Uni Sr S5) := stT.dis (fun a z => ok2.sa a (.inl z)) dHD
            have nZ : ¬ Z5 D := fun z => okT.dis D (.inl (.inl rfl)) z
            obtain ⟨stw, okw, kw⟩ := wr_step (o := .dK (putK acc key v)) okT (D := D) (.inl (.inl rfl))
            have kz : ∀ a, Z5 a → Kept H5 (upd H5 D (.dK (putK acc key v))) a := fun a z => .of fun u e => kw a u (fun q => nZ (q ▸ z)) e
            have oe7 := (oe5.wiped vs).mono (fun _ z => z) kz fun a o z e => kw a o (fun q => dT D (.inl rfl) (q ▸ .inr z)) e
            rw [wipe_of kk3] at oe7
            have ow7 : Own X.K cl (upd H5 D (.dK (putK acc key v))) Z5 r v Sr := ow5.mono (fun _ z => z) kz fun a o z e => kw a o (fun q => dT D (.inl rfl) (q ▸ .inl z)) e
            have owA7 : OwnL X.K cl (upd H5 D (.dK (putK acc key v))) Z5 (accT.map (·.2)) (acc.map (·.2)) Ra := owA5.mono (fun _ z => z) kz fun a o z e => kw a o (fun q => nRD (q ▸ z)) e
            have sub : ∀ a, Uni (fun a => a = D ∨ Uni Ra Sr a) S5 a → Uni (fun a => a = D ∨ Ra a) (Uni Sr S5) a := by intro a z; simp only [Uni] at z ⊢; grind
            obtain ⟨p1, p2⟩ := putD_own (k := key) hkeys (by rw [← hkeys]; exact hnd) owA7 ow7 fun a x y => dT a (.inr y) (.inl x)
            have hl2 : (putK acc key v).length ≤ i + 1 := by have := length_putK acc key v; omega
            exact ⟨acc, key, ekv, hD5, by rw [sizeLine_eq]; omega, clr E5 vs, Z5, S5, putK acc key v, putD accT key r, Uni Ra Sr, oe7, upd_same, hl2, p1, putD_nodup hnd, p2, fun z => z.elim nRD fun z => dT D (.inl rfl) (.inl z),
              fun z => dT D (.inl rfl) (.inr z), fun a x y => x.elim (fun x => dT a (.inr x) (.inr y)) fun x => d5 a x y, ((stA.trans stT.frame).trans stw).less sub, okw.less sub, rs, E'', hlc, satF⟩
section
variable {kx vx tg iter : Expr} {ifs : List Expr} {scope : Scope} {ti : Ev (List D)} {t : En → Option (List D × En)} {g : T → En → Option En} {tb : Ev Bool} {tk te : Ev T}
theorem ie_dc (own : List (Str × Nat)) (hc : X.calm = true) (hN : X.N.Nodup) (hi : II X cl tg iter ti) (okB : BlkOk X.N X.env.scope scope own)
    (hg : ∀ (s : Shared) (H : Hp) (C : Addr) (clo : List (Str × Addr)) (fp : List Addr), IG (X.blk s H scope (compEnvC scope clo C X.env) fp) cl (bC (own.map (·.2))) tg g)
    (ht : ∀ (s : Shared) (H : Hp) (C : Addr) (clo : List (Str × Addr)) (fp : List Addr), ITs (X.blk s H scope (compEnvC scope clo C X.env) fp) cl ifs tb)
    (hk : ∀ (s : Shared) (H : Hp) (C : Addr) (clo : List (Str × Addr)) (fp : List Addr), IE (X.blk s H scope (compEnvC scope clo C X.env) fp) cl kx tk)
    (he : ∀ (s : Shared) (H : Hp) (C : Addr) (clo : List (Str × Addr)) (fp : List Addr), IE (X.blk s H scope (compEnvC scope clo C X.env) fp) cl vx te) (hs : ∀ x, foldedSetIterable iter X.env x = pure x := by intro _; rfl) :
    IE X cl (.DictComp kx vx [⟨tg, iter, ifs, 0⟩] scope pos) (eDc ti g tb tk te (own.map (·.2))) := by
  refine ⟨fun W tkk => ?_⟩
  obtain ⟨wi, pi, qi⟩ := hi.run W tkk
  refine ⟨_, pe_dc (g := gOf X.K cl (bC (own.map (·.2))) g) (tt := bOf X.K cl W0 tb) (tk := tOf X.K cl W0 tk) (tv := tOf X.K cl W0 te) hc hN pi okB (fun s H C clo fp => (hg s H C clo fp).pg) (fun s H C clo fp => (ht s H C clo fp).run W0 takes0) (fun s H C clo fp => (hk s H C clo fp).pe (W := W0) takes0) (fun s H C clo fp => (he s H C clo fp).pe (W := W0) takes0) hs, fun E σ H Z S Q oe ok sat => ?_⟩
  refine qi E σ H Z S _ oe ok (satI_bnd (β := T) (κ := VK) (q := Q) sat fun ds E1 sat1 J H1 Z1 S1 oe1 it st1 ok1 D hD => ?_)
  exact dc_go oe1 it ok1 (SatV.re st1 sat1) D hD
theorem ie_dcD (own : List (Str × Nat)) (hc : X.calm = true) (hN : X.N.Nodup) (hi : ID X cl tg iter t) (okB : BlkOk X.N X.env.scope scope own)
    (hg : ∀ (s : Shared) (H : Hp) (C : Addr) (clo : List (Str × Addr)) (fp : List Addr), IG (X.blk s H scope (compEnvC scope clo C X.env) fp) cl (bC (own.map (·.2))) tg g)
    (ht : ∀ (s : Shared) (H : Hp) (C : Addr) (clo : List (Str × Addr)) (fp : List Addr), ITs (X.blk s H scope (compEnvC scope clo C X.env) fp) cl ifs tb)
    (hk : ∀ (s : Shared) (H : Hp) (C : Addr) (clo : List (Str × Addr)) (fp : List Addr), IE (X.blk s H scope (compEnvC scope clo C X.env) fp) cl kx tk)
    (he : ∀ (s : Shared) (H : Hp) (C : Addr) (clo : List (Str × Addr)) (fp : List Addr), IE (X.blk s H scope (compEnvC scope clo C X.env) fp) cl vx te) (hs : ∀ x, foldedSetIterable iter X.env x = pure x := by intro _; rfl) :
    IE X cl (.DictComp kx vx [⟨tg, iter, ifs, 0⟩] scope pos) (eDc (iAhd t) g tb tk te (own.map (·.2))) := by
  refine ⟨fun W tkk => ?_⟩
  obtain ⟨wi, pi, qi⟩ := hi.run W tkk
  have pe := pe_dc (pos := pos) (g := gOf X.K cl (bC (own.map (·.2))) g) (tt := bOf X.K cl W0 tb) (tk := tOf X.K cl W0 tk) (tv := tOf X.K cl W0 te) hc hN pi okB (fun s H C clo fp => (hg s H C clo fp).pg) (fun s H C clo fp => (ht s H C clo fp).run W0 takes0) (fun s H C clo fp => (hk s H C clo fp).pe (W := W0) takes0) (fun s H C clo fp => (he s H C clo fp).pe (W := W0) takes0) hs
  refine ⟨_, PE.or pe (pe_lk pe), fun E σ H Z S Q oe ok sat => ?_⟩
  unfold eDc iAhd at sat
  match hE : t E with
  | none => rw [hE] at sat; exact sat.elim
  | some (ds, E1) =>
    rw [hE] at sat
    simp only [bnd_ok] at sat
    obtain ⟨Z1, S1, oe1, st1, ok1, alt⟩ := qi E σ H Z S ds E1 oe ok hE
    have sat1 := SatV.re st1 sat
    rcases alt with alt | ⟨a, kvs, za, ha, alt⟩
    · exact .inl (alt _ fun J it D hD => dc_go oe1 it ok1 sat1 D hD)
    · refine .inr ⟨a, kvs, ha, fun od _ => alt od _ fun J it D hD => ?_⟩
      obtain ⟨oeL, okL⟩ := lock_env (od := od) ha za oe1 ok1
      refine dc_go (W := W) (vs := own.map (·.2)) (g := g) (tb := tb) (tk := tk) (te := te) (Q := fun v H' => H' a = some (.frz od (.dK kvs)) ∧ Q v (upd H' a (.dK kvs))) oeL it okL ?_ D hD
      by_cases c : ds.length ≤ 16777216
      case neg => rw [if_neg c] at sat1; exact sat1.elim
      rw [if_pos c] at sat1 ⊢
      match hl : dcE g tb tk te (own.map (·.2)) ds (clr E1 (own.map (·.2))) [] with
      | none => rw [hl] at sat1; exact sat1.elim
      | some (rs, E2) => rw [hl] at sat1 ⊢; exact SatV.lock ha za ok1.dis sat1
end
end
end VL

namespace VL
open PySem PySem.Spec PyProof.Rows L2

instance lawK : LawfulBEq Key where
  eq_of_beq {a b} h := by
    cases a <;> cases b
    · exact congrArg Sum.inl (eq_of_beq h)
    · cases h
    · cases h
    · exact congrArg Sum.inr (eq_of_beq h)
  rfl {a} := by
    cases a with
    | inl i => exact (beq_self_eq_true i : (i == i) = true)
    | inr i => exact (beq_self_eq_true i : (i == i) = true)
/-! ### set(keys) of a list, of a tuple; its length -/
def memK (acc : List Key) (k : Key) : Bool := acc.any fun y => decide (y = k)
theorem memK_iff (acc : List Key) (k : Key) : memK acc k = true ↔ k ∈ acc := by simp [memK]
def dedK (acc : List Key) (k : Key) : List Key := if memK acc k = true then acc else acc ++ [k]
def distK (ks : List Key) : List Key := ks.foldl dedK []
theorem distK_snoc (ks : List Key) (k : Key) : distK (ks ++ [k]) = dedK (distK ks) k := by simp [distK, List.foldl_append]
theorem dedK_any (acc : List Key) (k x : Key) : memK (dedK acc k) x = (memK acc x || decide (x = k)) := by
  unfold dedK
  by_cases h : memK acc k = true
  · rw [if_pos h]
    by_cases e : x = k
    · subst e; simp [h]
    · simp [e]
  · rw [if_neg h]
    have q : memK (acc ++ [k]) x = (memK acc x || decide (k = x)) := by simp [memK]
    rw [q]
    by_cases e : x = k
    · subst e; simp
    · have e2 : ¬ k = x := fun z => e z.symm
      simp [e, e2]
theorem dedK_len (acc : List Key) (k : Key) : (dedK acc k).length = if memK acc k = true then acc.length else acc.length + 1 := by
  unfold dedK; split <;> simp
theorem setOf_same {prog : Program} {w : World} {h : Heap} {a : Addr} {S S2 : Key → Bool} {n n2 : Nat} (q : h.SetOf (mixKind prog w) a S n) (e : ∀ k, S k = S2 k) (en : n = n2) : h.SetOf (mixKind prog w) a S2 n2 := by
  have : S = S2 := funext e
  subst this; subst en; exact q
theorem distK_le : ∀ (n : Nat) (ks : List Key), ks.length = n → (distK ks).length ≤ n
  | 0, ks, h => by
    have : ks = [] := List.eq_nil_of_length_eq_zero h
    subst this; exact Nat.le_refl _
  | n + 1, ks, h => by
    have hne : ks ≠ [] := fun e => by subst e; simp at h
    obtain ⟨r, k, rfl⟩ : ∃ r k, ks = r ++ [k] := ⟨ks.dropLast, ks.getLast hne, (List.dropLast_concat_getLast hne).symm⟩
    have hr : r.length = n := by simpa using h
    have ih := distK_le n r hr
    rw [distK_snoc, dedK_len]
    split <;> omega
section
variable {prog : Program} {w : World} {A : Around} {R : Result → Shared → Prop} {it : Addr} {fp wr : List Addr} {G : Array GenState → Array GenState → Prop} {n : Nat} {P : Nat → Value → Prop} {St : Nat → Shared → Prop}
theorem keyScan {k : Key} {v : Value} (h : (mixKind prog w).is k v = true) : v.scannable = true := by
  rcases keyIs_shape h with ⟨i, t, ek, ev⟩ | ⟨z, t, ek, ev⟩
  · subst ev; rfl
  · subst ev; rfl
theorem set_loop (Wk : WalksS prog w A.in1 it fp wr G n P St) (C : Addr) (hC : C ∉ fp) (ks : List Key) (hn : ks.length = n)
    (val : ∀ (i : Nat) (v : Value), P i v → ∃ k, ks[i]? = some k ∧ (mixKind prog w).is k v = true) (room : n + 1 < scanBound) :
    ∀ (m i : Nat) (s : Shared), n - i = m → i ≤ n → St i s → s.heap.SetOf (mixKind prog w) C (memK (distK (ks.take i))) (distK (ks.take i)).length →
      (∀ s2, Moved (C :: wr) G s s2 → s2.heap.SetOf (mixKind prog w) C (memK (distK ks)) (distK ks).length → R (.ok (.ret .none)) s2) →
      codeAny (model prog w) A (.builtin "set.update.loop" ⟨[.ref C, .ref it], []⟩) R s := by
  have nwr : C ∉ wr := fun q => hC (Wk.sub _ q)
  have more : ∀ b ∈ wr, b ∈ C :: wr := fun b q => List.mem_cons_of_mem _ q
  intro m
  induction m with
  | zero =>
    intro i s hm hi st so fin
    obtain rfl : i = n := by omega
    refine codeAny_builtin PyProof.Rows.F.entry_set_update_loop ?_
    rw [Around.under_plainId PyProof.Rows.F.plain_set_update_loop _]
    show wpAny _ A.in1 (pyNext (.ref it) >>= _) _ _ s
    refine wpAny_bind (Wk.done s _ _ st fun s2 mv => ?_)
    show wpAny _ A.in1 (ret Value.none) _ _ s2
    rw [List.take_of_length_le (Nat.le_of_eq hn)] at so
    exact wpAny_pure (fin s2 (mv.mono more) (by
      obtain ⟨o, es, ep, t, ho, rest⟩ := so
      exact ⟨o, es, ep, t, mv.heap C _ nwr ho, rest⟩))
  | succ m ih =>
    intro i s hm hi st so fin
    have hlt : i < n := by omega
    refine codeAny_builtin PyProof.Rows.F.entry_set_update_loop ?_
    rw [Around.under_plainId PyProof.Rows.F.plain_set_update_loop _]
    show wpAny _ A.in1 (pyNext (.ref it) >>= _) _ _ s
    refine wpAny_bind (Wk.item i s _ _ hlt st fun v s2 hP st2 mv => ?_)
    obtain ⟨k, hk, hkv⟩ := val i v hP
    have so2 : s2.heap.SetOf (mixKind prog w) C (memK (distK (ks.take i))) (distK (ks.take i)).length := by
      obtain ⟨o, es, ep, t, ho, rest⟩ := so
      exact ⟨o, es, ep, t, mv.heap C _ nwr ho, rest⟩
    show wpAny _ A.in1 (holding [v] (setAdd C v) >>= _) _ _ s2
    refine wpAny_bind (wpAny_holding ?_)
    unfold setAdd
    refine wpAny_holding ?_
    refine wpAny_bind ((mixKind prog w).pyHash (k := k) hkv ?_)
    have hle : (distK (ks.take i)).length ≤ i := distK_le i _ (by rw [List.length_take]; omega)
    refine wpAny_setAddHashed_of (knd := mixKind prog w) (s := { s2 with toks := s2.toks + 1 }) hkv (keyScan hkv) so2 (by omega) fun h3 sb so3 => ?_
    have step : distK (ks.take (i + 1)) = dedK (distK (ks.take i)) k := by
      rw [List.take_add_one, hk, Option.toList_some, distK_snoc]
    have so4 : h3.SetOf (mixKind prog w) C (memK (distK (ks.take (i + 1)))) (distK (ks.take (i + 1))).length :=
      setOf_same so3 (fun x => by rw [step, dedK_any]) (by rw [step, dedK_len])
    refine wpAny_pure ⟨plainId_quiet PyProof.Rows.F.plain_set_update_loop _, ih (i + 1) _ (by omega) hlt (Wk.frame _ s2 _ _ st2 (Nat.le_succ _) fun b hb o e => ?_) so4 fun s5 mv5 so5 => ?_⟩
    · rw [sb.2 b (fun q : b = C => hC (by rw [← q]; exact hb))]; exact e
    · refine fin s5 (Moved.trans Wk.gtrans ((mv.mono more).then_heap (Nat.le_succ _) fun b o hb e => ?_) mv5) so5
      rw [sb.2 b (fun q : b = C => hb (by rw [q]; exact List.mem_cons_self))]; exact e
end
section
variable {prog : Program} {w : World} {A : Around} {E : Value → Shared → Prop} {s : Shared}
abbrev setO0 (led : Bool) : Obj := { cls := .type "set", dict := none, data := .set #[] 0 (.fresh 0 0 led) }
theorem set_of_seq {ty : String} (hty : ty = "list" ∨ ty = "tuple") {l : Addr} {its : Array Value} {ks : List Key} {Q : Value → Shared → Prop} (hh : A.handled = none) (hl : ∃ o n, s.heap.get? l = some o ∧ o.cls = .type ty ∧ o.data = .seq its n) (hk : its.size = ks.length) (hv : ∀ (i : Nat) (v : Value), its[i]? = some v → ∃ k, ks[i]? = some k ∧ (mixKind prog w).is k v = true) (room : ks.length + 1 < scanBound)
    (fin : ∀ (h2 : Heap) (tk : Nat), h2.SetOf (mixKind prog w) s.heap.objs.size (memK (distK ks)) (distK ks).length → (∀ b o, b < s.heap.objs.size → s.heap.get? b = some o → h2.get? b = some o) → Q (.ref s.heap.objs.size) { s with heap := h2, toks := tk }) :
    wpAny (model prog w) A (call (.type "set") [.ref l]) Q E s := by
  obtain ⟨_, _, cmro⟩ := PySem.F.called_set.mro
  have cmade := PySem.F.called_set.made
  have csub := PySem.F.called_set.sub
  refine wpAny_call (codeAny_of_tree ?_)
  show wpAny _ _ (callAny (.type "set") _) _ _ _
  refine wpAny_pure ⟨Code.quiet_builtin _ (by decide +kernel), codeAny_builtin PySem.F.entry_type_call ?_⟩
  rw [Around.under_plain (weight_type_call_type "set" [.ref l] []) rfl]
  have cnt := PySem.F.called_set.notType
  have ccc := PySem.F.called_set.canCreate
  have cct := PySem.F.typeCall_set_1 (.ref l)
  repeat (any_goals (first | assumption | wp_step))
  refine codeAny_mono (code_set_new_1 (.ref l) (E := E) (Q₁ := fun ob s1 => ∃ led : Bool, ob = .ref s.heap.objs.size ∧ s1 = { s with heap := s.heap.push (setO0 led) }) fun led => ⟨led, rfl, rfl⟩) fun r s1 hr => ?_
  cases r with
  | error e => exact hr
  | ok fl =>
    cases fl with
    | ret ob =>
      obtain ⟨led, rfl, rfl⟩ := hr
      have oC : (s.heap.push (setO0 led)).get? s.heap.objs.size = some (setO0 led) := Heap.get?_push_size _ rfl
      have tC : Shared.TypeIs { s with heap := s.heap.push (setO0 led) } (.ref s.heap.objs.size) "set" := ⟨_, oC, rfl⟩
      have cli := PySem.F.called_set.init.lookup
      have cbi := PySem.F.called_set.init.bind (.ref s.heap.objs.size)
      repeat (any_goals (first | assumption | wp_step))
      refine codeAny_mono (codeAny_call_builtin (R := wants (fun r s2 => r = .none ∧ ∃ h2 tk, s2 = { s with heap := h2, toks := tk } ∧ h2.SetOf (mixKind prog w) s.heap.objs.size (memK (distK ks)) (distK ks).length ∧
          (∀ b o, b < s.heap.objs.size → s.heap.get? b = some o → h2.get? b = some o)) E) PySem.F.called_set.init.plain PySem.F.entry_set_init (check_set_init_1 tC ?_)) fun r2 s2 hr2 => ?_
      · obtain ⟨⟨oc, od, odt, osl⟩, nl, hol, hcl, hdl⟩ := hl
        simp only at hcl hdl
        subst hcl; subst hdl
        have hol2 : (s.heap.push (setO0 led)).get? l = some { cls := .type ty, dict := od, data := .seq its nl, slots := osl } := Heap.get?_push_of_some _ hol
        have sb1 : isSubtype (.type ty) (.type "set") = pure false := by
          rcases hty with e | e
          · rw [e]; exact PySem.F.sub_list_set
          · rw [e]; exact PySem.F.sub_tuple_set
        have sb2 : isSubtype (.type ty) (.type "frozenset") = pure false := by
          rcases hty with e | e
          · rw [e]; exact PySem.F.sub_list_frozenset
          · rw [e]; exact PySem.F.sub_tuple_frozenset
        have ne : (Value.type ty == Value.type "dict") = false := by
          rcases hty with e | e
          · rw [e]; decide
          · rw [e]; decide
        unfold Builtin.«set.__init__» noKeywords Builtin.Frozenset.updateFrom
        generalize hPI : pyIter = PI
        wp_walk
        subst hPI
        have lS : l < s.heap.objs.size := Heap.lt_size hol
        have hh3 : A.in1.in1.in1.handled = none := by simp [hh]
        have neI : l ≠ (s.heap.push (setO0 led)).objs.size := by
          rw [Heap.size_push]; exact Nat.ne_of_lt (Nat.lt_succ_of_lt lS)
        have nfp : s.heap.objs.size ∉ [(s.heap.push (setO0 led)).objs.size, l] := by
          rw [Heap.size_push]; simp only [List.mem_cons, List.mem_singleton, List.not_mem_nil, or_false, not_or]
          exact ⟨Nat.ne_of_lt (Nat.lt_succ_self _), Nat.ne_of_gt lS⟩
        have so0 : ∀ o : Obj, ((s.heap.push (setO0 led)).push o).SetOf (mixKind prog w) s.heap.objs.size (memK (distK (ks.take 0))) (distK (ks.take 0)).length := fun o =>
          setOf_same ((PyProof.Rows.setObjOf_fresh (knd := mixKind prog w) led).setOf (Heap.get?_push_of_some o oC) (by unfold scanBound; omega)) (fun _ => rfl) rfl
        rcases hty with rfl | rfl
        · have hl2 : (s.heap.push (setO0 led)).IsList l its := ⟨_, hol2, rfl, nl, rfl⟩
          refine wpAny_pyIter_list hl2 (wpAny_bind (wpAny_runValue ?_))
          refine set_loop ((Walks.list hh3 _ l neI its).toS) s.heap.objs.size nfp ks hk.symm hv (by rw [hk]; exact room) (its.size - 0) 0 _ (by omega) (Nat.zero_le _)
            ⟨⟨_, Heap.get?_push_size _ rfl, rfl, rfl⟩, (hl2.push _)⟩ (so0 _) ?_
          rintro ⟨h2, g2, d2, tk2, os2⟩ mv so
          obtain rfl : g2 = s.gens := mv.gens
          obtain rfl : d2 = s.drawn := mv.drawn
          obtain rfl : os2 = s.os := mv.os
          show wpAny _ _ _ _ _ _
          refine wpAny_pure ?_
          show wpAny _ _ (ret Value.none) _ _ _
          refine wpAny_pure ⟨rfl, h2, tk2, rfl, so, fun b o hb e => ?_⟩
          have b1 : b ≠ s.heap.objs.size := Nat.ne_of_lt hb
          have b2 : b ≠ (s.heap.push (setO0 led)).objs.size := by
            rw [Heap.size_push]; exact Nat.ne_of_lt (Nat.lt_succ_of_lt hb)
          exact mv.heap b o (by simp only [List.mem_cons, List.mem_singleton, List.not_mem_nil, or_false, not_or]; exact ⟨b1, b2⟩) (Heap.get?_push_of_some _ (Heap.get?_push_of_some _ e))
        · have hl2 : (s.heap.push (setO0 led)).IsTuple l its := ⟨_, hol2, rfl, nl, rfl⟩
          refine wpAny_pyIter_tuple hl2 (wpAny_bind (wpAny_runValue ?_))
          refine set_loop ((Walks.tuple hh3 _ l neI its).toS) s.heap.objs.size nfp ks hk.symm hv (by rw [hk]; exact room) (its.size - 0) 0 _ (by omega) (Nat.zero_le _)
            ⟨⟨_, Heap.get?_push_size _ rfl, rfl, rfl⟩, (hl2.push _)⟩ (so0 _) ?_
          rintro ⟨h2, g2, d2, tk2, os2⟩ mv so
          obtain rfl : g2 = s.gens := mv.gens
          obtain rfl : d2 = s.drawn := mv.drawn
          obtain rfl : os2 = s.os := mv.os
          show wpAny _ _ _ _ _ _
          refine wpAny_pure ?_
          show wpAny _ _ (ret Value.none) _ _ _
          refine wpAny_pure ⟨rfl, h2, tk2, rfl, so, fun b o hb e => ?_⟩
          have b1 : b ≠ s.heap.objs.size := Nat.ne_of_lt hb
          have b2 : b ≠ (s.heap.push (setO0 led)).objs.size := by
            rw [Heap.size_push]; exact Nat.ne_of_lt (Nat.lt_succ_of_lt hb)
          exact mv.heap b o (by simp only [List.mem_cons, List.mem_singleton, List.not_mem_nil, or_false, not_or]; exact ⟨b1, b2⟩) (Heap.get?_push_of_some _ (Heap.get?_push_of_some _ e))
      · cases r2 with
        | error e => exact hr2
        | ok f2 =>
          cases f2 with
          | ret r =>
            obtain ⟨rfl, h2, tk, rfl, so, kk⟩ := hr2
            repeat (any_goals (first | assumption | wp_step))
            exact fin _ _ so kk
          | _ => exact hr2.elim
    | _ => exact hr.elim
end
end VL

namespace VL
open PySem PySem.Spec PyProof.Rows L2

section
variable {X : Cx} {cl : Str → Addr} {kp : Keep} {pos : Pos} {k : Nat} {e : Expr} {t : Ev T} {tp : Ev Loc}
/-! ### freezing -/
def eFz (t : Ev T) : Ev T := fun E => bnd (t E) fun r E1 => some (.ok (.fz (frz r)) E1)
theorem ie_fzv (h : IE X cl e t) : IE X cl e (eFz t) := by
  refine ⟨fun W tk => ?_⟩
  obtain ⟨te, p, q⟩ := h.fz W tk
  refine ⟨te, p, fun E σ H Z S Q oe ok sat => ?_⟩
  refine q E σ H Z S _ oe ok (satD_bnd (β := T) (κ := VK) (q := Q) sat fun x E1 sat1 v H1 Z1 S1 oe1 rp1 st1 ok1 => ?_)
  have sat2 : SatV X.K cl W σ H1 Z1 S1 Q (some (.ok (.fz (frz x)) E1)) := SatV.re st1 sat1
  exact sat2 v H1 Z1 Emp S1 oe1 (.fz rp1) (fun _ z _ => z) (Step.refl.less fun _ z => z.elim False.elim id) (ok1.less fun _ z => z.elim False.elim id)
@[simp] def fzL (ts : List T) : List T := ts.map fun t => .fz (frz t)
def kfz : T → T
  | .fz d => .fz d
  | .tup ts => .tup (fzL ts)
  | .lst ts => .lst (fzL ts)
  | .dct ks => .dct (ks.map fun p => (p.1, .fz (frz p.2)))
  | .dcT ks => .dcT (ks.map fun p => (p.1, .fz (frz p.2)))
  | .ins c fs => .ins c (fs.map fun p => (p.1, .fz (frz p.2)))
theorem OwnL.fzd {K : PySem.W.Frag} {H : Hp} {Z Z' : PA1} {ts : List T} {vs : List V} {R : PA1} (h : OwnL K cl H Z ts vs R) (hz : ∀ a, Z a → Z' a) (hs : ∀ a, R a → Z' a) : OwnL K cl H Z' (fzL ts) vs Emp := by
  have e : fzL ts = (frzL ts).map T.fz := by rw [frzL_map, fzL, List.map_map]; rfl
  rw [e]
  exact OwnL.fzs (h.frz hz hs)
theorem Own.kfz {K : PySem.W.Frag} {H : Hp} {Z S : PA1} {t : T} {v : V} (h : Own K cl H Z t v S) : ∃ R S' : PA1, Own K cl H (Uni Z R) (VL.kfz t) v S' ∧ (∀ a, R a → S a) ∧ (∀ a, S' a → S a) ∧ Dis R S' := by
  have go : ∀ {a : Addr} {R : PA1}, S a → (∀ b, R b → S b ∧ b ≠ a) → (∀ b, R b → S b) ∧ (∀ b, b = a → S b) ∧ Dis R (fun b => b = a) := fun sa h => ⟨fun b z => (h b z).1, fun b z => z ▸ sa, fun b x y => (h b x).2 y⟩
  cases h with
  | fz h => exact ⟨Emp, Emp, .fz (h.mono (fun _ z => .inl z) fun _ _ => .refl), fun _ z => z.elim, fun _ z => z.elim, fun _ z _ => z⟩
  | @tup a vs ts _ R h1 h2 h3 r => exact ⟨R, fun b => b = a, .tup (R := Emp) h1 rfl (fun _ z => z.elim) (r.fzd (fun _ z => .inl z) fun _ z => .inr z), go h2 h3⟩
  | @lst a vs ts _ R h1 h2 h3 r => exact ⟨R, fun b => b = a, .lst (R := Emp) h1 rfl (fun _ z => z.elim) (r.fzd (fun _ z => .inl z) fun _ z => .inr z), go h2 h3⟩
  | @dct a kvs ks _ R h1 h2 h3 h4 r =>
    refine ⟨R, fun b => b = a, .dct (R := Emp) h1 rfl (fun _ z => z.elim) (by rw [← h4]; simp [List.map_map, Function.comp_def]) ?_, go h2 h3⟩
    have q := r.fzd (Z' := Uni Z R) (fun _ z => .inl z) fun _ z => .inr z
    simpa [List.map_map, Function.comp_def] using q
  | @dcT a kvs ks _ R h1 h2 h3 h4 r =>
    refine ⟨R, fun b => b = a, .dcT (R := Emp) h1 rfl (fun _ z => z.elim) (by rw [← h4]; simp [List.map_map, Function.comp_def]) ?_, go h2 h3⟩
    have q := r.fzd (Z' := Uni Z R) (fun _ z => .inl z) fun _ z => .inr z
    simpa [List.map_map, Function.comp_def] using q
  | @ins a c dx fvs fs _ R h1 h2 h3 h4 r =>
    refine ⟨R, fun b => b = a, .ins (R := Emp) h1 rfl (fun _ z => z.elim) (by rw [← h4]; simp [List.map_map, Function.comp_def]) ?_, go h2 h3⟩
    have q := r.fzd (Z' := Uni Z R) (fun _ z => .inl z) fun _ z => .inr z
    simpa [List.map_map, Function.comp_def] using q
def eKf (t : Ev T) : Ev T := fun E => bnd (t E) fun r E1 => some (.ok (kfz r) E1)
theorem ie_kf (h : IE X cl e t) : IE X cl e (eKf t) := by
  refine ⟨fun W tk => ?_⟩
  obtain ⟨te, p, q⟩ := h.run W tk
  refine ⟨te, p, fun E σ H Z S Q oe ok sat => ?_⟩
  refine q E σ H Z S _ oe ok (satV_bnd (β := T) (κ := VK) (q := Q) sat fun x E1 sat1 v H1 Z1 Sr S1 oe1 ow1 d1 st1 ok1 => ?_)
  obtain ⟨R, S', h1, h2, h3, h4⟩ := ow1.kfz
  have sub : ∀ a, Uni S' S1 a → Uni R (Uni S' S1) a := fun _ z => .inr z
  have okA : Okk H1 Z1 (Uni R (Uni S' S1)) := ok1.less fun a z => z.elim (fun z => .inl (h2 a z)) fun z => z.elim (fun z => .inl (h3 a z)) .inr
  have dA : Dis R (Uni S' S1) := fun a x y => y.elim (h4 a x) (d1 a (h2 a x))
  obtain ⟨s2, o2⟩ := freezeStep okA dA
  have sat2 : SatV X.K cl W σ H Z S Q (some (.ok (kfz x) E1)) := sat1
  refine sat2 v H1 (Uni Z1 R) S' S1 (oe1.zmore fun _ z => .inl z) h1 (fun a x y => d1 a (h3 a x) y) ?_ o2
  exact st1.trans (s2.more fun a z => z.elim (fun z => .inl (h2 a z)) fun z => z.elim (fun z => .inl (h3 a z)) .inr)

/-! ### reading at places -/
def eRdP (tp : Ev Loc) : Ev T := fun E => bnd (tp E) fun l E1 => match getE E1 l with
  | some (.fz d) => some (.ok (.fz d) E1)
  | _ => none
theorem ie_rdp (h : IP X cl e tp) : IE X cl e (eRdP tp) := by
  refine ⟨fun W tk => ?_⟩
  obtain ⟨te, p, q⟩ := h.run W tk
  refine ⟨te, p, fun E σ H Z S Q oe ok sat => ?_⟩
  refine q E σ H Z S Q oe ok ?_
  unfold eRdP at sat
  match hE : tp E, sat with
  | none, sat => exact sat.elim
  | some (.ex x E1), sat => exact sat
  | some (.ok l E1), sat =>
    simp only [bnd_ok] at sat
    match hg : getE E1 l, sat with
    | none, sat => exact sat.elim
    | some (.fz d), sat =>
      refine ⟨by rw [hg]; rfl, fun w H1 Z1 S1 oe1 hv st1 ok1 => ?_⟩
      obtain ⟨w', Su, R, b1, b2, _⟩ := oe1.at hg
      rw [hv] at b1
      cases b1
      cases b2 with
      | fz rp =>
        have sat2 : SatV X.K cl W σ H Z S Q (some (.ok (.fz d) E1)) := sat
        exact sat2 w H1 Z1 Emp S1 oe1 (.fz rp) (fun _ z _ => z) (st1.less fun _ z => z.elim False.elim id) (ok1.less fun _ z => z.elim False.elim id)
    | some (.tup _), sat => exact sat.elim
    | some (.lst _), sat => exact sat.elim
    | some (.dct _), sat => exact sat.elim
    | some (.dcT _), sat => exact sat.elim
    | some (.ins _ _), sat => exact sat.elim
/-- a field of a place -/
theorem lookup_ix {fvs : List (Str × V)} {f : Str} : ∀ {n : Nat}, keyIx (fvs.map (·.1)) f = some n → fvs.lookup f = (fvs.map (·.2))[n]? := by
  induction fvs with
  | nil => intro n h; simp [keyIx] at h
  | cons p r ih =>
    intro n h
    obtain ⟨g, v⟩ := p
    simp only [List.map_cons, keyIx] at h
    simp only [List.lookup_cons]
    by_cases e : g = f
    · subst e
      rw [if_pos rfl] at h
      cases h
      simp
    · rw [if_neg e] at h
      have e2 : (f == g) = false := by
        cases q : f == g with
        | false => rfl
        | true => exact absurd (eq_of_beq q).symm e
      rw [e2]
      cases hk : keyIx (r.map (·.1)) f with
      | none => rw [hk] at h; cases h
      | some m =>
        rw [hk] at h
        cases h
        simpa using ih hk
def pFld (c f : Str) (tp : Ev Loc) : Ev Loc := fun E => bnd (tp E) fun l E1 => match getE E1 l with
  | some (.ins c' fs) => if c' = c then match keyIx (fs.map (·.1)) f with
    | some n => match (fs.map (·.2))[n]? with
      | some _ => some (.ok ⟨l.i, l.p ++ [n]⟩ E1)
      | none => none
    | none => none else none
  | _ => none
theorem ip_fld {c f : Str} (hc : Cls X.K (cl c)) (hn : NoAttr X.K (cl c) f) (h : IP X cl e tp) (hb : attributeBase e f X.env (eval e X.env) = eval e X.env := by rfl) : IP X cl (.Attribute e f pos) (pFld c f tp) := by
  refine ⟨fun W tk => ?_⟩
  obtain ⟨te, p, q⟩ := h.run W tk
  refine ⟨_, pe_fld p hb, fun E σ H Z S Q oe ok sat => ?_⟩
  refine q E σ H Z S _ oe ok ?_
  unfold pFld at sat
  match hE : tp E, sat with
  | none, sat => exact sat.elim
  | some (.ex x E1), sat => exact sat
  | some (.ok l E1), sat =>
    simp only [bnd_ok] at sat
    match hg : getE E1 l with
    | none => rw [hg] at sat; exact (sat : False).elim
    | some (.fz _) => rw [hg] at sat; exact (sat : False).elim
    | some (.tup _) => rw [hg] at sat; exact (sat : False).elim
    | some (.lst _) => rw [hg] at sat; exact (sat : False).elim
    | some (.dct _) => rw [hg] at sat; exact (sat : False).elim
    | some (.dcT _) => rw [hg] at sat; exact (sat : False).elim
    | some (.ins c' fs) =>
      rw [hg] at sat
      dsimp only at sat
      by_cases e1 : c' = c
      case neg => rw [if_neg e1] at sat; exact sat.elim
      rw [if_pos e1] at sat
      cases hk : keyIx (fs.map (·.1)) f with
      | none => rw [hk] at sat; exact (sat : False).elim
      | some n =>
        rw [hk] at sat
        dsimp only at sat
        cases hkd : (fs.map (·.2))[n]? with
        | none => rw [hkd] at sat; exact (sat : False).elim
        | some kd =>
          rw [hkd] at sat
          refine ⟨by rw [hg]; rfl, fun w H1 Z1 S1 oe1 hv st1 ok1 => ?_⟩
          obtain ⟨w', Su, R, b1, b2, _⟩ := oe1.at hg
          rw [hv] at b1
          cases b1
          cases b2 with
          | @ins a _ dx fvs _ _ R0 h1 h2 h3 h4 r =>
            obtain ⟨z, _, _, hz, _⟩ := r.kid (n := n) (t := kd) hkd
            have sat2 : SatP X.K cl W σ H Z S Q (some (.ok ⟨l.i, l.p ++ [n]⟩ E1)) := sat
            have hlk : fvs.lookup f = some z := by
              rw [lookup_ix (n := n) (by rw [← h4]; exact hk)]
              exact hz
            refine ⟨a, cl c', dx, fvs, z, rfl, h1, e1 ▸ hc, e1 ▸ hn, hlk, ?_⟩
            refine sat2.2 z H1 Z1 S1 oe1 ?_ st1 ok1
            unfold valE at hv ⊢
            match hs' : σ[l.i]?, hv with
            | some (some v0), hv =>
              show valP H1 v0 (l.p ++ [n]) = some z
              rw [valP_snoc]
              have hv3 : valP H1 v0 l.p = some (.ref a) := hv
              rw [hv3]
              show kidV H1 (.ref a) n = some z
              simp only [kidV, h1]
              exact hz
def fzs : List T → Option (List D)
  | [] => some []
  | .fz d :: ts => (fzs ts).map (d :: ·)
  | _ :: _ => none
@[simp] theorem fzs_map : ∀ ds : List D, fzs (ds.map T.fz) = some ds
  | [] => rfl
  | d :: ds => by simp [fzs, fzs_map ds]
theorem fzs_rp {K : PySem.W.Frag} {H : Hp} {Z : PA1} : ∀ {ts : List T} {vs : List V} {R : PA1} {ds : List D}, OwnL K cl H Z ts vs R → fzs ts = some ds → RpL K cl H Z ds vs
  | [], _, _, _, .nil, h => by cases h; exact .nil
  | .fz d :: ts, _, _, ds, .cons (.fz q) r _ _ _, h => by
    simp only [fzs] at h
    cases e : fzs ts with
    | none => rw [e] at h; cases h
    | some l => rw [e] at h; cases h; exact .cons q (fzs_rp r e)
  | .tup _ :: _, _, _, _, _, h => by simp [fzs] at h
  | .lst _ :: _, _, _, _, _, h => by simp [fzs] at h
  | .dct _ :: _, _, _, _, _, h => by simp [fzs] at h
  | .dcT _ :: _, _, _, _, _, h => by simp [fzs] at h
  | .ins _ _ :: _, _, _, _, _, h => by simp [fzs] at h
end
end VL

namespace VL
open PySem PySem.Spec PyProof.Rows L2

/-! ### list(x), dict(x) -/
section
variable {K : PySem.W.Frag} {cl : Str → Addr} {H : Hp} {Z : PA1} {Q : VK}
theorem keys_rpl : ∀ ks : List Key, RpL K cl H Z (ks.map keyOf) (ks.map kV)
  | [] => .nil
  | k :: ks => .cons (keyOf_rp k) (keys_rpl ks)
def listE : List D → Option T
  | [.lst xs] => some (.lst (xs.map .fz))
  | [.tup xs] => some (.lst (xs.map .fz))
  | [.dct ks] => some (.lst ((keysOf ks).map .fz))
  | _ => none
theorem callv_listE : CallV K cl (fun xs H Q => (∃ p ys, xs = [.ref p] ∧ (SqL K H p ys ∨ SqT K H p ys) ∧ ∀ l, H l = none → Q (.ref l) (upd H l (.lst ys))) ∨
    (∃ (a : Addr) (kvs : List (Key × V)), xs = [.ref a] ∧ Rd H a (.dK kvs) ∧ ∀ p, H p = none → Q (.ref p) (upd H p (.lst (kvs.map fun kv => kV kv.1))))) listE := by
  intro xs vs H Z Q hz rs ok
  match xs, vs, rs, ok with
  | [.lst xs], [_], .cons (.lst _ q r) .nil, ok => exact .inl ⟨_, _, rfl, .inl (SqL.of q), fun p np => okr_lst hz ok r np⟩
  | [.tup xs], [_], .cons (.tup q0 q r) .nil, ok => exact .inl ⟨_, _, rfl, .inr ((TupP.sq q)), fun p np => okr_lst hz ok r np⟩
  | [.dct ks], [_], .cons (.dct (a := a) (kvs := kvs) h0 h1 h2 r) .nil, ok =>
    refine .inr ⟨a, kvs, rfl, h1, fun p np => ?_⟩
    have e1 : keysOf ks = (kvs.map (·.1)).map keyOf := by rw [← h2, List.map_map]; rfl
    have e2 : (kvs.map fun kv => kV kv.1) = (kvs.map (·.1)).map kV := by rw [List.map_map]; rfl
    have ok' : OkR K cl H Z Q (some (.lst ((keysOf ks).map .fz))) := ok
    rw [e1] at ok'
    rw [e2]
    exact okr_lst hz ok' (keys_rpl _) np
/-- dict(x): a copy of a dict; a list of pairs -/
def pairD : D → Option (Key × D)
  | .tup [x, d] => (keyD x).map fun k => (k, d)
  | _ => none
def pairsD : List D → Option (List (Key × D))
  | [] => some []
  | d :: ds => match pairD d, pairsD ds with | some p, some l => some (p :: l) | _, _ => none
def mergeT (acc : List (Key × T)) (ps : List (Key × D)) : List (Key × T) := ps.foldl (fun acc p => putD acc p.1 (.fz p.2)) acc
def dictE : List D → Option T
  | [.dct ks] => some (.dct (ks.map fun p => (p.1, .fz p.2)))
  | [.lst xs] => (pairsD xs).map fun ps => .dct (mergeT [] ps)
  | _ => none
theorem putK_nodup {kvs : List (Key × V)} {k : Key} {v : V} (h : (kvs.map (·.1)).Nodup) : ((putK kvs k v).map (·.1)).Nodup := by
  cases hk : keyIx (kvs.map (·.1)) k with
  | some n =>
    obtain ⟨h1, h2⟩ := putK_at (v := v) h hk
    rw [h1]; exact h
  | none =>
    rw [putK_new' hk, List.map_append, List.map_cons, List.map_nil, List.nodup_append]
    refine ⟨h, by simp, fun a ha b hb => ?_⟩
    simp only [List.mem_cons, List.not_mem_nil, or_false] at hb
    subst hb
    intro e
    subst e
    exact keyIx_none hk ha
theorem pairsD_rp : ∀ {ds vs ps}, RpL K cl H Z ds vs → pairsD ds = some ps → ∃ (as : List Addr) (kvs : List (Key × V)), vs = as.map V.ref ∧ Paired (fun p kv => SqT K H p [kV kv.1, kv.2]) as kvs ∧ ps.map (·.1) = kvs.map (·.1) ∧ RpL K cl H Z (ps.map (·.2)) (kvs.map (·.2))
  | [], _, _, .nil, h => by cases h; exact ⟨[], [], rfl, .nil, rfl, .nil⟩
  | d :: ds, _, ps, .cons r rs, h => by
    simp only [pairsD] at h
    cases e1 : pairD d with
    | none => rw [e1] at h; cases h
    | some p =>
      cases e2 : pairsD ds with
      | none => rw [e1, e2] at h; cases h
      | some l =>
        rw [e1, e2] at h
        cases h
        obtain ⟨as, kvs, rfl, h2, h3, h4⟩ := pairsD_rp rs e2
        unfold pairD at e1
        split at e1
        · rename_i x d'
          cases e3 : keyD x with
          | none => rw [e3] at e1; cases e1
          | some k =>
            rw [e3] at e1
            cases e1
            cases r with
            | @tup a vs _ g1 g2 g3 =>
              cases g3 with
              | cons r1 g3 =>
                cases g3 with
                | cons r2 g3 =>
                  cases g3
                  have := keyD_rp r1 e3
                  subst this
                  exact ⟨a :: as, (k, _) :: kvs, rfl, .cons ((TupP.sq g2)) h2, by simp [h3], .cons r2 h4⟩
        · cases e1
theorem merge_own {H : Hp} {Z : PA1} : ∀ {ps : List (Key × D)} {kvs : List (Key × V)} {acc : List (Key × T)} {ac : List (Key × V)}, ps.map (·.1) = kvs.map (·.1) → RpL K cl H Z (ps.map (·.2)) (kvs.map (·.2)) → acc.map (·.1) = ac.map (·.1) → (ac.map (·.1)).Nodup → OwnL K cl H Z (acc.map (·.2)) (ac.map (·.2)) Emp →
    (mergeT acc ps).map (·.1) = (mergeK ac kvs).map (·.1) ∧ OwnL K cl H Z ((mergeT acc ps).map (·.2)) ((mergeK ac kvs).map (·.2)) Emp
  | [], [], acc, ac, _, _, h1, _, h3 => ⟨h1, h3⟩
  | [], _ :: _, _, _, h, _, _, _, _ => by simp at h
  | _ :: _, [], _, _, h, _, _, _, _ => by simp at h
  | (k, d) :: ps, (k', v) :: kvs, acc, ac, h, r, h1, h2, h3 => by
    simp only [List.map_cons, List.cons.injEq] at h r
    obtain ⟨rfl, h⟩ := h
    cases r with
    | cons r1 r2 =>
      obtain ⟨p1, p2⟩ := putD_own (k := k) (t := .fz d) (v := v) (S1 := Emp) h1 h2 h3 (.fz r1) fun _ z _ => z
      exact merge_own (acc := putD acc k (.fz d)) (ac := putK ac k v) h r2 p1 (putK_nodup h2) (p2.up fun _ z => z.elim id id)
theorem okr_dct (hz : ∀ a, Z a → H a ≠ none) {ks : List (Key × T)} {kvs : List (Key × V)} (ok : OkR K cl H Z Q (some (.dct ks))) (e : ks.map (·.1) = kvs.map (·.1)) (r : OwnL K cl H Z (ks.map (·.2)) (kvs.map (·.2)) Emp) {p : Addr} (np : H p = none) : Q (.ref p) (upd H p (.dK kvs)) := by
  obtain ⟨st, o, k⟩ := fresh_step (o := .dK kvs) hz np
  exact ok _ _ Z (fun a => a = p) (.dct (R := Emp) upd_same rfl (fun _ z => z.elim) e (r.mono (fun _ z => z) (fun a _ => .of (k a)) fun _ _ z => z.elim)) st o
theorem callv_dictE : CallV K cl (fun xs H Q => (∃ (a : Addr) (kvs : List (Key × V)), xs = [.ref a] ∧ Rd H a (.dK kvs) ∧ ∀ p, H p = none → Q (.ref p) (upd H p (.dK kvs))) ∨
    (∃ (a : Addr) (ps : List Addr) (kvs : List (Key × V)), xs = [.ref a] ∧ SqL K H a (ps.map V.ref) ∧ Paired (fun p kv => SqT K H p [kV kv.1, kv.2]) ps kvs ∧ ∀ p, H p = none → Q (.ref p) (upd H p (.dK (mergeK [] kvs))))) dictE := by
  intro xs vs H Z Q hz rs ok
  match xs, vs, rs, ok with
  | [.dct ks], [_], .cons (.dct (a := a) (kvs := kvs) h0 h1 h2 r) .nil, ok =>
    refine .inl ⟨a, kvs, rfl, h1, fun p np => ?_⟩
    have ok' : OkR K cl H Z Q (some (.dct (ks.map fun p => (p.1, .fz p.2)))) := ok
    refine okr_dct hz ok' (by rw [← h2]; simp [List.map_map, Function.comp_def]) ?_ np
    have q := OwnL.fzs (S := Emp) r
    simpa [List.map_map, Function.comp_def] using q
  | [.lst xs], [_], .cons (.lst (a := a) (vs := vs) h0 h1 r) .nil, ok =>
    simp only [dictE] at ok
    cases e : pairsD xs with
    | none => rw [e] at ok; exact okr_none ok
    | some ps =>
      rw [e] at ok
      obtain ⟨as, kvs, rfl, g2, g3, g4⟩ := pairsD_rp r e
      refine .inr ⟨a, as, kvs, rfl, SqL.of h1, g2, fun p np => ?_⟩
      obtain ⟨m1, m2⟩ := merge_own (acc := []) (ac := []) g3 g4 rfl List.nodup_nil .nil
      exact okr_dct hz ok m1 m2 np
end
section
variable {X : Cx} {cl : Str → Addr}
theorem fListE (hc : X.calm = true := by rfl) : CallW X cl (.type "list") listE := ⟨_, CallR.or call_list_of (call_listD hc), callv_listE⟩
theorem fDictE (hc : X.calm = true := by rfl) : CallW X cl (.type "dict") dictE := ⟨_, CallR.or call_dictD (call_dictP hc), callv_dictE⟩
end

/-! ### a list times an int -/
section
variable {K : PySem.W.Frag} {cl : Str → Addr} {H : Hp} {Z : PA1} {Q : VK}
def repOk (n : Nat) (k : Int) : Prop := -(2 ^ 63) ≤ k ∧ k < 2 ^ 63 ∧ n * k.toNat ≤ sizeLine
instance (n : Nat) (k : Int) : Decidable (repOk n k) := by unfold repOk; infer_instance
def mulE : D → D → Option T
  | .lst xs, .int k => if repOk xs.length k then some (.lst ((List.replicate k.toNat xs).flatten.map .fz)) else none
  | x, y => mulD x y
theorem RpL.rep {ds vs} (r : RpL K cl H Z ds vs) : ∀ n : Nat, RpL K cl H Z (List.replicate n ds).flatten (List.replicate n vs).flatten
  | 0 => .nil
  | n + 1 => by
    simp only [List.replicate_succ, List.flatten_cons]
    exact r.append (RpL.rep r n)
theorem opv_mulE : OpV K cl (fun x y H Q => rMulA x y H Q ∨ rRep x y H Q) mulE := by
  intro x y v u H Z Q hz rx ry ok
  have rest : OkR K cl H Z Q (mulD x y) → rMulA v u H Q ∨ rRep v u H Q := fun ok => .inl (opv_mul x y v u H Z Q hz rx ry ok)
  unfold mulE at ok
  split at ok
  · rename_i xs k
    cases rx with
    | lst q0 q r =>
      cases ry
      by_cases c : repOk xs.length k
      · rw [if_pos c] at ok
        exact .inr ⟨_, k, _, rfl, rfl, q, c.1, c.2.1, by rw [← r.len]; exact c.2.2, fun p np => okr_lst hz ok (r.rep _) np⟩
      · rw [if_neg c] at ok; exact okr_none ok
  · exact rest ok
end

/-! ### sorted -/
def leS (a b : Str) : Bool := decide (a.cps.toList ≤ b.cps.toList)
def sortS (xs : List Str) : List Str := xs.mergeSort leS
theorem leS_trans (a b c : Str) (h1 : leS a b = true) (h2 : leS b c = true) : leS a c = true := by
  simp only [leS, decide_eq_true_eq] at *
  exact List.le_trans h1 h2
theorem leS_total (a b : Str) : (leS a b || leS b a) = true := by
  simp only [leS, Bool.or_eq_true, decide_eq_true_eq]
  exact List.le_total _ _
theorem leS_anti (a b : Str) (h1 : leS a b = true) (h2 : leS b a = true) : a = b := by
  simp only [leS, decide_eq_true_eq] at *
  have := List.le_antisymm h1 h2
  cases a; cases b
  simp only at this
  rw [Array.toList_inj.mp this]
theorem rising_leS : ∀ {p : Str} {l : List Str}, risingS p l = true → (p :: l).Pairwise (fun a b => leS a b = true)
  | p, [], _ => by simp
  | p, x :: r, h => by
    have h' : (!ltCps x.cps.toList p.cps.toList && risingS x r) = true := h
    simp only [Bool.and_eq_true, Bool.not_eq_true'] at h'
    obtain ⟨h1, h2⟩ := h'
    have ih := rising_leS h2
    rw [ltCps_eq] at h1
    have hle : leS p x = true := by
      simp only [leS, decide_eq_true_eq]
      exact List.not_lt.mp (of_decide_eq_false h1)
    rw [List.pairwise_cons]
    refine ⟨fun a ha => ?_, ih⟩
    rcases List.mem_cons.mp ha with rfl | ha
    · exact hle
    · exact leS_trans _ _ _ hle ((List.pairwise_cons.mp ih).1 a ha)
theorem sorted_leS {l : List Str} (h : sortedS l = true) : l.Pairwise (fun a b => leS a b = true) := by
  cases l with
  | nil => simp
  | cons p l => exact rising_leS h
theorem sortS_uniq {xs ys : List Str} (p : ys.Perm xs) (s : sortedS ys = true) : ys = sortS xs := by
  refine List.Perm.eq_of_pairwise (le := fun a b => leS a b = true) ?_ (sorted_leS s) ?_ (p.trans (List.mergeSort_perm xs leS).symm)
  · intro a b _ _ h1 h2
    exact leS_anti a b h1 h2
  · exact List.pairwise_mergeSort leS_trans leS_total xs
theorem sortS_perm {xs ys : List Str} : sortS xs = sortS ys ↔ xs.Perm ys := by
  constructor
  · intro h
    exact ((List.mergeSort_perm xs leS).symm.trans (by rw [show xs.mergeSort leS = ys.mergeSort leS from h])).trans (List.mergeSort_perm ys leS)
  · intro h
    refine List.Perm.eq_of_pairwise (le := fun a b => leS a b = true) (fun a b _ _ h1 h2 => leS_anti a b h1 h2) (List.pairwise_mergeSort leS_trans leS_total xs) (List.pairwise_mergeSort leS_trans leS_total ys) (((List.mergeSort_perm xs leS).trans h).trans (List.mergeSort_perm ys leS).symm)
section
variable {X : Cx}
/-- sorted(t) of a tuple with fewer than 64 texts -/
def rSortT (K : PySem.W.Frag) : List V → Hp → VK → Prop := fun vs H Q => ∃ (a : Addr) (xs : List Str), vs = [V.ref a] ∧ SqT K H a (xs.map V.str) ∧ xs.length < 64 ∧ ∀ (ys : List Str) (p : Addr), ys.Perm xs → sortedS ys = true → H p = none → Q (.ref p) (upd H p (.lst (ys.map V.str)))
theorem cr_sortT : CallR X (.builtin "sorted") (rSortT X.K) := by
  intro pins s σ H xs us Q I r q
  obtain ⟨a, ks, ex, hs, lim, q⟩ := q
  subst ex
  obtain ⟨u, eu, rx⟩ := vals1 r
  subst eu
  cases rx
  obtain ⟨its, rv, ⟨ob, hob, hcl, nn, hdt⟩, _⟩ := I.tuple hs
  have hlen := rv.length
  rw [List.length_map] at hlen
  refine Calls.call_function_entry PyProof.Rows.kind_sorted PyProof.Rows.plain_sorted PyProof.Rows.entry_sorted (PyProof.Rows.args_sorted1 _) ?_
  unfold Builtin.«sorted»
  refine wpAny_bind (m := checkCount "sorted" 1 1 _) (wpAny_pure ?_)
  refine wpAny_bind (wpAny_collect_seq (A := X.A.in1) a (.inr rfl) hob hcl hdt (fun h2 hk => ?_) (by rw [List.size_toArray, sizeLine_eq]; omega))
  have el : its.toArray.toList = its := by simp
  rw [el]
  have sa : StrsAre its ks := rv.strs
  have I1 : Inv X pins σ H { s with heap := h2 } := I.kept (t' := s.toks) hk
  refine wpAny_bind (wpAny_newList ?_ (by rw [← hlen, sizeLine_eq]; omega))
  have oL : (h2.push (seqObj "list" its.toArray 0)).get? h2.objs.size = some (seqObj "list" its.toArray 0) := Heap.get?_push_size _ rfl
  show wpAny _ _ _ _ _ { s with heap := h2.push (seqObj "list" its.toArray 0) }
  refine wpAny_bind (wpAny_holding (wpAny_call_entry PyProof.Rows.slot_list_sort ⟨_, oL, rfl⟩ PyProof.Rows.entry_list_sort
    (list_sort_treeK strKind_oneLt (s := { s with heap := h2.push (seqObj "list" its.toArray 0) }) oL sa.keysOf (fun v1 v2 rest e => keyKind_strs (by rw [← e]; exact sa)) (by rw [← hlen]; exact lim) fun st hp hs2 => ⟨_, rfl, ?_⟩)
    (PyProof.Rows.args_list_sort _)))
  obtain ⟨ys, g1, g2, g3⟩ := sorted_out_str sa hp hs2
  obtain ⟨e2, he2⟩ := PyProof.Rows.sortedHeap_at (vs := its) (out := (arrOf st).map (·.2)) oL
  have hl2 : (ys.map V.str).length ≤ sizeLine := by
    rw [List.length_map, g2.length_eq]
    exact Nat.le_trans (Nat.le_of_lt lim) (by decide)
  refine wpAny_pure ⟨_, rfl, .ref h2.objs.size, upd H h2.objs.size (.lst (ys.map V.str)), I1.laid (t' := s.toks) (fun b u e => ?_) (Nat.le_refl _)
    (show ObjOk X.prog X.w _ _ _ (.lst (ys.map V.str)) from ⟨hl2, ((arrOf st).map (·.2)).toList, e2, vals_of_strs g1, by rw [Array.toArray_toList]; exact he2⟩), rfl, q ys _ g2 g3 (I1.hok.fresh (Nat.le_refl _))⟩
  have hb : b < h2.objs.size := Heap.lt_size e
  rw [PyProof.Rows.sortedHeap_old (Nat.ne_of_lt hb) (by rw [size_push']; exact Nat.lt_succ_of_lt hb)]
  exact Heap.get?_push_of_some _ e
end
section
variable {K : PySem.W.Frag} {cl : Str → Addr} {H : Hp} {Z : PA1} {Q : VK}
def strK : Key → Option Str
  | .inr x => some x
  | .inl _ => none
def strKs : List Key → Option (List Str)
  | [] => some []
  | k :: ks => match strK k, strKs ks with | some x, some l => some (x :: l) | _, _ => none
theorem strKs_eq : ∀ {ks : List Key} {xs}, strKs ks = some xs → ks = xs.map Sum.inr
  | [], _, h => by cases h; rfl
  | .inl i :: ks, _, h => by simp [strKs, strK] at h
  | .inr x :: ks, xs, h => by
    simp only [strKs, strK] at h
    cases e : strKs ks with
    | none => rw [e] at h; cases h
    | some l => rw [e] at h; cases h; rw [strKs_eq e]; rfl
def sortD : List D → Option T
  | [.lst ds] => (strsOf ds).bind fun xs => if xs.length < 64 then some (.lst ((sortS xs).map fun x => .fz (.str x))) else none
  | [.tup ds] => (strsOf ds).bind fun xs => if xs.length < 64 then some (.lst ((sortS xs).map fun x => .fz (.str x))) else none
  | [.dct ks] => (strKs (ks.map (·.1))).bind fun xs => if xs.length < 64 then some (.lst ((sortS xs).map fun x => .fz (.str x))) else none
  | _ => none
theorem strs_rpl : ∀ xs : List Str, RpL K cl H Z (xs.map D.str) (xs.map V.str)
  | [] => .nil
  | x :: xs => .cons (.str x) (strs_rpl xs)
theorem okr_strs (hz : ∀ a, Z a → H a ≠ none) {xs : List Str} (ok : OkR K cl H Z Q (some (.lst (xs.map fun x => .fz (.str x))))) {p : Addr} (np : H p = none) : Q (.ref p) (upd H p (.lst (xs.map V.str))) := by
  have e : (xs.map fun x => T.fz (.str x)) = (xs.map D.str).map .fz := by rw [List.map_map]; rfl
  rw [e] at ok
  exact okr_lst hz ok (strs_rpl xs) np
theorem callv_sort : CallV K cl (fun xs H Q => rSortedS K xs H Q ∨ rSortT K xs H Q ∨ (∃ (a : Addr) (kvs : List (Key × V)) (ks : List Str), xs = [.ref a] ∧ Rd H a (.dK kvs) ∧ kvs.map (·.1) = ks.map Sum.inr ∧ ks.length < 64 ∧
    ∀ ys p, ys.Perm ks → sortedS ys = true → H p = none → Q (.ref p) (upd H p (.lst (ys.map V.str))))) sortD := by
  intro xs vs H Z Q hz rs ok
  match xs, vs, rs, ok with
  | [.lst ds], [_], .cons (.lst (a := a) q0 q r) .nil, ok =>
    simp only [sortD] at ok
    cases e : strsOf ds with
    | none => rw [e] at ok; exact okr_none ok
    | some xs =>
      rw [e, Option.bind_some] at ok
      by_cases c : xs.length < 64
      · rw [if_pos c] at ok
        have := strsOf_rp r e
        subst this
        exact .inl ⟨a, xs, rfl, SqL.of q, c, fun ys p h1 h2 np => by rw [sortS_uniq h1 h2]; exact okr_strs hz ok np⟩
      · rw [if_neg c] at ok; exact okr_none ok
  | [.tup ds], [_], .cons (.tup (a := a) q0 q r) .nil, ok =>
    simp only [sortD] at ok
    cases e : strsOf ds with
    | none => rw [e] at ok; exact okr_none ok
    | some xs =>
      rw [e, Option.bind_some] at ok
      by_cases c : xs.length < 64
      · rw [if_pos c] at ok
        have := strsOf_rp r e
        subst this
        exact .inr (.inl ⟨a, xs, rfl, (TupP.sq q), c, fun ys p h1 h2 np => by rw [sortS_uniq h1 h2]; exact okr_strs hz ok np⟩)
      · rw [if_neg c] at ok; exact okr_none ok
  | [.dct ks], [_], .cons (.dct (a := a) (kvs := kvs) h0 h1 h2 r) .nil, ok =>
    simp only [sortD] at ok
    cases e : strKs (ks.map (·.1)) with
    | none => rw [e] at ok; exact okr_none ok
    | some xs =>
      rw [e, Option.bind_some] at ok
      by_cases c : xs.length < 64
      · rw [if_pos c] at ok
        exact .inr (.inr ⟨a, kvs, xs, rfl, h1, h2.symm.trans (strKs_eq e), c, fun ys p g1 g2 np => by rw [sortS_uniq g1 g2]; exact okr_strs hz ok np⟩)
      · rw [if_neg c] at ok; exact okr_none ok
end
section
variable {X : Cx} {cl : Str → Addr}
theorem fSort (hc : X.calm = true := by rfl) : CallW X cl (.builtin "sorted") sortD := ⟨_, CallR.or cr_sortedS (CallR.or cr_sortT (call_sortedD hc)), callv_sort⟩
end
end VL

namespace VL
open PySem PySem.Spec PyProof.Rows L2

/-! ### what is not reached -/
section
variable {X : Cx} {cl : Str → Addr} {kp : Keep}
def eNo : Ev T := fun _ => none
def bNo : Ev Bool := fun _ => none
theorem ie_no {e : Expr} : IE X cl e eNo := ⟨fun W tk => ⟨fun _ _ _ => False, ⟨fun _ _ _ _ _ _ h => h.elim⟩, fun _ _ _ _ _ _ _ _ h => h⟩⟩
theorem ib_no {e : Expr} : IB X cl e bNo := ⟨fun W tk => ⟨fun _ _ _ => False, ⟨fun _ _ _ _ _ _ h => h.elim⟩, fun _ _ _ _ _ _ _ _ h => h⟩⟩
end

/-! ### isinstance with a tuple of classes -/
section
variable {K : PySem.W.Frag} {cl : Str → Addr} {H : Hp} {Z : PA1} {Q : VK}
def tysOf : List D → Option (List String)
  | [] => some []
  | .ty b :: r => if knownTy b = true then (tysOf r).map (b :: ·) else none
  | _ :: _ => none
def isTyE : List D → Option T
  | [x, .tup cs] => match tyName x, tysOf cs with
    | some a, some ns => some (.fz (.bl (ns.any (under a))))
    | _, _ => none
  | [x, .ty b] => isTyD [x, .ty b]
  | _ => none
theorem tys_kit {a : String} {d : D} (h : tyName d = some a) : ∀ {cs : List D} {vs : List V} {ns : List String}, RpL K cl H Z cs vs → tysOf cs = some ns → Paired ClsV vs (ns.map Value.type) ∧ PySem.W.kitAny K (.type a) (ns.map Value.type) = some (ns.any (under a))
  | [], _, _, .nil, e => by cases e; exact ⟨.nil, rfl⟩
  | .ty n :: cs, _, ns, .cons (.ty _) r, e => by
    simp only [tysOf] at e
    by_cases c : knownTy n = true
    case neg => rw [if_neg c] at e; cases e
    rw [if_pos c] at e
    cases e2 : tysOf cs with
    | none => rw [e2] at e; cases e
    | some l =>
      rw [e2] at e
      cases e
      obtain ⟨i1, i2⟩ := tys_kit h r e2
      have k1 : PySem.W.kitOne K (.type a) (.type n) = some (under a n) := kit_ty (kit_under h c)
      refine ⟨.cons (.ty n) i1, ?_⟩
      simp only [List.map_cons, List.any_cons, PySem.W.kitAny, k1]
      cases u : under a n with
      | true => simp
      | false => simp [i2]
def rIsiP (K : PySem.W.Frag) : List V → Hp → VK → Prop := fun xs H Q => ∃ (x : V) (tp : Addr) (cs : List V) (t : Value) (us : List Value) (b : Bool), xs = [x, .ref tp] ∧ SqT K H tp cs ∧ Paired ClsV cs us ∧ TyX K H x t ∧ PySem.W.kitAny K t us = some b ∧ Q (.bl b) H
theorem call_isiP {X : Cx} : CallR X (.builtin "isinstance") (rIsiP X.K) := by
  intro pins s σ H xs us Q I r h
  obtain ⟨x, tp, cs, t, ws, b, rfl, hT, k, ty, e, q⟩ := h
  obtain ⟨u1, u2, rfl, r1, r2⟩ := vals2 r
  cases (show u2 = Value.ref tp from r2)
  obtain ⟨P, Z, p, hx⟩ := kit_of I r1 ty
  obtain ⟨its, rv, ⟨o, h1, h2, n, h3⟩, _⟩ := I.tuple hT
  have e3 := ClsV.all k rv
  subst e3
  obtain ⟨oc, od, dt, sl⟩ := o
  simp only at h2 h3
  subst h2 h3
  exact PySem.W.kia_tup Z I.kIn p h1 e hx fun tk => ⟨.bl b, H, I.tok tk, rfl, q⟩
theorem callv_isTyE : CallV K cl (fun xs H Q => rIsi K xs H Q ∨ rIsiP K xs H Q) isTyE := by
  intro xs vs H Z Q hz rs ok
  unfold isTyE at ok
  split at ok
  · rename_i x cs
    cases e : tyName x with
    | none => rw [e] at ok; exact okr_none ok
    | some a =>
      cases e2 : tysOf cs with
      | none => rw [e, e2] at ok; exact okr_none ok
      | some ns =>
        rw [e, e2] at ok
        match vs, rs with
        | [v, _], .cons rx (.cons (.tup (a := tp) (vs := ws) q0 q r) .nil) =>
          obtain ⟨i1, i2⟩ := tys_kit e r e2
          exact .inr ⟨v, tp, ws, _, _, _, rfl, TupP.sq q, i1, tyX_of rx e, i2, okr_fz hz ok (.bl _)⟩
  · exact .inl (callv_isTy _ _ H Z Q hz rs ok)
  · exact okr_none ok
end

/-! ### len(set(x)) -/
section
variable {K : PySem.W.Frag} {cl : Str → Addr} {H : Hp} {Z : PA1} {Q : VK}
def lenSetD : D → Option T
  | .lst ds => (keysL ds).bind fun ks => if ks.length < 4000 then some (.fz (.int (distK ks).length)) else none
  | .tup ds => (keysL ds).bind fun ks => if ks.length < 4000 then some (.fz (.int (distK ks).length)) else none
  | _ => none
theorem keyAt {P : Program} {w : World} : ∀ {ks : List Key} {us : List Value}, Vals (ks.map kV) us → ∀ (i : Nat) (v : Value), us[i]? = some v → ∃ k, ks[i]? = some k ∧ (mixKind P w).is k v = true
  | [], _, .nil, i, v, h => by simp at h
  | k :: ks, _, .cons r rs, 0, v, h => by
    simp at h; subst h
    exact ⟨k, rfl, kV_is r⟩
  | k :: ks, _, .cons r rs, i + 1, v, h => by
    obtain ⟨k2, h1, h2⟩ := keyAt rs i v (by simpa using h)
    exact ⟨k2, by simpa using h1, h2⟩
end
section
variable {X : Cx} {cl : Str → Addr}
def tLset (K : PySem.W.Frag) (ta : TE) : TE := fun σ H Q => ta σ H fun x H1 => ∃ l, ∃ ks : List Key, x = .ref l ∧ (SqL K H1 l (ks.map kV) ∨ SqT K H1 l (ks.map kV)) ∧ ks.length < 4000 ∧ Q (.int (distK ks).length) H1
theorem pe_lset {a : Expr} {ta : TE} {p p2 q pos : Pos} (hc : X.calm = true) (hm : X.mg "len" = none) (hm2 : X.mg "set" = none) (ha : PE X a ta) (hg : Gl X "len") (hg2 : Gl X "set")
    (na : starEach [a] X.env = (false, eval a X.env) :: starEach [] X.env) : PE X (.Call (.Name "len" p) [.Call (.Name "set" p2) [a] [] q] [] pos) (tLset X.K ta) := by
  refine ⟨fun pins s σ H Q I h => ?_⟩
  refine Call_ (ld_blt I hg hm boot_len ?_)
  refine PyProof.Rows.callWith_builtin1 (PyProof.Rows.args_cons ?_ rfl) rfl rfl
  refine Call_ (ld_blt I hg2 hm2 boot_set ?_)
  refine PyProof.Rows.callWith_type1 (PyProof.Rows.args_cons (thn (ha.run pins s σ H _ I h) fun v s1 ⟨x, H1, I1, r1, q1⟩ => PyProof.Rows.args_nil ?_) na) na rfl
  obtain ⟨l, ks, rfl, hq, lim, q1⟩ := q1
  cases r1
  have lim2 : ks.length + 1 < scanBound := by unfold scanBound; omega
  have fin : ∀ (h2 : Heap) (tk : Nat), h2.SetOf (mixKind X.prog X.w) s1.heap.objs.size (memK (distK ks)) (distK ks).length →
      (∀ b o, b < s1.heap.objs.size → s1.heap.get? b = some o → h2.get? b = some o) →
      wpAny (model X.prog X.w) X.A (spliced (backTo pos (starEach [] X.env))) (fun vs s2 => wpAny (model X.prog X.w) X.A (call (.builtin "len") (Value.ref s1.heap.objs.size :: vs)) (EP X pins σ Q) X.xe s2) X.xe { s1 with heap := h2, toks := tk } := fun h2 tk so kk => by
    refine PyProof.Rows.args_nil ?_
    obtain ⟨o, es, ep, t, ho, hex, hd, _, _, _, hf, hn⟩ := so
    have I2 : Inv X pins σ H1 { s1 with heap := h2, toks := tk } := I1.kept fun b o e => kk b o (Heap.lt_size e) e
    have hle := distK_le ks.length ks rfl
    refine call_len_set ho hex hd hf (by rw [hn]; omega) ⟨.int (distK ks).length, H1, I2.tok _, ⟨_, by rw [hn]⟩, q1⟩
  rcases hq with hq | hq
  · obtain ⟨its, r, ⟨o, n, ho, hcl, _, hdt⟩, hz⟩ := I1.list hq
    have hlen := r.length
    rw [List.length_map] at hlen
    exact set_of_seq (.inl rfl) (I1.ok.hd hc) ⟨o, n, ho, hcl, hdt⟩ (by rw [List.size_toArray, hlen]) (fun i v hv => keyAt r i v (by simpa using hv)) lim2 fun h2 tk so kk => fin h2 tk so kk
  · obtain ⟨its, r, ⟨o, ho, hcl, n, hdt⟩, hz⟩ := I1.tuple hq
    have hlen := r.length
    rw [List.length_map] at hlen
    exact set_of_seq (.inr rfl) (I1.ok.hd hc) ⟨o, n, ho, hcl, hdt⟩ (by rw [List.size_toArray, hlen]) (fun i v hv => keyAt r i v (by simpa using hv)) lim2 fun h2 tk so kk => fin h2 tk so kk
theorem ie_lset {a : Expr} {ta : Ev T} {p p2 q pos : Pos} (hm : X.mg "len" = none) (hm2 : X.mg "set" = none) (ha : IE X cl a ta) (hc : X.calm = true := by rfl) (hg : Gl X "len" := by rfl) (hg2 : Gl X "set" := by rfl)
    (na : starEach [a] X.env = (false, eval a X.env) :: starEach [] X.env := by rfl) : IE X cl (.Call (.Name "len" p) [.Call (.Name "set" p2) [a] [] q] [] pos) (eUn lenSetD ta) := by
  refine ⟨fun W tk => ?_⟩
  obtain ⟨te, pe, qe⟩ := ha.fz W tk
  refine ⟨_, pe_lset hc hm hm2 pe hg hg2 na, fun E σ H Z S Q oe ok sat => ?_⟩
  refine qe E σ H Z S _ oe ok (satD_bnd (β := T) (κ := VK) (q := Q) sat fun x E1 sat1 v H1 Z1 S1 oe1 rp1 st1 ok1 => ?_)
  have okr := op_fin (W := W) oe1 ok1 (SatV.re st1 sat1 : SatV X.K cl W σ H1 Z1 S1 Q (opt (lenSetD (frz x)) E1))
  generalize frz x = d at rp1 okr
  cases rp1 with
  | @lst l vs ds q0 q1 r =>
    simp only [lenSetD] at okr
    cases e : keysL ds with
    | none => rw [e] at okr; exact okr_none okr
    | some ks =>
      rw [e, Option.bind_some] at okr
      by_cases c : ks.length < 4000
      case neg => rw [if_neg c] at okr; exact okr_none okr
      rw [if_pos c] at okr
      have := keysL_rp r e
      subst this
      exact ⟨l, ks, rfl, .inl (SqL.of q1), c, okr_fz ok1.za okr (.int _)⟩
  | @tup l vs ds q0 q1 r =>
    simp only [lenSetD] at okr
    cases e : keysL ds with
    | none => rw [e] at okr; exact okr_none okr
    | some ks =>
      rw [e, Option.bind_some] at okr
      by_cases c : ks.length < 4000
      case neg => rw [if_neg c] at okr; exact okr_none okr
      rw [if_pos c] at okr
      have := keysL_rp r e
      subst this
      exact ⟨l, ks, rfl, .inr ((TupP.sq q1)), c, okr_fz ok1.za okr (.int _)⟩
  | _ => exact okr_none okr

/-! ### list(d.values()) -/
def tLvals (te : TE) : TE := fun σ H Q => te σ H fun x H1 => ∃ (d : Addr) (kvs : List (Key × V)), x = .ref d ∧ Rd H1 d (.dK kvs) ∧ ∀ p, H1 p = none → Q (.ref p) (upd H1 p (.lst (kvs.map (·.2))))
theorem vals_at : ∀ {kvs : List (Key × V)} {vs : List (Key × Value)} {us : List Value}, KV kvs vs → us.length = vs.length → (∀ (j : Nat) (v : Value), us[j]? = some v → ∃ k, vs[j]? = some (k, v)) → Vals (kvs.map (·.2)) us
  | [], _, [], .nil, _, _ => .nil
  | [], _, _ :: _, .nil, h, _ => by simp at h
  | p :: kvs, _, [], .cons h t, hl, _ => by simp at hl
  | p :: kvs, _, u :: us, .cons h t, hl, hx => by
    obtain ⟨k, e⟩ := hx 0 u rfl
    have e' := Option.some.inj e
    refine .cons ?_ (vals_at t (by simpa using hl) fun j v e2 => ?_)
    · have := h.2
      rw [e'] at this
      exact this
    · obtain ⟨k2, e3⟩ := hx (j + 1) v (by simpa using e2)
      exact ⟨k2, by simpa using e3⟩
theorem pe_lvals {e : Expr} {te : TE} {p apos cpos pos : Pos} (hc : X.calm = true) (he : PE X e te) (hg : Gl X "list") (hm : X.mg "list" = none) (hbase : attributeBase e "values" X.env (eval e X.env) = eval e X.env) (hline : (apos.endLine == cpos.line) = true)
    (hs : starEach [.Call (.Attribute e "values" apos) [] [] cpos] X.env = (false, eval (.Call (.Attribute e "values" apos) [] [] cpos) X.env) :: starEach [] X.env) :
    PE X (.Call (.Name "list" p) [.Call (.Attribute e "values" apos) [] [] cpos] [] pos) (tLvals te) := by
  refine ⟨fun pins s σ H Q I hq => ?_⟩
  refine wpAny_Call_Name_kw (ld_blt I hg hm boot_list ?_)
  refine PyProof.Rows.callWith_type1 ?_ hs rfl
  rw [hs]
  show wpAny _ _ (spliced ((false, eval (.Call (.Attribute e "values" apos) [] [] cpos) X.env) :: backTo pos (starEach [] X.env))) _ _ s
  refine Calls.spliced_cons ?_
  refine wpAny_Call_method (T := "dict") (id := "dict.values") hbase rfl hline F.plainAttrs_dict F.slot_dict_values F.type_dict_values (thn (he.run pins s σ H _ I hq) fun u s1 ⟨x, H1, I1, rx, d, kvs, ex, hd, q⟩ => ?_)
  subst ex
  obtain rfl : u = Value.ref d := rx
  obtain ⟨hz, hs0, vs, kv, hdo⟩ := dk_rd I1.hok hd
  obtain ⟨ep, hat⟩ := hdo.dictAt
  have lk : kvs.length = vs.length := Paired.length kv
  have I2 : Inv X pins σ H1 { s1 with heap := s1.heap.push { cls := .type "dict_values", data := .fields #[.ref d] } } := I1.kept (t' := s1.toks) fun b ob q => Heap.get?_push_of_some _ q
  refine ⟨hdo.typeIs, hdo.mapOf.noDict, ?_⟩
  show wpAny _ _ (callWith cpos (.builtin "dict.values") [.ref d] [] []) _ X.xe s1
  refine method_meetsIn F.slot_dict_values F.entry_dict_values rfl (PySem.evalArgs_none ⟨rfl, hdo.typeIs, F.args_dict_values_1 _, _, meets_dict_values (mixKind X.prog X.w) d hs0, ⟨vs, hdo⟩, ?_⟩)
  refine Calls.spliced_nil ?_
  refine PySem.W.kdl_call (PySem.W.kdl_values (knd := mixKind X.prog X.w) (kvs := vs) (ep := ep)) (I1.ok.hd hc) ⟨⟨_, Heap.get?_push_size _ rfl, rfl, rfl⟩, hat.push _⟩ (by omega) fun h2 tk acc c hk hS hacc => ?_
  have hv : Vals (kvs.map (·.2)) acc.toList := vals_at kv (by rw [Array.length_toList]; exact hacc.1) fun j v e => hacc.2 j v (by rw [← Array.getElem?_toList]; exact e)
  refine ⟨.ref _, _, I2.laid (t' := tk) hk (Nat.le_refl _) (show ObjOk X.prog X.w _ _ _ (.lst (kvs.map (·.2))) from ⟨by rw [List.length_map]; exact hz, acc.toList, c, hv, by rw [Array.toArray_toList]; exact hS⟩), rfl, q _ (I2.hok.fresh (Nat.le_refl _))⟩
def lvalsD : D → Option T
  | .dct ks => some (.lst ((valsOf ks).map .fz))
  | _ => none
theorem ie_lvals {e : Expr} {t : Ev T} {p apos cpos pos : Pos} (hm : X.mg "list" = none) (he : IE X cl e t) (hc : X.calm = true := by rfl) (hg : Gl X "list" := by rfl) (hbase : attributeBase e "values" X.env (eval e X.env) = eval e X.env := by rfl) (hline : (apos.endLine == cpos.line) = true := by rfl)
    (hs : starEach [.Call (.Attribute e "values" apos) [] [] cpos] X.env = (false, eval (.Call (.Attribute e "values" apos) [] [] cpos) X.env) :: starEach [] X.env := by rfl) :
    IE X cl (.Call (.Name "list" p) [.Call (.Attribute e "values" apos) [] [] cpos] [] pos) (eUn lvalsD t) := by
  refine ⟨fun W tk => ?_⟩
  obtain ⟨te, pe, qe⟩ := he.fz W tk
  refine ⟨_, pe_lvals hc pe hg hm hbase hline hs, fun E σ H Z S Q oe ok sat => ?_⟩
  refine qe E σ H Z S _ oe ok (satD_bnd (β := T) (κ := VK) (q := Q) sat fun x E1 sat1 v H1 Z1 S1 oe1 rp1 st1 ok1 => ?_)
  have okr := op_fin (W := W) oe1 ok1 (SatV.re st1 sat1 : SatV X.K cl W σ H1 Z1 S1 Q (opt (lvalsD (frz x)) E1))
  generalize frz x = d at rp1 okr
  cases rp1 with
  | @dct a kvs ks h0 h1 h2 r => exact ⟨a, kvs, rfl, h1, fun p np => okr_lst (ds := valsOf ks) ok1.za okr r np⟩
  | _ => exact okr_none okr
/-- of a place whose values are frozen -/
def eLvP (tp : Ev Loc) : Ev T := fun E => bnd (tp E) fun l E1 => match getE E1 l with
  | some (.dct ks) => match fzs (ks.map (·.2)) with
    | some ds => some (.ok (.lst (ds.map .fz)) E1)
    | none => none
  | _ => none
theorem ie_lvp {e : Expr} {tp : Ev Loc} {p apos cpos pos : Pos} (hm : X.mg "list" = none) (he : IP X cl e tp) (hc : X.calm = true := by rfl) (hg : Gl X "list" := by rfl) (hbase : attributeBase e "values" X.env (eval e X.env) = eval e X.env := by rfl) (hline : (apos.endLine == cpos.line) = true := by rfl)
    (hs : starEach [.Call (.Attribute e "values" apos) [] [] cpos] X.env = (false, eval (.Call (.Attribute e "values" apos) [] [] cpos) X.env) :: starEach [] X.env := by rfl) :
    IE X cl (.Call (.Name "list" p) [.Call (.Attribute e "values" apos) [] [] cpos] [] pos) (eLvP tp) := by
  refine ⟨fun W tk => ?_⟩
  obtain ⟨te, pe, qe⟩ := he.run W tk
  refine ⟨_, pe_lvals hc pe hg hm hbase hline hs, fun E σ H Z S Q oe ok sat => ?_⟩
  refine qe E σ H Z S _ oe ok ?_
  unfold eLvP at sat
  match hE : tp E, sat with
  | none, sat => exact sat.elim
  | some (.ex x E1), sat => exact sat
  | some (.ok l E1), sat =>
    simp only [bnd_ok] at sat
    match hg' : getE E1 l, sat with
    | none, sat => exact sat.elim
    | some (.fz _), sat => exact sat.elim
    | some (.tup _), sat => exact sat.elim
    | some (.lst _), sat => exact sat.elim
    | some (.dcT _), sat => exact sat.elim
    | some (.ins _ _), sat => exact sat.elim
    | some (.dct ks), sat =>
      refine ⟨by rw [hg']; rfl, fun w H1 Z1 S1 oe1 hv st1 ok1 => ?_⟩
      dsimp only at sat
      cases hf : fzs (ks.map (·.2)) with
      | none => rw [hf] at sat; exact (sat : False).elim
      | some ds =>
        rw [hf] at sat
        have sat2 : SatV X.K cl W σ H Z S Q (some (.ok (.lst (ds.map .fz)) E1)) := sat
        obtain ⟨w', Su, R, b1, b2, _⟩ := oe1.at hg'
        rw [hv] at b1
        cases b1
        cases b2 with
        | @dct a kvs _ _ R0 h1 h2 h3 h4 r =>
          refine ⟨a, kvs, rfl, .inl h1, fun p np => ?_⟩
          have okr : OkR X.K cl H1 Z1 Q (some (.lst (ds.map .fz))) := op_fin (W := W) oe1 ok1 (o := some (.lst (ds.map .fz))) (SatV.re st1 sat2)
          exact okr_lst ok1.za okr (fzs_rp r hf) np
end
end VL

namespace VL
open PySem PySem.Spec PyProof.Rows L2

/-! ### pop -/
section
variable {K : PySem.W.Frag} {cl : Str → Addr} {H : Hp} {Z : PA1}
theorem OwnL.erase : ∀ {ts vs} {S : PA1} {n : Nat} {t : T}, OwnL K cl H Z ts vs S → ts[n]? = some t →
    ∃ v, ∃ S1 S2 : PA1, vs[n]? = some v ∧ Own K cl H Z t v S1 ∧ OwnL K cl H Z (ts.eraseIdx n) (vs.eraseIdx n) S2 ∧ (∀ a, S1 a → S a) ∧ (∀ a, S2 a → S a) ∧ Dis S1 S2
  | _, _, _, _, _, .nil, h => by simp at h
  | _, _, S, 0, _, .cons (S1 := A1) (S2 := A2) q r a1 a2 d, h => by
    simp at h; subst h
    exact ⟨_, A1, A2, rfl, q, r, a1, a2, d⟩
  | _, _, S, n + 1, _, .cons (S1 := A1) (S2 := A2) q r a1 a2 d, h => by
    obtain ⟨v, S1, S2, h1, h2, h3, h4, h5, h6⟩ := OwnL.erase r (n := n) (by simpa using h)
    exact ⟨v, S1, Uni A1 S2, by simpa using h1, h2, .cons q h3 (fun _ z => .inl z) (fun _ z => .inr z) (fun a x y => d a x (h5 a y)), fun a z => a2 a (h4 a z), fun a z => z.elim (a1 a) fun z => a2 a (h5 a z), fun a x y => y.elim (fun y => d a y (h4 a x)) (h6 a x)⟩
def popIx : List T → List T → Option Nat
  | ts, [] => if ts = [] then none else some (ts.length - 1)
  | ts, [.fz (.int i)] => if -(2 ^ 63) ≤ i ∧ i < 2 ^ 63 then seqIndex? i ts.length else none
  | _, _ => none
def gPop : T → List T → Option (T × T)
  | .lst ts, xs => (popIx ts xs).bind fun n => (ts[n]?).map fun t => (t, .lst (ts.eraseIdx n))
  | _, _ => none
theorem erase_last {α : Type} : ∀ (xs : List α), xs.eraseIdx (xs.length - 1) = xs.dropLast
  | [] => rfl
  | [x] => rfl
  | x :: y :: r => by
    have ih := erase_last (y :: r)
    simp only [List.length_cons, Nat.add_sub_cancel] at ih ⊢
    simp [List.eraseIdx_cons_succ, ih]
end
section
variable {K : PySem.W.Frag} {cl : Str → Addr}
instance decNil {α : Type} (ts : List α) : Decidable (ts = []) := match ts with
  | [] => .isTrue rfl
  | _ :: _ => .isFalse fun h => nomatch h
end
section
variable {K : PySem.W.Frag} {cl : Str → Addr}
theorem mutv_pop : MutV K cl (fun x vs H Q => rPop x vs H Q ∨ rPopAt x vs H Q) gPop := by
  intro u xs w vs H Z Su Sx Q ow owx d ok h
  cases ow with
  | fz _ => exact (h : False).elim
  | tup _ _ _ _ => exact (h : False).elim
  | dct _ _ _ _ _ => exact (h : False).elim
  | dcT _ _ _ _ _ => exact (h : False).elim
  | ins _ _ _ _ _ => exact (h : False).elim
  | @lst a us ts _ R h1 h2 h3 rl =>
    have e0 : gPop (.lst ts) xs = (popIx ts xs).bind fun n => (ts[n]?).map fun t => (t, .lst (ts.eraseIdx n)) := rfl
    rw [e0] at h
    have fin : ∀ {n : Nat} {t : T}, ts[n]? = some t → (match (some (t, T.lst (ts.eraseIdx n)) : Option (T × T)) with
      | none => False
      | some (r', u') => ∀ v' H' (Sr Su' : PA1), Own K cl H' Z r' v' Sr → Own K cl H' Z u' (.ref a) Su' → Dis Sr Su' → Step H Z (Uni Su Sx) H' Z (Uni Sr Su') → Okk H' Z (Uni Sr Su') → (∀ a o, ¬ Su a → H a = some o → H' a = some o) → Q v' H') →
        ∃ v, us[n]? = some v ∧ Q v (upd H a (.lst (us.eraseIdx n))) := by
      intro n t ht q
      obtain ⟨v, S1, S2, e1, e2, e3, e4, e5, e6⟩ := rl.erase ht
      obtain ⟨st, ok', k⟩ := wr_step (o := .lst (us.eraseIdx n)) ok (D := a) (.inl h2)
      have kz : ∀ b, Z b → Kept H (upd H a (.lst (us.eraseIdx n))) b := fun b z => .of fun p e => k b p (fun q => ok.dis b (.inl (q ▸ h2)) z) e
      have r1 := e3.mono (fun _ z => z) kz fun b p z e => k b p (h3 b (e5 b z)).2 e
      have q1 := e2.mono (fun _ z => z) kz fun b p z e => k b p (h3 b (e4 b z)).2 e
      have sub : ∀ b, Uni S1 (fun b => b = a ∨ S2 b) b → Uni Su Sx b := fun b z => z.elim (fun z => .inl (h3 b (e4 b z)).1) fun z => .inl (z.elim (fun z => z ▸ h2) fun z => (h3 b (e5 b z)).1)
      refine ⟨v, e1, q v _ S1 (fun b => b = a ∨ S2 b) q1 ?_ (fun b x y => y.elim (fun y => (h3 b (e4 b x)).2 y) (e6 b x)) (st.less sub) (ok'.less sub) fun b o n e => k b o (fun q => n (q ▸ h2)) e⟩
      exact .lst (R := S2) upd_same (.inl rfl) (fun b z => ⟨.inr z, (h3 b (e5 b z)).2⟩) r1
    match xs, owx, h with
    | [], .nil, h =>
      simp only [popIx] at h
      by_cases c : ts = []
      · rw [if_pos c] at h; exact h.elim
      · rw [if_neg c, Option.bind_some] at h
        cases ht : ts[ts.length - 1]? with
        | none => rw [ht] at h; exact h.elim
        | some t =>
          rw [ht] at h
          obtain ⟨v, e1, q⟩ := fin ht h
          rw [rl.len] at e1 q
          rw [erase_last] at q
          exact .inl ⟨a, us, v, rfl, rfl, h1, e1, q⟩
    | [.fz (.int i)], .cons (.fz (.int _)) .nil _ _ _, h =>
      simp only [popIx] at h
      by_cases c : -(2 ^ 63) ≤ i ∧ i < 2 ^ 63
      case neg => rw [if_neg c] at h; exact h.elim
      rw [if_pos c] at h
      cases hi : seqIndex? i ts.length with
      | none => rw [hi] at h; exact h.elim
      | some n =>
        rw [hi, Option.bind_some] at h
        cases ht : ts[n]? with
        | none => rw [ht] at h; exact h.elim
        | some t =>
          rw [ht] at h
          obtain ⟨v, e1, q⟩ := fin ht h
          exact .inr ⟨a, us, i, n, v, rfl, rfl, h1, c.1, c.2, by rw [← rl.len]; exact hi, e1, q⟩
end

/-! ### index -/
def idxP : List PyData → PyData → Option Nat
  | [], _ => none
  | z :: r, d => if PyData.eqv z d = true then some 0 else (idxP r d).map (· + 1)
theorem idxP_some : ∀ {ds : List PyData} {d : PyData} {j : Nat}, idxP ds d = some j → ∃ z, ds[j]? = some z ∧ PyData.eqv z d = true ∧ ∀ (m : Nat) (z' : PyData), m < j → ds[m]? = some z' → PyData.eqv z' d = false
  | z :: r, d, j, h => by
    simp only [idxP] at h
    by_cases c : PyData.eqv z d = true
    · rw [if_pos c] at h
      cases h
      exact ⟨z, rfl, c, fun m z' hm => absurd hm (Nat.not_lt_zero m)⟩
    · rw [if_neg c] at h
      cases e : idxP r d with
      | none => rw [e] at h; cases h
      | some i =>
        rw [e] at h
        obtain rfl : i + 1 = j := Option.some.inj h
        obtain ⟨y, h1, h2, h3⟩ := idxP_some e
        refine ⟨y, by simpa using h1, h2, fun m z' hm hz => ?_⟩
        cases m with
        | zero =>
          simp at hz
          subst hz
          cases q : PyData.eqv z d with
          | true => exact absurd q c
          | false => rfl
        | succ m => exact h3 m z' (by omega) (by simpa using hz)
section
variable {K : PySem.W.Frag} {cl : Str → Addr}
def mIndex : D → List D → Option T
  | .lst xs, [y] => match toPyL xs, toPy y with
    | some ds, some d => if SeqAt.shaped (.list ds) = true ∧ SeqAt.shaped d = true then (idxP ds d).map fun j => .fz (.int (j : Nat)) else none
    | _, _ => none
  | _, _ => none
theorem mtv_index : MtV K cl (rIndexD K) mIndex := by
  intro x v xs vs H Z Q hz rx rs ok
  match x, xs, vs, rs, ok with
  | .lst xs, [y], [yv], .cons ry .nil, ok =>
    simp only [mIndex] at ok
    cases e1 : toPyL xs with
    | none => rw [e1] at ok; exact okr_none ok
    | some ds =>
      cases e2 : toPy y with
      | none => rw [e1, e2] at ok; exact okr_none ok
      | some d =>
        rw [e1, e2] at ok
        dsimp only at ok
        by_cases c : SeqAt.shaped (.list ds) = true ∧ SeqAt.shaped d = true
        case neg => rw [if_neg c] at ok; exact okr_none ok
        rw [if_pos c] at ok
        cases e3 : idxP ds d with
        | none => rw [e3] at ok; exact okr_none ok
        | some j =>
          rw [e3] at ok
          obtain ⟨z, h1, h2, h3⟩ := idxP_some e3
          have dl : Dp K H v (.list ds) := dp_of rx (by simp only [toPy, e1])
          cases rx with
          | @lst a ws _ q0 q1 r => exact ⟨a, yv, d, ds, j, z, rfl, rfl, dl, dp_of ry e2, c.1, c.2, h1, h2, h3, okr_fz hz ok (.int _)⟩
end

/-! ### len of dicts, too -/
section
variable {K : PySem.W.Frag} {cl : Str → Addr} {X : Cx}
theorem cr_lenR : CallR X (.builtin "len") (fun xs H Q => ∃ (a : Addr) (kvs : List (Key × V)), xs = [.ref a] ∧ Rd H a (.dK kvs) ∧ Q (.int kvs.length) H) := by
  intro pins s σ H xs us Q I r q
  obtain ⟨a, kvs, ex, hd, q⟩ := q
  subst ex
  obtain ⟨u, eu, rx⟩ := vals1 r
  subst eu
  cases rx
  exact d_len I hd fun t s' I' => ⟨.int kvs.length, H, I', ⟨t, rfl⟩, q⟩
def lenE : List D → Option T
  | [.dct ks] => some (.fz (.int ks.length))
  | [.str x] => lenD [.str x]
  | [.lst xs] => some (.fz (.int xs.length))
  | [.tup xs] => some (.fz (.int xs.length))
  | _ => none
theorem callv_lenE : CallV K cl (fun xs H Q => (∃ x n, xs = [x] ∧ LenV K x H n ∧ Q (.int n) H) ∨ (∃ (a : Addr) (kvs : List (Key × V)), xs = [.ref a] ∧ Rd H a (.dK kvs) ∧ Q (.int kvs.length) H)) lenE := by
  intro xs vs H Z Q hz rs ok
  unfold lenE at ok
  split at ok
  · rename_i ks
    match vs, rs with
    | [_], .cons (.dct (a := a) (kvs := kvs) h0 h1 h2 r) .nil =>
      have hl : ks.length = kvs.length := by have := congrArg List.length h2; simpa using this
      exact .inr ⟨a, kvs, rfl, h1, by rw [← hl]; exact okr_fz hz ok (.int _)⟩
  · exact .inl (callv_len _ _ H Z Q hz rs ok)
  · exact .inl (callv_len _ _ H Z Q hz rs ok)
  · exact .inl (callv_len _ _ H Z Q hz rs ok)
  · exact okr_none ok
theorem fLenE : CallW X cl (.builtin "len") lenE := ⟨_, CallR.or call_len cr_lenR, callv_lenE⟩
end
/-! ### short names -/
section
variable {X : Cx} {cl : Str → Addr} {kp : Keep} {pos : Pos} {k : Nat} {a b c e : Expr} {ta tb tc : Ev T} {es : List Expr} {ts : Ev (List D)}
theorem fIsiE : CallW X cl (.builtin "isinstance") isTyE := ⟨_, CallR.or call_isi call_isiP, callv_isTyE⟩
theorem bMulE (ha : IE X cl a ta) (hb : IE X cl b tb) : IE X cl (.BinOp a .Mult b pos) (eBin mulE ta tb) := ie_bin (op_mulA.or op_rep) opv_mulE ha hb
theorem mIndexR (hr : Room k X.A) {o : Expr} {to : Ev T} {apos cpos : Pos} (ho : IE X cl o to) (ha : IA X cl [e] ts) (hbase : attributeBase o "index" X.env (eval o X.env) = eval o X.env := by rfl)
    (hfew : ((backTo cpos (starEach [e] X.env)).all (fun x => !x.1) && (backToKw cpos (keywordEach [] X.env)).all (fun x => x.1.isSome)
      && decide (([e] : List Expr).length + ([] : List Keyword).length + (if ([] : List Keyword).isEmpty then 0 else 1) < 30)) = true := by rfl)
    (hline : (apos.endLine == cpos.line) = true := by rfl) (hs : starEach [e] X.env = (false, eval e X.env) :: starEach [] X.env := by rfl) (hplain : (backTo cpos (starEach [] X.env)).any (·.1) = false := by rfl) :
    IE X cl (.Call (.Attribute o "index" apos) [e] [] cpos) (eMv "list" mIndex to ts) := ie_mv F.plainAttrs_list F.slot_list_index F.type_list_index (mt_indexD (u65 hr)) mtv_index ho ha hbase hfew hline hs hplain
theorem mPopR (i : Nat) {o : Expr} {tp : Ev Loc} {ms : Ev (List T)} {apos cpos : Pos} (ho : IP X cl o tp) (ha : IMs X cl i [e] ms) (hbase : attributeBase o "pop" X.env (eval o X.env) = eval o X.env := by rfl)
    (hfew : ((backTo cpos (starEach [e] X.env)).all (fun x => !x.1) && (backToKw cpos (keywordEach [] X.env)).all (fun x => x.1.isSome)
      && decide (([e] : List Expr).length + ([] : List Keyword).length + (if ([] : List Keyword).isEmpty then 0 else 1) < 30)) = true := by rfl)
    (hline : (apos.endLine == cpos.line) = true := by rfl) (hs : starEach [e] X.env = (false, eval e X.env) :: starEach [] X.env := by rfl) (hplain : (backTo cpos (starEach [] X.env)).any (·.1) = false := by rfl) :
    IE X cl (.Call (.Attribute o "pop" apos) [e] [] cpos) (eMt i "list" gPop tp ms) := ie_mt i F.plainAttrs_list F.slot_list_pop F.type_list_pop (MtR.or mt_pop mt_popAt) mutv_pop ho ha hbase hfew hline hs hplain
theorem mPopR0 (i : Nat) {o : Expr} {tp : Ev Loc} {apos cpos : Pos} (ho : IP X cl o tp) (hbase : attributeBase o "pop" X.env (eval o X.env) = eval o X.env := by rfl) (hline : (apos.endLine == cpos.line) = true := by rfl) :
    IE X cl (.Call (.Attribute o "pop" apos) [] [] cpos) (eMt i "list" gPop tp msNil) := ie_mt0 i F.plainAttrs_list F.slot_list_pop F.type_list_pop (MtR.or mt_pop mt_popAt) mutv_pop ho hbase hline
end
end VL

namespace VL
open PySem PySem.Spec PyProof.Rows L2

/-! ### a call beside a held name: its arguments are read quietly, what it changes is handed over -/
structure IMq (X : Cx) (cl : Str → Addr) (es : List Expr) (ms : List (Option Nat)) (t : En → Option (List T × En)) : Prop where
  run : ∀ W, Takes X W → ∃ ta, PA X es ta ∧ ∀ E σ H Z (S : PA1) (Q : List V → Hp → Prop) xs E1, OwnE X.K cl H Z E σ S → Okk H Z S → t E = some (xs, E1) →
    (∀ vs H' (Sq S' : PA1), OwnE X.K cl H' Z E1 σ S' → OwnL X.K cl H' Z xs vs Sq → Dis Sq S' → Mv σ ms vs → Step H Z S H' Z (Uni Sq S') → Okk H' Z (Uni Sq S') → (∀ a o, H a = some o → H' a = some o) → Q vs H') → ta σ H Q
  away : ∀ E xs E1 j, t E = some (xs, E1) → some j ∉ ms → E1[j]? = E[j]?
section
variable {X : Cx} {cl : Str → Addr} {a : Expr} {es : List Expr} {ta : Ev T} {ts : En → Option (List T × En)} {ms : List (Option Nat)} {pos : Pos}
def kNil : En → Option (List T × En) := fun E => some ([], E)
theorem imq_nil : IMq X cl [] [] kNil := ⟨fun W tk => ⟨_, pa_nil, fun E σ H Z S Q xs E1 oe ok h q => by
  cases h
  exact q [] H Emp S oe .nil (fun _ z _ => z) .nil (Step.refl.less fun _ z => z.elim False.elim id) (ok.less fun _ z => z.elim False.elim id) fun _ _ e => e⟩, fun E xs E1 j h _ => by cases h; rfl⟩
def kLate (i : Nat) (ts : En → Option (List T × En)) : En → Option (List T × En) := fun E => match E[i]? with
  | some (some _) => match ts E with
    | some (xs, E1) => match E1[i]? with
      | some (some t) => some (t :: xs, E1.set i none)
      | _ => none
    | none => none
  | _ => none
theorem imq_late (i : Nat) {x : Str} {pos' : Pos} (hs : IMq X cl es ms ts) (hN : X.N[i]? = some x := by rfl) (hv : Vis X.env.scope x := by first | exact Or.inl rfl | exact Or.inr (Or.inl rfl) | exact Or.inr (Or.inr rfl)) (hd : (x == ("__debug__" : Str)) = false := by decide) (hcd : (x == ("__classdict__" : Str)) = false := by decide)
    (hst : starEach (.Name x pos' :: es) X.env = (false, eval (.Name x pos') X.env) :: starEach es X.env := by rfl) : IMq X cl (.Name x pos' :: es) (some i :: ms) (kLate i ts) := by
  refine ⟨fun W tk => ?_, fun E xs E1 j h hj => ?_⟩
  · obtain ⟨ts', ps, qs⟩ := hs.run W tk
    refine ⟨_, pa_cons (pe_var hN hv hd hcd) ps hst, fun E σ H Z S Q xs E1 oe ok h q => ?_⟩
    unfold kLate at h
    split at h
    case h_2 => cases h
    rename_i t0 hE
    split at h
    case h_2 => cases h
    rename_i ys E2 hT
    split at h
    case h_2 => cases h
    rename_i t hE1
    cases h
    obtain ⟨v, Si, Sr, h1, h2, h3, h4, h5, h6⟩ := oe.take hE
    refine ⟨v, h1, ?_⟩
    refine qs E σ H Z S _ ys E2 oe ok hT fun vs H1 Sq S1 oe1 ow1 d1 mv st1 ok1 kp1 => ?_
    obtain ⟨v', Si', Sr', g1, g2, g3, g4, g5, g6⟩ := oe1.take hE1
    rw [h1] at g1
    cases g1
    have sub : ∀ a, Uni (Uni Si' Sq) Sr' a → Uni Sq S1 a := fun a z => z.elim (fun z => z.elim (fun z => .inr (g5 a z)) .inl) fun z => .inr (g6 a z)
    exact q (v :: vs) H1 (Uni Si' Sq) Sr' g3 (.cons g2 ow1 (fun _ z => .inl z) (fun _ z => .inr z) fun a x y => d1 a y (g5 a x)) (fun a x y => x.elim (fun x => g4 a x y) fun x => d1 a x (g6 a y)) (.so h1 mv) (st1.less sub) (ok1.less sub) kp1
  · unfold kLate at h
    split at h
    case h_2 => cases h
    split at h
    case h_2 => cases h
    rename_i ys E2 hT
    split at h
    case h_2 => cases h
    cases h
    simp only [List.mem_cons, not_or] at hj
    rw [List.getElem?_set_ne (fun e => hj.1 (by rw [e]))]
    exact hs.away E ys E2 j hT hj.2
def kVar (i : Nat) (ts : En → Option (List T × En)) : En → Option (List T × En) := fun E => match E[i]? with
  | some (some (.fz d)) => match ts E with
    | some (xs, E1) => some (.fz d :: xs, E1)
    | none => none
  | _ => none
theorem imq_var (i : Nat) {x : Str} {pos' : Pos} (hs : IMq X cl es ms ts) (hN : X.N[i]? = some x := by rfl) (hv : Vis X.env.scope x := by first | exact Or.inl rfl | exact Or.inr (Or.inl rfl) | exact Or.inr (Or.inr rfl)) (hd : (x == ("__debug__" : Str)) = false := by decide) (hcd : (x == ("__classdict__" : Str)) = false := by decide)
    (hst : starEach (.Name x pos' :: es) X.env = (false, eval (.Name x pos') X.env) :: starEach es X.env := by rfl) : IMq X cl (.Name x pos' :: es) (none :: ms) (kVar i ts) := by
  refine ⟨fun W tk => ?_, fun E xs E1 j h hj => ?_⟩
  · obtain ⟨ts', ps, qs⟩ := hs.run W tk
    refine ⟨_, pa_cons (pe_var hN hv hd hcd) ps hst, fun E σ H Z S Q xs E1 oe ok h q => ?_⟩
    unfold kVar at h
    split at h
    case h_2 => cases h
    rename_i d hE
    split at h
    case h_2 => cases h
    rename_i ys E2 hT
    cases h
    obtain ⟨v, Si, Sr, h1, h2, h3, h4, h5, h6⟩ := oe.take hE
    refine ⟨v, h1, ?_⟩
    refine qs E σ H Z S _ ys _ oe ok hT fun vs H1 Sq S1 oe1 ow1 d1 mv st1 ok1 kp1 => ?_
    cases h2 with
    | fz rp =>
      have rp1 : Rp X.K cl H1 Z d v := rp.keep kp1
      exact q (v :: vs) H1 Sq S1 oe1 (.cons (S1 := Emp) (.fz rp1) ow1 (fun _ z => z.elim) (fun _ z => z) fun _ z _ => z) d1 (.no mv) st1 ok1 kp1
  · unfold kVar at h
    split at h
    case h_2 => cases h
    split at h
    case h_2 => cases h
    rename_i ys E2 hT
    cases h
    exact hs.away E ys _ j hT fun z => hj (List.mem_cons_of_mem _ z)
def kPeek (t : Ev T) (ts : En → Option (List T × En)) : En → Option (List T × En) := fun E => match t (frzE E) with
  | some (.ok r _) => if clT r = true then match ts E with
    | some (xs, E1) => some (r :: xs, E1)
    | none => none else none
  | _ => none
theorem imq_peek (ha : IE X cl a ta) (hs : IMq X cl es ms ts) (hst : starEach (a :: es) X.env = (false, eval a X.env) :: starEach es X.env := by rfl) : IMq X cl (a :: es) (none :: ms) (kPeek ta ts) := by
  refine ⟨fun W tk => ?_, fun E xs E1 j h hj => ?_⟩
  · obtain ⟨ta', pa, qa⟩ := ha.run W tk
    obtain ⟨ts', ps, qs⟩ := hs.run W tk
    refine ⟨_, pa_cons pa ps hst, fun E σ H Z S Q xs E1 oe ok h q => ?_⟩
    unfold kPeek at h
    split at h
    case h_2 => cases h
    rename_i r E0 hE
    by_cases c : clT r = true
    case neg => rw [if_neg c] at h; cases h
    rw [if_pos c] at h
    split at h
    case h_2 => cases h
    rename_i ys E2 hT
    cases h
    refine qa (frzE E) σ H (Uni Z S) Emp _ (oe.frzE (fun _ z => .inl z) fun _ z => .inr z) ok.peek ?_
    rw [hE]
    intro v H1 Z1 Sr S0 oe1 ow1 d1 st1 ok1
    obtain ⟨s1, o1, dd, kp⟩ := peekStep ok st1 ok1
    have oeB := oe.mono (fun _ z => z) (fun a _ => .of (kp a)) fun a o _ e => kp a o e
    have owB : Own X.K cl H1 Z r v Sr := ow1.closed c
    have okB : Okk H1 Z S := o1.less fun _ z => .inr z
    refine qs E σ H1 Z S _ ys _ oeB okB hT fun vs H2 Sq S2 oe2 ow2 d2 mv st2 ok2 kp2 => ?_
    have d3 := st2.dis (R := Sr) (fun x z => o1.sa x (.inl z)) dd
    have ow3 := st2.own okB.dis dd owB
    have st3 := s1.trans (st2.frame (R := Sr))
    have ok3 := st2.okk (R := Sr) o1 ok2 dd
    have sub : ∀ x, Uni (Uni Sr Sq) S2 x → Uni Sr (Uni Sq S2) x := fun x z => z.elim (fun z => z.elim .inl fun z => .inr (.inl z)) fun z => .inr (.inr z)
    exact q (v :: vs) H2 (Uni Sr Sq) S2 oe2 (.cons ow3 ow2 (fun _ z => .inl z) (fun _ z => .inr z) fun x z y => d3 x z (.inl y)) (fun x z y => z.elim (fun z => d3 x z (.inr y)) fun z => d2 x z y) (.no mv) (st3.less sub) (ok3.less sub) fun a o e => kp2 a o (kp a o e)
  · unfold kPeek at h
    split at h
    case h_2 => cases h
    rename_i r E0 hE
    by_cases c : clT r = true
    case neg => rw [if_neg c] at h; cases h
    rw [if_pos c] at h
    split at h
    case h_2 => cases h
    rename_i ys E2 hT
    cases h
    exact hs.away E ys _ j hT fun z => hj (List.mem_cons_of_mem _ z)
theorem putB_ne : ∀ {ms : List (Option Nat)} {P : En} {E : En} {i : Nat}, some i ∉ ms → (putB ms P E)[i]? = E[i]?
  | [], P, E, i, _ => by cases P <;> rfl
  | none :: ms, [], E, i, _ => rfl
  | some j :: ms, [], E, i, _ => rfl
  | none :: ms, p :: P, E, i, h => putB_ne (ms := ms) fun z => h (List.mem_cons_of_mem _ z)
  | some j :: ms, p :: P, E, i, h => by
    show (putB ms P (E.set j p))[i]? = _
    rw [putB_ne (ms := ms) fun z => h (List.mem_cons_of_mem _ z)]
    exact List.getElem?_set_ne fun e => h (by rw [e]; exact List.mem_cons_self)
def eFnQ (F : List T → Option (Out T)) (ms : List (Option Nat)) (t : En → Option (List T × En)) : Ev T := fun E => match t E with
  | none => none
  | some (xs, E1) => match F xs with
    | none => none
    | some (.ok r P) => some (.ok r (putB ms P E1))
    | some (.ex x P) => some (.ex x (putB ms P E1))
theorem fnQ_fin (i : Nat) {W : WX} {F : List T → Option (Out T)} {n : Nat} {ts' : TA} (hs : ∀ E σ H Z (S : PA1) (Q : List V → Hp → Prop) xs E1, OwnE X.K cl H Z E σ S → Okk H Z S → ts E = some (xs, E1) →
    (∀ vs H' (Sq S' : PA1), OwnE X.K cl H' Z E1 σ S' → OwnL X.K cl H' Z xs vs Sq → Dis Sq S' → Mv σ ms vs → Step H Z S H' Z (Uni Sq S') → Okk H' Z (Uni Sq S') → (∀ a o, H a = some o → H' a = some o) → Q vs H') → ts' σ H Q)
    (away : ∀ E xs E1 j, ts E = some (xs, E1) → some j ∉ ms → E1[j]? = E[j]?) (hi : some i ∉ ms)
    (E : En) (σ : L2.St) (H : Hp) (Z S : PA1) (Q : VK) (oe : OwnE X.K cl H Z E σ S) (ok : Okk H Z S) (sat : SatVs X.K cl W i E σ H Z S Q (eFnQ F ms ts E)) (hn : ms.length = n) :
    ts' σ H fun vs H1 => SpF X.K cl n F vs H1 Q fun c d H' => W c d σ H' := by
  unfold eFnQ at sat
  cases hE : ts E with
  | none => rw [hE] at sat; exact (sat : False).elim
  | some p =>
    obtain ⟨xs, E1⟩ := p
    rw [hE] at sat
    dsimp only at sat
    refine hs E σ H Z S _ xs E1 oe ok hE fun vs H1 St S1 oe1 ow1 d1 mv st1 ok1 kp1 => ?_
    have hlen : vs.length = n := by
      rw [← hn]
      exact mv.len
    have okT : Okk H1 Z St := ok1.less fun _ z => .inl z
    have okS : Okk H1 Z S1 := ok1.less fun _ z => .inr z
    have d1' : Dis S1 St := fun x y z => d1 x z y
    have aw := away E xs E1 i hE hi
    have stay1 : Stay H σ H1 i E E1 := ⟨aw, (stay_all (i := i) oe kp1).2⟩
    have stay2 : ∀ {H2 : Hp} {Z2 S2 : PA1} (P : En), Step H1 Z St H2 Z2 S2 → Stay H σ H2 i E (putB ms P E1) := by
      intro H2 Z2 S2 P st2
      refine ⟨(putB_ne hi).trans aw, fun l w hl hg hv => ?_⟩
      have hv1 := stay1.2 l w hl hg hv
      have hg1 : (getE E1 l).isSome = true := by rw [getE_eq (E := E) (by rw [hl]; exact aw)]; exact hg
      unfold getE at hg1
      match hE1 : E1[l.i]?, hg1 with
      | some (some t), hg1 =>
        obtain ⟨v, Si, Sr, h1, h2, h3, h4, h5, h6⟩ := oe1.take hE1
        obtain ⟨u, hu⟩ := Option.isSome_iff_exists.mp hg1
        simp only [valE, h1] at hv1 ⊢
        exact h2.valKeep hu (fun a o z e => st2.kp a o e fun y => d1 a y (h5 a z)) hv1
    refine ⟨hlen, xs, Z, St, ow1, okT, ?_⟩
    cases hF : F xs with
    | none => rw [hF] at sat; exact (sat : False).elim
    | some o =>
      rw [hF] at sat
      cases o with
      | ok r P =>
        intro v H2 Z2 Sr S2 oP owr d2 st2 ok2
        have sat2 : SatVs X.K cl W i E σ H Z S Q (some (.ok r (VL.putB ms P E1))) := sat
        have dd := st2.dis okS.sa d1'
        have oe2 := st2.ownE okT.dis d1' oe1
        have st3 := st2.frame (R := S1)
        have ok3 := st2.okk (R := S1) (ok1.less fun _ z => z.elim .inr .inl) ok2 d1'
        have sub : ∀ x, Uni Sr (Uni S2 S1) x → Uni S1 (Uni Sr S2) x := fun x z => z.elim (fun z => .inr (.inl z)) fun z => z.elim (fun z => .inr (.inr z)) .inl
        refine sat2 v H2 Z2 Sr (Uni S2 S1) (oP.putB oe2 (fun x y z => dd x z (.inr y)) mv) owr (fun x y z => z.elim (d2 x y) fun z => dd x z (.inl y)) (stay2 P st2) ?_ (ok3.less sub)
        exact ((st1.trans ((st3.more (R := Uni St S1) fun x z => z.elim .inr .inl))).less sub)
      | ex x P =>
        intro c d H2 Z2 S2 oP xr st2 ok2
        have sat2 : SatX X.K cl W σ H Z S x (VL.putB ms P E1) := sat
        have dd := st2.dis okS.sa d1'
        have oe2 := st2.ownE okT.dis d1' oe1
        have st3 := st2.frame (R := S1)
        have ok3 := st2.okk (R := S1) (ok1.less fun _ z => z.elim .inr .inl) ok2 d1'
        have sub : ∀ x, Uni S2 S1 x → Uni S1 S2 x := fun x z => z.elim .inr .inl
        refine sat2 c d H2 Z2 (Uni S2 S1) (oP.putB oe2 (fun x y z => dd x z y) mv) xr ?_ (ok3.less sub)
        exact ((st1.trans ((st3.more (R := Uni St S1) fun x z => z.elim .inr .inl))).less sub)
end
section
variable {X : Cx} {cl : Str → Addr} {e : Expr} {es : List Expr} {ts : En → Option (List T × En)} {ms : List (Option Nat)} {pos : Pos} {k : Nat}
theorem ies_callQ (i : Nat) {x : Str} {p : Pos} {j : Nat} {ps : List Str} {F : List T → Option (Out T)} (hc : Cal X.prog X.w X.K X.mg X.base cl x j ps F) (hr : Room k X.A) (hg : X.A.guards = some []) (ha : IMq X cl (e :: es) ms ts) (hi : some i ∉ ms := by decide) (hj : j ≤ k := by decide) (hn : ms.length = ps.length := by rfl) (hgl : Gl X x := by rfl)
    (hdb : (x == ("__debug__" : Str)) = false := by decide) (he : starEach (e :: es) X.env = (false, eval e X.env) :: starEach es X.env := by rfl) (hpl : (backTo pos (starEach es X.env)).any (·.1) = false := by rfl) :
    IEs X cl i (.Call (.Name x p) (e :: es) [] pos) (eFnQ F ms ts) := by
  obtain ⟨f, fd, hm, hk, hb, hF⟩ := hc
  refine ⟨fun W tk => ?_⟩
  obtain ⟨ta, pa, qa⟩ := ha.run W tk
  refine ⟨fun σ H Q => ta σ H fun vs H1 => SpF X.K cl ps.length F vs H1 Q fun c d H' => W c d σ H', ⟨fun pins s σ H Q I h => ?_⟩, fun E σ H Z S Q oe ok sat => fnQ_fin i qa ha.away hi E σ H Z S Q oe ok sat hn⟩
  refine wpAny_Call_Name_kw (ld_glob I hgl hm ?_ hdb)
  refine PySem.W.callWith_K (h₀ := X.base) I.ok.mod.kin hk (thn (pa.run pos pins s σ H _ I h) fun us s1 ⟨vs, H1, I1, r, q⟩ => ⟨I1.kIn, ?_⟩) he hpl
  exact run_fv tk hF (hr.mono hj) hg hb I1 r q
/-- one argument beside a held name -/
def msOne (t : Ev T) : Ev (List T) := fun E => bnd (t E) fun r E1 => some (.ok [r] E1)
theorem ims_one {i : Nat} {t : Ev T} (h : IEs X cl i e t) (hst : starEach [e] X.env = (false, eval e X.env) :: starEach [] X.env := by rfl) : IMs X cl i [e] (msOne t) := by
  refine ⟨fun W tk => ?_⟩
  obtain ⟨te, p, q⟩ := h.run W tk
  refine ⟨_, pa_cons p pa_nil hst, fun E σ H Z S Q oe ok sat => ?_⟩
  refine q E σ H Z S _ oe ok ?_
  unfold msOne at sat
  match hE : t E, sat with
  | none, sat => exact sat
  | some (.ex x E1), sat => exact sat
  | some (.ok r E1), sat =>
    intro v H' Z' Sr S' a b d st s o
    have sat2 : SatMs X.K cl W i E σ H Z S Q (some (.ok [r] E1)) := sat
    exact sat2 [v] H' Z' Sr S' a (.cons (S2 := Emp) b .nil (fun _ z => z) (fun _ z => z.elim) fun _ _ z => z) d st s o
end
end VL

namespace VL
open PySem PySem.Spec PyProof.Rows L2
/-! ### the newer evaluators, applied -/
section
variable {α : Type} (E : En)
@[simp] theorem eFz_a (t : Ev T) : eFz t E = bnd (t E) fun r E1 => some (.ok (.fz (frz r)) E1) := rfl
@[simp] theorem eKf_a (t : Ev T) : eKf t E = bnd (t E) fun r E1 => some (.ok (kfz r) E1) := rfl
@[simp] theorem kfz_fz (d : D) : kfz (.fz d) = .fz d := rfl
@[simp] theorem kfz_lst (ts : List T) : kfz (.lst ts) = .lst (fzL ts) := rfl
@[simp] theorem kfz_tup (ts : List T) : kfz (.tup ts) = .tup (fzL ts) := rfl
@[simp] theorem kfz_dct (ks : List (Key × T)) : kfz (.dct ks) = .dct (ks.map fun p => (p.1, .fz (frz p.2))) := rfl
@[simp] theorem kfz_ins (c : Str) (fs : List (Str × T)) : kfz (.ins c fs) = .ins c (fs.map fun p => (p.1, .fz (frz p.2))) := rfl
@[simp] theorem eRdP_a (tp : Ev Loc) : eRdP tp E = bnd (tp E) fun l E1 => match getE E1 l with
  | some (.fz d) => some (.ok (.fz d) E1)
  | _ => none := rfl
@[simp] theorem pFld_a (c f : Str) (tp : Ev Loc) : pFld c f tp E = bnd (tp E) fun l E1 => match getE E1 l with
  | some (.ins c' fs) => if c' = c then match keyIx (fs.map (·.1)) f with
    | some n => match (fs.map (·.2))[n]? with
      | some _ => some (.ok ⟨l.i, l.p ++ [n]⟩ E1)
      | none => none
    | none => none else none
  | _ => none := rfl
@[simp] theorem eLvP_a (tp : Ev Loc) : eLvP tp E = bnd (tp E) fun l E1 => match getE E1 l with
  | some (.dct ks) => match fzs (ks.map (·.2)) with
    | some ds => some (.ok (.lst (ds.map .fz)) E1)
    | none => none
  | _ => none := rfl
@[simp] theorem sNo_a : sNo E = none := rfl
@[simp] theorem eFld_a (c f : Str) (t : Ev T) : eFld c f t E = bnd (t E) fun x E1 => opt (fldD c f (frz x)) E1 := rfl
@[simp] theorem fldD_a (c c' f : Str) (fs : List (Str × D)) : fldD c f (.ins c' fs) = if c' = c then (fs.lookup f).map .fz else none := rfl
@[simp] theorem eMth_a (c m : Str) (F : List T → Option (Out T)) (ms : List (Option Nat)) (to : Ev T) (ts : Ev (List T)) : eMth c m F ms to ts E = bnd (to E) fun x E1 => if insOf c m (frz x) = true then bnd (ts E1) fun xs E2 => match F (.fz (frz x) :: xs) with
  | none => none
  | some (.ok r P) => some (.ok r (putB (none :: ms) P E2))
  | some (.ex y P) => some (.ex y (putB (none :: ms) P E2)) else none := rfl
@[simp] theorem insOf_a (c c' m : Str) (fs : List (Str × D)) : insOf c m (.ins c' fs) = (decide (c' = c) && (fs.lookup m).isNone) := rfl
@[simp] theorem eMk_a (c : Str) (F : List T → Option (Out T)) (ms : List (Option Nat)) (ts : Ev (List T)) : eMk c F ms ts E = bnd (ts E) fun xs E1 => match F (.ins c [] :: xs) with
  | some (.ok (.fz .non) (some o :: P)) => some (.ok o (putB ms P E1))
  | _ => none := rfl
@[simp] theorem sFldP_a (c f : Str) (tp : Ev Loc) (tv : Ev T) : sFldP c f tp tv E = bnd (tv E) fun t E1 => match tp E1 with
  | some (.ok l E2) => match getE E2 l with
    | some (.ins c' fs) => if c' = c ∧ fs.length < 1000 then some (.ok .nx (setE E2 l (.ins c' (putFd f t fs)))) else none
    | _ => none
  | _ => none := rfl
@[simp] theorem vVar_a (i : Nat) : vVar i E = match E[i]? with
  | some (some t) => some (frz t, E.set i (some (.fz (frz t))))
  | _ => none := rfl
@[simp] theorem vFld_a (c f : Str) (t : En → Option (D × En)) : vFld c f t E = match t E with
  | some (.ins c' fs, E1) => if c' = c then (fs.lookup f).map fun d => (d, E1) else none
  | _ => none := rfl
@[simp] theorem vIx_a (n : Int) (t : En → Option (D × En)) : vIx n t E = match t E with
  | some (.tup ds, E1) => (L2.atI ds n).map fun d => (d, E1)
  | some (.lst ds, E1) => (L2.atI ds n).map fun d => (d, E1)
  | _ => none := rfl
@[simp] theorem iAhd_a (t : En → Option (List D × En)) : iAhd t E = match t E with
  | some (ds, E1) => some (.ok ds E1)
  | none => none := rfl
@[simp] theorem vAny_a (t : En → Option (D × En)) : vAny t E = match t E with
  | some (d, E1) => (walkD d).map fun ds => (ds, E1)
  | none => none := rfl
@[simp] theorem walkD_d (ks : List (Key × D)) : walkD (.dct ks) = some (keysOf ks) := rfl
@[simp] theorem walkD_l (ks : List D) : walkD (.lst ks) = some ks := rfl
@[simp] theorem walkD_t (ks : List D) : walkD (.tup ks) = some ks := rfl
@[simp] theorem walkD_s (z : Str) : walkD (.str z) = some (strD z) := rfl
@[simp] theorem vDct_a (f : List (Key × D) → List D) (t : En → Option (D × En)) : vDct f t E = match t E with
  | some (.dct ks, E1) => some (f ks, E1)
  | _ => none := rfl
@[simp] theorem iEnumD_a (ts : Ev (List D)) : iEnumD ts E = bnd (ts E) fun xs E1 => match xs with
  | [.lst ds] => some (.ok (enumD ds) E1)
  | [.tup ds] => some (.ok (enumD ds) E1)
  | _ => none := rfl
@[simp] theorem eDc_a (ti : Ev (List D)) (g : T → En → Option En) (tb : Ev Bool) (tk te : Ev T) (vs : List Nat) : eDc ti g tb tk te vs E = bnd (ti E) fun ds E1 =>
  if ds.length ≤ 16777216 then match dcE g tb tk te vs ds (clr E1 vs) [] with
    | some (rs, E2) => some (.ok (.dct rs) (rst E1 E2 vs))
    | none => none
  else none := rfl
@[simp] theorem kNil_a : kNil E = some ([], E) := rfl
@[simp] theorem kLate_a (i : Nat) (ts : En → Option (List T × En)) : kLate i ts E = match E[i]? with
  | some (some _) => match ts E with
    | some (xs, E1) => match E1[i]? with
      | some (some t) => some (t :: xs, E1.set i none)
      | _ => none
    | none => none
  | _ => none := rfl
@[simp] theorem kVar_a (i : Nat) (ts : En → Option (List T × En)) : kVar i ts E = match E[i]? with
  | some (some (.fz d)) => match ts E with
    | some (xs, E1) => some (.fz d :: xs, E1)
    | none => none
  | _ => none := rfl
@[simp] theorem kPeek_a (t : Ev T) (ts : En → Option (List T × En)) : kPeek t ts E = match t (frzE E) with
  | some (.ok r _) => if clT r = true then match ts E with
    | some (xs, E1) => some (r :: xs, E1)
    | none => none else none
  | _ => none := rfl
@[simp] theorem eFnQ_a (F : List T → Option (Out T)) (ms : List (Option Nat)) (t : En → Option (List T × En)) : eFnQ F ms t E = match t E with
  | none => none
  | some (xs, E1) => match F xs with
    | none => none
    | some (.ok r P) => some (.ok r (putB ms P E1))
    | some (.ex x P) => some (.ex x (putB ms P E1)) := rfl
@[simp] theorem msOne_a (t : Ev T) : msOne t E = bnd (t E) fun r E1 => some (.ok [r] E1) := rfl
@[simp] theorem listE_l (xs : List D) : listE [.lst xs] = some (.lst (xs.map .fz)) := rfl
@[simp] theorem listE_t (xs : List D) : listE [.tup xs] = some (.lst (xs.map .fz)) := rfl
@[simp] theorem listE_d (ks : List (Key × D)) : listE [.dct ks] = some (.lst ((keysOf ks).map .fz)) := rfl
@[simp] theorem dictE_d (ks : List (Key × D)) : dictE [.dct ks] = some (.dct (ks.map fun p => (p.1, .fz p.2))) := rfl
@[simp] theorem dictE_l (xs : List D) : dictE [.lst xs] = (pairsD xs).map fun ps => .dct (mergeT [] ps) := rfl
@[simp] theorem mulE_i (i j : Int) : mulE (.int i) (.int j) = if CMul i j then some (.fz (.int (i * j))) else none := rfl
@[simp] theorem mulE_s (x : Str) (j : Int) : mulE (.str x) (.int j) = if mulOkS x j then some (.fz (.str (Txt.mul x j))) else none := rfl
@[simp] theorem mulE_l (xs : List D) (k : Int) : mulE (.lst xs) (.int k) = if repOk xs.length k then some (.lst ((List.replicate k.toNat xs).flatten.map .fz)) else none := rfl
@[simp] theorem lvalsD_d (ks : List (Key × D)) : lvalsD (.dct ks) = some (.lst ((valsOf ks).map .fz)) := rfl
@[simp] theorem fzL_fz (ds : List D) : fzL (ds.map T.fz) = ds.map T.fz := by simp [fzL, Function.comp_def]
@[simp] theorem fzL_fz2 {β : Type} (f : β → D) (ds : List β) : fzL (ds.map fun x => T.fz (f x)) = ds.map fun x => T.fz (f x) := by simp [fzL, Function.comp_def]
theorem fzL_eq (ts : List T) : fzL ts = (frzL ts).map T.fz := by rw [frzL_map, fzL, List.map_map]; rfl
@[simp] theorem lenE_d (xs : List (Key × D)) : lenE [.dct xs] = some (.fz (.int xs.length)) := rfl
@[simp] theorem lenE_l (xs : List D) : lenE [.lst xs] = some (.fz (.int xs.length)) := rfl
@[simp] theorem lenE_t (xs : List D) : lenE [.tup xs] = some (.fz (.int xs.length)) := rfl
@[simp] theorem lenE_s (x : Str) : lenE [.str x] = lenD [.str x] := rfl
@[simp] theorem isTyE_ty (x : D) (b : String) : isTyE [x, .ty b] = isTyD [x, .ty b] := rfl
theorem isTyD_a {x : D} {a b : String} (h : tyName x = some a) (hb : knownTy b = true) : isTyD [x, .ty b] = some (.fz (.bl (under a b))) := by
  simp only [isTyD, h, hb, if_true]
end

/-! ### a dict comprehension that changes nothing -/
theorem dcE_pure {v : Nat} {tb : Ev Bool} {tk te : Ev T} {p : D → Bool} {k : D → Key} {f : D → T} : ∀ (ds : List D) (E : En) (acc : List (Key × T)), E[v]? = some none →
    (∀ d ∈ ds, tb (E.set v (some (.fz d))) = some (.ok (p d) (E.set v (some (.fz d))))) →
    (∀ d ∈ ds, p d = true → ∃ x, tk (E.set v (some (.fz d))) = some (.ok x (E.set v (some (.fz d)))) ∧ keyD (frz x) = some (k d)) →
    (∀ d ∈ ds, p d = true → te (E.set v (some (.fz d))) = some (.ok (f d) (E.set v (some (.fz d))))) →
    dcE (gSet v) tb tk te [v] ds E acc = some ((ds.filter p).foldl (fun acc d => putD acc (k d) (f d)) acc, E)
  | [], E, acc, _, _, _, _ => rfl
  | d :: ds, E, acc, hv, h1, h2, h3 => by
    have ih := fun acc => dcE_pure ds E acc hv (fun d' q => h1 d' (by simp [q])) (fun d' q => h2 d' (by simp [q])) fun d' q => h3 d' (by simp [q])
    have e0 : (E.set v (some (.fz d))).set v none = E := by rw [List.set_set]; exact set_get hv
    have e1 := h1 d (by simp)
    simp only [dcE, gSet_a, frz, e1]
    cases hp : p d with
    | false => simp only [clr_cons, clr_nil, e0, ih, List.filter_cons, hp]; rfl
    | true =>
      obtain ⟨x, g1, g2⟩ := h2 d (by simp) hp
      simp only [g1, g2, h3 d (by simp) hp, clr_cons, clr_nil, e0, ih, List.filter_cons, hp]
      rfl
/-- a comprehension whose target is a tuple, that changes nothing -/
theorem putD_new {κ : Type} [DecidableEq κ] {ks : List (κ × T)} {k : κ} {t : T} (h : k ∉ ks.map (·.1)) : putD ks k t = ks ++ [(k, t)] := by
  unfold putD
  cases e : keyIx (ks.map (·.1)) k with
  | none => rfl
  | some n => exact absurd (List.mem_of_getElem? (keyIx_some e)) h
theorem fold_new {β : Type} (k : β → Key) (f : β → T) : ∀ (ds : List β) (acc : List (Key × T)), (∀ d ∈ ds, k d ∉ acc.map (·.1)) → (ds.map k).Nodup → ds.foldl (fun acc d => putD acc (k d) (f d)) acc = acc ++ ds.map fun d => (k d, f d)
  | [], acc, _, _ => by simp
  | d :: ds, acc, h, nd => by
    simp only [List.map_cons, List.nodup_cons] at nd
    simp only [List.foldl_cons]
    rw [putD_new (h d (by simp)), fold_new k f ds _ (fun d' q => ?_) nd.2]
    · simp
    · simp only [List.map_append, List.map_cons, List.map_nil, List.mem_append, List.mem_singleton, not_or]
      exact ⟨h d' (by simp [q]), fun e => nd.1 (by rw [← e]; exact List.mem_map_of_mem q)⟩
theorem merge_new {ps : List (Key × D)} (nd : (ps.map (·.1)).Nodup) : mergeT [] ps = ps.map fun p => (p.1, .fz p.2) := by
  unfold mergeT
  rw [fold_new (fun p : Key × D => p.1) (fun p => .fz p.2) ps [] (by simp) nd]
  simp
/-! ### lists of texts -/
def okS (z : Str) : Prop := PyData.strOk z = true
theorem str_beq (x y : Str) : (x == y) = decide (x = y) := by
  by_cases e : x = y
  · subst e; simp
  · rw [decide_eq_false e]
    cases h : x == y with
    | false => rfl
    | true => exact absurd (eq_of_beq h) e
theorem inB_strs (x : Str) (ys : List Str) : inB (.str x) (.lst (ys.map .str)) = some (decide (x ∈ ys)) := by
  have c : flatD (.str x) = true ∧ (ys.map D.str).all flatD = true := ⟨rfl, by simp [List.all_map, Function.comp_def, flatD]⟩
  show (if flatD (.str x) = true ∧ (ys.map D.str).all flatD = true then some ((ys.map D.str).any fun e => eqFl e (.str x)) else _) = _
  rw [if_pos c]
  congr 1
  rw [List.any_map]
  rw [Bool.eq_iff_iff]
  simp only [List.any_eq_true, Function.comp, eqFl, decide_eq_true_eq]
  constructor
  · rintro ⟨y, hy, e⟩
    exact (eq_of_beq e) ▸ hy
  · intro h
    exact ⟨x, h, beq_self_eq_true x⟩
theorem inB_strsT (x : Str) (ys : List Str) : inB (.str x) (.tup (ys.map .str)) = some (decide (x ∈ ys)) := by
  have c : flatD (.str x) = true ∧ (ys.map D.str).all flatD = true := ⟨rfl, by simp [List.all_map, Function.comp_def, flatD]⟩
  show (if flatD (.str x) = true ∧ (ys.map D.str).all flatD = true then some ((ys.map D.str).any fun e => eqFl e (.str x)) else none) = _
  rw [if_pos c]
  congr 1
  rw [List.any_map]
  rw [Bool.eq_iff_iff]
  simp only [List.any_eq_true, Function.comp, eqFl, decide_eq_true_eq]
  constructor
  · rintro ⟨y, hy, e⟩
    exact (eq_of_beq e) ▸ hy
  · intro h
    exact ⟨x, h, beq_self_eq_true x⟩
/-- a text or None -/
def optD : Option Str → D
  | none => .non
  | some x => .str x
theorem inB_opts (x : Str) (ys : List (Option Str)) : inB (.str x) (.lst (ys.map optD)) = some (decide (some x ∈ ys)) := by
  have c : flatD (.str x) = true ∧ (ys.map optD).all flatD = true := ⟨rfl, by
    rw [List.all_map, List.all_eq_true]
    intro y _
    cases y <;> rfl⟩
  show (if flatD (.str x) = true ∧ (ys.map optD).all flatD = true then some ((ys.map optD).any fun e => eqFl e (.str x)) else _) = _
  rw [if_pos c]
  congr 1
  rw [List.any_map]
  rw [Bool.eq_iff_iff]
  simp only [List.any_eq_true, Function.comp, decide_eq_true_eq]
  constructor
  · rintro ⟨y, hy, e⟩
    cases y with
    | none => simp [optD, eqFl] at e
    | some y => exact (eq_of_beq (show (y == x) = true from e)) ▸ hy
  · intro h
    exact ⟨some x, h, beq_self_eq_true x⟩
theorem eqAD_opt (x y : Option Str) : eqAD (optD x) (optD y) = some (decide (x = y)) := by
  cases x with
  | none => cases y with
    | none => rfl
    | some y => rfl
  | some x => cases y with
    | none => rfl
    | some y =>
      show some (x == y) = _
      rw [str_beq]
      simp
theorem isNB_opt (x : Option Str) : isNB (optD x) = x.isNone := by cases x <;> rfl
theorem strsOf_map : ∀ xs : List Str, strsOf (xs.map D.str) = some xs
  | [] => rfl
  | x :: xs => by simp [strsOf, strsOf_map xs]
theorem eqvAll_strs : ∀ xs ys : List Str, PyData.eqvAll (xs.map PyData.str) (ys.map PyData.str) = decide (xs = ys)
  | [], [] => rfl
  | [], y :: ys => by simp [PyData.eqvAll]
  | x :: xs, [] => by simp [PyData.eqvAll]
  | x :: xs, y :: ys => by
    simp only [List.map_cons, PyData.eqvAll, eqvAll_strs xs ys, PyData.eqv, str_beq]
    by_cases e : x = y <;> simp [e]
theorem shaped_strs {xs : List Str} (h : ∀ z ∈ xs, okS z) : SeqAt.shaped (.list (xs.map PyData.str)) = true := by
  obtain ⟨h1, h2⟩ := lay_strs xs h
  simp [SeqAt.shaped, PyData.canLay0, PyData.depth, h1, h2]
theorem eqAD_strs {xs ys : List Str} (hx : ∀ z ∈ xs, okS z) (hy : ∀ z ∈ ys, okS z) : eqAD (.lst (xs.map .str)) (.lst (ys.map .str)) = some (decide (xs = ys)) := by
  have e : eqAD (.lst (xs.map D.str)) (.lst (ys.map D.str)) = eqDD (.lst (xs.map D.str)) (.lst (ys.map D.str)) := rfl
  rw [e]
  unfold eqDD
  simp only [toPy, toPyL_strs]
  rw [if_pos ⟨shaped_strs hx, shaped_strs hy⟩]
  simp only [PyData.eqv, eqvAll_strs]
theorem sortD_l {xs : List Str} (h : xs.length < 64) : sortD [.lst (xs.map .str)] = some (.lst ((sortS xs).map fun x => .fz (.str x))) := by
  simp only [sortD, strsOf_map, Option.bind_some, if_pos h]
theorem sortD_t {xs : List Str} (h : xs.length < 64) : sortD [.tup (xs.map .str)] = some (.lst ((sortS xs).map fun x => .fz (.str x))) := by
  simp only [sortD, strsOf_map, Option.bind_some, if_pos h]
theorem sortS_len (xs : List Str) : (sortS xs).length = xs.length := by simp [sortS]
theorem mem_sortS {xs : List Str} {z : Str} : z ∈ sortS xs ↔ z ∈ xs := (List.mergeSort_perm xs leS).mem_iff
theorem keysL_strs : ∀ xs : List Str, keysL (xs.map D.str) = some (xs.map Sum.inr)
  | [] => rfl
  | x :: xs => by simp [keysL, keysL_strs xs]
theorem dist_nodup : ∀ (n : Nat) (ks : List Key), ks.length = n → ks.Nodup → distK ks = ks
  | 0, ks, h, _ => by
    have : ks = [] := List.eq_nil_of_length_eq_zero h
    subst this; rfl
  | n + 1, ks, h, nd => by
    have hne : ks ≠ [] := fun e => by subst e; simp at h
    obtain ⟨r, k, rfl⟩ : ∃ r k, ks = r ++ [k] := ⟨ks.dropLast, ks.getLast hne, (List.dropLast_concat_getLast hne).symm⟩
    have hr : r.length = n := by simpa using h
    rw [List.nodup_append] at nd
    have ih := dist_nodup n r hr nd.1
    rw [distK_snoc, ih]
    unfold dedK
    have : ¬ memK r k = true := fun q => nd.2.2 k ((memK_iff r k).mp q) k (by simp) rfl
    rw [if_neg this]
theorem lenSet_nodup {xs : List Str} (nd : xs.Nodup) (h : xs.length < 4000) : lenSetD (.lst (xs.map .str)) = some (.fz (.int xs.length)) ∧ lenSetD (.tup (xs.map .str)) = some (.fz (.int xs.length)) := by
  have nk : (xs.map (Sum.inr : Str → Key)).Nodup := List.Pairwise.map _ (fun a b h e => h (by injection e)) nd
  have e := dist_nodup _ _ rfl nk
  have hl : (xs.map (Sum.inr : Str → Key)).length < 4000 := by rw [List.length_map]; exact h
  constructor <;> (simp only [lenSetD, keysL_strs, Option.bind_some, e, List.length_map]; rw [if_pos h])
/-! ### dicts by texts -/
theorem keyIx_mem {κ : Type} [DecidableEq κ] : ∀ {ks : List κ} {k : κ}, k ∈ ks → ∃ n, keyIx ks k = some n
  | a :: r, k, h => by
    simp only [keyIx]
    by_cases e : a = k
    · exact ⟨0, if_pos e⟩
    · rw [if_neg e]
      obtain ⟨n, hn⟩ := keyIx_mem (List.mem_of_ne_of_mem (fun z => e z.symm) h)
      exact ⟨n + 1, by rw [hn]; rfl⟩
theorem findD_cons {κ : Type} [DecidableEq κ] (p : κ × D) (r : List (κ × D)) (k : κ) : findD (p :: r) k = if p.1 = k then some p.2 else findD r k := by
  unfold findD
  simp only [List.map_cons, keyIx]
  by_cases e : p.1 = k
  · rw [if_pos e, if_pos e]; rfl
  · rw [if_neg e, if_neg e]
    cases keyIx (r.map (·.1)) k <;> simp
theorem findD_map {β : Type} (f : β → D) : ∀ (rs : List (Str × β)) (k : Str), findD (rs.map fun p => ((.inr p.1 : Key), f p.2)) (.inr k) = (rs.lookup k).map f
  | [], k => rfl
  | (a, b) :: rs, k => by
    rw [List.map_cons, findD_cons, findD_map f rs k, List.lookup_cons]
    by_cases e : a = k
    · subst e; simp
    · have e2 : (k == a) = false := by rw [str_beq]; exact decide_eq_false fun z => e z.symm
      have e3 : ¬ (Sum.inr a : Key) = Sum.inr k := fun z => e (by injection z)
      simp only [if_neg e3, e2]
end VL

namespace VL
open PySem PySem.Spec PyProof.Rows L2
/-! ### texts by their signs -/
def tx (cs : List Nat) : Str := ⟨cs.toArray⟩
@[simp] theorem tx_cps (cs : List Nat) : (tx cs).cps.toList = cs := by simp [tx]
@[simp] theorem tx_len (cs : List Nat) : (tx cs).length = cs.length := by simp [tx, Str.length]
theorem tx_of (z : Str) : tx z.cps.toList = z := by cases z; simp [tx]
theorem tx_inj {a b : List Nat} (h : tx a = tx b) : a = b := by
  have := congrArg (fun z : Str => z.cps.toList) h
  simpa using this
theorem tx_app (a b : List Nat) : tx a ++ tx b = tx (a ++ b) := by
  show (⟨a.toArray ++ b.toArray⟩ : Str) = ⟨(a ++ b).toArray⟩
  simp
theorem len_cps (z : Str) : z.cps.toList.length = z.length := by simp [Str.length]
theorem cut_take (cs : List Nat) (n : Nat) : cutS (tx cs) none (some (n : Int)) = tx (cs.take n) := by
  unfold cutS
  rw [HT.sIx_none, HT.sIx_nat, tx_len, tx_cps]
  simp only [List.drop_zero, Nat.sub_zero]
  show tx (cs.take (min n cs.length)) = tx (cs.take n)
  rw [← List.take_eq_take_min]
theorem cut_drop (cs : List Nat) (n : Nat) : cutS (tx cs) (some (n : Int)) none = tx (cs.drop n) := by
  unfold cutS
  rw [HT.sIx_none, HT.sIx_nat, tx_len, tx_cps]
  show tx ((cs.drop (min n cs.length)).take (cs.length - min n cs.length)) = tx (cs.drop n)
  congr 1
  rw [List.take_of_length_le (by rw [List.length_drop]; omega)]
  by_cases h : n ≤ cs.length
  · rw [Nat.min_eq_left h]
  · rw [Nat.min_eq_right (by omega), List.drop_length, List.drop_eq_nil_of_le (by omega)]
theorem slD_tx {cs : List Nat} (h : cs.length ≤ 1000) (lo hi : Option Int) : slD (.str (tx cs)) lo hi = some (.fz (.str (cutS (tx cs) lo hi))) := by
  show (if (tx cs).length ≤ sizeLine then some (T.fz (D.str (cutS (tx cs) lo hi))) else none) = _
  rw [if_pos (by rw [sizeLine_eq, tx_len]; omega)]
theorem addD_tx {a b : List Nat} (h : a.length ≤ 1000) (h2 : b.length ≤ 1000) : addD (.str (tx a)) (.str (tx b)) = some (.fz (.str (tx (a ++ b)))) := by
  show (if (tx a).length + (tx b).length ≤ sizeLine then some (T.fz (D.str (tx a ++ tx b))) else none) = _
  rw [if_pos (by rw [sizeLine_eq, tx_len, tx_len]; omega), tx_app]
theorem lenD_tx {cs : List Nat} (h : cs.length ≤ 1000) : lenD [.str (tx cs)] = some (.fz (.int cs.length)) := by
  rw [lenD_s, if_pos (by rw [sizeLine_eq, tx_len]; omega), tx_len]
theorem joinL_one : ∀ cs : List Nat, TL.joinL [] (cs.map fun c => [c]) = cs
  | [] => rfl
  | [c] => rfl
  | c :: d :: r => by
    have ih := joinL_one (d :: r)
    simp only [List.map_cons] at ih ⊢
    show [c] ++ ([] ++ _) = _
    rw [ih]; rfl
theorem join_one (cs : List Nat) : Txt.join "" (cs.map fun c => tx [c]) = tx cs := by
  have h := TL.tl_join "" (cs.map fun c => tx [c])
  have e : (cs.map fun c => tx [c]).map TL.tl = cs.map fun c => [c] := by rw [List.map_map]; rfl
  have e2 : TL.tl ("" : Str) = [] := rfl
  rw [e, e2, joinL_one] at h
  rw [TL.join_eq]
  have h' : (Str.join "" (cs.map fun c => tx [c])).cps.toList = cs := h
  rw [← tx_of (Str.join "" _), h']
theorem sum_one (cs : List Nat) : ((cs.map fun c => tx [c]).map (·.length)).sum = cs.length := by
  induction cs with
  | nil => rfl
  | cons c r ih =>
    simp only [List.map_cons, List.sum_cons, List.length_cons]
    rw [ih, tx_len]
    simp only [List.length_cons, List.length_nil]
    omega
theorem mJoin_one (cs : List Nat) (h : cs.length ≤ 1000) : mJoin (.str "") [.lst (cs.map fun c => .str (tx [c]))] = some (.fz (.str (tx cs))) := by
  show (strsOf (cs.map fun c => D.str (tx [c]))).bind _ = _
  have e : (cs.map fun c => D.str (tx [c])) = (cs.map fun c => tx [c]).map D.str := by rw [List.map_map]; rfl
  rw [e, strsOf_map]
  simp only [Option.bind_some]
  rw [if_pos, join_one]
  rw [sum_one]
  show cs.length + (List.map _ cs).length * 0 ≤ _
  omega
/-! ### letters, names -/
def abc : List Nat := [97,98,99,100,101,102,103,104,105,106,107,108,109,110,111,112,113,114,115,116,117,118,119,120,121,122]
abbrev abcS : Str := "abcdefghijklmnopqrstuvwxyz"
theorem abc_eq : abcS.cps.toList = abc := by decide
theorem abc_len : abcS.length = 26 := by decide
theorem abc_at {j : Nat} (h : j < 26) : abc[j]? = some (97 + j) := by
  have : ∀ j, j < 26 → abc[j]? = some (97 + j) := by decide
  exact this j h
theorem abc_mem {c : Nat} : c ∈ abc ↔ 97 ≤ c ∧ c ≤ 122 := by
  constructor
  · intro h
    have : ∀ c ∈ abc, 97 ≤ c ∧ c ≤ 122 := by decide
    exact this c h
  · rintro ⟨h1, h2⟩
    have := abc_at (j := c - 97) (by omega)
    rw [show 97 + (c - 97) = c by omega] at this
    exact List.mem_of_getElem? this
theorem ix_abcN {j : Nat} (h : j < 26) : ixA (.str abcS) (.int (j : Int)) = some (.fz (.str (tx [97 + j]))) := by
  show (if abcS.length ≤ sizeLine then (atI abcS.cps.toList (j : Int)).map fun c => T.fz (.str ⟨#[c]⟩) else none) = _
  rw [if_pos (by rw [abc_len, sizeLine_eq]; omega), abc_eq]
  have e : atI abc (j : Int) = some (97 + j) := by
    unfold atI ixN
    have hl : abc.length = 26 := rfl
    rw [if_pos (by omega), hl, if_pos (by omega)]
    simpa using abc_at h
  rw [e]; rfl
/-- a name: one to eight letters -/
def Nm (z : Str) : Prop := 1 ≤ z.length ∧ z.length ≤ 8 ∧ ∀ c ∈ z.cps.toList, c ∈ abc
theorem Nm.ok {z : Str} (h : Nm z) : okS z := by
  unfold okS PyData.strOk
  rw [← Array.all_toList, List.all_eq_true]
  intro c hc
  have := abc_mem.mp (h.2.2 c hc)
  simp only [decide_eq_true_eq]
  omega
theorem rng_at {n : Nat} {i : Nat} {d : D} (h : (rngD 0 n)[i]? = some d) : d = .int (i : Int) ∧ i < n := by
  unfold rngD at h
  rw [List.getElem?_map] at h
  by_cases hi : i < n
  · rw [List.getElem?_range hi] at h
    cases h
    exact ⟨by simp, hi⟩
  · rw [List.getElem?_eq_none (by simpa using hi)] at h; cases h
@[simp] theorem rng_len (lo : Int) (n : Nat) : (rngD lo n).length = n := by simp [rngD]
/-! ### == with the empty list -/
def plD (d : D) : Bool := match toPy d with
  | some p => p.canLay0 && decide (p.depth ≤ 30)
  | none => false
theorem toPyL_pl : ∀ {ds : List D}, ds.all plD = true → ∃ ps, toPyL ds = some ps ∧ PyData.canLayAll0 ps = true ∧ PyData.depthAll ps ≤ 30
  | [], _ => ⟨[], rfl, rfl, by simp [PyData.depthAll]⟩
  | d :: ds, h => by
    simp only [List.all_cons, Bool.and_eq_true] at h
    obtain ⟨ps, h1, h2, h3⟩ := toPyL_pl h.2
    have h4 := h.1
    unfold plD at h4
    cases e : toPy d with
    | none => rw [e] at h4; cases h4
    | some p =>
      rw [e] at h4
      simp only [Bool.and_eq_true, decide_eq_true_eq] at h4
      refine ⟨p :: ps, by simp [toPyL, e, h1], by simp [PyData.canLayAll0, h4.1, h2], ?_⟩
      simp only [PyData.depthAll]
      omega
theorem eqAD_pl {ds : List D} (h : ds.all plD = true) : eqAD (.lst ds) (.lst []) = some ds.isEmpty := by
  obtain ⟨ps, h1, h2, h3⟩ := toPyL_pl h
  have e : eqAD (.lst ds) (.lst []) = eqDD (.lst ds) (.lst []) := rfl
  rw [e]
  unfold eqDD
  have t1 : toPy (.lst ds) = some (.list ps) := by simp [toPy, h1]
  have t2 : toPy (.lst []) = some (.list []) := by simp [toPy, toPyL]
  rw [t1, t2]
  dsimp only
  have c : SeqAt.shaped (.list ps) = true ∧ SeqAt.shaped (.list []) = true := by
    constructor
    · simp [SeqAt.shaped, PyData.canLay0, PyData.depth, h2]; omega
    · decide
  rw [if_pos c]
  cases ds with
  | nil => simp [toPyL] at h1; subst h1; simp [PyData.eqv, PyData.eqvAll]
  | cons d ds =>
    cases ps with
    | nil => simp only [toPyL] at h1; split at h1 <;> simp_all
    | cons p ps => simp [PyData.eqv, PyData.eqvAll]
theorem pl_str {z : Str} (h : okS z) : plD (.str z) = true := by
  have h' : PyData.strOk z = true := h
  simp [plD, toPy, PyData.canLay0, PyData.depth, h']
theorem pl_opt {z : Option Str} (h : ∀ x, z = some x → okS x) : plD (optD z) = true := by
  cases z with
  | none => rfl
  | some x => exact pl_str (h x rfl)
theorem pl_strs {xs : List Str} (h : ∀ z ∈ xs, okS z) : (xs.map D.str).all plD = true := by
  rw [List.all_map, List.all_eq_true]
  exact fun z hz => pl_str (h z hz)
theorem pl_opts {xs : List (Option Str)} (h : ∀ z ∈ xs, ∀ x, z = some x → okS x) : (xs.map optD).all plD = true := by
  rw [List.all_map, List.all_eq_true]
  exact fun z hz => pl_opt (h z hz)
theorem pl_lst {ds : List D} (h : ds.all plD = true) (hd : ∀ ps, toPyL ds = some ps → PyData.depthAll ps ≤ 20) : plD (.lst ds) = true := by
  obtain ⟨ps, h1, h2, h3⟩ := toPyL_pl h
  have := hd ps h1
  simp [plD, toPy, h1, PyData.canLay0, PyData.depth, h2]
  omega
end VL

namespace VL
open PySem PySem.Spec PyProof.Rows L2
/-! ### comprehensions that leave the frame as it was -/
theorem dcE_fix {g : T → En → Option En} {tb : Ev Bool} {tk te : Ev T} {vs : List Nat} {k : D → Key} {f : D → T} {E : En} : ∀ (ds : List D) (acc : List (Key × T)),
    (∀ d ∈ ds, ∃ E1 E2 E3 E4 x, g (.fz d) E = some E1 ∧ tb E1 = some (.ok true E2) ∧ tk E2 = some (.ok x E3) ∧ keyD (frz x) = some (k d) ∧ te E3 = some (.ok (f d) E4) ∧ clr E4 vs = E) →
    dcE g tb tk te vs ds E acc = some (ds.foldl (fun acc d => putD acc (k d) (f d)) acc, E)
  | [], acc, _ => rfl
  | d :: ds, acc, h => by
    have ih := fun acc => dcE_fix ds acc fun d' q => h d' (by simp [q])
    obtain ⟨E1, E2, E3, E4, x, h1, h2, h3, h4, h5, h6⟩ := h d (by simp)
    simp only [dcE, h1, h2, h3, h4, h5, h6, ih, List.foldl_cons]
theorem lcE_fix {g : T → En → Option En} {tb : Ev Bool} {te : Ev T} {vs : List Nat} {p : D → Bool} {f : D → T} {E : En} : ∀ (ds : List D),
    (∀ d ∈ ds, ∃ E1 E2, g (.fz d) E = some E1 ∧ tb E1 = some (.ok (p d) E2) ∧ (p d = false → clr E2 vs = E) ∧ (p d = true → ∃ E3, te E2 = some (.ok (f d) E3) ∧ clr E3 vs = E)) →
    lcE g tb te vs ds E = some ((ds.filter p).map f, E)
  | [], _ => rfl
  | d :: ds, h => by
    have ih := lcE_fix ds fun d' q => h d' (by simp [q])
    obtain ⟨E1, E2, h1, h2, h3, h4⟩ := h d (by simp)
    cases hp : p d with
    | false =>
      rw [hp] at h2
      simp only [lcE, h1, h2, h3 hp, ih, List.filter_cons, hp]
      rfl
    | true =>
      rw [hp] at h2
      obtain ⟨E3, h5, h6⟩ := h4 hp
      simp only [lcE, h1, h2, h5, h6, ih, List.filter_cons, hp]
      rfl
theorem forE_fix {g : T → En → Option En} {tb : Ev Fl} {E : En} {i : Nat} (hi : i < E.length) (ds : List D) (hg : ∀ d x, g (.fz d) (E.set i x) = some (E.set i (some (.fz d))))
    (hb : ∀ d ∈ ds, tb (E.set i (some (.fz d))) = some (.ok .nx (E.set i (some (.fz d))))) : ∀ x, ∃ y, forE g tb ds (E.set i x) = some (.ok .nx (E.set i y)) := by
  induction ds with
  | nil => exact fun x => ⟨x, rfl⟩
  | cons d ds ih =>
    intro x
    obtain ⟨y, e⟩ := ih (fun d' q => hb d' (by simp [q])) (some (.fz d))
    refine ⟨y, ?_⟩
    simp only [forE, hg, hb d (by simp), e]
theorem boolsOf_all {α : Type} (xs : List α) : boolsOf (xs.map fun _ => .bl true) = some (xs.map fun _ => true)
  := by induction xs with
    | nil => rfl
    | cons x xs ih => simp [boolsOf, ih]
theorem allD_true {α : Type} (xs : List α) : allD [.lst (xs.map fun _ => .bl true)] = some (.fz (.bl true)) := by
  simp only [allD, boolsOf_all, Option.map_some]
  simp
/-! ### lists of lists of texts -/
theorem pl_ll {β : Type} (f : β → List Str) {known : List β} (h : ∀ r ∈ known, ∀ z ∈ f r, okS z) : (known.map fun r => D.lst ((f r).map .str)).all plD = true := by
  rw [List.all_map, List.all_eq_true]
  intro r hr
  refine pl_lst (pl_strs (h r hr)) fun ps e => ?_
  rw [toPyL_strs] at e
  cases e
  rw [(lay_strs (f r) (h r hr)).2]
  omega
/-! ### places of a ranking -/
def placesD (r : List Str) : List (Key × D) := (List.range r.length).map fun i => (.inr (r.getD i Str.empty), .int (i : Nat))
theorem idxOf_range : ∀ (r : List Str) (g : Str), g ∈ r → r.getD (r.idxOf g) Str.empty = g := by
  intro r g h
  have hl := List.idxOf_lt_length_iff.mpr h
  rw [List.getD_eq_getElem?_getD, List.getElem?_eq_getElem hl, Option.getD_some]
  exact List.getElem_idxOf hl
theorem places_keys (r : List Str) : (placesD r).map (·.1) = r.map Sum.inr := by
  unfold placesD
  rw [List.map_map]
  apply List.ext_getElem?
  intro i
  rw [List.getElem?_map, List.getElem?_map]
  by_cases h : i < r.length
  · rw [List.getElem?_range h, List.getElem?_eq_getElem h]
    simp [List.getD_eq_getElem?_getD, List.getElem?_eq_getElem h]
  · rw [List.getElem?_eq_none (by simpa using h), List.getElem?_eq_none (by simpa using h)]
    rfl
theorem keyIx_inr {xs : List Str} {g : Str} : keyIx (xs.map (Sum.inr : Str → Key)) (.inr g) = if g ∈ xs then some (xs.idxOf g) else none := by
  induction xs with
  | nil => rfl
  | cons x xs ih =>
    simp only [List.map_cons, keyIx, ih]
    by_cases e : x = g
    · subst e; simp
    · have e2 : ¬ (Sum.inr x : Key) = Sum.inr g := fun h => e (by injection h)
      have e3 : ¬ g = x := fun h => e h.symm
      rw [if_neg e2]
      have e4 : (x == g) = false := by rw [str_beq]; exact decide_eq_false e
      by_cases h : g ∈ xs
      · rw [if_pos h, if_pos (List.mem_cons_of_mem _ h)]
        simp [List.idxOf_cons, e4]
      · rw [if_neg h, if_neg (by simp [e3, h])]
        rfl
theorem find_places {r : List Str} {g : Str} (h : g ∈ r) : findD (placesD r) (.inr g) = some (.int (r.idxOf g : Nat)) := by
  unfold findD
  rw [places_keys, keyIx_inr, if_pos h]
  dsimp only
  have hl := List.idxOf_lt_length_iff.mpr h
  unfold placesD
  rw [List.map_map, List.getElem?_map, List.getElem?_range hl]
  rfl
/-! ### indexes -/
theorem ixN_nat {n : Nat} {i : Int} {j : Nat} (h : i = (j : Int)) (hj : j < n) : ixN n i = some j := by
  unfold ixN
  rw [if_pos (by omega), if_pos (by omega)]
  congr 1
  omega
theorem atI_nat {α : Type} {xs : List α} {i : Int} {j : Nat} (h : i = (j : Int)) (hj : j < xs.length) : L2.atI xs i = some xs[j] := by
  unfold L2.atI
  rw [ixN_nat h hj]
  exact List.getElem?_eq_getElem hj
@[simp] theorem kidIx_l (ts : List T) (k : Int) : kidIx (.lst ts) (.int k) = ixN ts.length k := rfl
@[simp] theorem kidIx_s (ks : List (Key × T)) (k : Str) : kidIx (.dct ks) (.str k) = keyIx (ks.map (·.1)) (.inr k) := rfl
@[simp] theorem kidIx_i (ks : List (Key × T)) (k : Int) : kidIx (.dct ks) (.int k) = keyIx (ks.map (·.1)) (.inl k) := rfl
theorem putKid_s {ks : List (Key × T)} {k : Str} {t : T} (h : ks.length < 16777216) : putKid (.dct ks) (.str k) t = some (.dct (putD ks (.inr k) t)) := by
  show (if ks.length < 16777216 then _ else none) = _
  rw [if_pos h]; rfl
theorem putKid_l {ts : List T} {k : Int} {j : Nat} {t : T} (h : ixN ts.length k = some j) : putKid (.lst ts) (.int k) t = some (.lst (ts.set j t)) := by
  show (ixN ts.length k).map _ = _
  rw [h]; rfl
theorem swap_perm {α : Type} : ∀ {xs : List α} {i : Nat} (h : i + 1 < xs.length), ((xs.set i xs[i + 1]).set (i + 1) xs[i]).Perm xs
  | x :: y :: r, 0, _ => .swap _ _ _
  | x :: y :: r, i + 1, h => by
    simp only [List.set_cons_succ, List.getElem_cons_succ]
    exact .cons x (swap_perm (xs := y :: r) (i := i) (by simpa using h))
/-- fields -/
@[simp] theorem clT_fz (d : D) : clT (.fz d) = atomD d := by simp [clT]
end VL

namespace VL
open PySem PySem.Spec PyProof.Rows L2
/-! ### how long a shown text is at most -/
mutual
def rb : PyData → Nat
  | .none => 4
  | .bool _ => 5
  | .int i => (PyData.shown (.int i)).length
  | .str x => 10 * x.length + 2
  | .list xs => 3 + rbAll xs
  | .tuple xs => 3 + rbAll xs
  | .dict kvs => 3 + rbKv kvs
def rbAll : List PyData → Nat
  | [] => 0
  | x :: xs => rb x + 2 + rbAll xs
def rbKv : List (PyData × PyData) → Nat
  | [] => 0
  | (k, v) :: r => rb k + rb v + 4 + rbKv r
end
mutual
def gdP : PyData → Bool
  | .none => true
  | .bool _ => true
  | .int i => decide (i.natAbs.log2 < 1920)
  | .str x => PyData.strOk x
  | .list xs => gdAll xs
  | .tuple xs => gdAll xs
  | .dict kvs => gdKv kvs
def gdAll : List PyData → Bool
  | [] => true
  | x :: xs => gdP x && gdAll xs
def gdKv : List (PyData × PyData) → Bool
  | [] => true
  | (k, v) :: r => gdP k && gdP v && gdKv r
end
theorem slen_app (a b : Str) : (a ++ b).length = a.length + b.length := by
  show (a.cps ++ b.cps).size = _
  simp [Str.length]
theorem textFrom_le (ts : List Str) (acc : Str) : (textFrom 0 acc ts).length ≤ acc.length + piled ts := by
  cases ts with
  | nil => show acc.length ≤ _; omega
  | cons t r =>
    show (textFrom 1 (acc ++ (if 0 > 0 then ", " else "" : String) ++ t) r).length ≤ _
    rw [textFrom_length_pos r 1 _ (by omega), slen_app, slen_app, piled_cons]
    have : ((if 0 > 0 then ", " else "" : String) : Str).length = 0 := by decide
    omega
theorem join_le (ts : List Str) : (Str.join ", " ts).length ≤ piled ts := by
  by_cases h : ts = []
  · subst h; decide
  · have := join_length_add ts h
    omega
mutual
theorem shown_le : ∀ p : PyData, gdP p = true → p.showable = true ∧ p.shown.length ≤ rb p
  | .none, _ => ⟨rfl, by decide⟩
  | .bool b, _ => ⟨rfl, by cases b <;> decide⟩
  | .int i, h => ⟨h, Nat.le_refl _⟩
  | .str x, h => ⟨rfl, by
    have h' : PyData.strOk x = true := h
    unfold PyData.strOk at h'
    rw [← Array.all_toList, List.all_eq_true] at h'
    exact PySem.StrLaws.reprText_len x fun c hc => by
      have := h' c hc
      simp only [decide_eq_true_eq] at this
      omega⟩
  | .list xs, h => by
    obtain ⟨h1, h2⟩ := shownAll_le xs h
    refine ⟨h1, ?_⟩
    show (textFrom 0 "[" (PyData.shownAll xs) ++ "]").length ≤ 3 + rbAll xs
    rw [slen_app]
    have := textFrom_le (PyData.shownAll xs) "["
    have e1 : ("[" : Str).length = 1 := by decide
    have e2 : ("]" : Str).length = 1 := by decide
    omega
  | .tuple xs, h => by
    obtain ⟨h1, h2⟩ := shownAll_le xs h
    refine ⟨h1, ?_⟩
    show (("(" : Str) ++ Str.join ", " (PyData.shownAll xs) ++ (if (PyData.shownAll xs).length == 1 then ",)" else ")" : String)).length ≤ 3 + rbAll xs
    rw [slen_app, slen_app]
    have := join_le (PyData.shownAll xs)
    have e1 : ("(" : Str).length = 1 := by decide
    have e2 : ((if (PyData.shownAll xs).length == 1 then ",)" else ")" : String) : Str).length ≤ 2 := by split <;> decide
    omega
  | .dict kvs, h => by
    obtain ⟨h1, h2⟩ := shownKv_le kvs h
    refine ⟨h1, ?_⟩
    show (("{" : Str) ++ Str.join ", " (PyData.shownKv kvs) ++ ("}" : Str)).length ≤ 3 + rbKv kvs
    rw [slen_app, slen_app]
    have := join_le (PyData.shownKv kvs)
    have e1 : ("{" : Str).length = 1 := by decide
    have e2 : ("}" : Str).length = 1 := by decide
    omega
theorem shownAll_le : ∀ xs : List PyData, gdAll xs = true → PyData.showableAll xs = true ∧ piled (PyData.shownAll xs) ≤ rbAll xs
  | [], _ => ⟨rfl, by decide⟩
  | x :: xs, h => by
    have h' : gdP x = true ∧ gdAll xs = true := by simpa [gdAll] using h
    obtain ⟨a1, a2⟩ := shown_le x h'.1
    obtain ⟨b1, b2⟩ := shownAll_le xs h'.2
    refine ⟨by simp [PyData.showableAll, a1, b1], ?_⟩
    show piled (x.shown :: PyData.shownAll xs) ≤ rb x + 2 + rbAll xs
    rw [piled_cons]
    omega
theorem shownKv_le : ∀ xs : List (PyData × PyData), gdKv xs = true → PyData.showableKv xs = true ∧ piled (PyData.shownKv xs) ≤ rbKv xs
  | [], _ => ⟨rfl, by decide⟩
  | (k, v) :: xs, h => by
    have h' : (gdP k = true ∧ gdP v = true) ∧ gdKv xs = true := by simpa [gdKv] using h
    obtain ⟨a1, a2⟩ := shown_le k h'.1.1
    obtain ⟨c1, c2⟩ := shown_le v h'.1.2
    obtain ⟨b1, b2⟩ := shownKv_le xs h'.2
    refine ⟨by simp [PyData.showableKv, a1, b1, c1], ?_⟩
    show piled ((k.shown ++ ": " ++ v.shown) :: PyData.shownKv xs) ≤ rb k + rb v + 4 + rbKv xs
    rw [piled_cons, slen_app, slen_app]
    have e1 : ((": " : String) : Str).length = 2 := by decide
    omega
end
theorem repr_some {d : D} {p : PyData} (h : toPyF d = some p) (g : gdP p = true) (hd : p.depth ≤ 60) (hb : rb p ≤ 16777216) : ∃ z, reprD [d] = some (.fz (.str z)) := by
  obtain ⟨h1, h2⟩ := shown_le p g
  refine ⟨p.shown, ?_⟩
  simp only [reprD, reprS, h]
  rw [if_pos ⟨h1, hd, by omega⟩]
  rfl
/-! lists of texts -/
theorem toPyFL_strs : ∀ xs : List Str, toPyFL (xs.map D.str) = some (xs.map .str)
  | [] => rfl
  | x :: xs => by simp [toPyFL, toPyF, toPyFL_strs xs]
theorem gdAll_strs : ∀ {xs : List Str} {m : Nat}, (∀ z ∈ xs, okS z ∧ z.length ≤ m) → gdAll (xs.map .str) = true ∧ rbAll (xs.map .str) ≤ xs.length * (10 * m + 4) ∧ PyData.depthAll (xs.map .str) = 0
  | [], m, _ => ⟨rfl, Nat.zero_le _, rfl⟩
  | x :: xs, m, h => by
    obtain ⟨h1, h2, h3⟩ := gdAll_strs (xs := xs) (m := m) fun z q => h z (by simp [q])
    obtain ⟨g1, g2⟩ := h x (by simp)
    have g1' : PyData.strOk x = true := g1
    refine ⟨by simp [gdAll, gdP, g1', h1], ?_, by simp [PyData.depthAll, PyData.depth, h3]⟩
    show (10 * x.length + 2) + 2 + rbAll (xs.map .str) ≤ (xs.length + 1) * (10 * m + 4)
    have : (xs.length + 1) * (10 * m + 4) = xs.length * (10 * m + 4) + (10 * m + 4) := Nat.succ_mul _ _
    omega
theorem repr_strs {xs : List Str} (h : ∀ z ∈ xs, okS z ∧ z.length ≤ 100) (hl : xs.length ≤ 1000) : ∃ z, reprD [.lst (xs.map .str)] = some (.fz (.str z)) := by
  obtain ⟨h1, h2, h3⟩ := gdAll_strs h
  refine repr_some (p := .list (xs.map .str)) (by simp [toPyF, toPyFL_strs]) h1 (by simp [PyData.depth, h3]) ?_
  show 3 + rbAll _ ≤ _
  have : xs.length * (10 * 100 + 4) ≤ 1000 * 1004 := Nat.mul_le_mul hl (by omega)
  omega
end VL

namespace VL
open PySem PySem.Spec PyProof.Rows L2
/-! ### comprehensions of two clauses -/
def iOf (K : PySem.W.Frag) (cl : Str → Addr) (W : WX) (t : Ev (List D)) : TI := fun σ H R => ∃ (E : En) (Z S : PA1), OwnE K cl H Z E σ S ∧ Okk H Z S ∧ SatI K cl W σ H Z S R (t E)
def lc2E (g : T → En → Option En) (tb : Ev Bool) (ti1 : Ev (List D)) (g1 : T → En → Option En) (tb1 : Ev Bool) (te : Ev T) (vs vs1 : List Nat) : List D → En → Option (List T × En)
  | [], E => some ([], E)
  | d :: ds, E => match g (.fz d) E with
    | none => none
    | some E1 => match tb E1 with
      | some (.ok true E2) => match ti1 E2 with
        | some (.ok ds1 E3) => match lcE g1 tb1 te vs1 ds1 (clr E3 vs1) with
          | some (rs1, E4) => match lc2E g tb ti1 g1 tb1 te vs vs1 ds (clr E4 vs) with
            | some (rs2, E5) => some (rs1 ++ rs2, E5)
            | none => none
          | none => none
        | _ => none
      | some (.ok false E2) => lc2E g tb ti1 g1 tb1 te vs vs1 ds (clr E2 vs)
      | _ => none
def lim16 (rs : List T) (E : En) : Option (Out T) := if rs.length ≤ 16777216 then some (.ok (.lst rs) E) else none
def eLc2 (ti : Ev (List D)) (g : T → En → Option En) (tb : Ev Bool) (ti1 : Ev (List D)) (g1 : T → En → Option En) (tb1 : Ev Bool) (te : Ev T) (vs vs1 : List Nat) : Ev T := fun E => bnd (ti E) fun ds E1 =>
  match lc2E g tb ti1 g1 tb1 te vs vs1 ds (clr E1 vs) with
    | some (rs, E2) => lim16 rs (rst E1 E2 vs)
    | none => none
theorem wipe_sub {σ : L2.St} {vs vs1 : List Nat} (h : ∀ i ∈ vs1, i ∈ vs) : wipe (wipe σ vs1) vs = wipe σ vs := by
  apply List.ext_getElem?
  intro i
  by_cases c : i ∈ vs
  · rw [wipe_in c, wipe_in c, wipe_length]
  · rw [wipe_out c, wipe_out c, wipe_out fun q => c (h i q)]
section
variable {X : Cx} {cl : Str → Addr} {kp : Keep} {W : WX}
theorem II.pi {tg iter : Expr} {t : Ev (List D)} (h : II X cl tg iter t) (tk : Takes X W) : PI X tg iter (iOf X.K cl W t) := by
  obtain ⟨wi, p, q⟩ := h.run W tk
  exact ⟨fun pins s σ H R I ⟨E, Z, S, a, b, c⟩ => p.run pins s σ H R I (q E σ H Z S R a b c)⟩
theorem lc2_go {vs vs1 : List Nat} {g g1 : T → En → Option En} {tb tb1 : Ev Bool} {te : Ev T} {ti1 : Ev (List D)} {ds : List D} {E1 : En} {σ : L2.St} {H1 : Hp} {Z1 S1 : PA1} {J : It} {Q : VK} (hv : ∀ i ∈ vs1, i ∈ vs)
    (oe1 : OwnE X.K cl H1 Z1 E1 σ S1) (it : ItOk X.K cl J ds H1 Z1) (ok1 : Okk H1 Z1 S1)
    (sat2 : SatV X.K cl W σ H1 Z1 S1 Q (match lc2E g tb ti1 g1 tb1 te vs vs1 ds (clr E1 vs) with | some (rs, E2) => lim16 rs (rst E1 E2 vs) | none => none)) (D : Addr) (hD : H1 D = none) :
    ∃ Wf : Nat → Nat → Hp → Prop, (∃ m, Wf 0 m (upd H1 D (.lst []))) ∧ ∀ i m H, Wf i m H →
  (J.stop i H ∧ Q (.ref D) H) ∨ (J.go i H ∧ ∃ Nx : Hp → Prop, (∀ H', Nx H' → ∃ m', m' < m ∧ Wf (i + 1) m' H') ∧ ∀ x H', J.yld i H x H' → gOf X.K cl (bC vs) g x (wipe σ vs) H' fun σ2 H2 => wipe σ2 vs = wipe σ vs ∧ bOf X.K cl W0 tb σ2 H2 fun b H3 =>
    if b = true then iOf X.K cl W0 ti1 σ2 H3 fun J1 H4 => ∃ W1 : Nat → Nat → Hp → Prop, (∃ m, W1 0 m H4) ∧ ∀ j k H, W1 j k H →
      (J1.stop j H ∧ Nx H) ∨ (J1.go j H ∧ ∃ Nx1 : Hp → Prop, (∀ H', Nx1 H' → ∃ k', k' < k ∧ W1 (j + 1) k' H') ∧ ∀ x H', J1.yld j H x H' → gOf X.K cl (bC vs1) g1 x (wipe σ2 vs1) H' fun σ3 H5 => wipe σ3 vs1 = wipe σ2 vs1 ∧ bOf X.K cl W0 tb1 σ3 H5 fun b H6 =>
        if b = true then tOf X.K cl W0 te σ3 H6 fun y H7 => ∃ acc, H7 D = some (.lst acc) ∧ acc.length < sizeLine ∧ Nx1 (upd H7 D (.lst (acc ++ [y]))) else Nx1 H6)
    else Nx H3) := by
  obtain ⟨oeD, stD, okD, dD, kpD⟩ := newObj (St := Emp) (o := .lst []) (ok1.less fun _ z => z.elim False.elim id) (fun _ z _ => z) oe1 hD
  refine ⟨fun i m H' => i ≤ ds.length ∧ m = ds.length - i ∧ ∃ (E' : En) (Z' S' : PA1) (acc : List V) (accT : List T) (Ra : PA1), OwnE X.K cl H' Z' E' (wipe σ vs) S' ∧ H' D = some (.lst acc) ∧ OwnL X.K cl H' Z' accT acc Ra ∧ ¬ Ra D ∧ ¬ S' D ∧ Dis Ra S' ∧
    Step H1 Z1 S1 H' Z' (Uni (fun a => a = D ∨ Ra a) S') ∧ Okk H' Z' (Uni (fun a => a = D ∨ Ra a) S') ∧
    ∃ rs E'', lc2E g tb ti1 g1 tb1 te vs vs1 (ds.drop i) E' = some (rs, E'') ∧ (accT ++ rs).length ≤ 16777216 ∧ SatV X.K cl W σ H1 Z1 S1 Q (some (.ok (.lst (accT ++ rs)) (rst E1 E'' vs))), ⟨ds.length, Nat.zero_le _, by simp, clr E1 vs, Z1, S1, [], [], Emp, oeD.wiped vs, upd_same, .nil, fun z => z,
      fun z => dD D (.inl rfl) z, fun _ z _ => z, stD.more fun _ z => z.elim False.elim id, okD, ?_⟩, ?_⟩
  · match hE : lc2E g tb ti1 g1 tb1 te vs vs1 ds (clr E1 vs), sat2 with
    | none, sat2 => exact sat2.elim
    | some (rs, E2), sat2 =>
      dsimp only [lim16] at sat2
      by_cases hsz : rs.length ≤ 16777216
      case neg => rw [if_neg hsz] at sat2; exact sat2.elim
      rw [if_pos hsz] at sat2
      exact ⟨rs, E2, by simpa using hE, by simpa using hsz, sat2⟩
  rintro i m H' ⟨hle, rfl, E', Z', S', acc, accT, Ra, oe', hD', owA, nRD, nSD, dRS, st', ok', rs, E'', hlc, hsz, satF⟩
  obtain ⟨go, stop⟩ := it i H' Z' st'.zz (fun a o z e => st'.kp a o e fun q => ok1.dis a q z) ok'.za
  by_cases hlt : i < ds.length
  case neg =>
    have e : i = ds.length := by omega
    subst e
    rw [List.drop_length] at hlc
    simp only [lc2E] at hlc
    cases hlc
    rw [List.append_nil] at satF
    refine .inl ⟨stop rfl, ?_⟩
    have oe3 : OwnE X.K cl H' Z' (rst E1 E' vs) σ S' := by
      refine OwnE.rst oe1 st'.zz (st'.rd ok1.dis) ?_ vs
      refine OwnE.swap oe' (wipe_length σ vs).symm fun j t q => ?_
      by_cases hj : j ∈ vs
      · exfalso
        have hl := oe'.take q
        obtain ⟨w, _, _, h1, _⟩ := hl
        rw [wipe_in hj] at h1
        split at h1 <;> simp at h1
      · exact (wipe_out hj).symm
    exact satF (.ref D) H' Z' (fun a => a = D ∨ Ra a) S' oe3 (.lst (R := Ra) hD' (.inl rfl) (fun b z => ⟨.inr z, fun e => nRD (e ▸ z)⟩) owA) (fun a x y => x.elim (fun e => nSD (e ▸ y)) fun x => dRS a x y) st' ok'
  obtain ⟨d, hd⟩ : ∃ d, ds[i]? = some d := ⟨ds[i], by simp [hlt]⟩
  have hdrop : ds.drop i = d :: ds.drop (i + 1) := by
    rw [List.drop_eq_getElem_cons hlt]
    have : ds[i]? = some ds[i] := by simp [hlt]
    rw [hd] at this; cases this; rfl
  rw [hdrop] at hlc
  obtain ⟨hgo, yl⟩ := go d hd
  refine .inr ⟨hgo, fun H'' => ∃ (E' : En) (Z' S' : PA1) (acc : List V) (accT : List T) (Ra : PA1), OwnE X.K cl H'' Z' E' (wipe σ vs) S' ∧ H'' D = some (.lst acc) ∧ OwnL X.K cl H'' Z' accT acc Ra ∧ ¬ Ra D ∧ ¬ S' D ∧ Dis Ra S' ∧
    Step H1 Z1 S1 H'' Z' (Uni (fun a => a = D ∨ Ra a) S') ∧ Okk H'' Z' (Uni (fun a => a = D ∨ Ra a) S') ∧
    ∃ rs E'', lc2E g tb ti1 g1 tb1 te vs vs1 (ds.drop (i + 1)) E' = some (rs, E'') ∧ (accT ++ rs).length ≤ 16777216 ∧ SatV X.K cl W σ H1 Z1 S1 Q (some (.ok (.lst (accT ++ rs)) (rst E1 E'' vs))), fun H'' q => ⟨ds.length - (i + 1), by omega, hlt, rfl, q⟩, fun x H2 y => ?_⟩
  obtain ⟨Z2, st2, za2, rp2⟩ := yl x H2 y
  have st2' : Step H' Z' (Uni (fun a => a = D ∨ Ra a) S') H2 Z2 (Uni (fun a => a = D ∨ Ra a) S') := ((st2.frame (R := Uni (fun a => a = D ∨ Ra a) S')).more fun a z => z.elim id False.elim).less fun a z => .inl z
  have ok2 : Okk H2 Z2 (Uni (fun a => a = D ∨ Ra a) S') := (st2.okk (R := Uni (fun a => a = D ∨ Ra a) S') (ok'.less fun a z => z.elim id False.elim) ⟨fun _ z => z.elim, fun _ z => z.elim, za2⟩ fun _ _ z => z).less fun a z => .inl z
  have oe2 := st2.ownE (fun _ z => z.elim) (fun _ _ z => z) oe'
  have owA2 := st2.ownL (fun _ z => z.elim) (fun _ _ z => z) owA
  have hD2 : H2 D = some (.lst acc) := st2.kp D _ hD' fun z => z
  have okS : Okk H2 Z2 S' := ok2.less fun _ z => .inr z
  have stA := st'.trans st2'
  have dHD : Dis (fun a => a = D ∨ Ra a) S' := fun a x y => x.elim (fun e => nSD (e ▸ y)) fun x => dRS a x y
  simp only [lc2E] at hlc
  match hE : g (.fz d) E', hlc with
  | some E3, hlc =>
    refine ⟨.fz d, E', Z2, Emp, S', oe2, .fz rp2, fun _ z _ => z, okS.less fun a z => z.elim False.elim id, ?_⟩
    rw [hE]
    intro τ H3 Z3 S3 oe3 kk3 st3 ok3
    have st3' : Step H2 Z2 S' H3 Z3 S3 := st3.more fun a z => z.elim False.elim id
    refine ⟨wipe_of kk3, E3, Z3, S3, oe3, ok3, ?_⟩
    dsimp only at hlc
    match hE2 : tb E3, hlc with
    | some (.ok false E4), hlc =>
      intro H4 Z4 S4 oe4 st4 ok4
      rw [if_neg Bool.false_ne_true]
      have st5 : Step H2 Z2 S' H4 Z4 S4 := st3'.trans st4
      have oe5 := oe4.wiped vs
      rw [wipe_of kk3] at oe5
      exact ⟨clr E4 vs, Z4, S4, acc, accT, Ra, oe5, st5.kp D _ hD2 nSD, st5.ownL okS.dis dRS owA2, nRD, fun z => st5.dis (R := fun a => a = D) (fun a z => by subst z; rw [hD2]; simp) (fun a x y => nSD (x ▸ y)) D rfl z,
        st5.dis (fun a z => ok2.sa a (.inl (.inr z))) dRS, stA.trans st5.frame, st5.okk ok2 ok4 dHD, rs, E'', hlc, hsz, satF⟩
    | some (.ok true E4), hlc =>
      intro H4 Z4 S4 oe4 st4 ok4
      rw [if_pos rfl]
      refine ⟨E4, Z4, S4, oe4, ok4, ?_⟩
      dsimp only at hlc
      match hE3 : ti1 E4, hlc with
      | some (.ok ds1 E5), hlc =>
        intro J1 H5 Z5 S5 oe5 it5 st5 ok5
        dsimp only at hlc
        match hE4 : lcE g1 tb1 te vs1 ds1 (clr E5 vs1), hlc with
        | some (rs1, E6), hlc =>
          dsimp only at hlc
          match hE5 : lc2E g tb ti1 g1 tb1 te vs vs1 (ds.drop (i + 1)) (clr E6 vs), hlc with
          | some (rs2, E7), hlc =>
            cases hlc
            have stT : Step H2 Z2 S' H5 Z5 S5 := (st3'.trans st4).trans st5
            -- the second source's own loop
            refine ⟨fun j k Hx => j ≤ ds1.length ∧ k = ds1.length - j ∧ ∃ (Ex : En) (Zx Sx : PA1) (acx : List V) (axT : List T) (Rx : PA1), OwnE X.K cl Hx Zx Ex (wipe τ vs1) Sx ∧ Hx D = some (.lst acx) ∧ OwnL X.K cl Hx Zx axT acx Rx ∧ ¬ Rx D ∧ ¬ Sx D ∧ Dis Rx Sx ∧
              Step H1 Z1 S1 Hx Zx (Uni (fun a => a = D ∨ Rx a) Sx) ∧ Okk Hx Zx (Uni (fun a => a = D ∨ Rx a) Sx) ∧ (∀ a, Z5 a → Zx a) ∧ (∀ a o, Z5 a → H5 a = some o → Hx a = some o) ∧
              ∃ r1 Ey, lcE g1 tb1 te vs1 (ds1.drop j) Ex = some (r1, Ey) ∧ ∃ r2 Ez, lc2E g tb ti1 g1 tb1 te vs vs1 (ds.drop (i + 1)) (clr Ey vs) = some (r2, Ez) ∧ ((axT ++ r1) ++ r2).length ≤ 16777216 ∧ SatV X.K cl W σ H1 Z1 S1 Q (some (.ok (.lst ((axT ++ r1) ++ r2)) (rst E1 Ez vs))), ⟨ds1.length, Nat.zero_le _, by simp, clr E5 vs1, Z5, S5, acc, accT, Ra, oe5.wiped vs1, stT.kp D _ hD2 nSD, stT.ownL okS.dis dRS owA2, nRD,
                fun z => stT.dis (R := fun a => a = D) (fun a z => by subst z; rw [hD2]; simp) (fun a x y => nSD (x ▸ y)) D rfl z, stT.dis (fun a z => ok2.sa a (.inl (.inr z))) dRS, stA.trans stT.frame, stT.okk ok2 ok5 dHD, fun _ z => z, fun _ _ _ e => e,
                rs1, E6, by simpa using hE4, rs2, _, hE5, by rw [List.append_assoc]; exact hsz, by rw [List.append_assoc]; exact satF⟩, ?_⟩
            rintro j k Hx ⟨jle, rfl, Ex, Zx, Sx, acx, axT, Rx, oex, hDx, owx, nRx, nSx, dRx, stx, okx, zzx, kpx, r1, Ey, hl1, r2, Ez, hl2, hsx, satx⟩
            obtain ⟨go1, stop1⟩ := it5 j Hx Zx zzx kpx okx.za
            by_cases jlt : j < ds1.length
            case neg =>
              have e : j = ds1.length := by omega
              subst e
              rw [List.drop_length] at hl1
              simp only [lcE] at hl1
              cases hl1
              rw [List.append_nil] at hsx satx
              have oew := oex.wiped vs
              rw [wipe_sub hv, wipe_of kk3] at oew
              exact .inl ⟨stop1 rfl, clr Ex vs, Zx, Sx, acx, axT, Rx, oew, hDx, owx, nRx, nSx, dRx, stx, okx, r2, Ez, hl2, hsx, satx⟩
            obtain ⟨d1, hd1⟩ : ∃ d, ds1[j]? = some d := ⟨ds1[j], by simp [jlt]⟩
            have hdrop1 : ds1.drop j = d1 :: ds1.drop (j + 1) := by
              rw [List.drop_eq_getElem_cons jlt]
              have : ds1[j]? = some ds1[j] := by simp [jlt]
              rw [hd1] at this; cases this; rfl
            rw [hdrop1] at hl1
            obtain ⟨hgo1, yl1⟩ := go1 d1 hd1
            refine .inr ⟨hgo1, fun Hy => ∃ (Ex : En) (Zx Sx : PA1) (acx : List V) (axT : List T) (Rx : PA1), OwnE X.K cl Hy Zx Ex (wipe τ vs1) Sx ∧ Hy D = some (.lst acx) ∧ OwnL X.K cl Hy Zx axT acx Rx ∧ ¬ Rx D ∧ ¬ Sx D ∧ Dis Rx Sx ∧
              Step H1 Z1 S1 Hy Zx (Uni (fun a => a = D ∨ Rx a) Sx) ∧ Okk Hy Zx (Uni (fun a => a = D ∨ Rx a) Sx) ∧ (∀ a, Z5 a → Zx a) ∧ (∀ a o, Z5 a → H5 a = some o → Hy a = some o) ∧
              ∃ r1 Ey, lcE g1 tb1 te vs1 (ds1.drop (j + 1)) Ex = some (r1, Ey) ∧ ∃ r2 Ez, lc2E g tb ti1 g1 tb1 te vs vs1 (ds.drop (i + 1)) (clr Ey vs) = some (r2, Ez) ∧ ((axT ++ r1) ++ r2).length ≤ 16777216 ∧ SatV X.K cl W σ H1 Z1 S1 Q (some (.ok (.lst ((axT ++ r1) ++ r2)) (rst E1 Ez vs))), fun Hy q => ⟨ds1.length - (j + 1), by omega, jlt, rfl, q⟩, fun x1 Ha y1 => ?_⟩
            obtain ⟨Za, sta, zaa, rpa⟩ := yl1 x1 Ha y1
            have sta' : Step Hx Zx (Uni (fun a => a = D ∨ Rx a) Sx) Ha Za (Uni (fun a => a = D ∨ Rx a) Sx) := ((sta.frame (R := Uni (fun a => a = D ∨ Rx a) Sx)).more fun a z => z.elim id False.elim).less fun a z => .inl z
            have oka : Okk Ha Za (Uni (fun a => a = D ∨ Rx a) Sx) := (sta.okk (R := Uni (fun a => a = D ∨ Rx a) Sx) (okx.less fun a z => z.elim id False.elim) ⟨fun _ z => z.elim, fun _ z => z.elim, zaa⟩ fun _ _ z => z).less fun a z => .inl z
            have oea := sta.ownE (fun _ z => z.elim) (fun _ _ z => z) oex
            have owa := sta.ownL (fun _ z => z.elim) (fun _ _ z => z) owx
            have hDa : Ha D = some (.lst acx) := sta.kp D _ hDx fun z => z
            have okSa : Okk Ha Za Sx := oka.less fun _ z => .inr z
            have stB := stx.trans sta'
            have dHx : Dis (fun a => a = D ∨ Rx a) Sx := fun a x y => x.elim (fun e => nSx (e ▸ y)) fun x => dRx a x y
            have zza : ∀ a, Z5 a → Za a := fun a z => sta.zz a (zzx a z)
            have kpa : ∀ a o, Z5 a → H5 a = some o → Ha a = some o := fun a o z e => sta.kp a o (kpx a o z e) fun z => z
            have z5n : ∀ a, Z5 a → ¬ (Uni (fun a => a = D ∨ Rx a) Sx) a := fun a z q => oka.dis a q (zza a z)
            simp only [lcE] at hl1
            match hF : g1 (.fz d1) Ex, hl1 with
            | some Eb, hl1 =>
              refine ⟨.fz d1, Ex, Za, Emp, Sx, oea, .fz rpa, fun _ z _ => z, okSa.less fun a z => z.elim False.elim id, ?_⟩
              rw [hF]
              intro τ1 Hb Zb Sb oeb kkb stb okb
              have stb' : Step Ha Za Sx Hb Zb Sb := stb.more fun a z => z.elim False.elim id
              refine ⟨wipe_of kkb, Eb, Zb, Sb, oeb, okb, ?_⟩
              dsimp only at hl1
              match hF2 : tb1 Eb, hl1 with
              | some (.ok false Ec), hl1 =>
                intro Hc Zc Sc oec stc okc
                rw [if_neg Bool.false_ne_true]
                have std : Step Ha Za Sx Hc Zc Sc := stb'.trans stc
                have oed := oec.wiped vs1
                rw [wipe_of kkb] at oed
                exact ⟨clr Ec vs1, Zc, Sc, acx, axT, Rx, oed, std.kp D _ hDa nSx, std.ownL okSa.dis dRx owa, nRx, fun z => std.dis (R := fun a => a = D) (fun a z => by subst z; rw [hDa]; simp) (fun a x y => nSx (x ▸ y)) D rfl z,
                  std.dis (fun a z => oka.sa a (.inl (.inr z))) dRx, stB.trans std.frame, std.okk oka okc dHx, fun a z => std.zz a (zza a z), fun a o z e => std.kp a o (kpa a o z e) fun q => z5n a z (.inr q), r1, Ey, hl1, r2, Ez, hl2, hsx, satx⟩
              | some (.ok true Ec), hl1 =>
                intro Hc Zc Sc oec stc okc
                rw [if_pos rfl]
                refine ⟨Ec, Zc, Sc, oec, okc, ?_⟩
                dsimp only at hl1
                match hF3 : te Ec, hl1 with
                | some (.ok r Ed), hl1 =>
                  intro v Hd Zd Sr Sd oed owd dd std okd
                  dsimp only at hl1
                  match hF4 : lcE g1 tb1 te vs1 (ds1.drop (j + 1)) (clr Ed vs1), hl1 with
                  | some (rs', Ef), hl1 =>
                    cases hl1
                    have stU : Step Ha Za Sx Hd Zd (Uni Sr Sd) := (stb'.trans stc).trans std
                    have hDd := stU.kp D _ hDa nSx
                    have owe := stU.ownL okSa.dis dRx owa
                    have okT : Okk Hd Zd (Uni (fun a => a = D ∨ Rx a) (Uni Sr Sd)) := stU.okk oka okd dHx
                    have dT : Dis (fun a => a = D ∨ Rx a) (Uni Sr Sd) := stU.dis (fun a z => oka.sa a (.inl z)) dHx
                    have nZ : ¬ Zd D := fun z => okT.dis D (.inl (.inl rfl)) z
                    obtain ⟨stw, okw, kw⟩ := wr_step (o := .lst (acx ++ [v])) okT (D := D) (.inl (.inl rfl))
                    have kz : ∀ a, Zd a → Kept Hd (upd Hd D (.lst (acx ++ [v]))) a := fun a z => .of fun u e => kw a u (fun q => nZ (q ▸ z)) e
                    have oef := (oed.wiped vs1).mono (fun _ z => z) kz fun a o z e => kw a o (fun q => dT D (.inl rfl) (q ▸ .inr z)) e
                    rw [wipe_of kkb] at oef
                    have owf : Own X.K cl (upd Hd D (.lst (acx ++ [v]))) Zd r v Sr := owd.mono (fun _ z => z) kz fun a o z e => kw a o (fun q => dT D (.inl rfl) (q ▸ .inl z)) e
                    have owg : OwnL X.K cl (upd Hd D (.lst (acx ++ [v]))) Zd axT acx Rx := owe.mono (fun _ z => z) kz fun a o z e => kw a o (fun q => nRx (q ▸ z)) e
                    have sub : ∀ a, Uni (fun a => a = D ∨ Uni Rx Sr a) Sd a → Uni (fun a => a = D ∨ Rx a) (Uni Sr Sd) a := by intro a z; simp only [Uni] at z ⊢; grind
                    have hacl : acx.length < sizeLine := by
                      have h1 := owx.len
                      simp only [List.length_append, List.length_cons] at hsx
                      rw [sizeLine_eq]
                      omega
                    have assoc : (axT ++ r :: rs') ++ r2 = ((axT ++ [r]) ++ rs') ++ r2 := by simp
                    rw [assoc] at hsx satx
                    refine ⟨acx, hDd, hacl, clr Ed vs1, Zd, Sd, acx ++ [v], axT ++ [r], Uni Rx Sr, oef, upd_same, owg.snoc owf fun a x y => dT a (.inr y) (.inl x), fun z => z.elim nRx fun z => dT D (.inl rfl) (.inl z),
                      fun z => dT D (.inl rfl) (.inr z), fun a x y => x.elim (fun x => dT a (.inr x) (.inr y)) fun x => dd a x y, ((stB.trans stU.frame).trans stw).less sub, okw.less sub, fun a z => stU.zz a (zza a z),
                      fun a o z e => kw a o (fun q => z5n a z (.inl (.inl q))) (stU.kp a o (kpa a o z e) fun q => z5n a z (.inr q)), rs', _, hF4, r2, Ez, hl2, hsx, satx⟩
end
section
variable {X : Cx} {cl : Str → Addr} {kp : Keep} {W : WX}
theorem lc2_run {tg iter : Expr} {vs vs1 : List Nat} {ti ti1 : Ev (List D)} {g g1 : T → En → Option En} {tb tb1 : Ev Bool} {te : Ev T} {wi : TI} (hv : ∀ i ∈ vs1, i ∈ vs) (qi : ∀ E σ H Z (S : PA1) R, OwnE X.K cl H Z E σ S → Okk H Z S → SatI X.K cl W σ H Z S R (ti E) → wi σ H R)
    (E : En) (σ : L2.St) (H : Hp) (Z S : PA1) (Q : VK) (oe : OwnE X.K cl H Z E σ S) (ok : Okk H Z S) (sat : SatV X.K cl W σ H Z S Q (eLc2 ti g tb ti1 g1 tb1 te vs vs1 E)) : tLc2 wi (gOf X.K cl (bC vs) g) (bOf X.K cl W0 tb) (iOf X.K cl W0 ti1) (gOf X.K cl (bC vs1) g1) (bOf X.K cl W0 tb1) (tOf X.K cl W0 te) vs vs1 σ H Q := by
  refine qi E σ H Z S _ oe ok (satI_bnd (β := T) (κ := VK) (q := Q) sat fun ds E1 sat1 J H1 Z1 S1 oe1 it st1 ok1 D hD => ?_)
  exact lc2_go hv oe1 it ok1 (SatV.re st1 sat1) D hD
theorem ie_lc2 {elt tg iter tg1 iter1 : Expr} {ifs ifs1 : List Expr} {scope : Scope} (own : List (Str × Nat)) (vs1 : List Nat) {pos : Pos} {ti ti1 : Ev (List D)} {g g1 : T → En → Option En} {tb tb1 : Ev Bool} {te : Ev T} (hc : X.calm = true) (hN : X.N.Nodup) (hi : II X cl tg iter ti) (okB : BlkOk X.N X.env.scope scope own) (hv : ∀ i ∈ vs1, i ∈ own.map (·.2))
    (hg : ∀ (s : Shared) (H : Hp) (C : Addr) (clo : List (Str × Addr)) (fp : List Addr), IG (X.blk s H scope (compEnvC scope clo C X.env) fp) cl (bC (own.map (·.2))) tg g)
    (ht : ∀ (s : Shared) (H : Hp) (C : Addr) (clo : List (Str × Addr)) (fp : List Addr), ITs (X.blk s H scope (compEnvC scope clo C X.env) fp) cl ifs tb)
    (hi1 : ∀ (s : Shared) (H : Hp) (C : Addr) (clo : List (Str × Addr)) (fp : List Addr), II (X.blk s H scope (compEnvC scope clo C X.env) fp) cl tg1 iter1 ti1)
    (hg1 : ∀ (s : Shared) (H : Hp) (C : Addr) (clo : List (Str × Addr)) (fp : List Addr), IG (X.blk s H scope (compEnvC scope clo C X.env) fp) cl (bC vs1) tg1 g1)
    (ht1 : ∀ (s : Shared) (H : Hp) (C : Addr) (clo : List (Str × Addr)) (fp : List Addr), ITs (X.blk s H scope (compEnvC scope clo C X.env) fp) cl ifs1 tb1)
    (he : ∀ (s : Shared) (H : Hp) (C : Addr) (clo : List (Str × Addr)) (fp : List Addr), IE (X.blk s H scope (compEnvC scope clo C X.env) fp) cl elt te) (hs : ∀ x, foldedSetIterable iter X.env x = pure x := by intro _; rfl) (hs1 : ∀ env x, foldedSetIterable iter1 env x = pure x := by intro _ _; rfl) :
    IE X cl (.ListComp elt [⟨tg, iter, ifs, 0⟩, ⟨tg1, iter1, ifs1, 0⟩] scope pos) (eLc2 ti g tb ti1 g1 tb1 te (own.map (·.2)) vs1) := by
  refine ⟨fun W tk => ?_⟩
  obtain ⟨wi, pi, qi⟩ := hi.run W tk
  exact ⟨_, pe_lc2 (g := gOf X.K cl (bC (own.map (·.2))) g) (g1 := gOf X.K cl (bC vs1) g1) (tt := bOf X.K cl W0 tb) (tt1 := bOf X.K cl W0 tb1) (wi1 := iOf X.K cl W0 ti1) (te := tOf X.K cl W0 te) hc hN pi okB hv (fun s H C clo fp => (hg s H C clo fp).pg) (fun s H C clo fp => (ht s H C clo fp).run W0 takes0)
      (fun s H C clo fp => (hi1 s H C clo fp).pi (W := W0) takes0) (fun s H C clo fp => (hg1 s H C clo fp).pg) (fun s H C clo fp => (ht1 s H C clo fp).run W0 takes0) (fun s H C clo fp => (he s H C clo fp).pe (W := W0) takes0) hs hs1,
    fun E σ H Z S Q oe ok sat => lc2_run (tg := tg) (iter := iter) hv qi E σ H Z S Q oe ok sat⟩
end
end VL

namespace VL
open PySem PySem.Spec PyProof.Rows L2
/-! ### extend -/
section
variable {K : PySem.W.Frag} {cl : Str → Addr} {H : Hp} {Z : PA1}
theorem OwnL.frozen : ∀ {ds zs} {S : PA1}, RpL K cl H Z ds zs → OwnL K cl H Z (ds.map T.fz) zs S
  | _, _, _, .nil => .nil
  | _, _, _, .cons q r => .cons (S1 := Emp) (S2 := Emp) (.fz q) (OwnL.frozen r) (fun _ z => z.elim) (fun _ z => z.elim) (fun _ x _ => x)
theorem OwnL.more : ∀ {ts vs ds zs} {S : PA1}, OwnL K cl H Z ts vs S → RpL K cl H Z ds zs → OwnL K cl H Z (ts ++ ds.map T.fz) (vs ++ zs) S
  | _, _, _, _, _, .nil, r => OwnL.frozen r
  | _, _, _, _, _, .cons q p a1 a2 d, r => .cons q (OwnL.more p r) a1 a2 d
def gExtend : T → List T → Option (T × T)
  | .lst ts, [.fz (.lst ds)] => if ts.length + ds.length ≤ 16777216 then some (.fz .non, .lst (ts ++ ds.map T.fz)) else none
  | _, _ => none
theorem mutv_extend : MutV K cl rExtend gExtend := by
  intro u xs w vs H Z Su Sx Q ow owx d ok h
  match u, xs, vs, ow, owx, h with
  | .lst ts, [.fz (.lst ds)], [v], .lst (a := a) (vs := us) (R := R) h1 h2 h3 rl, .cons (S1 := S1) q .nil a1 a2 dd, h =>
    cases q with
    | fz q =>
    cases q with
    | @lst b zs _ z1 z2 rz =>
    simp only [gExtend] at h
    by_cases c : ts.length + ds.length ≤ 16777216
    case neg => rw [if_neg c] at h; exact h.elim
    rw [if_pos c] at h
    dsimp only at h
    obtain ⟨st, ok', k⟩ := wr_step (o := .lst (us ++ zs)) ok (D := a) (.inl h2)
    have kz : ∀ b, Z b → Kept H (upd H a (.lst (us ++ zs))) b := fun b z => .of fun p e => k b p (fun q => ok.dis b (.inl (q ▸ h2)) z) e
    have r1 := rl.mono (fun _ z => z) kz fun b p z e => k b p (h3 b z).2 e
    have q1 := rz.mono (fun _ z => z) kz
    refine ⟨a, b, us, zs, rfl, rfl, h1, z2, by rw [← rl.len, ← rz.len, sizeLine_eq]; omega, h .non _ Emp (Uni Su Sx) (.fz .non) ?_ (fun _ z _ => z) (st.less fun b z => z.elim False.elim id) (ok'.less fun b z => z.elim False.elim id) fun b o n e => k b o (fun q => n (q ▸ h2)) e⟩
    exact .lst (R := R) upd_same (.inl h2) (fun b z => ⟨.inl (h3 b z).1, (h3 b z).2⟩) (r1.more q1)
end
section
variable {X : Cx} {cl : Str → Addr} {e : Expr} {k : Nat}
theorem mExtendR (i : Nat) {o : Expr} {tp : Ev Loc} {ms : Ev (List T)} {apos cpos : Pos} (ho : IP X cl o tp) (ha : IMs X cl i [e] ms) (hbase : attributeBase o "extend" X.env (eval o X.env) = eval o X.env := by rfl)
    (hfew : ((backTo cpos (starEach [e] X.env)).all (fun x => !x.1) && (backToKw cpos (keywordEach [] X.env)).all (fun x => x.1.isSome)
      && decide (([e] : List Expr).length + ([] : List Keyword).length + (if ([] : List Keyword).isEmpty then 0 else 1) < 30)) = true := by rfl)
    (hline : (apos.endLine == cpos.line) = true := by rfl) (hs : starEach [e] X.env = (false, eval e X.env) :: starEach [] X.env := by rfl) (hplain : (backTo cpos (starEach [] X.env)).any (·.1) = false := by rfl) :
    IE X cl (.Call (.Attribute o "extend" apos) [e] [] cpos) (eMt i "list" gExtend tp ms) := ie_mt i F.plainAttrs_list F.slot_list_extend F.type_list_extend mt_extend mutv_extend ho ha hbase hfew hline hs hplain
end
end VL

namespace VL
open PySem PySem.Spec PyProof.Rows L2
/-! ### running the new evaluators -/
theorem seq_of {t u : Ev Fl} {E E1 : En} {r : Option (Out Fl)} (h : t E = some (.ok .nx E1)) (h2 : u E1 = r) : sSeq t u E = r := by rw [sSeq_a, h]; exact h2
section
variable {E : En}
@[simp] theorem eLc2_a (ti : Ev (List D)) (g : T → En → Option En) (tb : Ev Bool) (ti1 : Ev (List D)) (g1 : T → En → Option En) (tb1 : Ev Bool) (te : Ev T) (vs vs1 : List Nat) : eLc2 ti g tb ti1 g1 tb1 te vs vs1 E = bnd (ti E) fun ds E1 =>
  match lc2E g tb ti1 g1 tb1 te vs vs1 ds (clr E1 vs) with
    | some (rs, E2) => lim16 rs (rst E1 E2 vs)
    | none => none := rfl
theorem lim16_ok {rs : List T} (h : rs.length ≤ 16777216) : lim16 rs E = some (.ok (.lst rs) E) := if_pos h
theorem gExt {ts : List T} {ds : List D} (h : ts.length + ds.length ≤ 16777216) : gExtend (.lst ts) [.fz (.lst ds)] = some (.fz .non, .lst (ts ++ ds.map .fz)) := if_pos h
/-- a comprehension of two clauses that changes nothing -/
theorem lc2E_pure {v v1 : Nat} {ti1 : Ev (List D)} {te : Ev T} {f : D → List D} {h : D → D → T} (ne : v ≠ v1) : ∀ (ds : List D) (E : En), E[v]? = some none → E[v1]? = some none →
    (∀ d ∈ ds, ti1 (E.set v (some (.fz d))) = some (.ok (f d) (E.set v (some (.fz d))))) →
    (∀ d ∈ ds, ∀ d1 ∈ f d, te ((E.set v (some (.fz d))).set v1 (some (.fz d1))) = some (.ok (h d d1) ((E.set v (some (.fz d))).set v1 (some (.fz d1))))) →
    lc2E (gSet v) bYes ti1 (gSet v1) bYes te [v, v1] [v1] ds E = some (ds.flatMap fun d => (f d).map (h d), E)
  | [], E, _, _, _, _ => rfl
  | d :: ds, E, hv, hv1, h1, h2 => by
    have ih := lc2E_pure ne ds E hv hv1 (fun d' q => h1 d' (by simp [q])) fun d' q => h2 d' (by simp [q])
    have e0 : (E.set v (some (.fz d))).set v none = E := by rw [List.set_set]; exact set_get hv
    have v1' : (E.set v (some (T.fz d)))[v1]? = some none := by rw [List.getElem?_set_ne ne]; exact hv1
    have e1 : (E.set v (some (.fz d))).set v1 none = E.set v (some (.fz d)) := set_get v1'
    have eb : ∀ E : En, bYes E = some (.ok true E) := fun _ => rfl
    have e2 := lcE_pure (v := v1) (tb := bYes) (te := te) (p := fun _ => true) (f := h d) (f d) (E.set v (some (.fz d))) v1' (fun _ _ => eb _) (fun d1 hd1 _ => h2 d (by simp) d1 hd1)
    have e3 : ((f d).filter fun _ => true) = f d := by simp
    rw [e3] at e2
    simp only [lc2E, gSet_a, frz, eb, h1 d (by simp), clr_cons, clr_nil, e1, e2, e0, ih, List.flatMap_cons]
end
end VL

namespace VL
open PySem PySem.Spec PyProof.Rows L2
/-! ### == and != by an own __eq__ -/
section
variable {prog : Program} {w : World} {A : Around} {E : Value → Shared → Prop} {s : Shared} {K : PySem.W.Frag} {x C f : Addr} {ox : Obj} {od : Option Obj} {b tb : Value} {name : Str} {id : String}
theorem special_bltn {M : Model} {args : List Value} {Q : Option Value → Shared → Prop} (X : K.In s.heap) (I : PySem.W.InstAt s.heap x ox C od) (hs : PySem.W.findIn K (.ref C) name = some (some (.builtin id))) (hb : ∀ self, bindSpecial (.builtin id) self = pure (.builtin id, [self]))
    (h : wpAny M A (call (.builtin id) (.ref x :: args)) (fun v => Q (some v)) E s) : wpAny M A (callSpecialIfBound? (.ref x) name args) Q E s := by
  simp only [callSpecialIfBound?, bindSpecialIfBound?]
  refine wpAny_holding (wpAny_bind (wpAny_bind (wpAny_bind (I.type.here ((PySem.W.looks_findIn X hs).here ?_)))))
  simp only [hb]
  refine wpAny_bind (wpAny_askSetting (wpAny_ite ?_))
  have fin : wpAny M A (call (.builtin id) ([.ref x] ++ args) >>= fun v => pure (some v)) Q E s := wpAny_bind (wpAny_mono h (fun v s' h' => wpAny_pure h') fun _ _ h' => h')
  split
  · exact wpAny_bind (wpAny_pure (wpAny_pure fin))
  · exact wpAny_tryCatch (wpAny_bind (wpAny_pure (wpAny_pure fin)))
theorem check_slotK {M : Model} {owner n : String} {rest : List Value} {Q : Unit → Shared → Prop} (hk : builtinKind id = some .slot) (hs : splitId id = some (owner, n)) (ha : argsOk id ⟨.ref x :: rest, []⟩) (X : K.In s.heap) (I : PySem.W.InstAt s.heap x ox C od)
    (hob : PySem.W.subIn K (.ref C) (.type owner) = some true) (hq : Q () s) : wpAny M A (checkBuiltinCall id ⟨.ref x :: rest, []⟩) Q E s := by
  simp only [checkBuiltinCall, hk, hs]
  refine wpAny_bind ?_
  unfold isInstance
  refine wpAny_bind (I.type.here ((PySem.W.looks_subIn X hob).here ?_))
  cases hsig : Manifest.signature? id with
  | none => exact wpAny_pure hq
  | some sig =>
    simp only [argsOk, hsig] at ha
    have h2 : Bind.checkArgs id sig ⟨.ref x :: rest, []⟩ = pure () := ha
    show wpAny M A (Bind.checkArgs id sig ⟨.ref x :: rest, []⟩) Q E _
    rw [h2]; exact wpAny_pure hq
theorem objNe_K {Q : Fin → Shared → Prop} (hu : A.units < cLine) (X : K.In s.heap) (I : PySem.W.InstAt s.heap x ox C od) (hs : PySem.W.findIn K (.ref C) "__eq__" = some (some (.ref f))) (hf : PySem.W.isFn K (.ref f) = true)
    (hcall : wpAny (model prog w) A (call (.ref f) [.ref x, b]) (fun v s' => ∃ r, v = .bool r ∧ Q (.done (.ret (.bool (!r)))) s') E s) :
    wpAny (model prog w) A (Builtin.«object.__ne__» ⟨[.ref x, b], []⟩) Q E s := by
  unfold Builtin.«object.__ne__»
  repeat (first
    | with_reducible refine wpAny_cRoomFor hu ?_
    | (refine wpAny_bind (m := callSpecialIfBound? (.ref x) (Str.ofString "__eq__") [b])
        (PySem.W.ifBound_K X I hs hf (wpAny_mono hcall (fun r s' hr => by
          obtain ⟨b, rfl, hq⟩ := hr
          repeat (first | exact hq | exact wpAny_pure hq | exact wpAny_truthy_bool hq | (refine wpAny_bind (m := truthy (.bool _)) (wpAny_truthy_bool ?_)) | wp_step)) fun _ _ e => e)))
    | wp_step)
theorem richNe_K {Q : Value → Shared → Prop} (hu : A.units + 1 < cLine) (X : K.In s.heap) (I : PySem.W.InstAt s.heap x ox C od) (hb : PySem.W.Looks (model prog w) s.heap (typeOf b) tb) (hn : PySem.W.notFirst K C tb = true)
    (hne : PySem.W.findIn K (.ref C) "__ne__" = some (some (.builtin "object.__ne__"))) (hob : PySem.W.subIn K (.ref C) (.type "object") = some true)
    (hs : PySem.W.findIn K (.ref C) "__eq__" = some (some (.ref f))) (hf : PySem.W.isFn K (.ref f) = true)
    (h : wpAny (model prog w) A.in1 (call (.ref f) [.ref x, b]) (fun v s' => ∃ r, v = .bool r ∧ Q (.bool (!r)) s') E s) : wpAny (model prog w) A (richCompare .NotEq (.ref x) b) Q E s := by
  have one : wpAny (model prog w) A (tryCompare (.ref x) "__ne__" b) (fun r s' => ∃ v, r = some v ∧ Q v s') E s := by
    unfold tryCompare
    refine wpAny_bind (special_bltn X I hne (fun self => PySem.F.cmp_object.ne.bind self) (wpAny_call (codeAny_call_builtin PySem.F.cmp_object.ne.plain PySem.F.cmpEntry_ne
      (check_slotK PySem.F.cmpKind_ne PySem.F.cmpSplit_ne (PySem.F.cmpArgs_ne _ _) X I hob (objNe_K (A := A.in1) hu X I hs hf (wpAny_mono h (fun v s' hv => ?_) fun _ _ e => e))))))
    obtain ⟨r, rfl, hq⟩ := hv
    refine ⟨r, rfl, ?_⟩
    first | exact wpAny_pure ⟨_, rfl, hq⟩ | exact wpAny_pure (wpAny_pure ⟨_, rfl, hq⟩)
  unfold richCompare
  simp only [oneThing_ref]
  refine wpAny_holding (wpAny_bind (wpAny_cRoomFor (by omega) ?_))
  refine wpAny_bind (I.type.here (wpAny_bind (hb.here ?_)))
  split
  · rename_i q
    have e : PySem.W.subIn K tb (.ref C) = some false := by
      rcases Bool.or_eq_true_iff.mp hn with e | e
      · rw [beq_iff_eq.mp e] at q; simp at q
      · exact beq_iff_eq.mp e
    refine wpAny_bind ((PySem.W.looks_subIn X e).here ?_)
    simp only [Bool.false_eq_true, if_false]
    refine wpAny_bind (wpAny_mono one (fun r s' z => ?_) fun _ _ e => e)
    obtain ⟨v, rfl, hq⟩ := z
    exact wpAny_pure hq
  · refine wpAny_bind (wpAny_pure ?_)
    simp only [Bool.false_eq_true, if_false]
    refine wpAny_bind (wpAny_mono one (fun r s' z => ?_) fun _ _ e => e)
    obtain ⟨v, rfl, hq⟩ := z
    exact wpAny_pure hq
end
end VL

namespace VL
open PySem PySem.Spec PyProof.Rows L2
/-! ### own classes: what the head must tell beside -/
/-- a frozen value's class -/
theorem ty_all {d : D} {a : String} (h : tyName d = some a) : a ∈ tyAll := by
  cases d <;> simp [tyName] at h <;> simp [← h, tyAll]
/-! ### isinstance with an own class -/
def isCD (c : Str) (oth : List Str) : D → Option T
  | .ins c' _ => if c' = c then some (.fz (.bl true)) else if c' ∈ oth then some (.fz (.bl false)) else none
  | d => (tyName d).map fun _ => .fz (.bl false)
section
variable {X : Cx} {cl : Str → Addr} {kp : Keep}
/-- isinstance(x, C) -/
theorem ie_isC {x c : Str} {p p2 : Pos} {e : Expr} {te : Ev T} (oth : List Str) (hc : Cls X.K (cl c)) (oc : OwnC X.K (cl c)) (ho : ∀ c' ∈ oth, Cls X.K (cl c') ∧ OwnC X.K (cl c') ∧ OwnP X.K (cl c') (cl c)) (hgc : X.mg c = some (.ref (cl c))) (hm : X.mg x = none) (hv : bootBuiltins x = some (.builtin "isinstance")) (he : IE X cl e te)
    (hg : Gl X x := by rfl) (hg2 : Gl X c := by rfl) (hn : x ≠ "__name__" := by decide) (hdb : (x == ("__debug__" : Str)) = false := by decide) (hdc : (c == ("__debug__" : Str)) = false := by decide)
    (hst : starEach (e :: [.Name c p2]) X.env = (false, eval e X.env) :: starEach [.Name c p2] X.env := by rfl) (hst2 : starEach [.Name c p2] X.env = (false, eval (.Name c p2) X.env) :: starEach [] X.env := by rfl) (hpl : (backTo pos (starEach [.Name c p2] X.env)).any (·.1) = false := by rfl) :
    IE X cl (.Call (.Name x p) [e, .Name c p2] [] pos) (eUn (isCD c oth) te) := by
  refine ⟨fun W tk => ?_⟩
  obtain ⟨te', pe, qe⟩ := he.fz W tk
  refine ⟨_, pe_callB call_isi hg hm hv (pa_cons pe (pa_cons (pe_glob (v := .ref (cl c)) hg2 hgc rfl hdc) pa_nil hst2) hst) hn hdb hst hpl, fun E σ H Z S Q oe ok sat => ?_⟩
  refine qe E σ H Z S _ oe ok (satD_bnd (β := T) (κ := VK) (q := Q) sat fun y E1 sat1 v H1 Z1 S1 oe1 rp st1 ok1 => ?_)
  have okr := op_fin oe1 ok1 (SatV.re st1 sat1)
  generalize hd : frz y = d at rp okr
  show rIsi X.K [v, .ref (cl c)] H1 Q
  by_cases ci : ∃ c' fs, d = .ins c' fs
  · obtain ⟨c', fs, rfl⟩ := ci
    cases rp with
    | @ins a _ dx fvs _ z1 z2 z3 z4 =>
      simp only [isCD] at okr
      by_cases e1 : c' = c
      · subst e1
        rw [if_pos rfl] at okr
        exact ⟨_, _, _, _, true, rfl, .own _, .base (.ins z2 hc oc.ha oc.hn oc.htk oc.hm), by simp [PySem.W.kitOne], okr_fz ok1.za okr (.bl _)⟩
      · rw [if_neg e1] at okr
        by_cases e2 : c' ∈ oth
        case neg => rw [if_neg e2] at okr; exact okr.elim
        rw [if_pos e2] at okr
        obtain ⟨q1, q2, q3⟩ := ho c' e2
        exact ⟨_, _, _, _, false, rfl, .own _, .base (.ins z2 q1 q2.ha q2.hn q2.htk q2.hm), q3.no, okr_fz ok1.za okr (.bl _)⟩
  · have e0 : isCD c oth d = (tyName d).map fun _ => .fz (.bl false) := by
      cases d <;> first | rfl | exact absurd ⟨_, _, rfl⟩ ci
    rw [e0] at okr
    cases et : tyName d with
    | none => rw [et] at okr; exact okr.elim
    | some a =>
      rw [et] at okr
      exact ⟨_, _, _, _, false, rfl, .own _, tyX_of rp et, (oc.no a (ty_all et)).1, okr_fz ok1.za okr (.bl _)⟩
end
/-! ### x == y, x != y by the class's own __eq__ -/
def othD (c : Str) (oth : List Str) : D → Bool
  | .ins c' _ => decide (c' = c) || decide (c' ∈ oth)
  | d => (tyName d).isSome
def eqOD (c : Str) (oth : List Str) (F : List T → Option (Out T)) (ng : Bool) (x y : D) : Option T :=
  if insOf c "__eq__" x = true ∧ othD c oth y = true then
    match F [.fz x, .fz y] with
    | some (.ok (.fz (.bl b)) [none, none]) => some (.fz (.bl (b ^^ ng)))
    | _ => none
  else none
def rEqO (K : PySem.W.Frag) (cl : Str → Addr) (C : Addr) (F : List T → Option (Out T)) (ng : Bool) : R2 := fun x y H Q => ∃ a dx fs, x = .ref a ∧ H a = some (.ins C dx fs) ∧ (∃ t, TyX K H y t ∧ PySem.W.notFirst K C t = true) ∧
  SpF K cl 2 F [x, y] H (fun v H' => ∃ b, v = .bl b ∧ Q (.bl (b ^^ ng)) H') fun _ _ _ => False
theorem opv_eqO {K : PySem.W.Frag} {cl : Str → Addr} {c : Str} {oth : List Str} {F : List T → Option (Out T)} {ng : Bool} (oc : OwnC K (cl c)) (ho : ∀ c' ∈ oth, Cls K (cl c') ∧ OwnC K (cl c') ∧ OwnP K (cl c') (cl c)) (hc : Cls K (cl c)) : OpV K cl (rEqO K cl (cl c) F ng) (eqOD c oth F ng) := by
  intro x y v u H Z Q hz rx ry ok
  unfold eqOD at ok
  by_cases ci : insOf c "__eq__" x = true ∧ othD c oth y = true
  case neg => rw [if_neg ci] at ok; exact ok.elim
  rw [if_pos ci] at ok
  obtain ⟨cx, cy⟩ := ci
  have sp : SpF K cl 2 F [v, u] H (fun v H' => ∃ b, v = .bl b ∧ Q (.bl (b ^^ ng)) H') fun _ _ _ => False := by
    refine ⟨rfl, [.fz x, .fz y], Z, Emp, .cons (S1 := Emp) (S2 := Emp) (.fz rx) (.cons (S1 := Emp) (S2 := Emp) (.fz ry) .nil (fun _ z => z) (fun _ z => z) fun _ z _ => z) (fun _ z => z) (fun _ z => z) (fun _ z _ => z), ⟨fun _ z => z.elim, fun _ z => z.elim, hz⟩, ?_⟩
    match hF : F [.fz x, .fz y], ok with
    | some (.ok (.fz (.bl b)) [none, none]), ok =>
      intro v' H' Z' Sr S' oP ow dd st okk
      cases ow with
      | fz r =>
        cases r with
        | bl =>
          exact ⟨b, rfl, ok _ H' Z' Emp (.fz (.bl _)) (st.less fun a z => z.elim) (okk.less fun a z => z.elim)⟩
  refine (?_ : rEqO K cl (cl c) F ng v u H Q)
  have hy : ∃ t, TyX K H u t ∧ PySem.W.notFirst K (cl c) t = true := by
    by_cases ci : ∃ c' fs, y = .ins c' fs
    · obtain ⟨c', fs, rfl⟩ := ci
      cases ry with
      | @ins a _ dx fvs _ z1 z2 z3 z4 =>
        rcases (show c' = c ∨ c' ∈ oth by simpa [othD] using cy) with rfl | e2
        · exact ⟨_, .base (.ins z2 hc oc.ha oc.hn oc.htk oc.hm), by simp [PySem.W.notFirst]⟩
        · obtain ⟨q1, q2, q3⟩ := ho c' e2
          exact ⟨_, .base (.ins z2 q1 q2.ha q2.hn q2.htk q2.hm), q3.nf⟩
    · have e0 : (tyName y).isSome = true := by
        cases y <;> first | exact cy | exact absurd ⟨_, _, rfl⟩ ci
      obtain ⟨a, et⟩ := Option.isSome_iff_exists.mp e0
      exact ⟨_, tyX_of ry et, (oc.no a (ty_all et)).2⟩
  cases rx with
  | @ins a c' dx fvs fs z1 z2 z3 z4 =>
    simp only [insOf, Bool.and_eq_true, decide_eq_true_eq, Option.isNone_iff_eq_none] at cx
    obtain ⟨rfl, hl⟩ := cx
    exact ⟨a, dx, fvs, rfl, z2, hy, sp⟩
  | _ => simp [insOf] at cx
section
variable {X : Cx} {cl : Str → Addr} {c : Str} {k j : Nat} {ps : List Str} {F : List T → Option (Out T)}
theorem op_eqO (cm : CalM X.prog X.w X.K X.mg X.base cl c "__eq__" j ps F) (hr : Room k X.A) (hg : X.A.guards = some []) (hj : j ≤ k := by decide) (hn : ps.length = 2 := by rfl) : OpR X (compareOp .Eq) (rEqO X.K cl (cl c) F false) := by
  intro pins s σ H x y u v Q I rx ry h
  obtain ⟨a, dx, fs, rfl, ha, ⟨t, ty, nf⟩, sp⟩ := h
  obtain ⟨f, fd, hm, hb, hF⟩ := cm.ex
  cases rx
  obtain ⟨mA, J, _⟩ := ins_get I.hok ha
  obtain ⟨od, J, _⟩ := J.look
  obtain ⟨m, hFr⟩ := I.fr
  obtain ⟨P, Z, p, _⟩ := kit_of I ry ty
  show wpAny (model X.prog X.w) X.A (richCompare .Eq (.ref a) v) (EP X pins σ Q) X.xe s
  refine PySem.W.cmp_K (op := .Eq) (tb := t) hr.units0 hFr I.ok.mod.kin J (Z.ty _ _ I.kIn p) nf hm.at_ hm.fn ?_
  rw [← hn] at sp
  refine wpAny_mono (run_fv (us := [.ref a, v]) (vs := [.ref a, y]) (W := W0) takes0 hF (hr.mono hj) hg hb I (.cons rfl (.cons ry .nil)) sp) (fun r s' q => ?_) fun _ _ z => z
  obtain ⟨z, H', I', rz, b, rfl, q⟩ := q
  cases rz
  have e : (b ^^ false) = b := by simp
  rw [e] at q
  exact ⟨.bl b, H', I', rfl, q⟩
end
end VL

namespace VL
open PySem PySem.Spec PyProof.Rows L2
section
variable {X : Cx} {cl : Str → Addr} {c : Str} {k j : Nat} {ps : List Str} {F : List T → Option (Out T)}
/-- a def's run one level deeper -/
theorem run_fv1 {f : Addr} {fd : FuncData} {pins : List (Addr × Obj)} {σ : L2.St} {H : Hp} {s : Shared} {Q : VK} {us : List Value} {vs : List V} (hF : FnV X.prog X.w X.K X.mg X.base cl j f fd ps F)
    (hr : Room (j + 1) X.A) (hg : X.A.guards = some []) (hb : Binds X.K fd ps []) (I : Inv X pins σ H s) (r : Vals vs us) (h : SpF X.K cl ps.length F vs H Q fun _ _ _ => False) : wpAny (model X.prog X.w) X.A.in1 (call (.ref f) us) (EP X pins σ Q) X.xe s := by
  have hl : us.length = ps.length := by rw [← r.length]; exact h.1
  have hbd := hb s us I.kIn (by rw [List.append_nil]; exact hl)
  rw [List.append_nil] at hbd
  have e0 : Env0 X.prog X.w X.K X.mg X.base X.A.in1 X.stack s H := by
    have e := I.env0
    exact ⟨e.frames, e.mod, e.bs, e.bsz, e.funs, e.frf, e.hok, e.bare⟩
  refine wpAny_call (codeAny_mono (hF.run X.A.in1 X.stack s H ⟨us, []⟩ us vs Q _ hr.in1 hg e0 hbd r h) fun r s' hq => ?_)
  match r, hq with
  | .error e, hq => exact passAt (W := W0) takes0 σ pins H s e s' I hq
  | .ok (.ret u), hq => exact I.after hq
  | .ok .next, hq => exact hq.elim
  | .ok .brk, hq => exact hq.elim
  | .ok .cont, hq => exact hq.elim
theorem op_neO (cm : CalM X.prog X.w X.K X.mg X.base cl c "__eq__" j ps F) (oc : OwnC X.K (cl c)) (hr : Room k X.A) (hg : X.A.guards = some []) (hj : j + 1 ≤ k := by decide) (hn : ps.length = 2 := by rfl) : OpR X (compareOp .NotEq) (rEqO X.K cl (cl c) F true) := by
  intro pins s σ H x y u v Q I rx ry h
  obtain ⟨a, dx, fs, rfl, ha, ⟨t, ty, nf⟩, sp⟩ := h
  obtain ⟨f, fd, hm, hb, hF⟩ := cm.ex
  cases rx
  obtain ⟨mA, J, _⟩ := ins_get I.hok ha
  obtain ⟨od, J, _⟩ := J.look
  obtain ⟨P, Z, p, _⟩ := kit_of I ry ty
  show wpAny (model X.prog X.w) X.A (richCompare .NotEq (.ref a) v) (EP X pins σ Q) X.xe s
  refine richNe_K (tb := t) (by have := hr.un; omega) I.kIn J (Z.ty _ _ I.kIn p) nf oc.ne oc.hm hm.at_ hm.fn ?_
  rw [← hn] at sp
  refine wpAny_mono (run_fv1 (us := [.ref a, v]) (vs := [.ref a, y]) hF (hr.mono hj) hg hb I (.cons rfl (.cons ry .nil)) sp) (fun r s' q => ?_) fun _ _ z => z
  obtain ⟨z, H', I', rz, b, rfl, q⟩ := q
  cases rz
  have e : (b ^^ true) = !b := by simp
  rw [e] at q
  exact ⟨b, rfl, .bl (!b), H', I', rfl, q⟩
theorem kEqO (oth : List Str) (cm : CalM X.prog X.w X.K X.mg X.base cl c "__eq__" j ps F) (oc : OwnC X.K (cl c)) (ho : ∀ c' ∈ oth, Cls X.K (cl c') ∧ OwnC X.K (cl c') ∧ OwnP X.K (cl c') (cl c)) (hr : Room k X.A) (hg : X.A.guards = some []) (hj : j ≤ k := by decide) (hn : ps.length = 2 := by rfl) : CmpW X cl .Eq (eqOD c oth F false) :=
  ⟨_, op_eqO cm hr hg hj hn, opv_eqO oc ho cm.cls⟩
theorem kNeO (oth : List Str) (cm : CalM X.prog X.w X.K X.mg X.base cl c "__eq__" j ps F) (oc : OwnC X.K (cl c)) (ho : ∀ c' ∈ oth, Cls X.K (cl c') ∧ OwnC X.K (cl c') ∧ OwnP X.K (cl c') (cl c)) (hr : Room k X.A) (hg : X.A.guards = some []) (hj : j + 1 ≤ k := by decide) (hn : ps.length = 2 := by rfl) : CmpW X cl .NotEq (eqOD c oth F true) :=
  ⟨_, op_neO cm oc hr hg hj hn, opv_eqO oc ho cm.cls⟩
end
/-! ### min of a list of whole numbers -/
section
variable {K : PySem.W.Frag} {cl : Str → Addr}
def intsOf : List D → Option (List Int)
  | [] => some []
  | .int i :: r => (intsOf r).map (i :: ·)
  | _ :: _ => none
def minI : Int → List Int → Int
  | m, [] => m
  | m, i :: r => minI (if i < m then i else m) r
theorem minI_le : ∀ (r : List Int) (m : Int), minI m r ≤ m ∧ (∀ i ∈ r, minI m r ≤ i) ∧ (minI m r = m ∨ minI m r ∈ r)
  | [], m => ⟨Int.le_refl _, fun i h => by simp at h, .inl rfl⟩
  | i :: r, m => by
    obtain ⟨h1, h2, h3⟩ := minI_le r (if i < m then i else m)
    simp only [minI]
    have a1 : (if i < m then i else m) ≤ m := by split <;> omega
    have a2 : (if i < m then i else m) ≤ i := by split <;> omega
    refine ⟨Int.le_trans h1 a1, fun j hj => ?_, ?_⟩
    · rcases List.mem_cons.mp hj with rfl | hj
      · exact Int.le_trans h1 a2
      · exact h2 j hj
    · rcases h3 with h3 | h3
      · by_cases c : i < m
        · right; rw [h3, if_pos c]; simp
        · left; rw [h3, if_neg c]
      · right; exact List.mem_cons_of_mem _ h3
def minE : List D → Option T
  | [.lst ds] => match intsOf ds with
    | some (i :: r) => some (.fz (.int (minI i r)))
    | _ => none
  | _ => none
theorem ints_rp {H : Hp} {Z : PA1} : ∀ {ds : List D} {vs : List V} {ns : List Int}, RpL K cl H Z ds vs → intsOf ds = some ns → vs = ns.map V.int
  | [], _, _, .nil, h => by cases h; rfl
  | .int i :: r, _, ns, .cons (.int _) rs, h => by
    simp only [intsOf] at h
    cases e : intsOf r with
    | none => rw [e] at h; cases h
    | some l => rw [e] at h; cases h; rw [ints_rp rs e]; rfl
theorem callv_minE : CallV K cl (rMin K) minE := by
  intro xs vs H Z Q hz rs ok
  match xs, vs, rs, ok with
  | [.lst ds], [_], .cons (.lst (a := a) _ q r) .nil, ok =>
    simp only [minE] at ok
    match e : intsOf ds, ok with
    | some (i :: ns), ok =>
      have ev := ints_rp r e
      subst ev
      refine ⟨a, i :: ns, rfl, SqL.of q, by simp, fun m hm hmin => ?_⟩
      obtain ⟨h1, h2, h3⟩ := minI_le ns i
      have em : m = minI i ns := by
        apply Int.le_antisymm
        · apply hmin
          rcases h3 with h3 | h3
          · rw [h3]; simp
          · exact List.mem_cons_of_mem _ h3
        · rcases List.mem_cons.mp hm with rfl | hm
          · exact h1
          · exact h2 m hm
      rw [em]
      exact okr_fz hz ok (.int _)
theorem fMin {X : Cx} (hc : X.calm = true := by rfl) : CallW X cl (.builtin "min") minE := ⟨_, cr_min hc, callv_minE⟩
end
/-! ### a dict's pop, clear -/
section
variable {K : PySem.W.Frag} {cl : Str → Addr} {H : Hp} {Z : PA1}
def findT (ks : List (Key × T)) (k : Key) : Option T := match ks with
  | [] => none
  | p :: r => if p.1 = k then some p.2 else findT r k
def dropT (ks : List (Key × T)) (k : Key) : List (Key × T) := ks.filter fun p => decide (p.1 ≠ k)
theorem OwnL.filt (k : Key) : ∀ {ks : List (Key × T)} {kvs : List (Key × V)} {S : PA1}, ks.map (·.1) = kvs.map (·.1) → OwnL K cl H Z (ks.map (·.2)) (kvs.map (·.2)) S →
    (dropT ks k).map (·.1) = (dropK kvs k).map (·.1) ∧ OwnL K cl H Z ((dropT ks k).map (·.2)) ((dropK kvs k).map (·.2)) S
  | [], [], _, _, _ => ⟨rfl, .nil⟩
  | p :: ks, q :: kvs, S, e, .cons (S1 := A1) (S2 := A2) o r a1 a2 d => by
    simp only [List.map_cons, List.cons.injEq] at e
    obtain ⟨h1, h2⟩ := OwnL.filt k e.2 r
    unfold dropT dropK at h1 h2 ⊢
    simp only [List.filter_cons, ← e.1]
    by_cases c : p.1 = k
    · rw [if_neg (by simp [c]), if_neg (by simp [c])]
      exact ⟨h1, h2.up a2⟩
    · rw [if_pos (by simp [c]), if_pos (by simp [c])]
      exact ⟨by simp only [List.map_cons, h1, e.1], .cons o h2 a1 a2 d⟩
theorem OwnL.pick (k : Key) : ∀ {ks : List (Key × T)} {kvs : List (Key × V)} {S : PA1} {t : T}, ks.map (·.1) = kvs.map (·.1) → OwnL K cl H Z (ks.map (·.2)) (kvs.map (·.2)) S → findT ks k = some t →
    ∃ v, ∃ S1 S2 : PA1, valV kvs k = some v ∧ Own K cl H Z t v S1 ∧ (dropT ks k).map (·.1) = (dropK kvs k).map (·.1) ∧ OwnL K cl H Z ((dropT ks k).map (·.2)) ((dropK kvs k).map (·.2)) S2 ∧ (∀ a, S1 a → S a) ∧ (∀ a, S2 a → S a) ∧ Dis S1 S2
  | [], _, _, _, _, _, h => by simp [findT] at h
  | p :: ks, q :: kvs, S, t, e, .cons (S1 := A1) (S2 := A2) o r a1 a2 d, h => by
    simp only [List.map_cons, List.cons.injEq] at e
    simp only [findT] at h
    by_cases c : p.1 = k
    · rw [if_pos c] at h
      cases h
      obtain ⟨h1, h2⟩ := OwnL.filt k e.2 r
      have c2 : q.1 = k := e.1 ▸ c
      refine ⟨q.2, A1, A2, valV_pos c2, o, ?_, ?_, a1, a2, d⟩
      · unfold dropT dropK at h1 ⊢
        rw [List.filter_cons, List.filter_cons, if_neg (by simp [c]), if_neg (by simp [c2])]
        exact h1
      · unfold dropT dropK at h2 ⊢
        rw [List.filter_cons, List.filter_cons, if_neg (by simp [c]), if_neg (by simp [c2])]
        exact h2
    · rw [if_neg c] at h
      have c2 : ¬ q.1 = k := fun z => c (e.1 ▸ z)
      obtain ⟨v, S1, S2, g1, g2, g3, g4, g5, g6, g7⟩ := OwnL.pick k e.2 r h
      refine ⟨v, S1, Uni A1 S2, by rw [valV_neg c2]; exact g1, g2, ?_, ?_, fun a z => a2 a (g5 a z), fun a z => z.elim (a1 a) fun z => a2 a (g6 a z), fun a x y => y.elim (fun y => d a y (g5 a x)) (g7 a x)⟩
      · unfold dropT dropK at g3 ⊢
        rw [List.filter_cons, List.filter_cons, if_pos (by simp [c]), if_pos (by simp [c2])]
        simp only [List.map_cons, g3, e.1]
      · unfold dropT dropK at g4 ⊢
        rw [List.filter_cons, List.filter_cons, if_pos (by simp [c]), if_pos (by simp [c2])]
        exact .cons o g4 (fun _ z => .inl z) (fun _ z => .inr z) fun a x y => d a x (g6 a y)
def gDPop : T → List T → Option (T × T)
  | .dct ks, [.fz d] => match keyD d with
    | some k => (findT ks k).map fun t => (t, .dct (dropT ks k))
    | none => none
  | _, _ => none
def rDPop1 : V → List V → Hp → VK → Prop := fun x xs H Q => ∃ (a : Addr) (kvs : List (Key × V)) (k : Key) (v : V), x = .ref a ∧ xs = [kV k] ∧ H a = some (.dK kvs) ∧ valV kvs k = some v ∧ Q v (upd H a (.dK (dropK kvs k)))
theorem mt_dpop1 {X : Cx} : MtR X "dict.pop" rDPop1 := by
  intro pins s σ H x xs v us Q I rx rxs h
  obtain ⟨a, kvs, k, y, rfl, rfl, ha, hv, q⟩ := h
  cases rx
  obtain ⟨u, rfl, r1⟩ := Vals.one rxs
  exact d_pop I ha r1 hv (.inl rfl) fun w' s3 I3 rw' => ⟨y, _, I3, rw', q⟩
theorem mutv_dpop : MutV K cl rDPop1 gDPop := by
  intro u xs w vs H Z Su Sx Q ow owx d ok h
  match u, xs, vs, ow, owx, h with
  | .dct ks, [.fz dk], [v], .dct (a := a) (kvs := kvs) (R := R) h1 h2 h3 h4 rl, .cons (S1 := S1) qk .nil a1 a2 dd, h =>
    simp only [gDPop] at h
    cases ek : keyD dk with
    | none => rw [ek] at h; exact h.elim
    | some k =>
      rw [ek] at h
      dsimp only at h
      cases ef : findT ks k with
      | none => rw [ef] at h; exact h.elim
      | some t =>
        rw [ef] at h
        simp only [Option.map_some] at h
        obtain ⟨y, A1, A2, g1, g2, g3, g4, g5, g6, g7⟩ := rl.pick k h4 ef
        have hv : v = kV k := by
          cases qk with
          | fz r => exact keyD_rp r ek
        subst hv
        obtain ⟨st, ok', kk⟩ := wr_step (o := .dK (dropK kvs k)) ok (D := a) (.inl h2)
        have kz : ∀ b, Z b → Kept H (upd H a (.dK (dropK kvs k))) b := fun b z => .of fun p e => kk b p (fun q => ok.dis b (.inl (q ▸ h2)) z) e
        have r1 := g4.mono (fun _ z => z) kz fun b p z e => kk b p (h3 b (g6 b z)).2 e
        have q1 := g2.mono (fun _ z => z) kz fun b p z e => kk b p (h3 b (g5 b z)).2 e
        have sub : ∀ b, Uni A1 (fun b => b = a ∨ A2 b) b → Uni Su Sx b := fun b z => z.elim (fun z => .inl (h3 b (g5 b z)).1) fun z => .inl (z.elim (fun z => z ▸ h2) fun z => (h3 b (g6 b z)).1)
        refine ⟨a, kvs, k, y, rfl, rfl, h1, g1, h y _ A1 (fun b => b = a ∨ A2 b) q1 ?_ (fun b x y => y.elim (fun y => (h3 b (g5 b x)).2 y) (g7 b x)) (st.less sub) (ok'.less sub) fun b o n e => kk b o (fun q => n (q ▸ h2)) e⟩
        exact .dct (R := A2) upd_same (.inl rfl) (fun b z => ⟨.inr z, (h3 b (g6 b z)).2⟩) g3 r1
def gClear : T → List T → Option (T × T)
  | .lst _, [] => some (.fz .non, .lst [])
  | _, _ => none
theorem mutv_clear : MutV K cl rClear gClear := by
  intro u xs w vs H Z Su Sx Q ow owx d ok h
  match u, xs, vs, ow, owx, h with
  | .lst ts, [], [], .lst (a := a) (vs := us) (R := R) h1 h2 h3 rl, .nil, h =>
    simp only [gClear] at h
    obtain ⟨st, ok', k⟩ := wr_step (o := .lst []) ok (D := a) (.inl h2)
    refine ⟨a, us, rfl, rfl, h1, h .non _ Emp (fun b => b = a) (.fz .non) ?_ (fun _ z _ => z) (st.less fun b z => z.elim False.elim fun z => .inl (z ▸ h2)) (ok'.less fun b z => z.elim False.elim fun z => .inl (z ▸ h2)) fun b o n e => k b o (fun q => n (q ▸ h2)) e⟩
    exact .lst (R := Emp) upd_same rfl (fun b z => z.elim) .nil
def gDClear : T → List T → Option (T × T)
  | .dct _, [] => some (.fz .non, .dct [])
  | _, _ => none
theorem mutv_dclear : MutV K cl rDClear gDClear := by
  intro u xs w vs H Z Su Sx Q ow owx d ok h
  match u, xs, vs, ow, owx, h with
  | .dct ts, [], [], .dct (a := a) (kvs := kvs) (R := R) h1 h2 h3 h4 rl, .nil, h =>
    simp only [gDClear] at h
    obtain ⟨st, ok', k⟩ := wr_step (o := .dK []) ok (D := a) (.inl h2)
    refine ⟨a, kvs, rfl, rfl, h1, h .non _ Emp (fun b => b = a) (.fz .non) ?_ (fun _ z _ => z) (st.less fun b z => z.elim False.elim fun z => .inl (z ▸ h2)) (ok'.less fun b z => z.elim False.elim fun z => .inl (z ▸ h2)) fun b o n e => k b o (fun q => n (q ▸ h2)) e⟩
    exact .dct (R := Emp) upd_same rfl (fun b z => z.elim) rfl .nil
end
section
variable {X : Cx} {cl : Str → Addr} {e : Expr} {k : Nat}
theorem mDPopR (i : Nat) {o : Expr} {tp : Ev Loc} {ms : Ev (List T)} {apos cpos : Pos} (ho : IP X cl o tp) (ha : IMs X cl i [e] ms) (hbase : attributeBase o "pop" X.env (eval o X.env) = eval o X.env := by rfl)
    (hfew : ((backTo cpos (starEach [e] X.env)).all (fun x => !x.1) && (backToKw cpos (keywordEach [] X.env)).all (fun x => x.1.isSome)
      && decide (([e] : List Expr).length + ([] : List Keyword).length + (if ([] : List Keyword).isEmpty then 0 else 1) < 30)) = true := by rfl)
    (hline : (apos.endLine == cpos.line) = true := by rfl) (hs : starEach [e] X.env = (false, eval e X.env) :: starEach [] X.env := by rfl) (hplain : (backTo cpos (starEach [] X.env)).any (·.1) = false := by rfl) :
    IE X cl (.Call (.Attribute o "pop" apos) [e] [] cpos) (eMt i "dict" gDPop tp ms) := ie_mt i PySem.F.plainAttrs_dict PySem.F.slot_dict_pop PySem.F.type_dict_pop mt_dpop1 mutv_dpop ho ha hbase hfew hline hs hplain
theorem mClearR0 (i : Nat) {o : Expr} {tp : Ev Loc} {apos cpos : Pos} (ho : IP X cl o tp) (hbase : attributeBase o "clear" X.env (eval o X.env) = eval o X.env := by rfl) (hline : (apos.endLine == cpos.line) = true := by rfl) :
    IE X cl (.Call (.Attribute o "clear" apos) [] [] cpos) (eMt i "list" gClear tp msNil) := ie_mt0 i PySem.F.plainAttrs_list PySem.F.slot_list_clear PySem.F.type_list_clear mt_clear mutv_clear ho hbase hline
theorem mDClearR0 (i : Nat) {o : Expr} {tp : Ev Loc} {apos cpos : Pos} (ho : IP X cl o tp) (hbase : attributeBase o "clear" X.env (eval o X.env) = eval o X.env := by rfl) (hline : (apos.endLine == cpos.line) = true := by rfl) :
    IE X cl (.Call (.Attribute o "clear" apos) [] [] cpos) (eMt i "dict" gDClear tp msNil) := ie_mt0 i PySem.F.plainAttrs_dict PySem.F.slot_dict_clear PySem.F.type_dict_clear L2.mtd_clear mutv_dclear ho hbase hline
end
end VL

namespace VL
open PySem PySem.Spec PyProof.Rows L2
/-! ### == and != of dicts -/
def hitsD (ls : List (Key × D)) : List (Key × D) → Option Bool
  | [] => some true
  | p :: r => match findD ls p.1 with
    | none => some false
    | some e => match eqDD p.2 e with
      | some b => (hitsD ls r).map fun c => b && c
      | none => none
def eqKB (x y : D) : Option Bool := match x, y with
  | .dct ks, .dct ls => if ks.length = ls.length then hitsD ls ks else some false
  | _, _ => none
def eqKD (x y : D) : Option T := (eqKB x y).map fun b => .fz (.bl b)
def neKD (x y : D) : Option T := (eqKB x y).map fun b => .fz (.bl (!b))
section
variable {X : Cx} {cl : Str → Addr} {pins : List (Addr × Obj)} {σ : L2.St} {H : Hp} {Z : PA1} {s : Shared}
theorem eqAt_dd (I : Inv X pins σ H s) {A : Around} (hu : A.units + 64 < cLine) {x y : D} {v u : V} {vv uu : Value} {b : Bool} (rx : Rp X.K cl H Z x v) (ry : Rp X.K cl H Z y u) (r1 : RelV v vv) (r2 : RelV u uu) (h : eqDD x y = some b) : SeqAt.EqAt A s vv uu b := by
  obtain ⟨p, q, h1, h2, h3, h4, rfl⟩ := eqDD_some h
  obtain ⟨as, a1⟩ := Dp.reads I p v vv (dp_of rx h1) r1
  obtain ⟨bs, a2⟩ := Dp.reads I q u uu (dp_of ry h2) r2
  exact SeqAt.eqAt_reads p q A s _ _ _ _ a1 a2 (SeqAt.canLay_of_shaped h3) (SeqAt.canLay_of_shaped h4) (SeqAt.room_of_shaped h3 hu)
theorem hits_rp (I : Inv X pins σ H s) {A : Around} (hu : A.units + 64 < cLine) {dl : List (Key × D)} {ls : List (Key × V)} {vb : List (Key × Value)} (el : dl.map (·.1) = ls.map (·.1)) (rl : RpL X.K cl H Z (dl.map (·.2)) (ls.map (·.2))) (kb : KV ls vb) :
    ∀ {dk : List (Key × D)} {ks : List (Key × V)} {va : List (Key × Value)} {b : Bool}, dk.map (·.1) = ks.map (·.1) → RpL X.K cl H Z (dk.map (·.2)) (ks.map (·.2)) → KV ks va → hitsD dl dk = some b → PySem.W.KeqHits A s vb va b
  | [], [], [], _, _, _, _, h => by cases h; exact .nil
  | p :: dk, q :: ks, (k, w) :: va, b, e, .cons r rs, .cons h0 t, h => by
    simp only [List.map_cons, List.cons.injEq] at e
    obtain ⟨k1, k2⟩ := h0
    have k1' : q.1 = k := k1
    simp only [hitsD] at h
    obtain ⟨f1, f2⟩ := find_rp el rl p.1
    have rv := kb.val p.1
    have ek : p.1 = k := e.1.trans k1'
    cases ef : findD dl p.1 with
    | none =>
      rw [ef] at h
      cases h
      rw [f2 ef] at rv
      exact .miss (by rw [← ek]; exact RelO.none_of rv)
    | some d =>
      rw [ef] at h
      dsimp only at h
      obtain ⟨v, g1, g2⟩ := f1 d ef
      rw [g1] at rv
      obtain ⟨y, hy, ry⟩ := RelO.some_of rv
      cases eb : eqDD p.2 d with
      | none => rw [eb] at h; cases h
      | some b1 =>
        rw [eb] at h
        cases eh : hitsD dl dk with
        | none => rw [eh] at h; cases h
        | some b2 =>
          rw [eh] at h
          cases h
          exact .hit (by rw [← ek]; exact hy) (eqAt_dd I hu r g2 k2 ry eb) (hits_rp I hu el rl kb e.2 rs t eh)
end
section
variable {X : Cx} {cl : Str → Addr}
def rEqK (K : PySem.W.Frag) (cl : Str → Addr) (ng : Bool) : R2 := fun x y H Q => ∃ (Z : PA1) (d e : D) (b : Bool), Rp K cl H Z d x ∧ Rp K cl H Z e y ∧ eqKB d e = some b ∧ Q (.bl (b ^^ ng)) H
theorem op_eqK (hu : X.A.units + 65 < cLine) : OpR X (compareOp .Eq) (rEqK X.K cl false) := by
  intro pins s σ H x y v u Q I rx ry h
  obtain ⟨Z, d, e, b, r1, r2, hb, q⟩ := h
  match d, e, r1, r2, hb with
  | .dct dk, .dct dl, .dct (a := a) (kvs := ks) z1 z2 z3 z4, .dct (a := a') (kvs := ls) y1 y2 y3 y4, hb =>
    cases rx
    cases ry
    simp only [eqKB] at hb
    obtain ⟨_, xa, va, ra, da⟩ := dk_rd I.hok z2
    obtain ⟨_, xb, vb, rb, db⟩ := dk_rd I.hok y2
    have l1 : va.length = dk.length := by rw [← ra.length]; simpa using (congrArg List.length z3).symm
    have l2 : vb.length = dl.length := by rw [← rb.length]; simpa using (congrArg List.length y3).symm
    by_cases c : dk.length = dl.length
    · rw [if_pos c] at hb
      refine PySem.W.keq_eq (knd := mixKind X.prog X.w) (r := b) xa xb da db (by omega) (fun _ => hits_rp I (A := X.A.in1) (by show X.A.units + 1 + 64 < cLine; omega) y3 y4 rb z3 z4 ra hb) (fin_bl I q ?_)
      rw [l1, l2, c]; simp
    · rw [if_neg c] at hb
      cases hb
      have ne : (va.length == vb.length) = false := by rw [l1, l2]; simpa using c
      refine PySem.W.keq_eq (knd := mixKind X.prog X.w) (r := false) xa xb da db (by omega) (fun hl => absurd (l1.symm.trans (hl.trans l2)) c) (fin_bl I q ?_)
      rw [ne]; rfl
theorem op_neK (hu : X.A.units + 65 < cLine) : OpR X (compareOp .NotEq) (rEqK X.K cl true) := by
  intro pins s σ H x y v u Q I rx ry h
  obtain ⟨Z, d, e, b, r1, r2, hb, q⟩ := h
  match d, e, r1, r2, hb with
  | .dct dk, .dct dl, .dct (a := a) (kvs := ks) z1 z2 z3 z4, .dct (a := a') (kvs := ls) y1 y2 y3 y4, hb =>
    cases rx
    cases ry
    simp only [eqKB] at hb
    obtain ⟨_, xa, va, ra, da⟩ := dk_rd I.hok z2
    obtain ⟨_, xb, vb, rb, db⟩ := dk_rd I.hok y2
    have l1 : va.length = dk.length := by rw [← ra.length]; simpa using (congrArg List.length z3).symm
    have l2 : vb.length = dl.length := by rw [← rb.length]; simpa using (congrArg List.length y3).symm
    by_cases c : dk.length = dl.length
    · rw [if_pos c] at hb
      refine PySem.W.keq_ne (knd := mixKind X.prog X.w) (r := b) xa xb da db (by omega) (fun _ => hits_rp I (A := X.A.in1) (by show X.A.units + 1 + 64 < cLine; omega) y3 y4 rb z3 z4 ra hb) (fin_bl I q ?_)
      rw [l1, l2, c]; simp
    · rw [if_neg c] at hb
      cases hb
      have ne : (va.length == vb.length) = false := by rw [l1, l2]; simpa using c
      refine PySem.W.keq_ne (knd := mixKind X.prog X.w) (r := false) xa xb da db (by omega) (fun hl => absurd (l1.symm.trans (hl.trans l2)) c) (fin_bl I q ?_)
      rw [ne]; rfl
theorem opv_eqK : OpV X.K cl (rEqK X.K cl false) eqKD := by
  intro x y v u H Z Q hz rx ry ok
  unfold eqKD at ok
  cases e : eqKB x y with
  | none => rw [e] at ok; exact ok.elim
  | some b =>
    rw [e] at ok
    exact ⟨Z, x, y, b, rx, ry, e, by rw [Bool.xor_false]; exact okr_fz hz ok (.bl _)⟩
theorem opv_neK : OpV X.K cl (rEqK X.K cl true) neKD := by
  intro x y v u H Z Q hz rx ry ok
  unfold neKD at ok
  cases e : eqKB x y with
  | none => rw [e] at ok; exact ok.elim
  | some b =>
    rw [e] at ok
    exact ⟨Z, x, y, b, rx, ry, e, by rw [Bool.xor_true]; exact okr_fz hz ok (.bl _)⟩
theorem kEqK {k : Nat} (hr : Room k X.A) : CmpW X cl .Eq eqKD := ⟨_, op_eqK (by have := hr.un; omega), opv_eqK⟩
theorem kNeK {k : Nat} (hr : Room k X.A) : CmpW X cl .NotEq neKD := ⟨_, op_neK (by have := hr.un; omega), opv_neK⟩
end
/-! ### the head's facts, with a word of one's own -/
end VL

namespace VL
open PySem PySem.Spec PyProof.Rows L2
/-! ### a text times an int -/
theorem mul_one (c n : Nat) (h : 0 < n) : Txt.mul (tx [c]) (n : Int) = tx (List.replicate n c) := by
  have fold : ∀ (n : Nat) (a : Array Nat), (List.replicate n (#[c] : Array Nat)).foldl (· ++ ·) a = a ++ (List.replicate n c).toArray := by
    intro n
    induction n with
    | zero => intro a; simp
    | succ n ih => intro a; rw [List.replicate_succ, List.foldl_cons, ih, List.replicate_succ]; apply Array.toList_inj.mp; simp
  unfold Txt.mul
  rw [if_neg (by omega)]
  by_cases h1 : n = 1
  · subst h1
    rfl
  · have e : ((n : Int) == 1 || (tx [c]).length == 0) = false := by simp; omega
    rw [e, if_neg (by simp)]
    show (⟨(List.replicate (n : Int).toNat (#[c] : Array Nat)).foldl (· ++ ·) #[]⟩ : Str) = _
    rw [fold, Int.toNat_natCast]
    simp [tx]
/-! ### ends -/
theorem runF_ret {N : List Str} {n : Nat} {kp : Keep} {t : Ev Fl} {ts : List T} {r : T} {E : En} (h : t (startE N ts) = some (.ok (.ret r) E)) : runF N n kp t ts = some (.ok r (maskE kp 0 n E)) := by rw [runF_a, h]
theorem runF_nx {N : List Str} {n : Nat} {kp : Keep} {t : Ev Fl} {ts : List T} {E : En} (h : t (startE N ts) = some (.ok .nx E)) : runF N n kp t ts = some (.ok (.fz .non) (maskE kp 0 n E)) := by rw [runF_a, h]
theorem for_s {ti : Ev (List D)} {g : T → En → Option En} {tb : Ev Fl} {ds : List D} {E E1 : En} {r : Option (Out Fl)} (h : ti E = some (.ok ds E1)) (h2 : forE g tb ds E1 = r) : sFor ti g tb E = r := by
  rw [sFor_a, h]
  exact h2
end VL

namespace VL
open PySem PySem.Spec PyProof.Rows L2
/-! ### t.index(x), a tuple of texts -/
section
variable {K : PySem.W.Frag} {cl : Str → Addr}
def mTIndex : D → List D → Option T
  | .tup ds, [.str z] => (strsOf ds).bind fun ys => if z ∈ ys then some (.fz (.int (ys.idxOf z : Nat))) else none
  | _, _ => none
theorem mtv_tIndex : MtV K cl (fun x xs H Q => ∃ p, ∃ ys : List Str, ∃ z j, x = .ref p ∧ xs = [.str z] ∧ SqT K H p (ys.map V.str) ∧ ys[j]? = some z ∧ (∀ m, m < j → ys[m]? ≠ some z) ∧ Q (.int (j : Nat)) H) mTIndex := by
  intro x v xs vs H Z Q hz rx rs ok
  match x, v, xs, vs, rx, rs, ok with
  | .tup ds, _, [.str z], [_], .tup _ q r, .cons (.str _) .nil, ok =>
    simp only [mTIndex] at ok
    cases e : strsOf ds with
    | none => rw [e] at ok; exact okr_none ok
    | some ys =>
      rw [e] at ok
      simp only [Option.bind_some] at ok
      by_cases c : z ∈ ys
      · rw [if_pos c] at ok
        have := strsOf_rp r e
        subst this
        have hl := List.idxOf_lt_length_of_mem c
        refine ⟨_, ys, z, ys.idxOf z, rfl, rfl, TupP.sq q, ?_, fun m hm h => ?_, okr_fz hz ok (.int _)⟩
        · rw [List.getElem?_eq_getElem hl, List.getElem_idxOf]
        · have h1 := List.getElem?_eq_some_iff.mp h
          obtain ⟨h2, h3⟩ := h1
          have := List.not_of_lt_findIdx (p := (· == z)) (xs := ys) (i := m) (by unfold List.idxOf at hm; exact hm)
          rw [h3] at this
          simp at this
      · rw [if_neg c] at ok; exact okr_none ok
end
section
variable {X : Cx} {cl : Str → Addr} {e : Expr} {ts : Ev (List D)}
def tyT : D → Bool
  | .tup _ => true
  | _ => false
def eMvT (g : D → List D → Option T) (to : Ev T) (ts : Ev (List D)) : Ev T := fun E => bnd (to E) fun x E1 => if tyT (frz x) = true then bnd (ts E1) fun xs E2 => opt (g (frz x) xs) E2 else none
@[simp] theorem eMvT_a (g : D → List D → Option T) (to : Ev T) (ts : Ev (List D)) {E : En} : eMvT g to ts E = bnd (to E) fun x E1 => if tyT (frz x) = true then bnd (ts E1) fun xs E2 => opt (g (frz x) xs) E2 else none := rfl
@[simp] theorem tyT_tup (z : List D) : tyT (.tup z) = true := rfl
def tBMT (r : V → List V → Hp → VK → Prop) (to : TE) (t : TA) : TE := fun σ H Q => to σ H fun x H1 => (∃ a vs, x = .ref a ∧ TupP H1 a vs) ∧ t σ H1 fun xs H2 => r x xs H2 Q
theorem pe_bmT {o e : Expr} {es : List Expr} {to : TE} {t : TA} {name : Str} {apos cpos : Pos} {id : String} {r : V → List V → Hp → VK → Prop} (slot : Slot "tuple" name id) (hty : typeOf (.builtin id) = pure (.type "method_descriptor")) (hm : MtR X id r) (ho : PE X o to) (ha : PA X (e :: es) t)
    (hbase : attributeBase o name X.env (eval o X.env) = eval o X.env)
    (hfew : ((backTo cpos (starEach (e :: es) X.env)).all (fun x => !x.1) && (backToKw cpos (keywordEach [] X.env)).all (fun x => x.1.isSome)
      && decide ((e :: es).length + ([] : List Keyword).length + (if ([] : List Keyword).isEmpty then 0 else 1) < 30)) = true)
    (hline : (apos.endLine == cpos.line) = true) (hs : starEach (e :: es) X.env = (false, eval e X.env) :: starEach es X.env) (hplain : (backTo cpos (starEach es X.env)).any (·.1) = false) :
    PE X (.Call (.Attribute o name apos) (e :: es) [] cpos) (tBMT r to t) := by
  refine ⟨fun pins s σ H Q I h => ?_⟩
  refine wpAny_Call_method_late hbase hfew hline rfl (thn (ho.run pins s σ H _ I h) fun v s1 ⟨x, H1, I1, r1, ⟨a, vs, ex, tp⟩, q1⟩ => ?_)
  subst ex
  cases (show v = Value.ref a from r1)
  obtain ⟨ob, dn, e'⟩ := tp
  obtain ⟨hg, _, its, rv, o', h1, h2, _⟩ := (show ObjOk X.prog X.w H1 s1.heap a (.frz ob (.tup vs)) from I1.hok a _ e')
  refine ⟨"tuple", id, F.plainAttrs_tuple, slot, hty, ⟨o', h1, h2⟩, fun b eb => by cases eb; exact ⟨ob, hg, dn⟩, ?_⟩
  have hA := ha.run cpos pins s1 σ H1 _ I1 q1
  rw [hs] at hA ⊢
  refine Calls.callWith_builtin (by show (false || (backTo cpos (starEach es X.env)).any (·.1)) = false; rw [hplain] <;> rfl) (Calls.evalArgs_plain ?_)
  exact thn hA fun us s2 ⟨vs, H2, I2, r2, q2⟩ => hm pins s2 σ H2 _ vs _ us Q I2 r1 r2 q2
theorem mvT_core {W : WX} {r : V → List V → Hp → VK → Prop} {g : D → List D → Option T} {to : Ev T} {ts : Ev (List D)} {to' : TE} {ta' : TA} (hg : MtV X.K cl r g)
    (qa : ∀ E σ H Z (S : PA1) Q, OwnE X.K cl H Z E σ S → Okk H Z S → SatD X.K cl W σ H Z S Q (to E) → to' σ H Q) (qb : ∀ E σ H Z (S : PA1) Q, OwnE X.K cl H Z E σ S → Okk H Z S → SatA X.K cl W σ H Z S Q (ts E) → ta' σ H Q)
    (E : En) (σ : L2.St) (H : Hp) (Z S : PA1) (Q : VK) (oe : OwnE X.K cl H Z E σ S) (ok : Okk H Z S) (sat : SatV X.K cl W σ H Z S Q (eMvT g to ts E)) : tBMT r to' ta' σ H Q := by
  refine qa E σ H Z S _ oe ok (satD_bnd (β := T) (κ := VK) (q := Q) sat fun x E1 sat1 v H1 Z1 S1 oe1 rp1 st1 ok1 => ?_)
  have sat2 : SatV X.K cl W σ H1 Z1 S1 Q (if tyT (frz x) = true then bnd (ts E1) fun xs E2 => opt (g (frz x) xs) E2 else none) := SatV.re st1 sat1
  by_cases c : tyT (frz x) = true
  case neg => rw [if_neg c] at sat2; exact sat2.elim
  rw [if_pos c] at sat2
  refine ⟨?_, ?_⟩
  · generalize frz x = d at rp1 c
    cases rp1 with
    | tup h0 h1 rl => exact ⟨_, _, rfl, h1⟩
    | _ => simp [tyT] at c
  refine qb E1 σ H1 Z1 S1 _ oe1 ok1 (satA_bnd (β := T) (κ := VK) (q := Q) sat2 fun xs E2 sat3 vs H2 Z2 S2 oe2 rps st2 ok2 => ?_)
  exact hg _ v xs vs H2 Z2 Q ok2.za (st2.rp ok1.dis rp1) rps (op_fin oe2 ok2 (SatV.re st2 sat3))
theorem mTIndexR {o : Expr} {to : Ev T} {apos cpos : Pos} (ho : IE X cl o to) (ha : IA X cl [e] ts) (hbase : attributeBase o "index" X.env (eval o X.env) = eval o X.env := by rfl)
    (hfew : ((backTo cpos (starEach [e] X.env)).all (fun x => !x.1) && (backToKw cpos (keywordEach [] X.env)).all (fun x => x.1.isSome)
      && decide (([e] : List Expr).length + ([] : List Keyword).length + (if ([] : List Keyword).isEmpty then 0 else 1) < 30)) = true := by rfl)
    (hline : (apos.endLine == cpos.line) = true := by rfl) (hs : starEach [e] X.env = (false, eval e X.env) :: starEach [] X.env := by rfl) (hplain : (backTo cpos (starEach [] X.env)).any (·.1) = false := by rfl) :
    IE X cl (.Call (.Attribute o "index" apos) [e] [] cpos) (eMvT mTIndex to ts) := by
  refine ⟨fun W tk => ?_⟩
  obtain ⟨to', po, qo⟩ := ho.fz W tk
  obtain ⟨ta', pa', qa⟩ := ha.run W tk
  exact ⟨_, pe_bmT F.slot_tuple_index F.type_tuple_index mt_tup_index po pa' hbase hfew hline hs hplain, mvT_core mtv_tIndex qo qa⟩
end
end VL

namespace VL
open PySem PySem.Spec PyProof.Rows L2
/-! ### calls with keywords that stand in the parameters' order -/
def sameL {α β : Type} : List α → List β → Prop
  | [], [] => True
  | _ :: a, _ :: b => sameL a b
  | _, _ => False
theorem sameL.len {α β : Type} : ∀ {a : List α} {b : List β}, sameL a b → b.length = a.length
  | [], [], _ => rfl
  | _ :: a, _ :: b, h => by rw [List.length_cons, List.length_cons, sameL.len (a := a) (b := b) h]
  | [], _ :: _, h => h.elim
  | _ :: _, [], h => h.elim
theorem SatM.imp {K : PySem.W.Frag} {cl : Str → Addr} {W : WX} {ms : List (Option Nat)} {σ : L2.St} {H : Hp} {Z S : PA1} {Q Q' : List V → Hp → Prop} {o} (h : SatM K cl W ms σ H Z S Q o) (k : ∀ vs H, Q vs H → Q' vs H) : SatM K cl W ms σ H Z S Q' o := by
  match o with
  | none => exact h
  | some (.ok r E') => exact fun v H' Z' St S' a b d m s o => k _ _ (h v H' Z' St S' a b d m s o)
  | some (.ex x E') => exact h
structure IKw (X : Cx) (cl : Str → Addr) (kws : List Keyword) (ms : List (Option Nat)) (t : Ev (List T)) : Prop where
  run : ∀ W, Takes X W → ∃ tk, PK X kws tk ∧ ∀ E σ H Z (S : PA1) Q, OwnE X.K cl H Z E σ S → Okk H Z S → SatM X.K cl W ms σ H Z S Q (t E) → tk σ H fun zs H1 => sameL kws zs ∧ Q zs H1
structure IMK (X : Cx) (cl : Str → Addr) (es : List Expr) (kws : List Keyword) (ms : List (Option Nat)) (t : Ev (List T)) : Prop where
  run : ∀ W, Takes X W → ∃ ta tk, PA X es ta ∧ PK X kws tk ∧ ∀ E σ H Z (S : PA1) Q, OwnE X.K cl H Z E σ S → Okk H Z S → SatM X.K cl W ms σ H Z S Q (t E) → ta σ H fun vs H1 => tk σ H1 fun zs H2 => sameL kws zs ∧ sameL es vs ∧ Q (vs ++ zs) H2
section
variable {X : Cx} {cl : Str → Addr} {a : Expr} {es : List Expr} {kws : List Keyword} {ta : Ev T} {ts : Ev (List T)} {ms : List (Option Nat)} {pos kpos : Pos} {nm : Option Str}
theorem ik_nil : IKw X cl [] [] mNil := ⟨fun W tk => ⟨_, pk_nil, fun E σ H Z S Q oe ok sat =>
  ⟨True.intro, (sat : SatM X.K cl W [] σ H Z S Q (some (.ok [] E))) [] H Z Emp S oe .nil (fun _ z _ => z) .nil (Step.refl.less fun _ z => z.elim False.elim id) (ok.less fun _ z => z.elim False.elim id)⟩⟩⟩
theorem ik_val (ha : IE X cl a ta) (hs : IKw X cl kws ms ts) : IKw X cl (⟨nm, a, kpos⟩ :: kws) (none :: ms) (mVal ta ts) := by
  refine ⟨fun W tk => ?_⟩
  obtain ⟨ta', pa, qa⟩ := ha.fz W tk
  obtain ⟨ts', ps, qs⟩ := hs.run W tk
  refine ⟨_, pk_cons pa ps, im_go (ts' := fun σ H Q => ts' σ H fun zs H1 => sameL kws zs ∧ Q zs H1) (m := none) (fun x => .fz (frz x)) (fun E σ H Z S Q oe ok sat => qa E σ H Z S Q oe ok ?_) qs⟩
  match hE : ta E, sat with
  | none, sat => exact sat
  | some (.ex x E1), sat => exact sat
  | some (.ok r E1), sat => exact fun v H' Z' S' b c s o => sat v H' Z' Emp S' b (.fz c) (fun _ z _ => z) (fun _ q => nomatch q) (s.less fun _ z => z.elim False.elim id) (o.less fun _ z => z.elim False.elim id)
theorem imk_nil (hk : IKw X cl kws ms ts) : IMK X cl [] kws ms ts := by
  refine ⟨fun W tk => ?_⟩
  obtain ⟨tk', pk, qk⟩ := hk.run W tk
  refine ⟨_, _, pa_nil, pk, fun E σ H Z S Q oe ok sat => ?_⟩
  exact qk E σ H Z S (fun zs H2 => sameL ([] : List Expr) ([] : List V) ∧ Q zs H2) oe ok (sat.imp fun _ _ q => ⟨True.intro, q⟩)
theorem imk_val (ha : IE X cl a ta) (hs : IMK X cl es kws ms ts) (hst : starEach (a :: es) X.env = (false, eval a X.env) :: starEach es X.env := by rfl) : IMK X cl (a :: es) kws (none :: ms) (mVal ta ts) := by
  refine ⟨fun W tk => ?_⟩
  obtain ⟨ta', pa, qa⟩ := ha.fz W tk
  obtain ⟨t', k', ps, pk, qs⟩ := hs.run W tk
  refine ⟨_, k', pa_cons pa ps hst, pk, ?_⟩
  exact im_go (ts' := fun σ H Q => t' σ H fun vs H1 => k' σ H1 fun zs H2 => sameL kws zs ∧ sameL es vs ∧ Q (vs ++ zs) H2) (m := none) (fun x => .fz (frz x)) (fun E σ H Z S Q oe ok sat => qa E σ H Z S Q oe ok (by
    match hE : ta E, sat with
    | none, sat => exact sat
    | some (.ex x E1), sat => exact sat
    | some (.ok r E1), sat => exact fun v H' Z' S' b c s o => sat v H' Z' Emp S' b (.fz c) (fun _ z _ => z) (fun _ q => nomatch q) (s.less fun _ z => z.elim False.elim id) (o.less fun _ z => z.elim False.elim id))) qs
theorem imk_own (ha : IE X cl a ta) (hs : IMK X cl es kws ms ts) (hst : starEach (a :: es) X.env = (false, eval a X.env) :: starEach es X.env := by rfl) : IMK X cl (a :: es) kws (none :: ms) (mOwn ta ts) := by
  refine ⟨fun W tk => ?_⟩
  obtain ⟨ta', pa, qa⟩ := ha.run W tk
  obtain ⟨t', k', ps, pk, qs⟩ := hs.run W tk
  refine ⟨_, k', pa_cons pa ps hst, pk, ?_⟩
  exact im_go (ts' := fun σ H Q => t' σ H fun vs H1 => k' σ H1 fun zs H2 => sameL kws zs ∧ sameL es vs ∧ Q (vs ++ zs) H2) (m := none) (fun x => x) (fun E σ H Z S Q oe ok sat => qa E σ H Z S Q oe ok (by
    match hE : ta E, sat with
    | none, sat => exact sat
    | some (.ex x E1), sat => exact sat
    | some (.ok r E1), sat => exact fun v H' Z' Sr S' b c d s o => sat v H' Z' Sr S' b c d (fun _ q => nomatch q) s o)) qs
/-- such a call's names and binding -/
structure CalK (P : Program) (w : World) (K : PySem.W.Frag) (mg : Str → Option Value) (base : Heap) (cl : Str → Addr) (x : Str) (k n : Nat) (ks ps : List Str) (F : List T → Option (Out T)) : Prop where
  ex : ∃ f fd, mg x = some (.ref f) ∧ PySem.W.keepIn K (.ref f) = true ∧ (∀ (s : Shared) (us ws : List Value), us.length = n → ws.length = ks.length → BindsTo s fd ⟨us, ks.zip ws⟩ (ps.zip (us ++ ws))) ∧ FnV P w K mg base cl k f fd ps F
theorem _root_.L2.FunD.bindsKw {K : PySem.W.Frag} {x qual : Str} {params : Arguments} {body : List Stmt} {scope : Scope} {kws : List (Str × V)} {f : Addr} {fd : FuncData} {ps ks : List Str} {n : Nat} (F : FunD K x qual params body scope [] kws f fd)
    (h : ∀ (kV doc pm : Value) (an : Option Addr) (cdv ct : Value) (us ws : List Value), us.length = n → ws.length = ks.length → bindArgs (PySem.W.fnOf x qual params body scope .none kV doc pm an cdv ct) ⟨us, ks.zip ws⟩ = pure (ps.zip (us ++ ws))) (s : Shared) (us ws : List Value) (hl : us.length = n) (hz : ws.length = ks.length) : BindsTo s fd ⟨us, ks.zip ws⟩ (ps.zip (us ++ ws)) := by
  obtain ⟨oc, od, dV, kV, doc, pm, an, cdv, ct, osl, rfl, lk, hcd, hD, hK⟩ := F.ex
  rcases hD with ⟨_, rfl⟩ | ⟨e, _⟩
  · exact .of_eq (h kV doc pm an cdv ct us ws hl hz)
  · exact absurd rfl e
theorem run_fk {W : WX} {k n : Nat} {f : Addr} {fd : FuncData} {ks ps : List Str} {F : List T → Option (Out T)} {pins : List (Addr × Obj)} {σ : L2.St} {H : Hp} {s : Shared} {Q : VK} {us ws : List Value} {vs zs : List V} (tk : Takes X W) (hF : FnV X.prog X.w X.K X.mg X.base cl k f fd ps F)
    (hr : Room k X.A) (hg : X.A.guards = some []) (hb : ∀ (s : Shared) (us ws : List Value), us.length = n → ws.length = ks.length → BindsTo s fd ⟨us, ks.zip ws⟩ (ps.zip (us ++ ws))) (I : Inv X pins σ H s) (r : Vals vs us) (rz : Vals zs ws) (l1 : vs.length = n) (l2 : zs.length = ks.length)
    (h : SpF X.K cl ps.length F (vs ++ zs) H Q fun c d H' => W c d σ H') : wpAny (model X.prog X.w) X.A (call (.ref f) us (ks.zip ws)) (EP X pins σ Q) X.xe s := by
  have hbd := hb s us ws (by rw [← r.length]; exact l1) (by rw [← rz.length]; exact l2)
  refine wpAny_call (codeAny_mono (hF.run X.A X.stack s H ⟨us, ks.zip ws⟩ (us ++ ws) (vs ++ zs) Q _ hr hg I.env0 hbd (r.append rz) h) fun r s' hq => ?_)
  match r, hq with
  | .error e, hq => exact passAt tk σ pins H s e s' I hq
  | .ok (.ret u), hq => exact I.after hq
  | .ok .next, hq => exact hq.elim
  | .ok .brk, hq => exact hq.elim
  | .ok .cont, hq => exact hq.elim
theorem iCallK {x : Str} {p : Pos} {e : Expr} {k j n : Nat} {ks ps : List Str} {F : List T → Option (Out T)} (c : CalK X.prog X.w X.K X.mg X.base cl x j n ks ps F) (hr : Room k X.A) (hg : X.A.guards = some []) (ha : IMK X cl (e :: es) kws ms ts) (hj : j ≤ k := by decide) (hn : ms.length = ps.length := by rfl) (h1 : (e :: es).length = n := by rfl) (h2 : kws.length = ks.length := by rfl) (hgl : Gl X x := by rfl)
    (hall : (backToKw pos (keywordEach kws X.env)).all (·.1.isSome) = true := by rfl) (hks : (backToKw pos (keywordEach kws X.env)).filterMap (·.1) = ks := by rfl)
    (hdb : (x == ("__debug__" : Str)) = false := by decide) (he : starEach (e :: es) X.env = (false, eval e X.env) :: starEach es X.env := by rfl)
    (hpl : ((backTo pos (starEach (e :: es) X.env)).any (·.1) || (backToKw pos (keywordEach kws X.env)).any (·.1.isNone)) = false := by rfl) :
    IE X cl (.Call (.Name x p) (e :: es) kws pos) (eFn F ms ts) := by
  obtain ⟨f, fd, hm, hk, hb, hF⟩ := c.ex
  refine ⟨fun W tk => ?_⟩
  obtain ⟨ta, tkw, pa, pk, qa⟩ := ha.run W tk
  refine ⟨fun σ H Q => ta σ H fun vs H1 => tkw σ H1 fun zs H2 => sameL kws zs ∧ sameL (e :: es) vs ∧ SpF X.K cl ps.length F (vs ++ zs) H2 Q fun c d H' => W c d σ H', ⟨fun pins s σ H Q I h => ?_⟩, fun E σ H Z S Q oe ok sat => ?_⟩
  · refine wpAny_Call_Name_kw (ld_glob I hgl hm ?_ hdb)
    refine PySem.W.callWith_KW (h₀ := X.base) I.ok.mod.kin hk hall (thn (pa.run pos pins s σ H _ I h) fun us s1 ⟨vs, H1, I1, r, q⟩ => ?_) hpl he
    refine thn (pk.run pos pins s1 σ H1 _ I1 q) fun ws s2 ⟨zs, H2, I2, rz, lz, lv, q2⟩ => ⟨I2.kIn, ?_⟩
    rw [hks]
    exact run_fk tk hF (hr.mono hj) hg hb I2 r rz (lv.len.trans h1) (lz.len.trans h2) q2
  · exact call_fin (X := X) (ts' := fun σ H Q => ta σ H fun vs H1 => tkw σ H1 fun zs H2 => sameL kws zs ∧ sameL (e :: es) vs ∧ Q (vs ++ zs) H2) qa E σ H Z S Q oe ok sat hn
end
end VL

namespace VL
open PySem PySem.Spec PyProof.Rows L2
/-! ### own exception classes over a built-in one -/
/-- what a built-in exception class is -/
structure EB (B newId initId : String) (bmB : List Value) : Prop where
  F : ExcBaseFacts B newId initId bmB
  pass : ∀ self, refuseLoop self "__setattr__" bmB = pure ()
  ob : bmB.contains (.type "object") = true
  ty : typeOf (.type B) = pure (.type "type")
  stub : Manifest.isStub B = false
  hnd : PySem.W.handedIn (.builtin initId) = true
  boot : bootBuiltins B = some (.type B)
  nn : (B : Str) ≠ "__name__"
  nd : ((B : Str) == ("__debug__" : Str)) = false
theorem XOk.raises {X : Cx} {B newId initId : String} {bmB : List Value} {C fI : Addr} (T : XOk X.K B newId initId bmB C fI) : Raises X (.ref C) := raises_own T.exC T.tyC
theorem EB.has {B newId initId : String} {bmB bm : List Value} (_ : EB B newId initId bmB) (t : PySem.W.excTail bmB bm = true) : ∀ Y : String, bm.contains (.type Y) = bmB.contains (.type Y) := fun Y => PySem.W.excTail_contains Y bm t

section
open PySem.Builtin PySem.Builtin.ObjectAttr
variable {X : Cx} {pins : List (Addr × Obj)} {σ : L2.St} {H : Hp} {s : Shared} {a C fI : Addr} {f : Str} {y : V} {u : Value} {B newId initId : String} {bmB : List Value} {A : Around} {E : Value → Shared → Prop}
/-- the first field's store -/
theorem ost_B (eb : EB B newId initId bmB) (T : XOk X.K B newId initId bmB C fI) (I : Inv X pins σ H s) (e : H a = some (exo a C none)) (hno : PySem.W.findIn X.K (.ref C) f = some none) (ry : RelV y u) {Q : Unit → Shared → Prop}
    (h : ∀ dx s', H dx = none → dx ≠ a → Inv X pins σ (upd (upd H dx (exd dx [(f, y)])) a (exo a C (some dx))) s' → Q () s') : wpAny (model X.prog X.w) A (setAttr (.ref a) f u) Q E s := by
  obtain ⟨nm, q, N, bs, bm, sn, sub, ab, col, dd, k0, k1, k2, k3, k5, hC, hbm⟩ := T.cls
  obtain ⟨t1, ho⟩ := exo_at I.hok e
  have kin := I.kIn
  have hok := I.hok
  obtain ⟨hp, g, d, t, os⟩ := s
  have hcl : PySem.W.clsIn X.K C = some { name := nm, bases := bs, mro := .ref C :: bm, ns := N, qualname := q, hasDict := true, slotNames := sn, subclasses := sub, abstract := ab, collection := col, hasDel := false } := by
    unfold PySem.W.clsIn; rw [hC] <;> rfl
  have J : PySem.W.InstAt hp a { cls := .ref C, dict := none, data := .fields #[.ref t1, .none, .none, .none, .bool false, .none] } C none := ⟨ho, rfl, rfl, trivial⟩
  have tl : PySem.W.excTail bmB (.ref C :: bm) = true := hbm
  refine PySem.W.set_plain kin J T.sa ?_
  -- the store itself
  have SF := PySem.F.store_object
  have ax : a ≠ hp.objs.size := Nat.ne_of_lt (Heap.lt_size ho)
  have so : PySem.W.Looks (model X.prog X.w) hp (isInstance (.ref a) (.type "object")) true := J.type.andThen (PySem.W.looks_mroIn kin T.hm)
  have lm : PySem.W.Looks (model X.prog X.w) hp (mroOf (.ref C)) (.ref C :: bm) := (PySem.W.looks_clsIn kin hcl).andThen .now
  have lt : PySem.W.Looks (model X.prog X.w) hp (storeTaker? none) none := .now
  have lc : PySem.W.Looks (model X.prog X.w) hp (classData C) _ := PySem.W.looks_clsIn kin hcl
  refine codeAny_call_builtin SF.slot.plain SF.entry (@PySem.W.check_slot (model X.prog X.w) _ _ ⟨hp, g, d, t + 1, os⟩ "object.__setattr__" "object" "__setattr__" (.ref a) [.str f t, u] [] _ SF.kind SF.split so (SF.args (.ref a) (.str f t) u) ?_)
  rw [PySem.W.osa_eq, refuse_eq]
  refine wpAny_bind (wpAny_bind (J.type.at (wpAny_bind (lm.at ?_))))
  rw [PySem.W.excTail_pass _ (eb.pass _) _ tl]
  refine wpAny_pure (wpAny_bind (J.type.at (wpAny_bind ((PySem.W.looks_findIn kin hno).at (wpAny_bind (lt.at ?_))))))
  show wpAny _ _ (storeInOwnDict (.ref a) (.ref C) (.str f t) f u false) _ _ _
  have fin : ∀ (h' : Heap) (tk' : Nat) (dx : Addr), (∀ b o, b ≠ a → hp.get? b = some o → h'.get? b = some o) → hp.objs.size ≤ dx → dx ≠ a →
      h'.get? a = some { cls := .ref C, dict := some dx, data := .fields #[.ref t1, .none, .none, .none, .bool false, .none] } → h'.Ns1 dx (fun z => if z = f then some u else none) → Q () ⟨h', g, d, tk', os⟩ := by
    intro h' tk' dx k dn dne hx hn
    have nd : H dx = none := hok.fresh dn
    have n1 : ∀ {b : Addr} {o : Obj}, hp.get? b = some o → b ≠ dx := fun z => Nat.ne_of_lt (Nat.lt_of_lt_of_le (Heap.lt_size z) dn)
    have n2 : ∀ {b : Addr}, H b = none → b ≠ a := fun n z => by rw [z, e] at n; cases n
    have U : Un X.fs [] H (upd (upd H dx (exd dx [(f, y)])) a (exo a C (some dx))) hp h' := by
      refine ⟨fun b o z n _ _ => k b o (n2 n) z, fun b o z n _ _ => ⟨o.slots, k b o (n2 n) z⟩, fun b o z n _ => ?_, fun b o z _ => ?_, fun b xs z => ?_, fun b o v z => ?_, fun b ps z => ⟨#[], ?_⟩⟩
      · rw [upd_ne (n2 n), upd_ne (n1 z)]; exact n
      · by_cases hb : b = a
        · exact ⟨_, by rw [hb]; exact hx⟩
        · exact ⟨o, k b o hb z⟩
      · rw [upd_ne (at_ne e z exo_tup), upd_ne (ne_of_none z nd)]; exact z
      · rw [upd_ne (at_ne e z exo_frz), upd_ne (ne_of_none z nd)]; exact z
      · rw [upd_ne (at_ne e z exo_tbl), upd_ne (ne_of_none z nd), z]; simp
    refine h dx _ nd dne (I.un (t' := tk') U fun b o z => ?_)
    by_cases hb : b = a
    · subst hb
      rw [upd_same] at z
      cases z
      exact exo_ok hx
    · rw [upd_ne hb] at z
      by_cases hb2 : b = dx
      · subst hb2
        rw [upd_same] at z
        cases z
        exact exd_ok hn (relO_put (fs := []) ry fun g => True.intro)
      · rw [upd_ne hb2] at z
        refine (hok b o z).stay (fun c v hc w => k c v ?_ w) (fun c w => ?_) fun c xs w => ?_
        · rcases hc with hc | hc
          · rw [hc]; exact hb
          · exact at_ne e hc exo_own
        · rw [upd_ne (at_ne e w exo_own), upd_ne (ne_of_none w nd)]; exact w
        · rw [upd_ne (at_ne e w exo_tup), upd_ne (ne_of_none w nd)]; exact w
  unfold storeInOwnDict ownDictForStores
  repeat (first | with_reducible refine PySem.HandSPX.store_in_new ?_ ?_ | with_reducible refine wpAny_loadPart_at ho ?_ | with_reducible refine lc.at ?_ | wp_step)
  · exact ⟨_, #[], _, (Heap.get?_update_ne _ _ _ _ ax.symm).trans (Heap.get?_push_at rfl rfl), rfl, fun z hz => absurd hz (by simp), fun _ => rfl⟩
  · intro h' tk' hn' hs
    have hx1 : (hp.push { cls := .type "dict", data := .dict #[] }).get? a = some { cls := .ref C, data := .fields #[.ref t1, .none, .none, .none, .bool false, .none] } := Heap.get?_push_of_some _ ho
    exact fin h' tk' hp.objs.size (fun b o hb z => (hs.2 b (Nat.ne_of_lt (Heap.lt_size z))).trans ((Heap.get?_update_ne _ _ _ _ hb).trans (Heap.get?_push_of_some _ z))) (Nat.le_refl _) ax.symm
      ((hs.2 a ax).trans (Heap.get?_update_self _ hx1 rfl)) hn'
/-- B.__init__(self, ..) -/
theorem oinit_B (eb : EB B newId initId bmB) (T : XOk X.K B newId initId bmB C fI) {us : List Value} {Q : Value → Shared → Prop} (I : Inv X pins σ H s) (e : H a = some (exo a C none)) (hl : us.length ≤ sizeLine) (h : ∀ s', Inv X pins σ H s' → Q .none s') :
    wpAny (model X.prog X.w) A (call (.builtin initId) (.ref a :: us)) Q E s := by
  obtain ⟨nm, q, N, bs, bm, sn, sub, ab, col, dd, k0, k1, k2, k3, k5, hC, hbm⟩ := T.cls
  obtain ⟨t1, ho⟩ := exo_at I.hok e
  obtain ⟨hp, g, d, t, os⟩ := s
  refine wpAny_call (PySem.HandSPX.init_base eb.F (eb.has hbm) (I.kIn _ _ hC) ho hl fun h' t2 k hx => ?_)
  have J := I.write (t' := t) (x := a) (e := a) (o := exo a C none) (by rw [e]; exact True.intro) (.inl rfl) k ⟨_, hx⟩ (exo_ok hx)
  have eu : upd H a (exo a C none) = H := by
    funext b
    by_cases hb : b = a
    · rw [hb, upd_same, e]
    · rw [upd_ne hb]
  exact h _ (eu ▸ J)
end

/-! ### __init__ of such a class -/
section
variable (K : PySem.W.Frag) (B newId initId : String) (bmB : List Value)
def tBI (ta : TA) : TE := fun σ H Q => ta σ H fun vs H1 => ∃ (a C fI : Addr) (ws : List V), vs = .ref a :: ws ∧ ws.length ≤ 1000 ∧ XOk K B newId initId bmB C fI ∧ H1 a = some (exo a C none) ∧ Q .non H1
def tOB (f : Str) (to te : TE) : TS := fun D σ H => te σ H fun y H1 => to σ H1 fun x H2 => ∃ a C fI : Addr, x = .ref a ∧ XOk K B newId initId bmB C fI ∧ PySem.W.findIn K (.ref C) f = some none ∧ H2 a = some (exo a C none) ∧
  ∀ dx, H2 dx = none → dx ≠ a → D.nx σ (upd (upd H2 dx (exd dx [(f, y)])) a (exo a C (some dx)))
/-- no field -/
def spX0 : Sp := fun vs H Q _ => ∃ a C fI : Addr, vs = [.ref a] ∧ XOk K B newId initId bmB C fI ∧ H a = some (exo a C none) ∧ Q .non H
/-- one field -/
def spX1 (f : Str) : Sp := fun vs H Q _ => ∃ (a C fI : Addr) (y : V), vs = [.ref a, y] ∧ XOk K B newId initId bmB C fI ∧ PySem.W.findIn K (.ref C) f = some none ∧ H a = some (exo a C none) ∧
  ∀ dx, H dx = none → dx ≠ a → Q .non (upd (upd H dx (exd dx [(f, y)])) a (exo a C (some dx)))
end
section
variable {X : Cx} {B newId initId : String} {bmB : List Value} {e o : Expr} {es : List Expr} {to te : TE} {ta : TA} {f : Str} {p p' p1 p2 pos : Pos}
theorem pe_binit {pl : Sem Bool} (eb : EB B newId initId bmB) (hm : X.mg B = none) (vB : PySem.W.findCls X.K (.type B) (.type "type") "__init__" = some (.val (.builtin initId))) (ha : PA X (e :: es) ta) (hg : Gl X B := by rfl)
    (hc : eval (.Call (.Attribute (.Name B p1) "__init__" p2) (e :: es) [] pos) X.env = (do
      let ov ← eval (.Name B p1) X.env
      standAt p2.atName
      let (f, first) ← holding [ov] (getMethod ov "__init__" pl)
      callWith pos f first (backTo pos (starEach (e :: es) X.env)) (backToKw pos (keywordEach [] X.env))) := by rfl)
    (he : starEach (e :: es) X.env = (false, eval e X.env) :: starEach es X.env := by rfl) (hpl : (backTo pos (starEach es X.env)).any (·.1) = false := by rfl) :
    PE X (.Call (.Attribute (.Name B p1) "__init__" p2) (e :: es) [] pos) (tBI X.K B newId initId bmB ta) := by
  refine ⟨fun pins s σ H Q I h => ?_⟩
  refine PySem.W.methodCall_KW (ld_blt I hg hm eb.boot ?_ eb.nn eb.nd) hc
  obtain ⟨m, fr⟩ := I.fr
  refine PySem.W.method_type fr I.ok.mod.kin eb.ty eb.stub vB eb.hnd ?_
  show wpAny _ _ (callWith pos (Value.builtin initId) [] (backTo pos (starEach (e :: es) X.env)) []) _ _ _
  refine PyProof.Rows.callWith_method1 (thn (ha.run pos pins _ σ H _ (I.tok _) h) fun us s1 ⟨vs, H1, I1, r1, a, C, fI, ws, ev, hl, T, ea, q⟩ => ?_) he hpl
  subst ev
  cases r1 with
  | @cons _ u0 _ ur ra rw' =>
    obtain rfl : u0 = Value.ref a := ra
    exact oinit_B eb T I1 ea (by rw [← Paired.length rw', sizeLine_eq]; omega) fun s' J => ⟨.non, H1, J, rfl, q⟩
theorem ps_ostB (eb : EB B newId initId bmB) (ho : PE X o to) (he : PE X e te) (hs : swapsWith e (some (.Attribute o f p')) pos.line X.env = pure false := by rfl) : PS X (.Assign [.Attribute o f p'] e pos) (tOB X.K B newId initId bmB f to te) := by
  refine ⟨fun pins s σ H D I h => ?_⟩
  refine plainObj_wpAny_Assign_Attribute (thn (he.run pins s σ H _ I h) fun v s1 ⟨y, H1, I1, r1, q1⟩ => thn (ho.run pins s1 σ H1 _ I1 q1) fun u s2 ⟨x, H2, I2, r2, a, C, fI, ex, T, hno, ea, q⟩ => ?_) hs
  subst ex
  obtain rfl : u = Value.ref a := r2
  exact ost_B eb T I2 ea hno r1 fun dx s' n ne J => ⟨σ, _, J, q dx n ne⟩
theorem lenX0 {K : PySem.W.Frag} : ∀ vs H Q E, spX0 K B newId initId bmB vs H Q E → vs.length = 1 := fun _ _ _ _ ⟨_, _, _, e, _⟩ => by rw [e]; rfl
theorem lenX1 {K : PySem.W.Frag} : ∀ vs H Q E, spX1 K B newId initId bmB f vs H Q E → vs.length = 2 := fun _ _ _ _ ⟨_, _, _, _, e, _⟩ => by rw [e]; rfl
theorem runX0 {K : PySem.W.Frag} {n : Str} {m : V} {vs : List V} {H : Hp} {Q : VK} {E : XK} (h : spX0 K B newId initId bmB vs H Q E) :
    tDrop (tBI K B newId initId bmB (tCons (tVar 0) (tCons (tC m) tNil))) { nx := fun _ H' => Q .non H', rt := Q } (start [n] vs) H := by
  obtain ⟨a, C, fI, rfl, T, ea, q⟩ := h
  exact ⟨.ref a, rfl, a, C, fI, [m], rfl, by simp, T, ea, q⟩
theorem runX1 {K : PySem.W.Frag} {n n2 : Str} {m : V} {vs : List V} {H : Hp} {Q : VK} {E : XK} (h : spX1 K B newId initId bmB f vs H Q E) :
    tSeq (tDrop (tBI K B newId initId bmB (tCons (tVar 0) (tCons (tC m) tNil)))) (tOB K B newId initId bmB f (tVar 0) (tVar 1)) { nx := fun _ H' => Q .non H', rt := Q } (start [n, n2] vs) H := by
  obtain ⟨a, C, fI, y, rfl, T, hno, ea, q⟩ := h
  exact ⟨.ref a, rfl, a, C, fI, [m], rfl, by simp, T, ea, y, rfl, .ref a, rfl, a, C, fI, rfl, T, hno, ea, q⟩

/-! ### such an exception made -/
/-- the end of C(), C's __init__ having stored nothing: the exception is let go -/
theorem mk_endN {pins : List (Addr × Obj)} {σ : L2.St} {H1 H2 : Hp} {Q : XK} {hp hp2 h2 : Heap} {g1 g2 : Array GenState} {d1 d2 : Drawn} {t1 t2 : Nat} {os1 os2 : OsState} {a C : Addr} (T : Raises X (.ref C)) (I1 : Inv X pins σ H1 ⟨hp, g1, d1, t1, os1⟩)
    (ha : hp.objs.size ≤ a) (k : ∀ b o, hp.get? b = some o → hp2.get? b = some o) (un : Un (frs X.stack) [] (upd H1 a (exo a C none)) H2 hp2 h2) (hok : HOk X.prog X.w H2 h2) (ho : os2 = os1) (hb : AllBare g2)
    (ea : H2 a = some (exo a C none)) (q : Q (.ref C) none (L2.del H2 a)) : MkP X pins σ Q (.ref a) ⟨h2, g2, d2, t2, os2⟩ := by
  obtain ⟨t0, hoe⟩ := exo_at hok ea
  have hn : H1 a = none := I1.hok.fresh ha
  obtain ⟨G, g1', g2'⟩ := restrict h2 fun b => decide (b ≠ a)
  have gk : ∀ b, b ≠ a → G.get? b = h2.get? b := fun b hb => g1' b (decide_eq_true hb)
  have ge : G.get? a = none := g2' a (by simp)
  have n1 : ∀ {b : Addr} {o : Obj}, hp.get? b = some o → b ≠ a := fun z => Nat.ne_of_lt (Nat.lt_of_lt_of_le (Heap.lt_size z) ha)
  have n2 : ∀ {b : Addr}, b ≠ a → H1 b = none → upd H1 a (exo a C none) b = none := fun hb n => by rw [upd_ne hb]; exact n
  have nd : L2.del H2 a a = none := L2.del_same
  have U : Un (frs X.stack) [] H1 (L2.del H2 a) hp G := by
    refine ⟨fun b o z n hf hx => ?_, fun b o z n hf hx => ?_, fun b o z n hx => ?_, fun b o z hx => ?_, fun b xs z => ?_, fun b o v z => ?_, fun b ps z => ?_⟩
    · rw [gk b (n1 z)]; exact un.keep b o (k b o z) (n2 (n1 z) n) hf hx
    · rw [gk b (n1 z)]; exact un.slot b o (k b o z) (n2 (n1 z) n) hf hx
    · rw [L2.del_ne (n1 z)]; exact un.free b o (k b o z) (n2 (n1 z) n) hx
    · rw [gk b (n1 z)]; exact un.there b o (k b o z) hx
    · rw [L2.del_ne (ne_of_none z hn)]; exact un.tups b xs (by rw [upd_ne (ne_of_none z hn)]; exact z)
    · rw [L2.del_ne (ne_of_none z hn)]; exact un.frzs b o v (by rw [upd_ne (ne_of_none z hn)]; exact z)
    · rw [L2.del_ne (ne_of_none z hn)]; exact un.tbls b ps (by rw [upd_ne (ne_of_none z hn)]; exact z)
  have hok3 : HOk X.prog X.w (L2.del H2 a) G := fun b o z => by
    have hba : b ≠ a := fun e => by rw [e, nd] at z; cases z
    rw [L2.del_ne hba] at z
    refine (hok b o z).stay (fun c v hc y => ?_) (fun c hc => ?_) fun c xs hc => ?_
    · have hca : c ≠ a := by
        rcases hc with hc | hc
        · rw [hc]; exact hba
        · exact at_ne ea hc exo_own
      rw [gk c hca]; exact y
    · rw [L2.del_ne (at_ne ea hc exo_own)]; exact hc
    · rw [L2.del_ne (at_ne ea hc exo_tup)]; exact hc
  have J : Inv X pins σ (L2.del H2 a) ⟨G, g2, d2, t2, os2⟩ := I1.call' (ch := []) ho U hok3 hb (fun b z => absurd z (by simp))
  refine ⟨a, _, _, ⟨G, g2, d2, t2, os2⟩, _, .ref C, none, rfl, J, fun b o z => ?_, ge, hoe, ⟨rfl, rfl⟩, rfl, rfl, nd, rfl, hb, T, q⟩
  by_cases hba : b = a
  · rw [hba, ge] at z; cases z
  · exact (gk b hba).symm.trans z
section
variable {CX : CXT} {x : Str} {C fI : Addr} {k : Nat} {fd : FuncData} {ps : List Str} {sp : Sp}
/-- what a call of the class runs, up to its __init__ -/
theorem xcall (eb : EB B newId initId bmB) (T : XOk X.K B newId initId bmB C fI) (F1 : FnOk X.prog X.w X.K X.mg X.base CX k fI fd ps sp) (hr : Room (k + 1) X.A) (hb : Binds X.K fd ps []) (hx : Passes CX X (fun _ _ _ => False))
    {pins : List (Addr × Obj)} {σ : L2.St} {H1 : Hp} {s1 : Shared} {us : List Value} {vs : List V} {Q : XK} (I1 : Inv X pins σ H1 s1) (r1 : Vals vs us) (hz : vs.length ≤ 1000)
    (q1 : ∀ a, H1 a = none → sp (.ref a :: vs) (upd H1 a (exo a C none)) (fun v H2 => v = .non ∧
      ((H2 a = some (exo a C none) ∧ Q (.ref C) none (L2.del H2 a)) ∨ ∃ (d : Addr) (fs : List (Str × V)), H2 a = some (exo a C (some d)) ∧ H2 d = some (exd d fs) ∧ H1 d = none ∧ Q (.ref C) (some d) (upd (L2.del H2 a) d (.xd fs)))) (fun _ _ _ => False)) :
    wpAny (model X.prog X.w) X.A (call (.ref C) us) (MkP X pins σ Q) X.xe s1 := by
  obtain ⟨nm, q, N, bs, bm, sn, sub, ab, col, dd, k0, k1, k2, k3, k5, hC, hbm⟩ := T.cls
  obtain ⟨hp, g, dr, tk, os⟩ := s1
  have hsz : hp.objs.size ≤ hp.objs.size + 1 := Nat.le_succ _
  have hn : H1 (hp.objs.size + 1) = none := I1.hok.fresh hsz
  have hq := q1 (hp.objs.size + 1) hn
  have kk : ∀ b o, hp.get? b = some o → ((hp.push (PySem.W.kdv_tup us)).push (PySem.HandSPX.excO C hp.objs.size)).get? b = some o := fun b o e => Heap.get?_push_of_some _ (Heap.get?_push_of_some _ e)
  have hget : ((hp.push (PySem.W.kdv_tup us)).push (PySem.HandSPX.excO C hp.objs.size)).get? (hp.objs.size + 1) = some (PySem.HandSPX.excO C hp.objs.size) := by heap_get
  have I2 : Inv X pins σ (upd H1 (hp.objs.size + 1) (exo (hp.objs.size + 1) C none)) ⟨(hp.push (PySem.W.kdv_tup us)).push (PySem.HandSPX.excO C hp.objs.size), g, dr, tk, os⟩ :=
    I1.laid (t' := tk) (a := hp.objs.size + 1) (o := exo (hp.objs.size + 1) C none) (h' := (hp.push (PySem.W.kdv_tup us)).push (PySem.HandSPX.excO C hp.objs.size)) kk hsz (exo_ok hget)
  have r2 : Vals (V.ref (hp.objs.size + 1) :: vs) (Value.ref (hp.objs.size + 1) :: us) := .cons rfl r1
  have hl : (Value.ref (hp.objs.size + 1) :: us ++ []).length = ps.length := by
    have e := r2.length
    rw [F1.len _ _ _ _ hq] at e
    rw [List.append_nil]
    exact e.symm
  have hus : us.length ≤ sizeLine := by rw [← Paired.length r1, sizeLine_eq]; omega
  refine wpAny_call (PySem.HandSPX.call_own eb.F (eb.has hbm) (I1.kIn _ _ hC) (PySem.W.looks_findIn I1.kIn T.init) (fun self => PySem.W.bind_fn I1.kIn self T.tI) hus
    (codeAny_mono (F1.run _ X.stack _ _ ⟨Value.ref (hp.objs.size + 1) :: us, []⟩ (Value.ref (hp.objs.size + 1) :: us) _ _ (fun _ _ _ => False) (hr.make C us []) (I2.env0.make C us []) (by have := hb _ (Value.ref (hp.objs.size + 1) :: us) I2.kIn hl; rw [List.append_nil] at this; exact this) r2 hq) fun r s' hq' => ?_))
  cases r with
  | error er => exact hx pins σ _ _ er s' I2 hq'
  | ok fl =>
    cases fl with
    | ret u =>
      obtain ⟨v, H2, os2, bare2, un2, hok2, rv, ev, q2⟩ := hq'
      subst ev
      obtain ⟨h2, g2, d2, t2, os'⟩ := s'
      rcases q2 with ⟨ea, q2⟩ | ⟨d, fs, ea, ed, hd1, q2⟩
      · exact ⟨rv, mk_endN T.raises I1 hsz kk un2 hok2 os2 bare2 ea q2⟩
      · exact ⟨rv, mk_end T.raises I1 hsz kk un2 hok2 os2 bare2 ea ed hd1 q2⟩
    | next => exact False.elim hq'
    | brk => exact False.elim hq'
    | cont => exact False.elim hq'
end
end
end VL

namespace VL
open PySem PySem.Spec PyProof.Rows L2
/-! ### raise -/
/-- an exception class of the text without a field -/
structure CalX0 (P : Program) (w : World) (K : PySem.W.Frag) (mg : Str → Option Value) (base : Heap) (cl : Str → Addr) (B newId initId : String) (bmB : List Value) (c : Str) : Prop where
  glo : mg c = some (.ref (cl c))
  ex : ∃ fI fd ps, XOk K B newId initId bmB (cl c) fI ∧ Binds K fd ps [] ∧ FnOk P w K mg base CX0 1 fI fd ps (spX0 K B newId initId bmB)
/-- one with the field f -/
structure CalX1 (P : Program) (w : World) (K : PySem.W.Frag) (mg : Str → Option Value) (base : Heap) (cl : Str → Addr) (B newId initId : String) (bmB : List Value) (c f : Str) : Prop where
  glo : mg c = some (.ref (cl c))
  ex : ∃ fI fd ps, XOk K B newId initId bmB (cl c) fI ∧ Binds K fd ps [] ∧ FnOk P w K mg base CX0 1 fI fd ps (spX1 K B newId initId bmB f)
  na : PySem.W.findIn K (.ref (cl c)) f = some none
def sRaise0 (c : Str) : Ev Fl := fun E => some (.ex ⟨c, []⟩ E)
def sRaise1 (c f : Str) (te : Ev T) : Ev Fl := fun E => bnd (te E) fun x E1 => some (.ex ⟨c, [(f, frz x)]⟩ E1)
theorem delUpd {H : Hp} {a : Addr} {o : HO} (h : H a = none) : L2.del (upd H a o) a = H := by
  funext b
  by_cases e : b = a
  · rw [e, L2.del_same, h]
  · rw [L2.del_ne e, upd_ne e]
section
variable {X : Cx} {cl : Str → Addr} {kp : Keep} {B newId initId : String} {bmB : List Value} {c f : Str} {e : Expr} {te : TE} {t : Ev T} {p pos pos' : Pos} {k : Nat}
theorem pmk0 (eb : EB B newId initId bmB) (cx : CalX0 X.prog X.w X.K X.mg X.base cl B newId initId bmB c) (hr : Room k X.A) (hk : 2 ≤ k) (hg : Gl X c) (hdb : (c == ("__debug__" : Str)) = false) :
    PMk X (.Call (.Name c p) [] [] pos) (fun _ H Q => Q (.ref (cl c)) none H) := by
  obtain ⟨hm, fI, fd, ps, T, hb, F1⟩ := cx
  intro pins s σ H Q I h
  refine wpAny_Call_Name_kw (ld_glob I hg hm ?_ hdb)
  refine PySem.W.callWith_K0 I.kIn T.kC (xcall eb T F1 (hr.mono hk) hb pass0 (us := []) (vs := []) I .nil (Nat.zero_le _) fun a hn => ?_)
  exact ⟨a, cl c, fI, rfl, T, upd_same, rfl, .inl ⟨upd_same, by rw [delUpd hn]; exact h⟩⟩
theorem pmk1 (eb : EB B newId initId bmB) (cx : CalX1 X.prog X.w X.K X.mg X.base cl B newId initId bmB c f) (hr : Room k X.A) (hk : 2 ≤ k) (hg : Gl X c) (hdb : (c == ("__debug__" : Str)) = false) (pe : PE X e te)
    (he : starEach [e] X.env = (false, eval e X.env) :: starEach [] X.env := by rfl) (hpl : (backTo pos (starEach [] X.env)).any (·.1) = false := by rfl) :
    PMk X (.Call (.Name c p) [e] [] pos) (fun σ H Q => te σ H fun y H1 => ∀ dx, H1 dx = none → Q (.ref (cl c)) (some dx) (upd H1 dx (.xd [(f, y)]))) := by
  obtain ⟨hm, ⟨fI, fd, ps, T, hb, F1⟩, hno⟩ := cx
  intro pins s σ H Q I h
  refine wpAny_Call_Name_kw (ld_glob I hg hm ?_ hdb)
  have h2 : tCons te tNil σ H fun vs H1 => ∃ y, vs = [y] ∧ ∀ dx, H1 dx = none → Q (.ref (cl c)) (some dx) (upd H1 dx (.xd [(f, y)])) := by
    obtain ⟨W1, hW1⟩ : ∃ W1 : V → Hp → Prop, W1 = fun y H1 => ∀ dx, H1 dx = none → Q (.ref (cl c)) (some dx) (upd H1 dx (.xd [(f, y)])) := ⟨_, rfl⟩
    rw [← hW1] at h
    show te σ H _
    have e2 : (fun y H1 => ∃ y', [y] = [y'] ∧ ∀ dx, H1 dx = none → Q (.ref (cl c)) (some dx) (upd H1 dx (.xd [(f, y')]))) = W1 := by
      funext y H1
      rw [hW1]
      exact propext ⟨fun ⟨y', e, q⟩ => by cases e; exact q, fun q => ⟨y, rfl, q⟩⟩
    exact e2 ▸ h
  refine PySem.W.callWith_K (h₀ := X.base) I.ok.mod.kin T.kC (thn ((pa_cons pe pa_nil he).run pos pins s σ H _ I h2) fun us s1 ⟨vs, H1, I1, r1, y, ev, q1⟩ => ⟨I1.kIn, ?_⟩) he hpl
  subst ev
  refine xcall eb T F1 (hr.mono hk) hb pass0 I1 r1 (by simp) fun a hn => ?_
  refine ⟨a, cl c, fI, y, rfl, T, hno, upd_same, fun dx hd ne => ⟨rfl, .inr ⟨dx, _, upd_same, by rw [upd_ne ne, upd_same], ?_, ?_⟩⟩⟩
  · rw [upd_ne ne] at hd; exact hd
  · have hd1 : H1 dx = none := by rw [upd_ne ne] at hd; exact hd
    have eq : upd (L2.del (upd (upd (upd H1 a (exo a (cl c) none)) dx (exd dx [(f, y)])) a (exo a (cl c) (some dx))) a) dx (.xd [(f, y)]) = upd H1 dx (.xd [(f, y)]) := by
      funext b
      by_cases b1 : b = dx
      · rw [b1, upd_same, upd_same]
      · rw [upd_ne b1, upd_ne b1]
        by_cases b2 : b = a
        · rw [b2, L2.del_same, hn]
        · rw [L2.del_ne b2, upd_ne b2, upd_ne b1, upd_ne b2]
    rw [eq]
    exact q1 dx hd1
/-- raise C() -/
theorem is_raise0 (eb : EB B newId initId bmB) (cx : CalX0 X.prog X.w X.K X.mg X.base cl B newId initId bmB c) (hr : Room k X.A) (hk : 2 ≤ k := by decide) (hc : X.calm = true := by rfl) (hg : Gl X c := by rfl) (hdb : (c == ("__debug__" : Str)) = false := by decide) :
    IS X cl kp (.Raise (some (.Call (.Name c p) [] [] pos)) none pos') (sRaise0 c) := by
  refine ⟨fun W tk => ⟨_, ps_raise hc tk (pmk0 eb cx hr hk hg hdb), fun E σ H Z S D oe ok sat => ?_⟩⟩
  have sat2 : SatXs X.K cl W kp σ H Z S ⟨c, []⟩ E := sat
  exact sat2 _ _ σ H Z S oe .refl ⟨rfl, .inl ⟨rfl, rfl⟩⟩ Step.refl ok
/-- raise C(e) -/
theorem is_raise1 (eb : EB B newId initId bmB) (cx : CalX1 X.prog X.w X.K X.mg X.base cl B newId initId bmB c f) (hr : Room k X.A) (h : IE X cl e t) (hk : 2 ≤ k := by decide) (hc : X.calm = true := by rfl) (hg : Gl X c := by rfl) (hdb : (c == ("__debug__" : Str)) = false := by decide)
    (he : starEach [e] X.env = (false, eval e X.env) :: starEach [] X.env := by rfl) (hpl : (backTo pos (starEach [] X.env)).any (·.1) = false := by rfl) :
    IS X cl kp (.Raise (some (.Call (.Name c p) [e] [] pos)) none pos') (sRaise1 c f t) := by
  refine ⟨fun W tk => ?_⟩
  obtain ⟨te, pe, qe⟩ := h.fz W tk
  refine ⟨_, ps_raise hc tk (pmk1 eb cx hr hk hg hdb pe he hpl), fun E σ H Z S D oe ok sat => ?_⟩
  refine qe E σ H Z S _ oe ok (satD_bnd (β := Fl) (κ := Keep × Ends) (q := (kp, D)) sat fun r E1 sat1 v H1 Z1 S1 oe1 rp st1 ok1 => ?_)
  have sat2 : SatXs X.K cl W kp σ H Z S ⟨c, [(f, frz r)]⟩ E1 := sat1
  intro dx hd
  have nZ : ∀ a, Z1 a → a ≠ dx := fun a z e => ok1.za a z (by rw [e]; exact hd)
  have nS : ∀ a, S1 a → a ≠ dx := fun a z e => ok1.sa a z (by rw [e]; exact hd)
  have kz : ∀ a, Z1 a → Kept H1 (upd H1 dx (.xd [(f, v)])) a := fun a z => .of fun u q => by rw [upd_ne (nZ a z)]; exact q
  have ks : ∀ a o, S1 a → H1 a = some o → upd H1 dx (.xd [(f, v)]) a = some o := fun a o z q => by rw [upd_ne (nS a z)]; exact q
  refine sat2 _ _ σ (upd H1 dx (.xd [(f, v)])) (fun a => Z1 a ∨ a = dx) S1 (oe1.mono (fun _ z => .inl z) kz ks) .refl ⟨rfl, .inr ⟨dx, _, rfl, .inr rfl, upd_same, rfl, .cons (rp.mono (fun _ z => .inl z) kz) .nil⟩⟩ (st1.trans ?_) ?_
  · refine ⟨fun _ z => .inl z, fun a z => z.elim .inl fun e => .inr (.inr (by rw [e]; exact hd)), fun _ z => .inl z, fun a o q n => ?_, fun a q => ?_⟩
    · have ne : a ≠ dx := fun e => by rw [e, hd] at q; cases q
      rw [upd_ne ne]; exact q
    · have ne : a ≠ dx := fun e => q (by rw [e]; exact hd)
      rw [upd_ne ne]; exact q
  · refine ⟨fun a z y => y.elim (ok1.dis a z) (nS a z), fun a z => by rw [upd_ne (nS a z)]; exact ok1.sa a z, fun a z => z.elim (fun z => by rw [upd_ne (nZ a z)]; exact ok1.za a z) fun e => by rw [e, upd_same]; exact fun z => nomatch z⟩
end
end VL

namespace VL
open PySem PySem.Spec PyProof.Rows L2
/-! ### try: .. except C as e: .. : the caught exception becomes a value -/
theorem OwnE.clr1 {K : PySem.W.Frag} {cl : Str → Addr} {H : Hp} {Z : PA1} : ∀ {E : En} {σ : L2.St} {S : PA1} (i : Nat), OwnE K cl H Z E σ S → OwnE K cl H Z (E.set i none) (σ.set i none) S
  | _, _, _, _, .nl => by simp; exact .nl
  | _, _, _, 0, .no r => by simp; exact .no r
  | _, _, _, i + 1, .no r => by simp; exact .no (OwnE.clr1 i r)
  | _, _, _, 0, .so _ r _ a2 _ => by simp; exact .no (r.up a2)
  | _, _, _, i + 1, .so h r a1 a2 d => by simp; exact .so h (OwnE.clr1 i r) a1 a2 d
theorem takes_no {X : Cx} : Takes X (fun _ _ _ _ => False) := fun _ _ ⟨_, _, _, _, _, _, _, _, _, _, _, _, _, _, _, _, w⟩ => w.elim
theorem ExV.ok {P : Program} {w : World} {H : Hp} {h : Heap} {a : Addr} {cls : Value} {d : Option Addr} {oe : Obj} {vs : Array Value} (e : h.get? a = some oe) (z : Zc cls d oe) (f : oe.data = .fields vs) : ObjOk P w H h a (ExV cls d a) :=
  ⟨⟨oe, vs, e, z, f⟩, ⟨oe, e⟩, fun _ _ ⟨o, v, q, r⟩ k => ⟨o, v, k o q, r⟩⟩
section
variable {X : Cx} {pins : List (Addr × Obj)} {σ : L2.St} {H : Hp} {s : Shared} {a : Addr}
/-- an exception in hand is told from now on -/
theorem track {cls : Value} {d : Option Addr} {oe : Obj} {vs : Array Value} (I : Inv X pins σ H s) (hn : H a = none) (h0 : X.s_0.heap.get? a = none) (ha : s.heap.get? a = some oe) (hz : Zc cls d oe) (hd : oe.data = .fields vs)
    (nL : a ≠ X.env.locals) (np : ∀ p ∈ X.pn ++ pins, p.1 ≠ a) : Inv X pins σ (upd H a (ExV cls d a)) s := by
  have n0 : ∀ {b : Addr} {o : Obj}, X.s_0.heap.get? b = some o → b ≠ a := fun q z => by rw [z, h0] at q; cases q
  refine ⟨I.ok, I.os, I.bare, ⟨fun b o q n hb hx => I.base.keep b o q n hb hx, fun b o q n hb hx => I.base.slot b o q n hb hx, fun b o q n hx => ?_, fun b o q hx => I.base.there b o q hx, fun b xs q => ?_, fun b o u q => ?_, fun b ps q => ?_⟩,
    I.loc, I.cell, ?_, fun x c q => ?_, fun p hp => ?_, fun b u q => ?_, I.len⟩
  · rw [upd_ne (n0 q)]; exact I.base.free b o q n hx
  · have z := I.base.tups b xs q
    rw [upd_ne (ne_of_none z hn)]; exact z
  · have z := I.base.frzs b o u q
    rw [upd_ne (ne_of_none z hn)]; exact z
  · obtain ⟨m, z⟩ := I.base.tbls b ps q
    exact ⟨m, by rw [upd_ne (ne_of_none z hn)]; exact z⟩
  · rw [upd_ne (Ne.symm nL)]; exact I.free
  · obtain ⟨v, o, ho, hv⟩ := I.cell x c q
    have ne : c ≠ a := fun z => by
      rw [z, ha] at ho
      cases ho
      rw [hd] at hv
      cases hv
    rw [upd_ne ne]; exact I.freeC x c q
  · obtain ⟨h1, h2, h3, h4, h5⟩ := I.pin p hp
    exact ⟨h1, by rw [upd_ne (np p hp)]; exact h2, h3, h4, h5⟩
  · by_cases hb : b = a
    · subst hb
      rw [upd_same] at q
      cases q
      exact ExV.ok ha hz hd
    · rw [upd_ne hb] at q
      exact (I.hok b u q).stay (fun _ _ _ z => z) (fun c z => by rw [upd_ne (ne_of_none z hn)]; exact z) fun c xs z => by rw [upd_ne (ne_of_none z hn)]; exact z
theorem suiteT (I : Inv X pins σ H s) : Inv (X.suite a (X.pn ++ pins)) [] σ H s :=
  ⟨I.ok.suite _ _, I.os, I.bare, I.base, I.loc, I.cell, I.free, I.freeC, fun p hp => I.pin p (by rw [List.append_nil] at hp; exact hp), I.hok, I.len⟩
theorem unsuiteT {pn' : List (Addr × Obj)} (I : Inv (X.suite a (X.pn ++ pins)) pn' σ H s) (ok : X.Ok) : Inv X pins σ H s :=
  ⟨ok, I.os, I.bare, I.base, I.loc, I.cell, I.free, I.freeC, fun p hp => I.pin p (List.mem_append_left _ hp), I.hok, I.len⟩
end
/-- the clauses, one behind another: the class, the name's slot, the suite -/
def tryH (x : Exn) : List (Str × Nat × Ev Fl) → Ev Fl
  | [] => fun E => some (.ex x E)
  | (c, i, u) :: r => fun E => if x.c = c then (match u (E.set i (some (.fz (.exn x.c x.fs)))) with
      | some (.ok fl E2) => some (.ok fl (E2.set i none))
      | _ => none) else tryH x r E
/-- known: the classes that are told apart -/
def sTry (known : List Str) (t : Ev Fl) (hs : List (Str × Nat × Ev Fl)) : Ev Fl := fun E => match t E with
  | some (.ex x E1) => if x.c ∈ known then tryH x hs E1 else none
  | o => o
inductive HdsV (X : Cx) (cl : Str → Addr) (kp : Keep) : List ExceptHandler → List (Str × Nat × Ev Fl) → Prop
  | nil : HdsV X cl kp [] []
  | cons {c n : Str} {i : Nat} {b₀ : Stmt} {suite : List Stmt} {np pos' : Pos} {u : Ev Fl} {hds : List ExceptHandler} {l : List (Str × Nat × Ev Fl)} (hi : X.N[i]? = some n) (hln : X.env.kindOf n = some .local) (hk : kp i = false) (hgc : X.mg c = some (.ref (cl c))) (hgl : Gl X c)
      (hdb : (c == ("__debug__" : Str)) = false) (hsu : ∀ (a : Addr) (pn : List (Addr × Obj)), IL (X.suite a pn) cl kp (b₀ :: suite) u) (r : HdsV X cl kp hds l) : HdsV X cl kp (.ExceptHandler (some (.Name c np)) (some n) (b₀ :: suite) pos' :: hds) ((c, i, u) :: l)
def XTell (K : PySem.W.Frag) (cl : Str → Addr) (known : List Str) : Prop := ∀ c1 ∈ known, ∀ c2 ∈ known, PySem.W.exmOne K (.ref (cl c1)) (.ref (cl c2)) = some (c1 == c2)
section
variable {X : Cx} {cl : Str → Addr} {kp : Keep} {known : List Str} {body : List Stmt} {t : Ev Fl} {hds : List ExceptHandler} {l : List (Str × Nat × Ev Fl)} {pos : Pos}
theorem is_try (h₀ : ExceptHandler) (tell : XTell X.K cl known) (hb : ∀ (pn : List (Addr × Obj)) (xe : Value → Shared → Prop), IL (X.tr pn xe) cl kp body t) (hh : HdsV X cl kp (h₀ :: hds) l) (hkn : ∀ c ∈ l.map (·.1), c ∈ known) (hN : X.N.Nodup)
    (hs : X.stack = X.env :: X.outer := by rfl) (hf : X.env.frame = some X.env.locals := by rfl) (hex : X.ex = [] := by rfl) :
    IS X cl kp (.Try body (h₀ :: hds) [] [] pos) (sTry known t l) := by
  refine ⟨fun W tk => ⟨fun D σ H => ∃ E Z, ∃ S : PA1, OwnE X.K cl H Z E σ S ∧ Okk H Z S ∧ SatS X.K cl W kp σ H Z S D (sTry known t l E), ?_, fun E σ H Z S D oe ok sat => ⟨E, Z, S, oe, ok, sat⟩⟩⟩
  refine ⟨fun pins s σ H D I ⟨E, Z, S, oe, okk, sat⟩ => ?_⟩
  have ok := I.ok
  have hfr : X.A.frames = some (X.env :: X.outer) := by rw [ok.frames, hs]
  refine wpAny_Try_except ?_
  -- what the body's exception is to find
  let Wc : WX := fun cls d τ H' => ∃ x E', ∃ Z' S' : PA1, OwnE X.K cl H' Z' E' τ S' ∧ Okk H' Z' S' ∧ ExR X.K cl H' Z' x cls d ∧ x.c ∈ known ∧ SatS X.K cl W kp τ H' Z' S' D (tryH x l E')
  have tkc : Takes (X.tr (X.pn ++ pins) (fun e s₁ => wpAny (model X.prog X.w) X.A (noteFrame e X.env) (fun _ s₂ => wpAny (model X.prog X.w) X.A (setFlight e none) (fun _ s₃ =>
      wpAny (model X.prog X.w) X.A (handleBy e X.env (h₀ :: hds)) (SP X pins D) X.xe s₃) X.xe s₂) X.xe s₁)) Wc := by
    rintro u s' ⟨a, B, sI, pins', σ', H', cls, d, rfl, J', nb, up, sky, na, os, ag, x, E', Z', S', oe', ok', exr, xk, w⟩
    have J : Inv X pins σ' H' sI := J'.ofTry ok
    have sky' : Sky B (X.env :: X.outer) a (Zc cls d) X.env.locals s'.heap := by rw [← hs]; exact sky
    show wpAny (model X.prog X.w) X.A (noteFrame (.ref a) X.env) _ _ _
    refine Sky.land Zc.steady hfr hf sky' fun h3 fl3 up3 => ?_
    have J3 : Inv X pins σ' H' { s' with heap := h3 } := J.landed nb fl3.1 (up.trans up3) os ag
    obtain ⟨oe3, vs3, he3, hz3, hd3⟩ := fl3.there
    have nfr : a ∉ frs (X.env :: X.outer) := fun hm => by
      obtain ⟨_, o', e', hnf⟩ := fl3.2.2.1.mem hm
      rw [he3] at e'; cases e'
      exact hnf _ hd3
    have nL : a ≠ X.env.locals := fun z => nfr (List.mem_filterMap.mpr ⟨X.env, List.mem_cons_self, by rw [hf, z]⟩)
    have nI : sI.heap.get? a = none := by
      cases q : sI.heap.get? a with
      | none => rfl
      | some o =>
        have z := nb a o q (by rw [hs]; exact nfr)
        rw [fl3.2.1] at z; cases z
    have n0 : X.s_0.heap.get? a = none := by
      cases q : X.s_0.heap.get? a with
      | none => rfl
      | some o =>
        obtain ⟨o', z⟩ := J.base.there a o q (by rw [hex]; simp)
        rw [nI] at z; cases z
    have np : ∀ p ∈ X.pn ++ pins, p.1 ≠ a := fun p hp z => by
      have q := (J.pin p hp).1
      rw [z, nI] at q; cases q
    -- the clauses
    have go : ∀ {hds' : List ExceptHandler} {l' : List (Str × Nat × Ev Fl)}, HdsV X cl kp hds' l' → (∀ c ∈ l'.map (·.1), c ∈ known) → SatS X.K cl W kp σ' H' Z' S' D (tryH x l' E') →
        wpAny (model X.prog X.w) X.A (handleBy (.ref a) X.env hds') (SP X pins D) X.xe { s' with heap := h3 } := by
      intro hds' l' hk
      induction hk with
      | nil =>
        intro _ w
        refine wpAny_handleBy_nil ?_
        obtain ⟨k1, k2, k3, oe, vs, T, oT, ts', he, hz, hd, h1, hr⟩ := id fl3
        unfold PySem.passOn
        refine wpAny_bind (wpAny_field he hd h1 ?_)
        rw [if_neg (show ¬ ((Value.ref T == Value.none) = true) from by simp)]
        have w2 : SatXs X.K cl W kp σ' H' Z' S' x E' := w
        have fin : wpAny (model X.prog X.w) X.A (setFlight (.ref a) X.env.frame) (fun _ s4 => wpAny (model X.prog X.w) X.A (throw (.ref a) : Sem Flow) (SP X pins D) X.xe s4) X.xe { s' with heap := h3 } := by
          rw [hf]
          refine HandSPX.setFlight_upZ fl3 fun h4 hh4 up4 => wpAny_throw (tk _ _ ?_)
          exact ⟨a, B, sI, pins, σ', H', cls, d, rfl, J, nb, (up.trans up3).trans up4, .inr (.inr (by rw [hs]; exact hh4)), na, os, ag, w2 cls d σ' H' Z' S' oe' .refl exr Step.refl ok'⟩
        first
          | exact wpAny_bind (wpAny_pure (wpAny_bind fin))
          | exact wpAny_bind fin
      | @cons c n i b₀ suite np0 pos' u hds2 l2 hi hln hk hgc hgl hdb hsu r ih =>
        intro hkn w
        refine wpAny_handleBy_cons (codeAny_handlers_test ?_) (by intro q; cases q)
        have LT : PySem.W.Looks (model X.prog X.w) h3 (typeOf (.ref a)) cls := fun A Q E s k q => wpAny_typeOf_ref (k _ _ he3) (by rw [hz3.1]; exact q)
        have ec : cls = .ref (cl x.c) := exr.1
        have LM := PySem.W.exm_one (M := model X.prog X.w) (J3.kIn) LT (by rw [ec]; exact tell x.c xk c (hkn c (by simp)))
        refine ld_glob (X := X.suite a (X.pn ++ pins)) (suiteT J3) hgl hgc ?_ hdb
        refine LM.here ?_
        by_cases e : x.c = c
        · have eb : (x.c == c) = true := by rw [e]; simp
          rw [eb]
          refine codeAny_handlers_suite_as ?_
          refine HandSPX.lands_againZ fl3 fun h4 fl4 up4 => ?_
          have J4 : Inv X pins σ' H' { s' with heap := h4 } := J.landed nb fl4.1 ((up.trans up3).trans up4) os ag
          obtain ⟨oe4, vs4, he4, hz4, hd4⟩ := fl4.there
          have S4 := suiteT (a := a) (track J4 na n0 he4 hz4 hd4 nL np)
          refine store_ok (X := X.suite a (X.pn ++ pins)) (v := .ref a) S4 hN hi (.inl hln) rfl (fun s5 S5 => ?_) (.inr hln)
          obtain ⟨ts, pss, hrun⟩ := (hsu a (X.pn ++ pins)).run (fun _ _ _ _ => False) takes_no
          -- the heap with the exception told
          have hnZ : ∀ b, Z' b → b ≠ a := fun b z q => ok'.za b z (by rw [q]; exact na)
          have hnS : ∀ b, S' b → b ≠ a := fun b z q => ok'.sa b z (by rw [q]; exact na)
          have kz : ∀ b, Z' b → Kept H' (upd H' a (ExV cls d a)) b := fun b z => .of fun u q => by rw [upd_ne (hnZ b z)]; exact q
          have ks : ∀ b o, S' b → H' b = some o → upd H' a (ExV cls d a) b = some o := fun b o z q => by rw [upd_ne (hnS b z)]; exact q
          have oe2 : OwnE X.K cl (upd H' a (ExV cls d a)) (fun b => Z' b ∨ b = a) E' σ' S' := oe'.mono (fun _ z => .inl z) kz ks
          have rp : Rp X.K cl (upd H' a (ExV cls d a)) (fun b => Z' b ∨ b = a) (.exn x.c x.fs) (.ref a) := by
            obtain ⟨c', fs⟩ := x
            rcases exr.2 with ⟨e1, e2⟩ | ⟨da, fv, e1, z1, h1, e2, e3⟩
            · dsimp only at e1 ec ⊢
              subst e1
              exact .ex0 (.inr rfl) (by rw [upd_same, ec, e2])
            · exact .exn (.inr rfl) (by rw [upd_same, ec, e1]) (.inl z1) (by rw [upd_ne (hnZ _ z1)]; exact h1) e2 (e3.mono (fun _ z => .inl z) kz)
          have oe3 := (oe2.into (Si := Emp) (i := i) (.fz rp) fun _ z _ => z).up (R := S') fun b z => z.elim False.elim id
          have ok2 : Okk (upd H' a (ExV cls d a)) (fun b => Z' b ∨ b = a) S' := ⟨fun b z y => y.elim (ok'.dis b z) (hnS b z), fun b z => by rw [upd_ne (hnS b z)]; exact ok'.sa b z,
            fun b z => z.elim (fun z => by rw [upd_ne (hnZ b z)]; exact ok'.za b z) fun q => by rw [q, upd_same]; exact fun z => nomatch z⟩
          have st2 : Step H' Z' S' (upd H' a (ExV cls d a)) (fun b => Z' b ∨ b = a) S' := by
            refine ⟨fun _ z => .inl z, fun b z => z.elim .inl fun q => .inr (.inr (by rw [q]; exact na)), fun _ z => .inl z, fun b o q n => ?_, fun b q => ?_⟩
            · have ne : b ≠ a := fun z => by rw [z, na] at q; cases q
              rw [upd_ne ne]; exact q
            · have ne : b ≠ a := fun z => q (by rw [z]; exact na)
              rw [upd_ne ne]; exact q
          have kk : Kp kp σ' (σ'.set i (some (.ref a))) := Kp.set hk
          have w2 : SatS X.K cl W kp σ' H' Z' S' D (match u (E'.set i (some (.fz (.exn x.c x.fs)))) with | some (.ok fl E2) => some (.ok fl (E2.set i none)) | _ => none) := by
            have := w
            unfold tryH at this
            rw [if_pos e] at this
            exact this
          let D2 : Ends := { nx := fun σ6 H6 => D.nx (σ6.set i none) H6, rt := D.rt, bk := fun σ6 H6 => D.bk (σ6.set i none) H6, ct := fun σ6 H6 => D.ct (σ6.set i none) H6 }
          have kc : ∀ {τ : L2.St}, Kp kp (σ'.set i (some (.ref a))) τ → Kp kp σ' (τ.set i none) := fun k => kk.trans (k.trans (Kp.set hk))
          have satN : ∀ {R : L2.St → Hp → Prop} {E2 : En}, SatN X.K cl kp σ' H' Z' S' R (E2.set i none) → SatN X.K cl kp (σ'.set i (some (.ref a))) (upd H' a (ExV cls d a)) (fun b => Z' b ∨ b = a) S' (fun σ6 H6 => R (σ6.set i none) H6) E2 :=
            fun h τ H6 Z6 S6 o6 k6 s6 ok6 => h (τ.set i none) H6 Z6 S6 (o6.clr1 i) (kc k6) (st2.trans s6) ok6
          have sat2 : SatS X.K cl (fun _ _ _ _ => False) kp (σ'.set i (some (.ref a))) (upd H' a (ExV cls d a)) (fun b => Z' b ∨ b = a) S' D2 (u (E'.set i (some (.fz (.exn x.c x.fs))))) := by
            revert w2
            match u (E'.set i (some (.fz (.exn x.c x.fs)))) with
            | none => exact fun z => z
            | some (.ex _ _) => exact fun z => z.elim
            | some (.ok .nx E2) => exact fun z => satN z
            | some (.ok .bk E2) => exact fun z => satN z
            | some (.ok .ct E2) => exact fun z => satN z
            | some (.ok (.ret r) E2) =>
              exact fun z v τ H6 Z6 Sr S6 o6 k6 ow d6 s6 ok6 => z v (τ.set i none) H6 Z6 Sr S6 (o6.clr1 i) (kc k6) ow d6 (st2.trans s6) ok6
          refine wpAny_mono (pss.run [] s5 _ _ D2 S5 (hrun _ _ _ _ _ D2 oe3 ok2 sat2)) (fun f s6 hsp => ?_) (fun _ _ z => False.elim z)
          have end_ : ∀ {σ6 : L2.St} {H6 : Hp} {Q : Shared → Prop}, Inv (X.suite a (X.pn ++ pins)) [] σ6 H6 s6 → (∀ s7, Inv X pins (σ6.set i none) H6 s7 → Q s7) →
              wpAny (model X.prog X.w) X.A (do bindName X.env n .none; unbindBehindTheSuite X.env n pos') (fun _ s7 => Q s7) X.xe s6 := fun S6 hq => gone_ok (unsuiteT S6 ok) hN hi hln hq
          cases f with
          | next =>
            obtain ⟨σ6, H6, S6, q6⟩ := hsp
            exact end_ S6 fun s7 J7 => ⟨_, _, J7, q6⟩
          | brk =>
            obtain ⟨σ6, H6, S6, q6⟩ := hsp
            exact end_ S6 fun s7 J7 => ⟨_, _, J7, q6⟩
          | cont =>
            obtain ⟨σ6, H6, S6, q6⟩ := hsp
            exact end_ S6 fun s7 J7 => ⟨_, _, J7, q6⟩
          | ret u =>
            obtain ⟨v6, σ6, H6, S6, r6, q6⟩ := hsp
            exact end_ S6 fun s7 J7 => ⟨_, _, _, J7, r6, q6⟩
        · have eb : (x.c == c) = false := by simp [e]
          rw [eb]
          show wpAny _ X.A (handleBy (.ref a) X.env hds2) _ _ _
          refine ih (fun c' hc' => hkn c' (by simp at hc' ⊢; exact .inr hc')) ?_
          have := w
          unfold tryH at this
          rw [if_neg e] at this
          exact this
    exact go hh hkn w
  obtain ⟨tb, pss, hrun⟩ := (hb (X.pn ++ pins) _).run Wc tkc
  have satb : SatS X.K cl Wc kp σ H Z S D (t E) := by
    revert sat
    unfold sTry
    match t E with
    | none => exact fun z => z
    | some (.ok .nx E2) => exact fun z => z
    | some (.ok .bk E2) => exact fun z => z
    | some (.ok .ct E2) => exact fun z => z
    | some (.ok (.ret r) E2) => exact fun z => z
    | some (.ex x E2) =>
      intro z cls d τ H' Z' S' o1 k1 e1 s1 ok1
      dsimp only at z
      by_cases hx : x.c ∈ known
      · rw [if_pos hx] at z
        exact ⟨x, E2, Z', S', o1, ok1, e1, hx, SatS.re s1 k1 z⟩
      · rw [if_neg hx] at z
        exact z.elim
  refine wpAny_mono (pss.run [] s σ H D (I.toTry _) (hrun E σ H Z S D oe okk satb)) (fun f s1 hsp => ?_) (fun e s1 he => he)
  cases f with
  | next =>
    obtain ⟨σ', H', J', q⟩ := hsp
    exact wpAny_execs_nil ⟨σ', H', J'.ofTry ok, q⟩
  | brk =>
    obtain ⟨σ', H', J', q⟩ := hsp
    exact ⟨σ', H', J'.ofTry ok, q⟩
  | cont =>
    obtain ⟨σ', H', J', q⟩ := hsp
    exact ⟨σ', H', J'.ofTry ok, q⟩
  | ret u =>
    obtain ⟨v, σ', H', J', r, q⟩ := hsp
    exact ⟨v, σ', H', J'.ofTry ok, r, q⟩
end
end VL

namespace VL
open PySem PySem.Spec PyProof.Rows L2
/-! ### a held exception: its fields, isinstance -/
section
open PySem.W PySem.Calls
variable {prog : Program} {w : World} {A : Around} {E : Value → Shared → Prop} {s : Shared} {K : Frag} {x D : Addr} {ox : Obj} {od : Option Obj}
theorem findObj_class {C : Addr} {name : Str} {a g : Value} (hc : (clsIn K C).isSome = true) (ha : findIn K (.ref C) name = some (some a)) (hg : specialIn K a "__get__" = some (some g)) (ht : takesIn K a = some true) : findObj K C od name = some (.bind g a) := by
  obtain ⟨cd, hc⟩ := Option.isSome_iff_exists.mp hc
  unfold findObj
  rw [hc, Option.bind_some, ha, Option.bind_some]
  simp [hg, ht]
/-- e.__class__, whatever fields e has -/
theorem class_of_exc {B newId initId : String} {bmB : List Value} {fI : Addr} (T : XOk K B newId initId bmB D fI) {Q : Option Value → Shared → Prop} (X : K.In s.heap) (I : PySem.W.InstAt s.heap x ox D od) (h : Q (some (.ref D)) { s with toks := s.toks + 1 }) :
    wpAny (model prog w) A (getAttr? (.ref x) "__class__") Q E s := by
  have hf : findObj K D od "__class__" = some (.bind (.builtin "getset_descriptor.__get__") (.builtin "object.__class__")) := findObj_class (by obtain ⟨cd, hc, _⟩ := any_some T.hd; rw [hc]; rfl) T.ha T.hn T.ht
  obtain ⟨hp, g, d, t, os⟩ := s
  have lt := I.type (M := model prog w)
  have lga := looks_findIn (M := model prog w) X T.ga
  have lgg := looks_findIn (M := model prog w) X T.gg
  have lf := looks_find (M := model prog w) X I hf
  have sub : Looks (model prog w) hp (isInstance (.ref x) (.type "BaseException")) true := lt.andThen (looks_subIn X T.exC)
  have ne : (Value.builtin "BaseException.__getattribute__" == Value.builtin "object.__getattribute__") = false := by decide +kernel
  have no1 : (onTheHeap (Value.ref D) && Value.builtin "BaseException.__getattribute__" == Value.builtin "object.__getattribute__") = false := by rw [ne]; rfl
  have no2 : (false && onTheHeap (Value.builtin "BaseException.__getattribute__")) = false := rfl
  unfold getAttr? getAttrBy? getAttrBy
  refine wpAny_bind (wpAny_mkText (wpAny_bind (wpAny_attempt (wpAny_holding (wpAny_bind (lt.at (wpAny_bind (lga.at ?_))))))))
  show wpAny _ _ (if (onTheHeap (Value.ref D) && Value.builtin "BaseException.__getattribute__" == Value.builtin "object.__getattribute__") = true then _ else _) _ _ _
  rw [no1, if_neg Bool.false_ne_true]
  unfold getAttrByItsOwn hookBefore
  refine wpAny_bind ?_
  rw [if_pos (show onTheHeap (Value.ref D) = true from rfl)]
  refine lgg.at (wpAny_bind (wpAny_attempt (wpAny_holding ?_)))
  unfold callGetattribute
  rw [no2, if_neg Bool.false_ne_true]
  unfold boundAndCalled
  rw [PySem.F.excAttr_ValueError.ga.bind (.ref x)]
  refine wpAny_bind (wpAny_pure ?_)
  show wpAny _ _ (call (.builtin "BaseException.__getattribute__") [.ref x, .str "__class__" t]) _ _ _
  refine wpAny_call (codeAny_call_builtin PySem.F.excAttr_ValueError.ga.plain PySem.F.entry_bexc_ga ?_)
  refine @check_slot (model prog w) _ _ ⟨hp, g, d, t + 1, os⟩ "BaseException.__getattribute__" "BaseException" "__getattribute__" (.ref x) [.str "__class__" t] [] _ (by decide +kernel) (by decide +kernel) sub (PySem.F.args_bexc_ga (.ref x) (.str "__class__" t)) ?_
  unfold Builtin.«object.__getattribute__»
  refine wpAny_bind (wpAny_of_eq (a := ((Value.ref x : Value), [Value.str "__class__" t])) (by first | rfl | (simp only [slotArgs]; rfl)) ?_)
  refine wpAny_bind (wpAny_pure (wpAny_bind (lt.at (wpAny_bind (lf.at ?_)))))
  show wpAny _ _ (holding [Value.builtin "object.__class__"] (call (.builtin "getset_descriptor.__get__") [.builtin "object.__class__", .ref x, .ref D]) >>= ret) _ _ _
  refine wpAny_bind (wpAny_holding (wpAny_call (class_get (s := ⟨hp, g, d, t + 1, os⟩) (ox := ox) (od := od) X I T.hm ?_)))
  refine wpAny_pure ?_
  show wpAny _ _ (handedOut (.ref D)) _ _ _
  rw [handedOut_of (v := .ref D) rfl]
  first
    | exact wpAny_pure (wpAny_pure h)
    | exact wpAny_pure h
    | exact wpAny_pure (wpAny_bind (wpAny_pure (wpAny_pure h)))
theorem kitx_exc {B newId initId : String} {bmB : List Value} {fI : Addr} (T : XOk K B newId initId bmB D fI) : KitX K (.ref x) (.ref D) (fun h => ∃ ox od, PySem.W.InstAt h x ox D od) := by
  obtain ⟨cdD, hcD, _⟩ := any_some T.hd
  have isc : ∃ cc dd cd sl, K.lookup D = some ⟨cc, dd, .cls cd, sl⟩ := by
    unfold clsIn at hcD
    split at hcD
    · rename_i ho
      exact ⟨_, _, _, _, ho⟩
    · cases hcD
  obtain ⟨cc, dd, cd, sl, ho⟩ := isc
  exact {
    ty := fun _ _ _ ⟨_, _, I⟩ => I.type
    it := fun _ _ X _ A' Q' E' s' k q => by
      unfold isType loadHead
      exact wpAny_bind (wpAny_loadPart (k _ _ (X _ _ ho)) (wpAny_pure q))
    ne := fun h tp dd its n sl X htp => Bool.eq_false_iff.mpr fun q => by
      have e : D = tp := Value.ref.inj (beq_iff_eq.mp q)
      rw [← e, X _ _ ho] at htp
      cases htp
    ca := fun X ⟨_, _, I⟩ k => class_of_exc T X I k }
end
/-- the object of a held exception -/
theorem exv_inst {P : Program} {w : World} {H : Hp} {h : Heap} {a C : Addr} {d : Option Addr} (hok : HOk P w H h) (e : H a = some (ExV (.ref C) d a)) (hd : ∀ dx, d = some dx → ∃ o, h.get? dx = some o) : ∃ ox od, PySem.W.InstAt h a ox C od := by
  obtain ⟨⟨oe, vs, h1, h2, h3⟩, _, _⟩ := hok a _ e
  have n : PySem.W.notCls oe = true := by unfold PySem.W.notCls; rw [h3] <;> rfl
  cases d with
  | none => exact ⟨oe, none, h1, h2.1, n, by rw [h2.2]; trivial⟩
  | some dx =>
    obtain ⟨o, ho⟩ := hd dx rfl
    exact ⟨oe, some o, h1, h2.1, n, by rw [h2.2]; exact ho⟩
def rIsX (K : PySem.W.Frag) : List V → Hp → VK → Prop := fun xs H Q => rIsi K xs H Q ∨ ∃ (a C fI : Addr) (d : Option Addr) (c : V) (cv : Value) (b : Bool) (B newId initId : String) (bmB : List Value), xs = [.ref a, c] ∧ H a = some (ExV (.ref C) d a) ∧
  (∀ dx, d = some dx → H dx ≠ none) ∧ (∀ u, RelV c u → u = cv) ∧ XOk K B newId initId bmB C fI ∧ PySem.W.kitOne K (.ref C) cv = some b ∧ Q (.bl b) H
theorem call_isX {X : Cx} : CallR X (.builtin "isinstance") (rIsX X.K) := by
  intro pins s σ H xs us Q I r h
  rcases h with h | h
  · exact call_isi pins s σ H xs us Q I r h
  obtain ⟨a, C, fI, d, c, cv, b, B, newId, initId, bmB, rfl, ha, hd, hcv, T, e, q⟩ := h
  cases r with
  | cons rx rr =>
    cases rr with
    | cons rt rr =>
      cases rr
      cases rx
      have ec := hcv _ rt
      subst ec
      have J := exv_inst I.hok ha fun dx e => by
        cases q : H dx with
        | none => exact (hd dx e q).elim
        | some o =>
          obtain ⟨u, z⟩ := objOk_get (I.hok dx o q)
          exact ⟨u, z⟩
      exact PySem.W.kia_one (kitx_exc T) I.kIn J e (fun z => nomatch z) fun tk => ⟨.bl b, H, I.kept (t' := tk) fun _ _ z => z, rfl, q⟩
/-- isinstance(x, n), n a built-in exception class: tab tells it of the exceptions -/
def isXD (tab : List (Str × Bool)) : D → Option T
  | .exn c _ => (tab.lookup c).map fun b => .fz (.bl b)
  | d => (tyName d).map fun _ => .fz (.bl false)
/-- x.f, x an exception of the class c -/
def xfD (c f : Str) : D → Option T
  | .exn c' fs => if c' = c then (fs.lookup f).map .fz else none
  | _ => none
structure XTab (K : PySem.W.Frag) (cl : Str → Addr) (n : String) (tab : List (Str × Bool)) : Prop where
  ex : ∀ c b, tab.lookup c = some b → (∃ B newId initId bmB fI, XOk K B newId initId bmB (cl c) fI) ∧ PySem.W.kitOne K (.ref (cl c)) (.type n) = some b
  no : ∀ a ∈ tyAll, PySem.W.kitOne K (.type a) (.type n) = some false
section
variable {X : Cx} {cl : Str → Addr} {kp : Keep} {e : Expr} {te : Ev T}
theorem ie_isX {x n : Str} {m : String} {tab : List (Str × Bool)} {p p2 pos : Pos} (xt : XTab X.K cl m tab) (hmn : X.mg n = none) (hvn : bootBuiltins n = some (.type m)) (hm : X.mg x = none) (hv : bootBuiltins x = some (.builtin "isinstance")) (he : IE X cl e te)
    (hg : Gl X x := by rfl) (hg2 : Gl X n := by rfl) (hn : x ≠ "__name__" := by decide) (hn2 : n ≠ "__name__" := by decide) (hdb : (x == ("__debug__" : Str)) = false := by decide) (hdn : (n == ("__debug__" : Str)) = false := by decide)
    (hst : starEach (e :: [.Name n p2]) X.env = (false, eval e X.env) :: starEach [.Name n p2] X.env := by rfl) (hst2 : starEach [.Name n p2] X.env = (false, eval (.Name n p2) X.env) :: starEach [] X.env := by rfl) (hpl : (backTo pos (starEach [.Name n p2] X.env)).any (·.1) = false := by rfl) :
    IE X cl (.Call (.Name x p) [e, .Name n p2] [] pos) (eUn (isXD tab) te) := by
  refine ⟨fun W tk => ?_⟩
  obtain ⟨te', pe, qe⟩ := he.fz W tk
  have pn : PE X (.Name n p2) (tC (.ty m)) := pe_bltn hg2 hmn hvn rfl hn2 hdn
  refine ⟨_, pe_callB call_isX hg hm hv (pa_cons pe (pa_cons pn pa_nil hst2) hst) hn hdb hst hpl, fun E σ H Z S Q oe ok sat => ?_⟩
  refine qe E σ H Z S _ oe ok (satD_bnd (β := T) (κ := VK) (q := Q) sat fun y E1 sat1 v H1 Z1 S1 oe1 rp st1 ok1 => ?_)
  have okr := op_fin oe1 ok1 (SatV.re st1 sat1)
  generalize hd : frz y = d at rp okr
  show rIsX X.K [v, .ty m] H1 Q
  have ans : ∀ {b : Bool}, isXD tab d = some (.fz (.bl b)) → Q (.bl b) H1 := fun {b} e => by
    rw [e] at okr
    exact okr (.bl b) H1 Z1 Emp (.fz (.bl b)) (Step.refl) ⟨fun _ z _ => z, fun _ z => z.elim, ok1.za⟩
  by_cases ci : ∃ c fs, d = .exn c fs
  · obtain ⟨c, fs, rfl⟩ := ci
    cases hb : tab.lookup c with
    | none => rw [show isXD tab (.exn c fs) = none by simp [isXD, hb]] at okr; exact okr.elim
    | some b =>
      obtain ⟨⟨B, newId, initId, bmB, fI, T⟩, hk⟩ := xt.ex c b hb
      have q := ans (b := b) (by simp [isXD, hb])
      cases rp with
      | @ex0 a _ z1 z2 => exact .inr ⟨a, cl c, fI, none, .ty m, .type m, b, B, newId, initId, bmB, rfl, z2, fun _ e => (nomatch e), fun u r => r, T, hk, q⟩
      | @exn a _ dx fvs _ z1 z2 z3 z4 z5 z6 => exact .inr ⟨a, cl c, fI, some dx, .ty m, .type m, b, B, newId, initId, bmB, rfl, z2, (fun _ e => by cases e; rw [z4]; exact fun z => (nomatch z)), fun u r => r, T, hk, q⟩
  · have e2 : isXD tab d = (tyName d).map fun _ => .fz (.bl false) := by
      cases d <;> first | rfl | exact (ci ⟨_, _, rfl⟩).elim
    cases ht : tyName d with
    | none => rw [e2, ht] at okr; exact okr.elim
    | some a =>
      have q := ans (b := false) (by rw [e2, ht]; rfl)
      exact .inl ⟨v, .ty m, .type a, .type m, false, rfl, .ty m, tyX_of rp ht, xt.no a (ty_all ht), q⟩
/-- e.f, e an exception of the class c -/
theorem ie_xf {c f : Str} {B newId initId : String} {bmB : List Value} {fI : Addr} {pos : Pos} (Tx : XOk X.K B newId initId bmB (cl c) fI) (hno : PySem.W.findIn X.K (.ref (cl c)) f = some none) (he : IE X cl e te) (hb : attributeBase e f X.env (eval e X.env) = eval e X.env := by rfl) :
    IE X cl (.Attribute e f pos) (eUn (xfD c f) te) := by
  refine ⟨fun W tk => ?_⟩
  obtain ⟨te', pe, qe⟩ := he.fz W tk
  have pa : PE X (.Attribute e f pos) (fun σ H Q => te' σ H fun x H1 => ∃ (a dx : Addr) (fvs : List (Str × V)) (v : V), x = .ref a ∧ H1 a = some (ExV (.ref (cl c)) (some dx) a) ∧ H1 dx = some (.xd fvs) ∧ fvs.lookup f = some v ∧ Q v H1) := by
    refine ⟨fun pins s σ H Q I h => ?_⟩
    refine attr_of hb (thn (pe.run pins s σ H _ I h) fun u s1 hh => ?_)
    obtain ⟨x, H1, I1, rx, a, dx, fvs, v, ex, ea, ed, lk, q⟩ := hh
    subst ex
    obtain rfl : u = Value.ref a := rx
    have hx : ObjOk X.prog X.w H1 s1.heap dx (.xd fvs) := I1.hok dx _ ed
    obtain ⟨mA, hns, hr⟩ := hx
    obtain ⟨od, ho, hl⟩ := lookIn_ns hns
    obtain ⟨u, hu, ru⟩ := RelO.some_of (v := v) (o := mA f) (by rw [← lk]; exact hr f)
    obtain ⟨⟨oe, vs, h1, h2, h3⟩, _, _⟩ := I1.hok a _ ea
    have n : PySem.W.notCls oe = true := by unfold PySem.W.notCls; rw [h3] <;> rfl
    have J : PySem.W.InstAt s1.heap a oe (cl c) (some od) := ⟨h1, h2.1, n, by rw [h2.2]; exact ho⟩
    exact HandSPX.exc_get I1.kIn J Tx.ga Tx.gg Tx.exC (PySem.W.findObj_own Tx.hd hno rfl (by rw [hl, hu])) (handed_of ru) ⟨v, H1, I1.tok _, ru, q⟩
  refine ⟨_, pa, fun E σ H Z S Q oe ok sat => ?_⟩
  refine qe E σ H Z S _ oe ok (satD_bnd (β := T) (κ := VK) (q := Q) sat fun y E1 sat1 v H1 Z1 S1 oe1 rp st1 ok1 => ?_)
  have okr := op_fin oe1 ok1 (SatV.re st1 sat1)
  generalize hd : frz y = d at rp okr
  by_cases ci : ∃ fs, d = .exn c fs
  · obtain ⟨fs, rfl⟩ := ci
    simp only [xfD, if_true] at okr
    cases rp with
    | @ex0 a _ z1 z2 => simp at okr; exact okr.elim
    | @exn a _ dx fvs _ z1 z2 z3 z4 z5 z6 =>
      cases lk : fs.lookup f with
      | none => rw [lk] at okr; exact okr.elim
      | some d' =>
        rw [lk] at okr
        obtain ⟨v', l', r'⟩ := (flds_rp z5 z6).1 _ lk
        exact ⟨a, dx, fvs, v', rfl, z2, z4, l', okr v' H1 Z1 Emp (.fz r') Step.refl ⟨fun _ z _ => z, fun _ z => z.elim, ok1.za⟩⟩
  · have e2 : xfD c f d = none := by
      cases d <;> first | rfl | (rename_i c' fs'; simp only [xfD]; rw [if_neg (fun q => ci ⟨fs', by rw [q]⟩)])
    rw [e2] at okr
    exact okr.elim
end
end VL

namespace VL
open PySem PySem.Spec PyProof.Rows L2
/-! ### the built-in exception classes -/
theorem eb_ValueError : EB "ValueError" "ValueError.__new__" "ValueError.__init__" bm_ValueError := ⟨PySem.F.excBase_ValueError, PySem.F.store_ValueError.passes, by decide +kernel, by kernel_rfl, by decide +kernel, by decide +kernel, by decide +kernel, by decide, by decide⟩
theorem eb_ArithmeticError : EB "ArithmeticError" "ArithmeticError.__new__" "ArithmeticError.__init__" bm_ArithmeticError := ⟨PySem.F.excBase_ArithmeticError, PySem.F.store_ArithmeticError.passes, by decide +kernel, by kernel_rfl, by decide +kernel, by decide +kernel, by decide +kernel, by decide, by decide⟩
theorem eb_IndexError : EB "IndexError" "IndexError.__new__" "IndexError.__init__" bm_IndexError := ⟨PySem.F.excBase_IndexError, PySem.F.store_IndexError.passes, by decide +kernel, by kernel_rfl, by decide +kernel, by decide +kernel, by decide +kernel, by decide, by decide⟩
theorem bootX_ValueError : bootBuiltins "ValueError" = some (.type "ValueError") := by decide +kernel
theorem bootX_ArithmeticError : bootBuiltins "ArithmeticError" = some (.type "ArithmeticError") := by decide +kernel
theorem bootX_KeyError : bootBuiltins "KeyError" = some (.type "KeyError") := by decide +kernel
theorem bootX_IndexError : bootBuiltins "IndexError" = some (.type "IndexError") := by decide +kernel
theorem bootX_LookupError : bootBuiltins "LookupError" = some (.type "LookupError") := by decide +kernel
/-! ### what the head tells -/
theorem xtell_of {K : PySem.W.Frag} {cl : Str → Addr} {known : List Str} (h : okXT K cl known = true) : XTell K cl known := by
  intro c1 h1 c2 h2
  simp only [okXT, List.all_eq_true, decide_eq_true_eq] at h
  exact h c1 h1 c2 h2
theorem xtab_of {K : PySem.W.Frag} {cl : Str → Addr} {n : String} {tab : List (Str × Bool)} {known : List Str} (h : okXI K cl n tab = true) (hx : ∀ c ∈ known, ∃ B newId initId bmB fI, XOk K B newId initId bmB (cl c) fI) (hk : tab.map (·.1) = known) : XTab K cl n tab := by
  simp only [okXI, Bool.and_eq_true, List.all_eq_true, decide_eq_true_eq] at h
  have mem : ∀ {tab : List (Str × Bool)} {c : Str} {b : Bool}, tab.lookup c = some b → (c, b) ∈ tab := by
    intro tab
    induction tab with
    | nil => intro c b h; simp at h
    | cons p r ih =>
      intro c b h
      obtain ⟨x, y⟩ := p
      rw [List.lookup_cons] at h
      by_cases e : c == x
      · rw [e] at h
        have e2 : c = x := by simpa using e
        simp at h
        rw [e2, h]; exact List.mem_cons_self
      · have e' : (c == x) = false := by simpa using e
        rw [e'] at h
        exact List.mem_cons_of_mem _ (ih h)
  refine ⟨fun c b hl => ?_, h.2⟩
  have m := mem hl
  exact ⟨hx c (hk ▸ List.mem_map.mpr ⟨_, m, rfl⟩), h.1 _ m⟩
/-- repr in a suite -/
theorem fReprS {X : Cx} {cl : Str → Addr} {k : Nat} {a : Addr} {pn : List (Addr × Obj)} (hr : Room k X.A) (hg : X.A.guards = some []) (hs : ∃ o, X.base.get? sysModules = some o) : CallW (X.suite a pn) cl (.builtin "repr") reprD := ⟨_, call_reprA hr.units hg hs, callv_repr⟩
end VL

namespace VL
open PySem PySem.Spec PyProof.Rows L2
/-! ### int of a bool, of an int -/
def intE : List D → Option T
  | [.int i] => some (.fz (.int i))
  | [.bl b] => some (.fz (.int (if b then 1 else 0)))
  | _ => none
@[simp] theorem intE_b (b : Bool) : intE [.bl b] = some (.fz (.int (if b then 1 else 0))) := rfl
@[simp] theorem intE_i (i : Int) : intE [.int i] = some (.fz (.int i)) := rfl
theorem fInt {X : Cx} {cl : Str → Addr} : CallW X cl (.type "int") intE := by
  refine ⟨_, call_int1, ?_⟩
  intro xs vs H Z Q hz rs ok
  match xs, vs, rs, ok with
  | [.int i], [_], .cons (.int _) .nil, ok => exact .inl ⟨i, rfl, okr_fz hz ok (.int i)⟩
  | [.bl b], [_], .cons (.bl _) .nil, ok => exact .inr ⟨b, rfl, okr_fz hz ok (.int _)⟩
/-! ### == and != of two values that may both be dicts -/
def eqMD (x y : D) : Option T := match eqKD x y with | some t => some t | none => eqA x y
def neMD (x y : D) : Option T := match neKD x y with | some t => some t | none => neA x y
theorem or_opv {K : PySem.W.Frag} {cl : Str → Addr} {r1 r2 : R2} {g1 g2 : D → D → Option T} (h1 : OpV K cl r1 g1) (h2 : OpV K cl r2 g2) : OpV K cl (fun x y H Q => r1 x y H Q ∨ r2 x y H Q) (fun x y => match g1 x y with | some t => some t | none => g2 x y) := by
  intro x y v u H Z Q hz rx ry ok
  cases e : g1 x y with
  | some t =>
    simp only [e] at ok
    exact .inl (h1 x y v u H Z Q hz rx ry (by rw [e]; exact ok))
  | none =>
    simp only [e] at ok
    exact .inr (h2 x y v u H Z Q hz rx ry ok)
section
variable {X : Cx} {cl : Str → Addr} {k : Nat}
theorem kEqM (hr : Room k X.A) : CmpW X cl .Eq eqMD := ⟨_, (op_eqK (by have := hr.un; omega)).or (op_eqA hr.units), or_opv opv_eqK opv_eqA⟩
theorem kNeM (hr : Room k X.A) : CmpW X cl .NotEq neMD := ⟨_, (op_neK (by have := hr.un; omega)).or (op_neA hr.units), or_opv opv_neK opv_neA⟩
end
end VL

namespace Gk04
open PySem PySem.Spec PyProof.Rows L2 VL
/-! ### the text -/
theorem sc_is_sequence : FnScope ["value"] ["value"] (defScope s_is_sequence) := ⟨rfl, rfl, rfl, by decide +kernel, rfl, by decide +kernel, by decide +kernel⟩
def kp_is_sequence : Keep := fun i => false
def t_is_sequence : Ev Fl :=
  (sRet (eCall isTyE (aCons (eVar 0) (aCons (eTup (mOwn (eC (.ty "list")) (mOwn (eC (.ty "tuple")) mNil))) aNil))))
def F_is_sequence : List T → Option (Out T) := runF ["value"] 1 kp_is_sequence t_is_sequence
theorem sc_is_order_of : FnScope ["value", "names", "name"] ["value", "names"] (defScope s_is_order_of) := ⟨rfl, rfl, rfl, by decide +kernel, rfl, by decide +kernel, by decide +kernel⟩
def kp_is_order_of : Keep := fun i => false
def t_is_order_of : Ev Fl :=
  (sSeq (sIf (bOr (bNot (bTru (eFn F_is_sequence [none] (mVal (eVar 0) mNil)))) (bBin neA (eCall lenE (aCons (eVar 0) aNil)) (eCall lenE (aCons (eVar 1) aNil)))) (sRet (eC (.bl false))) sNx)
  (sRet (eAnd (eCall allD (aCons (eLc (iAhd (vAny (vVar 0))) (gSet 2) bYes (eCall isTyE (aCons (eVar 2) (aCons (eC (.ty "str")) aNil))) [2]) aNil)) (eBin eqA (eCall sortD (aCons (eVar 0) aNil)) (eCall sortD (aCons (eVar 1) aNil))))))
def F_is_order_of : List T → Option (Out T) := runF ["value", "names", "name"] 2 kp_is_order_of t_is_order_of
theorem sc_Wishes_guests : FnScope ["self"] ["self"] (defScope s_Wishes_guests) := ⟨rfl, rfl, rfl, by decide +kernel, rfl, by decide +kernel, by decide +kernel⟩
def kp_Wishes_guests : Keep := fun i => false
def t_Wishes_guests : Ev Fl :=
  (sRet (eCall listE (aCons (eFld "Wishes" "own_rankings" (eVar 0)) aNil)))
def F_Wishes_guests : List T → Option (Out T) := runF ["self"] 1 kp_Wishes_guests t_Wishes_guests
theorem sc_need_row : FnScope ["wishes", "row"] ["wishes", "row"] (defScope s_need_row) := ⟨rfl, rfl, rfl, by decide +kernel, rfl, by decide +kernel, by decide +kernel⟩
def kp_need_row : Keep := fun i => false
def t_need_row : Ev Fl :=
  (sSeq (sIf (bNot (bTru (eFn F_is_order_of [none, none] (mVal (eVar 1) (mVal (eMth "Wishes" "guests" F_Wishes_guests [] (eVar 0) mNil) mNil))))) (sRaise0 "InvalidRow") sNx)
  (sRet (eCall tupleD (aCons (eVar 1) aNil))))
def F_need_row : List T → Option (Out T) := runF ["wishes", "row"] 2 kp_need_row t_need_row
theorem sc_Wishes_gifts : FnScope ["self"] ["self"] (defScope s_Wishes_gifts) := ⟨rfl, rfl, rfl, by decide +kernel, rfl, by decide +kernel, by decide +kernel⟩
def kp_Wishes_gifts : Keep := fun i => false
def t_Wishes_gifts : Ev Fl :=
  (sRet (eCall listE (aCons (eFld "Wishes" "own_gifts" (eVar 0)) aNil)))
def F_Wishes_gifts : List T → Option (Out T) := runF ["self"] 1 kp_Wishes_gifts t_Wishes_gifts
theorem sc_Wishes_best_of : FnScope ["self", "guest", "gifts", "places", "gift"] ["self", "guest", "gifts"] (defScope s_Wishes_best_of) := ⟨rfl, rfl, rfl, by decide +kernel, rfl, by decide +kernel, by decide +kernel⟩
def kp_Wishes_best_of : Keep := fun i => false
def t_Wishes_best_of : Ev Fl :=
  (sSeq (sSet 3 (eLc (iAhd (vAny (vVar 2))) (gSet 4) bYes (eBin ixA (eBin ixA (eFld "Wishes" "places" (eVar 0)) (eVar 1)) (eVar 4)) [4]))
  (sRet (eIf (bBin eqA (eVar 3) (eLst mNil)) (eC .non) (eBin ixA (eBin ixA (eFld "Wishes" "own_rankings" (eVar 0)) (eVar 1)) (eCall minE (aCons (eVar 3) aNil))))))
def F_Wishes_best_of : List T → Option (Out T) := runF ["self", "guest", "gifts", "places", "gift"] 3 kp_Wishes_best_of t_Wishes_best_of
theorem sc_choose : FnScope ["wishes", "row", "guest", "left", "chosen", "gift"] ["wishes", "row"] (defScope s_choose) := ⟨rfl, rfl, rfl, by decide +kernel, rfl, by decide +kernel, by decide +kernel⟩
def kp_choose : Keep := fun i => false
def t_choose : Ev Fl :=
  (sSeq (sAsg (eTup (mOwn (eMth "Wishes" "gifts" F_Wishes_gifts [] (eVar 0) mNil) (mOwn eDnew mNil))) (gTup' 2 (gCons' (gSet 3) (gCons' (gOwn 4) gNil'))))
  (sSeq (sFor (iAny (eFn F_need_row [none, none] (mVal (eVar 0) (mVal (eVar 1) mNil)))) (gSet 2) (sSeq (sAsg (eFz (eMth "Wishes" "best_of" F_Wishes_best_of [none, none] (eVar 0) (mVal (eVar 2) (mVal (eVar 3) mNil)))) (gPut 4 (pName 4) (sid 4 (eVar 2))))
  (sSet 3 (eLc (iAhd (vAny (vVar 3))) (gSet 5) (bBin neA (eVar 5) (eRdP (pIx 4 (pName 4) (sid 4 (eVar 2))))) (eVar 5) [5]))))
  (sRet (eDc (iAny (eMth "Wishes" "guests" F_Wishes_guests [] (eVar 0) mNil)) (gSet 2) bYes (eVar 2) (eRdP (pIx 4 (pName 4) (sid 4 (eVar 2)))) [2]))))
def F_choose : List T → Option (Out T) := runF ["wishes", "row", "guest", "left", "chosen", "gift"] 2 kp_choose t_choose
theorem sc__law_pen : FnScope ["_law_script"] ["_law_script"] (defScope s__law_pen) := ⟨rfl, rfl, rfl, by decide +kernel, rfl, by decide +kernel, by decide +kernel⟩
def kp__law_pen : Keep := fun i => false
def t__law_pen : Ev Fl :=
  (sRet (eDct (qCons (eC (.str "cells")) (eCall listE (aCons (eSl slD (eVar 0) oNo (oSo (eC (.int 63)))) aNil)) (qCons (eC (.str "spot")) (eC (.int 0)) (qCons (eC (.str "more")) (eC (.int 0)) qNil)))))
def F__law_pen : List T → Option (Out T) := runF ["_law_script"] 1 kp__law_pen t__law_pen
theorem sc__law_draw : FnScope ["_law_pen_here", "_law_many", "_law_spot", "_law_cell", "_law_mix", "_law_digit"] ["_law_pen_here", "_law_many"] (defScope s__law_draw) := ⟨rfl, rfl, rfl, by decide +kernel, rfl, by decide +kernel, by decide +kernel⟩
def kp__law_draw : Keep := fun i => i == 0
def t__law_draw : Ev Fl :=
  (sSeq (sIf (bBin gtD (eRdP (pIx 0 (pName 0) (sid 0 (eC (.str "more"))))) (eC (.int 0))) (sSeq (sSet 5 (eBin modD (eRdP (pIx 0 (pName 0) (sid 0 (eC (.str "more"))))) (eVar 1)))
  (sSeq (sAsg (eFz (eBin fdivD (eRdP (pIx 0 (pName 0) (sid 0 (eC (.str "more"))))) (eVar 1))) (gPut 0 (pName 0) (sid 0 (eC (.str "more")))))
  (sRet (eVar 5)))) sNx)
  (sSeq (sSet 2 (eRdP (pIx 0 (pName 0) (sid 0 (eC (.str "spot"))))))
  (sSeq (sAsg (eFz (eBin addD (eVar 2) (eC (.int 1)))) (gPut 0 (pName 0) (sid 0 (eC (.str "spot")))))
  (sSeq (sSet 3 (eIf (bBin neA (eRdP (pIx 0 (pName 0) (sid 0 (eC (.str "cells"))))) (eLst mNil)) (eBin ixA (eRdP (pIx 0 (pName 0) (sid 0 (eC (.str "cells"))))) (eBin modD (eVar 2) (eCall lenE (aCons (eRdP (pIx 0 (pName 0) (sid 0 (eC (.str "cells"))))) aNil)))) (eBin addD (eBin mulE (eC (.int 37)) (eVar 2)) (eC (.int 11)))))
  (sSeq (sIf (bAnd (bBin ltD (eVar 2) (eCall lenE (aCons (eRdP (pIx 0 (pName 0) (sid 0 (eC (.str "cells"))))) aNil))) (bBin geD (eCall absD (aCons (eVar 3) aNil)) (eBin powD (eC (.int 10)) (eC (.int 18))))) (sSeq (sAsg (eFz (eBin fdivD (eBin subD (eCall absD (aCons (eVar 3) aNil)) (eBin powD (eC (.int 10)) (eC (.int 18)))) (eVar 1))) (gPut 0 (pName 0) (sid 0 (eC (.str "more")))))
  (sRet (eBin modD (eBin subD (eCall absD (aCons (eVar 3) aNil)) (eBin powD (eC (.int 10)) (eC (.int 18)))) (eVar 1)))) sNx)
  (sSeq (sSet 4 (eBin modD (eBin addD (eBin addD (eBin addD (eBin mulE (eBin modD (eVar 3) (eC (.int 2147483647))) (eC (.int 69621))) (eBin mulE (eBin mulE (eC (.int 48271)) (eVar 2)) (eVar 2))) (eBin mulE (eC (.int 30011)) (eVar 2))) (eC (.int 13))) (eC (.int 2147483629))))
  (sSeq (sSet 4 (eBin modD (eBin addD (eBin addD (eBin addD (eBin mulE (eVar 4) (eVar 4)) (eBin mulE (eC (.int 40692)) (eVar 4))) (eBin mulE (eC (.int 7)) (eVar 2))) (eC (.int 3))) (eC (.int 2147483587))))
  (sRet (eBin modD (eBin fdivD (eBin modD (eBin mulE (eVar 4) (eBin addD (eVar 4) (eC (.int 16807)))) (eC (.int 2147483579))) (eC (.int 32))) (eVar 1))))))))))
def F__law_draw : List T → Option (Out T) := runF ["_law_pen_here", "_law_many", "_law_spot", "_law_cell", "_law_mix", "_law_digit"] 2 kp__law_draw t__law_draw
theorem sc_is_name : FnScope ["value", "letter"] ["value"] (defScope s_is_name) := ⟨rfl, rfl, rfl, by decide +kernel, rfl, by decide +kernel, by decide +kernel⟩
def kp_is_name : Keep := fun i => false
def t_is_name : Ev Fl :=
  (sSeq (sIf (bOr (bNot (bTru (eCall isTyE (aCons (eVar 0) (aCons (eC (.ty "str")) aNil))))) (bNot (bVal (eChn leD leD (eC (.int 1)) (eCall lenE (aCons (eVar 0) aNil)) (eC (.int 8)))))) (sRet (eC (.bl false))) sNx)
  (sRet (eCall allD (aCons (eLc (iAhd (vAny (vVar 0))) (gSet 1) bYes (eBin (inA false) (eVar 1) (eC (.str "abcdefghijklmnopqrstuvwxyz"))) [1]) aNil))))
def F_is_name : List T → Option (Out T) := runF ["value", "letter"] 1 kp_is_name t_is_name
theorem sc_are_names : FnScope ["value", "name"] ["value"] (defScope s_are_names) := ⟨rfl, rfl, rfl, by decide +kernel, rfl, by decide +kernel, by decide +kernel⟩
def kp_are_names : Keep := fun i => false
def t_are_names : Ev Fl :=
  (sSeq (sIf (bOr (bNot (bTru (eFn F_is_sequence [none] (mVal (eVar 0) mNil)))) (bNot (bTru (eCall allD (aCons (eLc (iAhd (vAny (vVar 0))) (gSet 1) bYes (eFn F_is_name [none] (mVal (eVar 1) mNil)) [1]) aNil))))) (sRet (eC (.bl false))) sNx)
  (sRet (eBin eqA (eUn lenSetD (eVar 0)) (eCall lenE (aCons (eVar 0) aNil)))))
def F_are_names : List T → Option (Out T) := runF ["value", "name"] 1 kp_are_names t_are_names
theorem sc_need_gifts : FnScope ["gifts"] ["gifts"] (defScope s_need_gifts) := ⟨rfl, rfl, rfl, by decide +kernel, rfl, by decide +kernel, by decide +kernel⟩
def kp_need_gifts : Keep := fun i => false
def t_need_gifts : Ev Fl :=
  (sSeq (sIf (bNot (bTru (eFn F_are_names [none] (mVal (eVar 0) mNil)))) sNo sNx)
  (sIf (bBin gtD (eCall lenE (aCons (eVar 0) aNil)) (eC (.int 16))) sNo sNx))
def F_need_gifts : List T → Option (Out T) := runF ["gifts"] 1 kp_need_gifts t_need_gifts
theorem sc_need_rankings : FnScope ["gifts", "rankings", "guest"] ["gifts", "rankings"] (defScope s_need_rankings) := ⟨rfl, rfl, rfl, by decide +kernel, rfl, by decide +kernel, by decide +kernel⟩
def kp_need_rankings : Keep := fun i => false
def t_need_rankings : Ev Fl :=
  (sSeq (sIf (bNot (bTru (eCall isTyE (aCons (eVar 1) (aCons (eC (.ty "dict")) aNil))))) sNo sNx)
  (sSeq (sFor (iAhd (vAny (vVar 1))) (gSet 2) (sIf (bNot (bTru (eFn F_is_name [none] (mVal (eVar 2) mNil)))) sNo sNx))
  (sSeq (sIf (bBin gtD (eCall lenE (aCons (eVar 1) aNil)) (eC (.int 16))) sNo sNx)
  (sFor (iAhd (vAny (vVar 1))) (gSet 2) (sIf (bNot (bTru (eFn F_is_order_of [none, none] (mVal (eBin ixA (eVar 1) (eVar 2)) (mVal (eVar 0) mNil))))) sNo sNx)))))
def F_need_rankings : List T → Option (Out T) := runF ["gifts", "rankings", "guest"] 2 kp_need_rankings t_need_rankings
theorem sc_places_of : FnScope ["ranking", "at", "gift"] ["ranking"] (defScope s_places_of) := ⟨rfl, rfl, rfl, by decide +kernel, rfl, by decide +kernel, by decide +kernel⟩
def kp_places_of : Keep := fun i => false
def t_places_of : Ev Fl :=
  (sRet (eDc (iEnumD (aCons (eVar 0) aNil)) (gTup' 2 (gCons' (gSet 1) (gCons' (gSet 2) gNil'))) bYes (eVar 2) (eVar 1) [1, 2]))
def F_places_of : List T → Option (Out T) := runF ["ranking", "at", "gift"] 1 kp_places_of t_places_of
theorem sc_Wishes___init__ : FnScope ["self", "gifts", "rankings", "guest"] ["self", "gifts", "rankings"] (defScope s_Wishes___init__) := ⟨rfl, rfl, rfl, by decide +kernel, rfl, by decide +kernel, by decide +kernel⟩
def kp_Wishes___init__ : Keep := fun i => i == 0
def t_Wishes___init__ : Ev Fl :=
  (sSeq (sDrop (eFn F_need_gifts [none] (mVal (eVar 1) mNil)))
  (sSeq (sDrop (eFn F_need_rankings [none, none] (mVal (eVar 1) (mVal (eVar 2) mNil))))
  (sSeq (sFldP "Wishes" "own_gifts" (pName 0) (eFz (eCall tupleD (aCons (eVar 1) aNil))))
  (sSeq (sFldP "Wishes" "own_rankings" (pName 0) (eFz (eDc (iAhd (vAny (vVar 2))) (gSet 3) bYes (eVar 3) (eCall tupleD (aCons (eBin ixA (eVar 2) (eVar 3)) aNil)) [3])))
  (sFldP "Wishes" "places" (pName 0) (eFz (eDc (iAhd (vAny (vVar 2))) (gSet 3) bYes (eVar 3) (eFn F_places_of [none] (mVal (eBin ixA (eRdP (pFld "Wishes" "own_rankings" (pName 0))) (eVar 3)) mNil)) [3])))))))
def F_Wishes___init__ : List T → Option (Out T) := runF ["self", "gifts", "rankings", "guest"] 3 kp_Wishes___init__ t_Wishes___init__
theorem sc__law_wishes : FnScope ["_law_raw_here", "_law_guest"] ["_law_raw_here"] (defScope s__law_wishes) := ⟨rfl, rfl, rfl, by decide +kernel, rfl, by decide +kernel, by decide +kernel⟩
def kp__law_wishes : Keep := fun i => false
def t__law_wishes : Ev Fl :=
  (sRet (eMk "Wishes" F_Wishes___init__ [none, none] (mVal (eCall listE (aCons (eBin ixA (eVar 0) (eC (.int 0))) aNil)) (mVal (eCall dictE (aCons (eLc (iAhd (vAny (vIx 1 (vVar 0)))) (gSet 1) bYes (eTup (mOwn (eVar 1) (mOwn (eCall tupleD (aCons (eBin ixA (eBin ixA (eVar 0) (eC (.int 1))) (eVar 1)) aNil)) mNil))) [1]) aNil)) mNil))))
def F__law_wishes : List T → Option (Out T) := runF ["_law_raw_here", "_law_guest"] 1 kp__law_wishes t__law_wishes
theorem sc__law_best : FnScope ["_law_raw_here", "_law_guest", "_law_gifts", "_law_gift"] ["_law_raw_here", "_law_guest", "_law_gifts"] (defScope s__law_best) := ⟨rfl, rfl, rfl, by decide +kernel, rfl, by decide +kernel, by decide +kernel⟩
def kp__law_best : Keep := fun i => false
def t__law_best : Ev Fl :=
  (sRet (eBin ixA (eBin addD (eLc (iAny (eBin ixA (eBin ixA (eVar 0) (eC (.int 1))) (eVar 1))) (gSet 3) (bBin (inA false) (eVar 3) (eVar 2)) (eVar 3) [3]) (eLst (mOwn (eC .non) mNil))) (eC (.int 0))))
def F__law_best : List T → Option (Out T) := runF ["_law_raw_here", "_law_guest", "_law_gifts", "_law_gift"] 3 kp__law_best t__law_best
theorem sc__law_choose : FnScope ["_law_raw_here", "_law_row", "_law_guest", "_law_left_now", "_law_found", "_law_gift"] ["_law_raw_here", "_law_row"] (defScope s__law_choose) := ⟨rfl, rfl, rfl, by decide +kernel, rfl, by decide +kernel, by decide +kernel⟩
def kp__law_choose : Keep := fun i => false
def t__law_choose : Ev Fl :=
  (sSeq (sAsg (eTup (mOwn (eCall listE (aCons (eBin ixA (eVar 0) (eC (.int 0))) aNil)) (mOwn eDnew mNil))) (gTup' 2 (gCons' (gSet 3) (gCons' (gOwn 4) gNil'))))
  (sSeq (sFor (iAhd (vAny (vVar 1))) (gSet 2) (sSeq (sAsg (eFz (eFn F__law_best [none, none, none] (mVal (eVar 0) (mVal (eVar 2) (mVal (eVar 3) mNil))))) (gPut 4 (pName 4) (sid 4 (eVar 2))))
  (sSet 3 (eLc (iAhd (vAny (vVar 3))) (gSet 5) (bBin neA (eVar 5) (eRdP (pIx 4 (pName 4) (sid 4 (eVar 2))))) (eVar 5) [5]))))
  (sRet (eCall dictE (aCons (eLc (iAhd (vAny (vIx 1 (vVar 0)))) (gSet 2) bYes (eTup (mOwn (eVar 2) (mOwn (eRdP (pIx 4 (pName 4) (sid 4 (eVar 2)))) mNil))) [2]) aNil)))))
def F__law_choose : List T → Option (Out T) := runF ["_law_raw_here", "_law_row", "_law_guest", "_law_left_now", "_law_found", "_law_gift"] 2 kp__law_choose t__law_choose
theorem sc__law_pick : FnScope ["_law_pen_here", "_law_some"] ["_law_pen_here", "_law_some"] (defScope s__law_pick) := ⟨rfl, rfl, rfl, by decide +kernel, rfl, by decide +kernel, by decide +kernel⟩
def kp__law_pick : Keep := fun i => i == 0
def t__law_pick : Ev Fl :=
  (sRet (eBin ixA (eVar 1) (eFn F__law_draw [some 0, none] (mLate 0 (mVal (eCall lenE (aCons (eVar 1) aNil)) mNil)))))
def F__law_pick : List T → Option (Out T) := runF ["_law_pen_here", "_law_some"] 2 kp__law_pick t__law_pick
theorem sc__law_odd : FnScope ["_law_pen_here", "_law_some"] ["_law_pen_here"] (defScope s__law_odd) := ⟨rfl, rfl, rfl, by decide +kernel, rfl, by decide +kernel, by decide +kernel⟩
def kp__law_odd : Keep := fun i => i == 0
def t__law_odd : Ev Fl :=
  (sSeq (sSet 1 (eLst (mOwn (eC .non) (mOwn (eC (.bl true)) (mOwn (eC (.bl false)) (mOwn (eC (.int 0)) (mOwn (eC (.int 1)) (mOwn (eUn negD (eC (.int 1))) (mOwn (eC (.int 2)) (mOwn (eBin powD (eC (.int 10)) (eC (.int 60))) (mOwn (eC (.str "")) (mOwn (eC (.str "a")) (mOwn (eC (.str "Ab")) (mOwn (eC (.str "a b")) (mOwn (eC (.str "abcdefgh")) (mOwn (eC (.str "abcdefghi")) (mOwn (eC (.str "a1")) (mOwn (eTup mNil) (mOwn (eTup (mOwn (eC (.str "a")) mNil)) mNil)))))))))))))))))))
  (sRet (eFn F__law_pick [some 0, none] (mLate 0 (mVal (eBin addD (eVar 1) (eLst (mOwn (eLst mNil) (mOwn (eLst (mOwn (eC (.str "a")) mNil)) (mOwn eDnew (mOwn (eDct (qCons (eC (.str "a")) (eC (.int 1)) qNil)) (mOwn (eTup (mOwn (eTup mNil) mNil)) (mOwn (eTup (mOwn (eC (.int 0)) mNil)) (mOwn (eLst (mOwn (eC (.int 0)) mNil)) (mOwn (eTup (mOwn (eC .non) mNil)) (mOwn (eLst (mOwn (eLst mNil) mNil)) (mOwn (eTup (mOwn (eC (.str "a")) (mOwn (eC (.str "a")) mNil))) mNil)))))))))))) mNil)))))
def F__law_odd : List T → Option (Out T) := runF ["_law_pen_here", "_law_some"] 1 kp__law_odd t__law_odd
theorem sc__law_is_order : FnScope ["_law_value", "_law_names_here", "_law_name", "_law_other"] ["_law_value", "_law_names_here"] (defScope s__law_is_order) := ⟨rfl, rfl, rfl, by decide +kernel, rfl, by decide +kernel, by decide +kernel⟩
def kp__law_is_order : Keep := fun i => false
def t__law_is_order : Ev Fl :=
  (sSeq (sIf (bOr (bNot (bTru (eCall isTyE (aCons (eVar 0) (aCons (eTup (mOwn (eC (.ty "list")) (mOwn (eC (.ty "tuple")) mNil))) aNil))))) (bBin neA (eCall lenE (aCons (eVar 0) aNil)) (eCall lenE (aCons (eVar 1) aNil)))) (sRet (eC (.bl false))) sNx)
  (sRet (eBin eqA (eLc (iAhd (vAny (vVar 1))) (gSet 2) (bBin neA (eLc (iAhd (vAny (vVar 0))) (gSet 3) (bBin eqA (eCall reprD (aCons (eVar 3) aNil)) (eCall reprD (aCons (eVar 2) aNil))) (eVar 3) [3]) (eLst (mOwn (eVar 2) mNil))) (eVar 2) [2]) (eLst mNil))))
def F__law_is_order : List T → Option (Out T) := runF ["_law_value", "_law_names_here", "_law_name", "_law_other"] 2 kp__law_is_order t__law_is_order
theorem sc__law_shuffled : FnScope ["_law_pen_here", "_law_some", "_law_rest", "_law_found"] ["_law_pen_here", "_law_some"] (defScope s__law_shuffled) := ⟨rfl, rfl, rfl, by decide +kernel, rfl, by decide +kernel, by decide +kernel⟩
def kp__law_shuffled : Keep := fun i => i == 0
noncomputable def t__law_shuffled : Ev Fl :=
  (sSeq (sPar [(2, true), (3, true)] (mOwn (eCall listE (aCons (eVar 1) aNil)) (mOwn (eLst mNil) mNil)))
  (sSeq (sWhile (bPeek (bBin neA (eVar 2) (eLst mNil))) (sDrop (eMt 3 "list" gAppend (pName 3) (sid 3 (mVal (eMt 2 "list" gPop (pName 2) (msOne (eFnQ F__law_draw [some 0, none] (kLate 0 (kPeek (eCall lenE (aCons (eVar 2) aNil)) kNil))))) mNil)))))
  (sRet (eMov 3))))
noncomputable def F__law_shuffled : List T → Option (Out T) := runF ["_law_pen_here", "_law_some", "_law_rest", "_law_found"] 2 kp__law_shuffled t__law_shuffled
theorem sc__law_names : FnScope ["_law_pen_here", "_law_many", "_law_letters", "_law_stem", "_law_k", "_law_at", "_law_begin_here", "_law_trim", "_law_step", "_law_found", "_law_tail"] ["_law_pen_here", "_law_many"] (defScope s__law_names) := ⟨rfl, rfl, rfl, by decide +kernel, rfl, by decide +kernel, by decide +kernel⟩
def kp__law_names : Keep := fun i => i == 0
def t__law_names : Ev Fl :=
  (sSeq (sSet 2 (eC (.str "abcdefghijklmnopqrstuvwxyz")))
  (sSeq (sSet 3 (eMv "str" mJoin (eC (.str "")) (aCons (eLc (iRange1 (aCons (eBin addD (eC (.int 1)) (eFn F__law_draw [some 0, none] (mLate 0 (mVal (eC (.int 8)) mNil)))) aNil)) (gSet 4) bYes (eFn F__law_pick [some 0, none] (mLate 0 (mVal (eVar 2) mNil))) [4]) aNil)))
  (sSeq (sPar [(5, false), (6, false), (7, false)] (mOwn (eFn F__law_draw [some 0, none] (mLate 0 (mVal (eCall lenE (aCons (eVar 3) aNil)) mNil))) (mOwn (eFn F__law_draw [some 0, none] (mLate 0 (mVal (eC (.int 26)) mNil))) (mOwn (eFn F__law_draw [some 0, none] (mLate 0 (mVal (eC (.int 2)) mNil))) mNil))))
  (sSeq (sPar [(8, false), (9, true)] (mOwn (eFn F__law_pick [some 0, none] (mLate 0 (mVal (eLst (mOwn (eC (.int 1)) (mOwn (eC (.int 3)) (mOwn (eC (.int 5)) (mOwn (eC (.int 7)) (mOwn (eC (.int 9)) (mOwn (eC (.int 11)) (mOwn (eC (.int 15)) (mOwn (eC (.int 17)) (mOwn (eC (.int 19)) (mOwn (eC (.int 21)) (mOwn (eC (.int 23)) (mOwn (eC (.int 25)) mNil))))))))))))) mNil))) (mOwn (eLst mNil) mNil)))
  (sSeq (sFor (iRange1 (aCons (eVar 1) aNil)) (gSet 4) (sSeq (sSet 10 (eIf (bBin eqA (eVar 7) (eC (.int 0))) (eSl slD (eVar 3) (oSo (eBin addD (eVar 5) (eC (.int 1)))) oNo) (eSl slD (eSl slD (eVar 3) (oSo (eBin addD (eVar 5) (eC (.int 1)))) oNo) oNo (oSo (eBin modD (eVar 4) (eC (.int 3)))))))
  (sDrop (eMt 9 "list" gAppend (pName 9) (sid 9 (mVal (eBin addD (eBin addD (eSl slD (eVar 3) oNo (oSo (eVar 5))) (eBin ixA (eVar 2) (eBin modD (eBin addD (eVar 6) (eBin mulE (eVar 8) (eVar 4))) (eC (.int 26))))) (eVar 10)) mNil))))))
  (sRet (eMov 9)))))))
def F__law_names : List T → Option (Out T) := runF ["_law_pen_here", "_law_many", "_law_letters", "_law_stem", "_law_k", "_law_at", "_law_begin_here", "_law_trim", "_law_step", "_law_found", "_law_tail"] 2 kp__law_names t__law_names
theorem sc__law_ranking : FnScope ["_law_pen_here", "_law_gifts", "_law_known", "_law_road", "_law_found", "_law_at"] ["_law_pen_here", "_law_gifts", "_law_known"] (defScope s__law_ranking) := ⟨rfl, rfl, rfl, by decide +kernel, rfl, by decide +kernel, by decide +kernel⟩
def kp__law_ranking : Keep := fun i => i == 0
noncomputable def t__law_ranking : Ev Fl :=
  (sSeq (sSet 3 (eFn F__law_draw [some 0, none] (mLate 0 (mVal (eC (.int 3)) mNil))))
  (sSeq (sIf (bOr (bBin eqA (eVar 3) (eC (.int 0))) (bBin eqA (eVar 2) (eLst mNil))) (sRet (eFn F__law_shuffled [some 0, none] (mLate 0 (mVal (eVar 1) mNil)))) sNx)
  (sSeq (sOwn 4 (eCall listE (aCons (eFn F__law_pick [some 0, none] (mLate 0 (mVal (eVar 2) mNil))) aNil)))
  (sSeq (sIf (bPeek (bAnd (bBin eqA (eVar 3) (eC (.int 1))) (bBin gtD (eCall lenE (aCons (eVar 4) aNil)) (eC (.int 1))))) (sSeq (sSet 5 (eFn F__law_draw [some 0, none] (mLate 0 (mVal (ePeek (eBin subD (eCall lenE (aCons (eVar 4) aNil)) (eC (.int 1)))) mNil))))
  (sAsg (eKf (eTup (mOwn (eRdP (pIx 4 (pName 4) (sid 4 (eBin addD (eVar 5) (eC (.int 1)))))) (mOwn (eRdP (pIx 4 (pName 4) (sid 4 (eVar 5)))) mNil)))) (gTup' 2 (gCons' (gPut 4 (pName 4) (sid 4 (eVar 5))) (gCons' (gPut 4 (pName 4) (sid 4 (eBin addD (eVar 5) (eC (.int 1))))) gNil'))))) sNx)
  (sRet (eMov 4))))))
noncomputable def F__law_ranking : List T → Option (Out T) := runF ["_law_pen_here", "_law_gifts", "_law_known", "_law_road", "_law_found", "_law_at"] 3 kp__law_ranking t__law_ranking
theorem sc__law_raw : FnScope ["_law_pen_here", "_law_guests", "_law_gifts", "_law_guest", "_law_some", "_law_ranks"] ["_law_pen_here", "_law_guests", "_law_gifts"] (defScope s__law_raw) := ⟨rfl, rfl, rfl, by decide +kernel, rfl, by decide +kernel, by decide +kernel⟩
def kp__law_raw : Keep := fun i => i == 0
noncomputable def t__law_raw : Ev Fl :=
  (sSeq (sPar [(4, false), (5, true)] (mOwn (eFn F__law_names [some 0, none] (mLate 0 (mVal (eVar 2) mNil))) (mOwn eDnew mNil)))
  (sSeq (sFor (iAny (eFn F__law_names [some 0, none] (mLate 0 (mVal (eVar 1) mNil)))) (gSet 3) (sAsg (eFz (eFn F__law_ranking [some 0, none, none] (mLate 0 (mVal (eVar 4) (mVal (eLvP (pName 5)) mNil))))) (gPut 5 (pName 5) (sid 5 (eVar 3)))))
  (sRet (eTup (mOwn (eVar 4) (mOwn (eMov 5) mNil))))))
noncomputable def F__law_raw : List T → Option (Out T) := runF ["_law_pen_here", "_law_guests", "_law_gifts", "_law_guest", "_law_some", "_law_ranks"] 3 kp__law_raw t__law_raw
theorem sc__law_begin : FnScope ["_law_pen_here", "_law_guests", "_law_gifts", "_law_raw_here"] ["_law_pen_here", "_law_guests", "_law_gifts"] (defScope s__law_begin) := ⟨rfl, rfl, rfl, by decide +kernel, rfl, by decide +kernel, by decide +kernel⟩
def kp__law_begin : Keep := fun i => i == 0
noncomputable def t__law_begin : Ev Fl :=
  (sSeq (sSet 3 (eFn F__law_raw [some 0, none, none] (mLate 0 (mVal (eVar 1) (mVal (eVar 2) mNil)))))
  (sRet (eTup (mOwn (eVar 3) (mOwn (eCall tupleD (aCons (eFn F__law_shuffled [some 0, none] (mLate 0 (mVal (eCall listE (aCons (eBin ixA (eVar 3) (eC (.int 1))) aNil)) mNil))) aNil)) mNil)))))
noncomputable def F__law_begin : List T → Option (Out T) := runF ["_law_pen_here", "_law_guests", "_law_gifts", "_law_raw_here"] 3 kp__law_begin t__law_begin
theorem sc__law_caught : FnScope ["_law_wishes_here", "_law_row", "_law_heard", "e"] ["_law_wishes_here", "_law_row"] (defScope s__law_caught) := ⟨rfl, rfl, rfl, by decide +kernel, rfl, by decide +kernel, by decide +kernel⟩
def kp__law_caught : Keep := fun i => false
def t__law_caught : Ev Fl :=
  (sSeq (sSet 2 (eC .non))
  (sSeq (sTry xkn (sSet 2 (eFn F_choose [none, none] (mVal (eVar 0) (mVal (eVar 1) mNil)))) (("InvalidRow", 3, (sSet 2 (eIf (bTru (eUn (isXD xt_ValueError) (eVar 3))) (eC (.str "row")) (eC (.str "odd"))))) :: []))
  (sRet (eVar 2))))
def F__law_caught : List T → Option (Out T) := runF ["_law_wishes_here", "_law_row", "_law_heard", "e"] 2 kp__law_caught t__law_caught
theorem sc_law : FnScope ["_law_script", "_law_pen_here", "_law_bout", "_law_limit", "_law_handed", "_law_at", "_law_some", "_law_value", "_law_raw_here", "_law_row", "_law_wishes_here", "_law_due", "_law_told", "_law_due_now", "_law_guest"] ["_law_script"] (defScope s_law) := ⟨rfl, rfl, rfl, by decide +kernel, rfl, by decide +kernel, by decide +kernel⟩
def kp_law : Keep := fun i => false
noncomputable def t_law : Ev Fl :=
  (sSeq (sOwn 1 (eKf (eFn F__law_pen [none] (mVal (eVar 0) mNil))))
  (sSeq (sFor (iRange1 (aCons (eC (.int 6)) aNil)) (gSet 2) (sSeq (sSet 3 (eBin ixA (eLst (mOwn (eC (.int 6)) (mOwn (eC (.int 17)) mNil))) (eCall intE (aCons (eBin eqA (eVar 2) (eC (.int 0))) aNil))))
  (sSeq (sAsg (eFn F__law_begin [some 1, none, none] (mLate 1 (mVal (eFn F__law_draw [some 1, none] (mLate 1 (mVal (eVar 3) mNil))) (mVal (eFn F__law_draw [some 1, none] (mLate 1 (mVal (eVar 3) mNil))) mNil)))) (gTup' 2 (gCons' (gSet 8) (gCons' (gSet 9) gNil'))))
  (sSeq (sPar [(10, false), (11, false)] (mOwn (eFn F__law_wishes [none] (mVal (eVar 8) mNil)) (mOwn (eFn F__law_choose [none, none] (mVal (eVar 8) (mVal (eVar 9) mNil))) mNil)))
  (sSeq (sFor (iAny (eTup (mOwn (eVar 9) (mOwn (eCall listE (aCons (eVar 9) aNil)) mNil)))) (gSet 4) (sSeq (sOwn 12 (eKf (eFn F_choose [none, none] (mVal (eVar 10) (mVal (eVar 4) mNil)))))
  (sSeq (sIf (bPeek (bOr (bNot (bTru (eCall isTyE (aCons (eVar 12) (aCons (eC (.ty "dict")) aNil))))) (bOr (bBin neA (eCall reprD (aCons (eVar 12) aNil)) (eCall reprD (aCons (eVar 11) aNil))) (bBin neA (eCall tupleD (aCons (eVar 4) aNil)) (eVar 9))))) (sRet (eC (.bl false))) sNx)
  (sDrop (eMt 12 "dict" gDClear (pName 12) msNil)))))
  (sSeq (sSet 5 (eFn F__law_draw [some 1, none] (mLate 1 (mVal (eBin addD (eCall lenE (aCons (eVar 9) aNil)) (eC (.int 1))) mNil))))
  (sSeq (sOwn 6 (eKf (eLst (mOwn (eBin addD (eSl slD (eVar 9) oNo (oSo (eVar 5))) (eSl slD (eVar 9) (oSo (eBin addD (eVar 5) (eC (.int 1)))) oNo)) (mOwn (eBin addD (eVar 9) (eSl slD (eVar 9) oNo (oSo (eC (.int 1))))) (mOwn (eBin addD (eBin addD (eSl slD (eVar 9) oNo (oSo (eVar 5))) (eTup (mOwn (eFn F__law_odd [some 1] (mLate 1 mNil)) mNil))) (eSl slD (eVar 9) (oSo (eBin addD (eVar 5) (eC (.int 1)))) oNo)) (mOwn (eFn F__law_odd [some 1] (mLate 1 mNil)) mNil)))))))
  (sSeq (sDrop (eMt 6 "list" gAppend (pName 6) (sid 6 (mVal (eBin addD (eSl slD (eVar 9) oNo (oSo (eUn negD (eC (.int 1))))) (eSl slD (eVar 9) oNo (oSo (eC (.int 1))))) mNil))))
  (sFor (iAny (eBin addD (eFrz 6) (eLst (mOwn (eCall dictE (aCons (eLc (iAhd (vAny (vVar 9))) (gSet 14) bYes (eTup (mOwn (eVar 14) (mOwn (eC (.int 1)) mNil))) [14]) aNil)) mNil)))) (gSet 7) (sSeq (sSet 13 (eIf (bTru (eFn F__law_is_order [none, none] (mVal (eVar 7) (mVal (eCall listE (aCons (eBin ixA (eVar 8) (eC (.int 1))) aNil)) mNil)))) (eFn F__law_choose [none, none] (mVal (eVar 8) (mVal (eVar 7) mNil))) (eC (.str "row"))))
  (sIf (bBin neMD (eFn F__law_caught [none, none] (mVal (eVar 10) (mVal (eVar 7) mNil))) (eVar 13)) (sRet (eC (.bl false))) sNx)))))))))))
  (sRet (eC (.bl true)))))
noncomputable def F_law : List T → Option (Out T) := runF ["_law_script", "_law_pen_here", "_law_bout", "_law_limit", "_law_handed", "_law_at", "_law_some", "_law_value", "_law_raw_here", "_law_row", "_law_wishes_here", "_law_due", "_law_told", "_law_due_now", "_law_guest"] 1 kp_law t_law
theorem sc_InvalidRow___init__ : FnScope ["self"] ["self"] (defScope s_InvalidRow___init__) := ⟨rfl, rfl, rfl, by decide +kernel, rfl, by decide +kernel, by decide +kernel⟩
/-! ### what the head tells -/
structure Fx (K : PySem.W.Frag) (cl : Str → Addr) (mg : Str → Option Value) (base : Heap) : Prop where
  sys : ∃ o, base.get? sysModules = some o
  n_ValueError : mg "ValueError" = none
  n_abs : mg "abs" = none
  n_all : mg "all" = none
  n_dict : mg "dict" = none
  n_enumerate : mg "enumerate" = none
  n_int : mg "int" = none
  n_isinstance : mg "isinstance" = none
  n_len : mg "len" = none
  n_list : mg "list" = none
  n_min : mg "min" = none
  n_range : mg "range" = none
  n_repr : mg "repr" = none
  n_set : mg "set" = none
  n_sorted : mg "sorted" = none
  n_str : mg "str" = none
  n_tuple : mg "tuple" = none
  c_GIFTS : ∃ t, mg "GIFTS" = some (.int 16 t)
  c_GUESTS : ∃ t, mg "GUESTS" = some (.int 16 t)
  c_LETTERS : ∃ t, mg "LETTERS" = some (.str "abcdefghijklmnopqrstuvwxyz" t)
  c_LONGEST_NAME : ∃ t, mg "LONGEST_NAME" = some (.int 8 t)
  k_Wishes : Cls K (cl "Wishes")
  g_InvalidRow : mg "InvalidRow" = some (.ref (cl "InvalidRow"))
  g_Wishes : mg "Wishes" = some (.ref (cl "Wishes"))
  na_Wishes_own_gifts : NoAttr K (cl "Wishes") "own_gifts"
  na_Wishes_own_rankings : NoAttr K (cl "Wishes") "own_rankings"
  na_Wishes_places : NoAttr K (cl "Wishes") "places"
  d_is_sequence : ∃ f fd, mg "is_sequence" = some (.ref f) ∧ FunD K "is_sequence" "is_sequence" (defArgs s_is_sequence) (defBody s_is_sequence) (defScope s_is_sequence) [] [] f fd
  d_is_order_of : ∃ f fd, mg "is_order_of" = some (.ref f) ∧ FunD K "is_order_of" "is_order_of" (defArgs s_is_order_of) (defBody s_is_order_of) (defScope s_is_order_of) [] [] f fd
  d_Wishes_guests : ∃ f fd, Meth K (cl "Wishes") "guests" f ∧ FunD K "guests" "Wishes.guests" (defArgs s_Wishes_guests) (defBody s_Wishes_guests) (defScope s_Wishes_guests) [] [] f fd
  d_need_row : ∃ f fd, mg "need_row" = some (.ref f) ∧ FunD K "need_row" "need_row" (defArgs s_need_row) (defBody s_need_row) (defScope s_need_row) [] [] f fd
  d_Wishes_gifts : ∃ f fd, Meth K (cl "Wishes") "gifts" f ∧ FunD K "gifts" "Wishes.gifts" (defArgs s_Wishes_gifts) (defBody s_Wishes_gifts) (defScope s_Wishes_gifts) [] [] f fd
  d_Wishes_best_of : ∃ f fd, Meth K (cl "Wishes") "best_of" f ∧ FunD K "best_of" "Wishes.best_of" (defArgs s_Wishes_best_of) (defBody s_Wishes_best_of) (defScope s_Wishes_best_of) [] [] f fd
  d_choose : ∃ f fd, mg "choose" = some (.ref f) ∧ FunD K "choose" "choose" (defArgs s_choose) (defBody s_choose) (defScope s_choose) [] [] f fd
  d__law_pen : ∃ f fd, mg "_law_pen" = some (.ref f) ∧ FunD K "_law_pen" "_law_pen" (defArgs s__law_pen) (defBody s__law_pen) (defScope s__law_pen) [] [] f fd
  d__law_draw : ∃ f fd, mg "_law_draw" = some (.ref f) ∧ FunD K "_law_draw" "_law_draw" (defArgs s__law_draw) (defBody s__law_draw) (defScope s__law_draw) [] [] f fd
  d_is_name : ∃ f fd, mg "is_name" = some (.ref f) ∧ FunD K "is_name" "is_name" (defArgs s_is_name) (defBody s_is_name) (defScope s_is_name) [] [] f fd
  d_are_names : ∃ f fd, mg "are_names" = some (.ref f) ∧ FunD K "are_names" "are_names" (defArgs s_are_names) (defBody s_are_names) (defScope s_are_names) [] [] f fd
  d_need_gifts : ∃ f fd, mg "need_gifts" = some (.ref f) ∧ FunD K "need_gifts" "need_gifts" (defArgs s_need_gifts) (defBody s_need_gifts) (defScope s_need_gifts) [] [] f fd
  d_need_rankings : ∃ f fd, mg "need_rankings" = some (.ref f) ∧ FunD K "need_rankings" "need_rankings" (defArgs s_need_rankings) (defBody s_need_rankings) (defScope s_need_rankings) [] [] f fd
  d_places_of : ∃ f fd, mg "places_of" = some (.ref f) ∧ FunD K "places_of" "places_of" (defArgs s_places_of) (defBody s_places_of) (defScope s_places_of) [] [] f fd
  d_Wishes___init__ : ∃ f fd, Mk K (cl "Wishes") f ∧ FunD K "__init__" "Wishes.__init__" (defArgs s_Wishes___init__) (defBody s_Wishes___init__) (defScope s_Wishes___init__) [] [] f fd
  d__law_wishes : ∃ f fd, mg "_law_wishes" = some (.ref f) ∧ FunD K "_law_wishes" "_law_wishes" (defArgs s__law_wishes) (defBody s__law_wishes) (defScope s__law_wishes) [] [] f fd
  d__law_best : ∃ f fd, mg "_law_best" = some (.ref f) ∧ FunD K "_law_best" "_law_best" (defArgs s__law_best) (defBody s__law_best) (defScope s__law_best) [] [] f fd
  d__law_choose : ∃ f fd, mg "_law_choose" = some (.ref f) ∧ FunD K "_law_choose" "_law_choose" (defArgs s__law_choose) (defBody s__law_choose) (defScope s__law_choose) [] [] f fd
  d__law_pick : ∃ f fd, mg "_law_pick" = some (.ref f) ∧ FunD K "_law_pick" "_law_pick" (defArgs s__law_pick) (defBody s__law_pick) (defScope s__law_pick) [] [] f fd
  d__law_odd : ∃ f fd, mg "_law_odd" = some (.ref f) ∧ FunD K "_law_odd" "_law_odd" (defArgs s__law_odd) (defBody s__law_odd) (defScope s__law_odd) [] [] f fd
  d__law_is_order : ∃ f fd, mg "_law_is_order" = some (.ref f) ∧ FunD K "_law_is_order" "_law_is_order" (defArgs s__law_is_order) (defBody s__law_is_order) (defScope s__law_is_order) [] [] f fd
  d__law_shuffled : ∃ f fd, mg "_law_shuffled" = some (.ref f) ∧ FunD K "_law_shuffled" "_law_shuffled" (defArgs s__law_shuffled) (defBody s__law_shuffled) (defScope s__law_shuffled) [] [] f fd
  d__law_names : ∃ f fd, mg "_law_names" = some (.ref f) ∧ FunD K "_law_names" "_law_names" (defArgs s__law_names) (defBody s__law_names) (defScope s__law_names) [] [] f fd
  d__law_ranking : ∃ f fd, mg "_law_ranking" = some (.ref f) ∧ FunD K "_law_ranking" "_law_ranking" (defArgs s__law_ranking) (defBody s__law_ranking) (defScope s__law_ranking) [] [] f fd
  d__law_raw : ∃ f fd, mg "_law_raw" = some (.ref f) ∧ FunD K "_law_raw" "_law_raw" (defArgs s__law_raw) (defBody s__law_raw) (defScope s__law_raw) [] [] f fd
  d__law_begin : ∃ f fd, mg "_law_begin" = some (.ref f) ∧ FunD K "_law_begin" "_law_begin" (defArgs s__law_begin) (defBody s__law_begin) (defScope s__law_begin) [] [] f fd
  d__law_caught : ∃ f fd, mg "_law_caught" = some (.ref f) ∧ FunD K "_law_caught" "_law_caught" (defArgs s__law_caught) (defBody s__law_caught) (defScope s__law_caught) [] [] f fd
  d_law : ∃ f fd, mg "law" = some (.ref f) ∧ FunD K "law" "law" (defArgs s_law) (defBody s_law) (defScope s_law) [] [] f fd
  x_InvalidRow : ∃ f fd, XOk K "ValueError" "ValueError.__new__" "ValueError.__init__" bm_ValueError (cl "InvalidRow") f ∧ FunD K "__init__" "InvalidRow.__init__" (defArgs s_InvalidRow___init__) (defBody s_InvalidRow___init__) (defScope s_InvalidRow___init__) [] [] f fd
  xt : okXT K cl xkn = true
  xi_ValueError : okXI K cl "ValueError" xt_ValueError = true
/-! ### each def computes what its evaluator says -/
section
variable {P : Program} {w : World} {K : PySem.W.Frag} {mg : Str → Option Value} {base : Heap} {cl : Str → Addr}
theorem xtell (fx : Fx K cl mg base) : XTell K cl xkn := xtell_of fx.xt
theorem xoks (fx : Fx K cl mg base) : ∀ c ∈ xkn, ∃ B newId initId bmB fI, XOk K B newId initId bmB (cl c) fI := by
  intro c h
  simp only [xkn, List.mem_cons, List.not_mem_nil, or_false] at h
  rcases h with rfl <;> first | exact (let ⟨f, _, x, _⟩ := fx.x_InvalidRow; ⟨_, _, _, _, f, x⟩)
theorem xi_ValueError (fx : Fx K cl mg base) : XTab K cl "ValueError" xt_ValueError := xtab_of fx.xi_ValueError (xoks fx) (by decide)
theorem cx_InvalidRow (fx : Fx K cl mg base) : CalX0 P w K mg base cl "ValueError" "ValueError.__new__" "ValueError.__init__" bm_ValueError "InvalidRow" := by
  obtain ⟨f, fd, T, F⟩ := fx.x_InvalidRow
  refine ⟨fx.g_InvalidRow, f, fd, ["self"], T, F.bindsN fun _ _ _ _ _ _ us hl => match us, hl with | [_], _ => rfl, F.ok sc_InvalidRow___init__ lenX0 fun cdv A outer s H vs Q E hr hsp => ⟨_, pss_one (ps_expr (pe_binit eb_ValueError fx.n_ValueError T.vB (pa_cons (pe_var (i := 0) rfl (.inl rfl)) (pa_cons pe_str pa_nil)))), runX0 hsp⟩⟩
theorem v_is_sequence (fx : Fx K cl mg base) {f : Addr} {fd : FuncData} (F : FunD K "is_sequence" "is_sequence" (defArgs s_is_sequence) (defBody s_is_sequence) (defScope s_is_sequence) [] [] f fd) : FnV P w K mg base cl 1 f fd ["value"] F_is_sequence := by
  refine fnv_of F sc_is_sequence fun cdv A outer s H E hr hg => ?_
  exact (il_one (is_ret (iB (fIsiE) fx.n_isinstance boot_isinstance (ia_cons (iv 0) (ia_cons (ie_tup (im_own (ity fx.n_list boot_list) (im_own (ity fx.n_tuple boot_tuple) im_nil))) ia_nil)))))

theorem c_is_sequence (fx : Fx K cl mg base) : Cal P w K mg base cl "is_sequence" 1 ["value"] F_is_sequence := by
  obtain ⟨f, fd, hm, F⟩ := fx.d_is_sequence
  exact ⟨f, fd, hm, F.kp, F.bindsN fun _ _ _ _ _ _ us hl => match us, hl with | [_], _ => rfl, v_is_sequence fx F⟩
theorem v_is_order_of (fx : Fx K cl mg base) {f : Addr} {fd : FuncData} (F : FunD K "is_order_of" "is_order_of" (defArgs s_is_order_of) (defBody s_is_order_of) (defScope s_is_order_of) [] [] f fd) : FnV P w K mg base cl 2 f fd ["value", "names"] F_is_order_of := by
  refine fnv_of F sc_is_order_of fun cdv A outer s H E hr hg => ?_
  exact (il_cons (is_if (iw_or (ib_not (ib_tru (iCall (c_is_sequence fx) hr hg (im_val (iv 0) im_nil)))) (iw_or1 (qCmp (kNe hr) (iB (fLenE) fx.n_len boot_len (ia_cons (iv 0) ia_nil)) (iB (fLenE) fx.n_len boot_len (ia_cons (iv 1) ia_nil))))).ib (il_one (is_ret ie_bl)) il_nil)
    (il_one (is_ret (ie_and (iB (fAll) fx.n_all boot_all (ia_cons (ie_lcD [("name", 2)] rfl sc_is_order_of.nd (id_any (iv_var 0)) (blkOk_by (by kernel_rfl)) (fun _ _ _ _ _ => (ig_set 2 sc_is_order_of.nd)) (fun _ _ _ _ _ => its_nil) (fun _ _ _ _ _ => (iB (fIsiE) fx.n_isinstance boot_isinstance (ia_cons (iv 2) (ia_cons (ity fx.n_str boot_str) ia_nil))))) ia_nil)) (ie_one (vCmp (kEq hr) (iB (fSort) fx.n_sorted boot_sorted (ia_cons (iv 0) ia_nil)) (iB (fSort) fx.n_sorted boot_sorted (ia_cons (iv 1) ia_nil))))))))

theorem c_is_order_of (fx : Fx K cl mg base) : Cal P w K mg base cl "is_order_of" 2 ["value", "names"] F_is_order_of := by
  obtain ⟨f, fd, hm, F⟩ := fx.d_is_order_of
  exact ⟨f, fd, hm, F.kp, F.bindsN fun _ _ _ _ _ _ us hl => match us, hl with | [_, _], _ => rfl, v_is_order_of fx F⟩
theorem v_Wishes_guests (fx : Fx K cl mg base) {f : Addr} {fd : FuncData} (F : FunD K "guests" "Wishes.guests" (defArgs s_Wishes_guests) (defBody s_Wishes_guests) (defScope s_Wishes_guests) [] [] f fd) : FnV P w K mg base cl 1 f fd ["self"] F_Wishes_guests := by
  refine fnv_of F sc_Wishes_guests fun cdv A outer s H E hr hg => ?_
  exact (il_one (is_ret (iT fListE fx.n_list boot_list (ia_cons (ie_fld fx.k_Wishes fx.na_Wishes_own_rankings (iv 0)) ia_nil))))

theorem c_Wishes_guests (fx : Fx K cl mg base) : CalM P w K mg base cl "Wishes" "guests" 1 ["self"] F_Wishes_guests := by
  obtain ⟨f, fd, hm, F⟩ := fx.d_Wishes_guests
  exact ⟨fx.k_Wishes, f, fd, hm, F.bindsN fun _ _ _ _ _ _ us hl => match us, hl with | [_], _ => rfl, v_Wishes_guests fx F⟩
theorem v_need_row (fx : Fx K cl mg base) {f : Addr} {fd : FuncData} (F : FunD K "need_row" "need_row" (defArgs s_need_row) (defBody s_need_row) (defScope s_need_row) [] [] f fd) : FnV P w K mg base cl 3 f fd ["wishes", "row"] F_need_row := by
  refine fnv_of F sc_need_row fun cdv A outer s H E hr hg => ?_
  exact (il_cons (is_if (ib_not (ib_tru (iCall (c_is_order_of fx) hr hg (im_val (iv 1) (im_val (ie_mth0 (c_Wishes_guests fx) hr hg (iv 0)) im_nil))))) (il_one (is_raise0 eb_ValueError (cx_InvalidRow fx) hr)) il_nil)
    (il_one (is_ret (iT fTuple fx.n_tuple boot_tuple (ia_cons (iv 1) ia_nil)))))

theorem c_need_row (fx : Fx K cl mg base) : Cal P w K mg base cl "need_row" 3 ["wishes", "row"] F_need_row := by
  obtain ⟨f, fd, hm, F⟩ := fx.d_need_row
  exact ⟨f, fd, hm, F.kp, F.bindsN fun _ _ _ _ _ _ us hl => match us, hl with | [_, _], _ => rfl, v_need_row fx F⟩
theorem v_Wishes_gifts (fx : Fx K cl mg base) {f : Addr} {fd : FuncData} (F : FunD K "gifts" "Wishes.gifts" (defArgs s_Wishes_gifts) (defBody s_Wishes_gifts) (defScope s_Wishes_gifts) [] [] f fd) : FnV P w K mg base cl 1 f fd ["self"] F_Wishes_gifts := by
  refine fnv_of F sc_Wishes_gifts fun cdv A outer s H E hr hg => ?_
  exact (il_one (is_ret (iT fListE fx.n_list boot_list (ia_cons (ie_fld fx.k_Wishes fx.na_Wishes_own_gifts (iv 0)) ia_nil))))

theorem c_Wishes_gifts (fx : Fx K cl mg base) : CalM P w K mg base cl "Wishes" "gifts" 1 ["self"] F_Wishes_gifts := by
  obtain ⟨f, fd, hm, F⟩ := fx.d_Wishes_gifts
  exact ⟨fx.k_Wishes, f, fd, hm, F.bindsN fun _ _ _ _ _ _ us hl => match us, hl with | [_], _ => rfl, v_Wishes_gifts fx F⟩
theorem v_Wishes_best_of (fx : Fx K cl mg base) {f : Addr} {fd : FuncData} (F : FunD K "best_of" "Wishes.best_of" (defArgs s_Wishes_best_of) (defBody s_Wishes_best_of) (defScope s_Wishes_best_of) [] [] f fd) : FnV P w K mg base cl 1 f fd ["self", "guest", "gifts"] F_Wishes_best_of := by
  refine fnv_of F sc_Wishes_best_of fun cdv A outer s H E hr hg => ?_
  exact (il_cons (is_setLcD 3 [("gift", 4)] rfl sc_Wishes_best_of.nd (id_any (iv_var 2)) (blkOk_by (by kernel_rfl)) (fun _ _ _ _ _ => (ig_set 4 sc_Wishes_best_of.nd)) (fun _ _ _ _ _ => its_nil) (fun _ _ _ _ _ => (ix hr (ix hr (ie_fld fx.k_Wishes fx.na_Wishes_places (iv 0)) (iv 1)) (iv 4))))
    (il_one (is_ret (ie_if (qCmp (kEq hr) (iv 3) (ie_lst im_nil)) ie_non (ix hr (ix hr (ie_fld fx.k_Wishes fx.na_Wishes_own_rankings (iv 0)) (iv 1)) (iB (fMin) fx.n_min boot_min (ia_cons (iv 3) ia_nil)))))))

theorem c_Wishes_best_of (fx : Fx K cl mg base) : CalM P w K mg base cl "Wishes" "best_of" 1 ["self", "guest", "gifts"] F_Wishes_best_of := by
  obtain ⟨f, fd, hm, F⟩ := fx.d_Wishes_best_of
  exact ⟨fx.k_Wishes, f, fd, hm, F.bindsN fun _ _ _ _ _ _ us hl => match us, hl with | [_, _, _], _ => rfl, v_Wishes_best_of fx F⟩
theorem v_choose (fx : Fx K cl mg base) {f : Addr} {fd : FuncData} (F : FunD K "choose" "choose" (defArgs s_choose) (defBody s_choose) (defScope s_choose) [] [] f fd) : FnV P w K mg base cl 4 f fd ["wishes", "row"] F_choose := by
  refine fnv_of F sc_choose fun cdv A outer s H E hr hg => ?_
  exact (il_cons (is_asg (ie_tup (im_own (ie_mth0 (c_Wishes_gifts fx) hr hg (iv 0)) (im_own ie_dnew im_nil))) (ig_tup rfl (igs_cons (ig_set 3 sc_choose.nd) (igs_cons (ig_own 4 sc_choose.nd) igs_nil))))
    (il_cons (is_for (passes_of rfl) rfl (ii_any (iCall (c_need_row fx) hr hg (im_val (iv 0) (im_val (iv 1) im_nil)))) (ig_set 2 sc_choose.nd) (il_cons (is_asg (ie_fzv (ie_mth (c_Wishes_best_of fx) hr hg (iv 0) (im_val (iv 2) (im_val (iv 3) im_nil)))) (ig_put 4 (u1 hr) (ip_name 4) (ies_side (iv 2))))
    (il_one (is_setLcD 3 [("gift", 5)] rfl sc_choose.nd (id_any (iv_var 3)) (blkOk_by (by kernel_rfl)) (fun _ _ _ _ _ => (ig_set 5 sc_choose.nd)) (fun _ _ _ _ _ => (its_one (qCmp (kNe hr) (iv 5) (ie_rdp (ip_ix 4 (u1 hr) (ip_name 4) (ies_side (iv 2)) (fun _ _ => rfl)))))) (fun _ _ _ _ _ => (iv 5))))))
    (il_one (is_ret (ie_dc [("guest", 2)] rfl sc_choose.nd (ii_any (ie_mth0 (c_Wishes_guests fx) hr hg (iv 0))) (blkOk_by (by kernel_rfl)) (fun _ _ _ _ _ => (ig_set 2 sc_choose.nd)) (fun _ _ _ _ _ => its_nil) (fun _ _ _ _ _ => (iv 2)) (fun _ _ _ _ _ => (ie_rdp (ip_ix 4 (u1 hr) (ip_name 4) (ies_side (iv 2)) (fun _ _ => rfl)))))))))

theorem c_choose (fx : Fx K cl mg base) : Cal P w K mg base cl "choose" 4 ["wishes", "row"] F_choose := by
  obtain ⟨f, fd, hm, F⟩ := fx.d_choose
  exact ⟨f, fd, hm, F.kp, F.bindsN fun _ _ _ _ _ _ us hl => match us, hl with | [_, _], _ => rfl, v_choose fx F⟩
theorem v__law_pen (fx : Fx K cl mg base) {f : Addr} {fd : FuncData} (F : FunD K "_law_pen" "_law_pen" (defArgs s__law_pen) (defBody s__law_pen) (defScope s__law_pen) [] [] f fd) : FnV P w K mg base cl 1 f fd ["_law_script"] F__law_pen := by
  refine fnv_of F sc__law_pen fun cdv A outer s H E hr hg => ?_
  exact (il_one (is_ret (ie_dct (iq_cons ie_str (iT fListE fx.n_list boot_list (ia_cons (islice (iv 0) io_no (io_so ie_int)) ia_nil)) (iq_cons ie_str ie_int (iq_cons ie_str ie_int iq_nil))))))

theorem c__law_pen (fx : Fx K cl mg base) : Cal P w K mg base cl "_law_pen" 1 ["_law_script"] F__law_pen := by
  obtain ⟨f, fd, hm, F⟩ := fx.d__law_pen
  exact ⟨f, fd, hm, F.kp, F.bindsN fun _ _ _ _ _ _ us hl => match us, hl with | [_], _ => rfl, v__law_pen fx F⟩
theorem v__law_draw (fx : Fx K cl mg base) {f : Addr} {fd : FuncData} (F : FunD K "_law_draw" "_law_draw" (defArgs s__law_draw) (defBody s__law_draw) (defScope s__law_draw) [] [] f fd) : FnV P w K mg base cl 1 f fd ["_law_pen_here", "_law_many"] F__law_draw := by
  refine fnv_of F sc__law_draw fun cdv A outer s H E hr hg => ?_
  exact (il_cons (is_if (qCmp kGt (ie_rdp (ip_ix 0 (u1 hr) (ip_name 0) (ies_side ie_str) (fun _ _ => rfl))) ie_int) (il_cons (is_set 5 sc__law_draw.nd (bMod (ie_rdp (ip_ix 0 (u1 hr) (ip_name 0) (ies_side ie_str) (fun _ _ => rfl))) (iv 1)))
    (il_cons (is_asg (ie_fzv (bDiv (ie_rdp (ip_ix 0 (u1 hr) (ip_name 0) (ies_side ie_str) (fun _ _ => rfl))) (iv 1))) (ig_put 0 (u1 hr) (ip_name 0) (ies_side ie_str)))
    (il_one (is_ret (iv 5))))) il_nil)
    (il_cons (is_set 2 sc__law_draw.nd (ie_rdp (ip_ix 0 (u1 hr) (ip_name 0) (ies_side ie_str) (fun _ _ => rfl))))
    (il_cons (is_asg (ie_fzv (bAdd (iv 2) ie_int)) (ig_put 0 (u1 hr) (ip_name 0) (ies_side ie_str)))
    (il_cons (is_set 3 sc__law_draw.nd (ie_if (qCmp (kNe hr) (ie_rdp (ip_ix 0 (u1 hr) (ip_name 0) (ies_side ie_str) (fun _ _ => rfl))) (ie_lst im_nil)) (ix hr (ie_rdp (ip_ix 0 (u1 hr) (ip_name 0) (ies_side ie_str) (fun _ _ => rfl))) (bMod (iv 2) (iB (fLenE) fx.n_len boot_len (ia_cons (ie_rdp (ip_ix 0 (u1 hr) (ip_name 0) (ies_side ie_str) (fun _ _ => rfl))) ia_nil)))) (bAdd (bMulE ie_int (iv 2)) ie_int)))
    (il_cons (is_if (iw_and (qCmp kLt (iv 2) (iB (fLenE) fx.n_len boot_len (ia_cons (ie_rdp (ip_ix 0 (u1 hr) (ip_name 0) (ies_side ie_str) (fun _ _ => rfl))) ia_nil))) (iw_and1 (qCmp kGe (iB (fAbs) fx.n_abs boot_abs (ia_cons (iv 3) ia_nil)) (bPow ie_int ie_int)))).ib (il_cons (is_asg (ie_fzv (bDiv (bSub (iB (fAbs) fx.n_abs boot_abs (ia_cons (iv 3) ia_nil)) (bPow ie_int ie_int)) (iv 1))) (ig_put 0 (u1 hr) (ip_name 0) (ies_side ie_str)))
    (il_one (is_ret (bMod (bSub (iB (fAbs) fx.n_abs boot_abs (ia_cons (iv 3) ia_nil)) (bPow ie_int ie_int)) (iv 1))))) il_nil)
    (il_cons (is_set 4 sc__law_draw.nd (bMod (bAdd (bAdd (bAdd (bMulE (bMod (iv 3) ie_int) ie_int) (bMulE (bMulE ie_int (iv 2)) (iv 2))) (bMulE ie_int (iv 2))) ie_int) ie_int))
    (il_cons (is_set 4 sc__law_draw.nd (bMod (bAdd (bAdd (bAdd (bMulE (iv 4) (iv 4)) (bMulE ie_int (iv 4))) (bMulE ie_int (iv 2))) ie_int) ie_int))
    (il_one (is_ret (bMod (bDiv (bMod (bMulE (iv 4) (bAdd (iv 4) ie_int)) ie_int) ie_int) (iv 1)))))))))))

theorem c__law_draw (fx : Fx K cl mg base) : Cal P w K mg base cl "_law_draw" 1 ["_law_pen_here", "_law_many"] F__law_draw := by
  obtain ⟨f, fd, hm, F⟩ := fx.d__law_draw
  exact ⟨f, fd, hm, F.kp, F.bindsN fun _ _ _ _ _ _ us hl => match us, hl with | [_, _], _ => rfl, v__law_draw fx F⟩
theorem v_is_name (fx : Fx K cl mg base) {f : Addr} {fd : FuncData} (F : FunD K "is_name" "is_name" (defArgs s_is_name) (defBody s_is_name) (defScope s_is_name) [] [] f fd) : FnV P w K mg base cl 1 f fd ["value"] F_is_name := by
  refine fnv_of F sc_is_name fun cdv A outer s H E hr hg => ?_
  exact (il_cons (is_if (iw_or (ib_not (ib_tru (iB (fIsiE) fx.n_isinstance boot_isinstance (ia_cons (iv 0) (ia_cons (ity fx.n_str boot_str) ia_nil))))) (iw_or1 (ib_not (qChn kLe kLe ie_int (iB (fLenE) fx.n_len boot_len (ia_cons (iv 0) ia_nil)) (igint fx.c_LONGEST_NAME))))).ib (il_one (is_ret ie_bl)) il_nil)
    (il_one (is_ret (iB (fAll) fx.n_all boot_all (ia_cons (ie_lcD [("letter", 1)] rfl sc_is_name.nd (id_any (iv_var 0)) (blkOk_by (by kernel_rfl)) (fun _ _ _ _ _ => (ig_set 1 sc_is_name.nd)) (fun _ _ _ _ _ => its_nil) (fun _ _ _ _ _ => (vCmp (kIn hr) (iv 1) (igstr fx.c_LETTERS)))) ia_nil)))))

theorem c_is_name (fx : Fx K cl mg base) : Cal P w K mg base cl "is_name" 1 ["value"] F_is_name := by
  obtain ⟨f, fd, hm, F⟩ := fx.d_is_name
  exact ⟨f, fd, hm, F.kp, F.bindsN fun _ _ _ _ _ _ us hl => match us, hl with | [_], _ => rfl, v_is_name fx F⟩
theorem v_are_names (fx : Fx K cl mg base) {f : Addr} {fd : FuncData} (F : FunD K "are_names" "are_names" (defArgs s_are_names) (defBody s_are_names) (defScope s_are_names) [] [] f fd) : FnV P w K mg base cl 2 f fd ["value"] F_are_names := by
  refine fnv_of F sc_are_names fun cdv A outer s H E hr hg => ?_
  exact (il_cons (is_if (iw_or (ib_not (ib_tru (iCall (c_is_sequence fx) hr hg (im_val (iv 0) im_nil)))) (iw_or1 (ib_not (ib_tru (iB (fAll) fx.n_all boot_all (ia_cons (ie_lcD [("name", 1)] rfl sc_are_names.nd (id_any (iv_var 0)) (blkOk_by (by kernel_rfl)) (fun _ _ _ _ _ => (ig_set 1 sc_are_names.nd)) (fun _ _ _ _ _ => its_nil) (fun _ _ _ _ _ => (iCall (c_is_name fx) hr hg (im_val (iv 1) im_nil)))) ia_nil)))))).ib (il_one (is_ret ie_bl)) il_nil)
    (il_one (is_ret (vCmp (kEq hr) (ie_lset fx.n_len fx.n_set (iv 0)) (iB (fLenE) fx.n_len boot_len (ia_cons (iv 0) ia_nil))))))

theorem c_are_names (fx : Fx K cl mg base) : Cal P w K mg base cl "are_names" 2 ["value"] F_are_names := by
  obtain ⟨f, fd, hm, F⟩ := fx.d_are_names
  exact ⟨f, fd, hm, F.kp, F.bindsN fun _ _ _ _ _ _ us hl => match us, hl with | [_], _ => rfl, v_are_names fx F⟩
theorem v_need_gifts (fx : Fx K cl mg base) {f : Addr} {fd : FuncData} (F : FunD K "need_gifts" "need_gifts" (defArgs s_need_gifts) (defBody s_need_gifts) (defScope s_need_gifts) [] [] f fd) : FnV P w K mg base cl 3 f fd ["gifts"] F_need_gifts := by
  refine fnv_of F sc_need_gifts fun cdv A outer s H E hr hg => ?_
  exact (il_cons (is_if (ib_not (ib_tru (iCall (c_are_names fx) hr hg (im_val (iv 0) im_nil)))) (il_one is_no) il_nil)
    (il_one (is_if (qCmp kGt (iB (fLenE) fx.n_len boot_len (ia_cons (iv 0) ia_nil)) (igint fx.c_GIFTS)) (il_one is_no) il_nil)))

theorem c_need_gifts (fx : Fx K cl mg base) : Cal P w K mg base cl "need_gifts" 3 ["gifts"] F_need_gifts := by
  obtain ⟨f, fd, hm, F⟩ := fx.d_need_gifts
  exact ⟨f, fd, hm, F.kp, F.bindsN fun _ _ _ _ _ _ us hl => match us, hl with | [_], _ => rfl, v_need_gifts fx F⟩
theorem v_need_rankings (fx : Fx K cl mg base) {f : Addr} {fd : FuncData} (F : FunD K "need_rankings" "need_rankings" (defArgs s_need_rankings) (defBody s_need_rankings) (defScope s_need_rankings) [] [] f fd) : FnV P w K mg base cl 3 f fd ["gifts", "rankings"] F_need_rankings := by
  refine fnv_of F sc_need_rankings fun cdv A outer s H E hr hg => ?_
  exact (il_cons (is_if (ib_not (ib_tru (iB (fIsiE) fx.n_isinstance boot_isinstance (ia_cons (iv 1) (ia_cons (ity fx.n_dict boot_dict) ia_nil))))) (il_one is_no) il_nil)
    (il_cons (is_forD (passes_of rfl) rfl (id_any (iv_var 1)) (ig_set 2 sc_need_rankings.nd) (il_one (is_if (ib_not (ib_tru (iCall (c_is_name fx) hr hg (im_val (iv 2) im_nil)))) (il_one is_no) il_nil)))
    (il_cons (is_if (qCmp kGt (iB (fLenE) fx.n_len boot_len (ia_cons (iv 1) ia_nil)) (igint fx.c_GUESTS)) (il_one is_no) il_nil)
    (il_one (is_forD (passes_of rfl) rfl (id_any (iv_var 1)) (ig_set 2 sc_need_rankings.nd) (il_one (is_if (ib_not (ib_tru (iCall (c_is_order_of fx) hr hg (im_val (ix hr (iv 1) (iv 2)) (im_val (iv 0) im_nil))))) (il_one is_no) il_nil)))))))

theorem c_need_rankings (fx : Fx K cl mg base) : Cal P w K mg base cl "need_rankings" 3 ["gifts", "rankings"] F_need_rankings := by
  obtain ⟨f, fd, hm, F⟩ := fx.d_need_rankings
  exact ⟨f, fd, hm, F.kp, F.bindsN fun _ _ _ _ _ _ us hl => match us, hl with | [_, _], _ => rfl, v_need_rankings fx F⟩
theorem v_places_of (fx : Fx K cl mg base) {f : Addr} {fd : FuncData} (F : FunD K "places_of" "places_of" (defArgs s_places_of) (defBody s_places_of) (defScope s_places_of) [] [] f fd) : FnV P w K mg base cl 1 f fd ["ranking"] F_places_of := by
  refine fnv_of F sc_places_of fun cdv A outer s H E hr hg => ?_
  exact (il_one (is_ret (ie_dc [("at", 1), ("gift", 2)] rfl sc_places_of.nd (ii_enum fx.n_enumerate (ia_cons (iv 0) ia_nil)) (blkOk_by (by kernel_rfl)) (fun _ _ _ _ _ => (ig_tup rfl (igs_cons (ig_set 1 sc_places_of.nd) (igs_cons (ig_set 2 sc_places_of.nd) igs_nil)))) (fun _ _ _ _ _ => its_nil) (fun _ _ _ _ _ => (iv 2)) (fun _ _ _ _ _ => (iv 1)))))

theorem c_places_of (fx : Fx K cl mg base) : Cal P w K mg base cl "places_of" 1 ["ranking"] F_places_of := by
  obtain ⟨f, fd, hm, F⟩ := fx.d_places_of
  exact ⟨f, fd, hm, F.kp, F.bindsN fun _ _ _ _ _ _ us hl => match us, hl with | [_], _ => rfl, v_places_of fx F⟩
theorem v_Wishes___init__ (fx : Fx K cl mg base) {f : Addr} {fd : FuncData} (F : FunD K "__init__" "Wishes.__init__" (defArgs s_Wishes___init__) (defBody s_Wishes___init__) (defScope s_Wishes___init__) [] [] f fd) : FnV P w K mg base cl 4 f fd ["self", "gifts", "rankings"] F_Wishes___init__ := by
  refine fnv_of F sc_Wishes___init__ fun cdv A outer s H E hr hg => ?_
  exact (il_cons (is_expr (iCall (c_need_gifts fx) hr hg (im_val (iv 1) im_nil)))
    (il_cons (is_expr (iCall (c_need_rankings fx) hr hg (im_val (iv 1) (im_val (iv 2) im_nil))))
    (il_cons (is_fld fx.k_Wishes fx.na_Wishes_own_gifts (ip_name 0) (ie_fzv (iT fTuple fx.n_tuple boot_tuple (ia_cons (iv 1) ia_nil))))
    (il_cons (is_fld fx.k_Wishes fx.na_Wishes_own_rankings (ip_name 0) (ie_fzv (ie_dcD [("guest", 3)] rfl sc_Wishes___init__.nd (id_any (iv_var 2)) (blkOk_by (by kernel_rfl)) (fun _ _ _ _ _ => (ig_set 3 sc_Wishes___init__.nd)) (fun _ _ _ _ _ => its_nil) (fun _ _ _ _ _ => (iv 3)) (fun _ _ _ _ _ => (iT fTuple fx.n_tuple boot_tuple (ia_cons (ix hr (iv 2) (iv 3)) ia_nil))))))
    (il_one (is_fld fx.k_Wishes fx.na_Wishes_places (ip_name 0) (ie_fzv (ie_dcD [("guest", 3)] rfl sc_Wishes___init__.nd (id_any (iv_var 2)) (blkOk_by (by kernel_rfl)) (fun _ _ _ _ _ => (ig_set 3 sc_Wishes___init__.nd)) (fun _ _ _ _ _ => its_nil) (fun _ _ _ _ _ => (iv 3)) (fun _ _ _ _ _ => (iCall (c_places_of fx) hr hg (im_val (ix hr (ie_rdp (ip_fld fx.k_Wishes fx.na_Wishes_own_rankings (ip_name 0))) (iv 3)) im_nil)))))))))))

theorem c_Wishes___init__ (fx : Fx K cl mg base) : CalC P w K mg base cl "Wishes" 4 ["self", "gifts", "rankings"] F_Wishes___init__ := by
  obtain ⟨f, fd, hm, F⟩ := fx.d_Wishes___init__
  exact ⟨fx.g_Wishes, f, fd, hm, F.bindsN fun _ _ _ _ _ _ us hl => match us, hl with | [_, _, _], _ => rfl, v_Wishes___init__ fx F⟩
theorem v__law_wishes (fx : Fx K cl mg base) {f : Addr} {fd : FuncData} (F : FunD K "_law_wishes" "_law_wishes" (defArgs s__law_wishes) (defBody s__law_wishes) (defScope s__law_wishes) [] [] f fd) : FnV P w K mg base cl 6 f fd ["_law_raw_here"] F__law_wishes := by
  refine fnv_of F sc__law_wishes fun cdv A outer s H E hr hg => ?_
  exact (il_one (is_ret (ie_mk (c_Wishes___init__ fx) hr hg (im_val (iT fListE fx.n_list boot_list (ia_cons (ix hr (iv 0) ie_int) ia_nil)) (im_val (iT fDictE fx.n_dict boot_dict (ia_cons (ie_lcD [("_law_guest", 1)] rfl sc__law_wishes.nd (id_any (iv_ix (iv_var 0))) (blkOk_by (by kernel_rfl)) (fun _ _ _ _ _ => (ig_set 1 sc__law_wishes.nd)) (fun _ _ _ _ _ => its_nil) (fun _ _ _ _ _ => (ie_tup (im_own (iv 1) (im_own (iT fTuple fx.n_tuple boot_tuple (ia_cons (ix hr (ix hr (iv 0) ie_int) (iv 1)) ia_nil)) im_nil))))) ia_nil)) im_nil)))))

theorem c__law_wishes (fx : Fx K cl mg base) : Cal P w K mg base cl "_law_wishes" 6 ["_law_raw_here"] F__law_wishes := by
  obtain ⟨f, fd, hm, F⟩ := fx.d__law_wishes
  exact ⟨f, fd, hm, F.kp, F.bindsN fun _ _ _ _ _ _ us hl => match us, hl with | [_], _ => rfl, v__law_wishes fx F⟩
theorem v__law_best (fx : Fx K cl mg base) {f : Addr} {fd : FuncData} (F : FunD K "_law_best" "_law_best" (defArgs s__law_best) (defBody s__law_best) (defScope s__law_best) [] [] f fd) : FnV P w K mg base cl 1 f fd ["_law_raw_here", "_law_guest", "_law_gifts"] F__law_best := by
  refine fnv_of F sc__law_best fun cdv A outer s H E hr hg => ?_
  exact (il_one (is_ret (ix hr (bAdd (ie_lc [("_law_gift", 3)] rfl sc__law_best.nd (ii_any (ix hr (ix hr (iv 0) ie_int) (iv 1))) (blkOk_by (by kernel_rfl)) (fun _ _ _ _ _ => (ig_set 3 sc__law_best.nd)) (fun _ _ _ _ _ => (its_one (qCmp (kIn hr) (iv 3) (iv 2)))) (fun _ _ _ _ _ => (iv 3))) (ie_lst (im_own ie_non im_nil))) ie_int)))

theorem c__law_best (fx : Fx K cl mg base) : Cal P w K mg base cl "_law_best" 1 ["_law_raw_here", "_law_guest", "_law_gifts"] F__law_best := by
  obtain ⟨f, fd, hm, F⟩ := fx.d__law_best
  exact ⟨f, fd, hm, F.kp, F.bindsN fun _ _ _ _ _ _ us hl => match us, hl with | [_, _, _], _ => rfl, v__law_best fx F⟩
theorem v__law_choose (fx : Fx K cl mg base) {f : Addr} {fd : FuncData} (F : FunD K "_law_choose" "_law_choose" (defArgs s__law_choose) (defBody s__law_choose) (defScope s__law_choose) [] [] f fd) : FnV P w K mg base cl 2 f fd ["_law_raw_here", "_law_row"] F__law_choose := by
  refine fnv_of F sc__law_choose fun cdv A outer s H E hr hg => ?_
  exact (il_cons (is_asg (ie_tup (im_own (iT fListE fx.n_list boot_list (ia_cons (ix hr (iv 0) ie_int) ia_nil)) (im_own ie_dnew im_nil))) (ig_tup rfl (igs_cons (ig_set 3 sc__law_choose.nd) (igs_cons (ig_own 4 sc__law_choose.nd) igs_nil))))
    (il_cons (is_forD (passes_of rfl) rfl (id_any (iv_var 1)) (ig_set 2 sc__law_choose.nd) (il_cons (is_asg (ie_fzv (iCall (c__law_best fx) hr hg (im_val (iv 0) (im_val (iv 2) (im_val (iv 3) im_nil))))) (ig_put 4 (u1 hr) (ip_name 4) (ies_side (iv 2))))
    (il_one (is_setLcD 3 [("_law_gift", 5)] rfl sc__law_choose.nd (id_any (iv_var 3)) (blkOk_by (by kernel_rfl)) (fun _ _ _ _ _ => (ig_set 5 sc__law_choose.nd)) (fun _ _ _ _ _ => (its_one (qCmp (kNe hr) (iv 5) (ie_rdp (ip_ix 4 (u1 hr) (ip_name 4) (ies_side (iv 2)) (fun _ _ => rfl)))))) (fun _ _ _ _ _ => (iv 5))))))
    (il_one (is_ret (iT fDictE fx.n_dict boot_dict (ia_cons (ie_lcD [("_law_guest", 2)] rfl sc__law_choose.nd (id_any (iv_ix (iv_var 0))) (blkOk_by (by kernel_rfl)) (fun _ _ _ _ _ => (ig_set 2 sc__law_choose.nd)) (fun _ _ _ _ _ => its_nil) (fun _ _ _ _ _ => (ie_tup (im_own (iv 2) (im_own (ie_rdp (ip_ix 4 (u1 hr) (ip_name 4) (ies_side (iv 2)) (fun _ _ => rfl))) im_nil))))) ia_nil))))))

theorem c__law_choose (fx : Fx K cl mg base) : Cal P w K mg base cl "_law_choose" 2 ["_law_raw_here", "_law_row"] F__law_choose := by
  obtain ⟨f, fd, hm, F⟩ := fx.d__law_choose
  exact ⟨f, fd, hm, F.kp, F.bindsN fun _ _ _ _ _ _ us hl => match us, hl with | [_, _], _ => rfl, v__law_choose fx F⟩
theorem v__law_pick (fx : Fx K cl mg base) {f : Addr} {fd : FuncData} (F : FunD K "_law_pick" "_law_pick" (defArgs s__law_pick) (defBody s__law_pick) (defScope s__law_pick) [] [] f fd) : FnV P w K mg base cl 2 f fd ["_law_pen_here", "_law_some"] F__law_pick := by
  refine fnv_of F sc__law_pick fun cdv A outer s H E hr hg => ?_
  exact (il_one (is_ret (ix hr (iv 1) (iCall (c__law_draw fx) hr hg (im_late 0 (im_val (iB (fLenE) fx.n_len boot_len (ia_cons (iv 1) ia_nil)) im_nil))))))

theorem c__law_pick (fx : Fx K cl mg base) : Cal P w K mg base cl "_law_pick" 2 ["_law_pen_here", "_law_some"] F__law_pick := by
  obtain ⟨f, fd, hm, F⟩ := fx.d__law_pick
  exact ⟨f, fd, hm, F.kp, F.bindsN fun _ _ _ _ _ _ us hl => match us, hl with | [_, _], _ => rfl, v__law_pick fx F⟩
theorem v__law_odd (fx : Fx K cl mg base) {f : Addr} {fd : FuncData} (F : FunD K "_law_odd" "_law_odd" (defArgs s__law_odd) (defBody s__law_odd) (defScope s__law_odd) [] [] f fd) : FnV P w K mg base cl 3 f fd ["_law_pen_here"] F__law_odd := by
  refine fnv_of F sc__law_odd fun cdv A outer s H E hr hg => ?_
  exact (il_cons (is_set 1 sc__law_odd.nd (ie_lst (im_own ie_non (im_own ie_bl (im_own ie_bl (im_own ie_int (im_own ie_int (im_own (uNeg ie_int) (im_own ie_int (im_own (bPow ie_int ie_int) (im_own ie_str (im_own ie_str (im_own ie_str (im_own ie_str (im_own ie_str (im_own ie_str (im_own ie_str (im_own (ie_tup im_nil) (im_own (ie_tup (im_own ie_str im_nil)) im_nil)))))))))))))))))))
    (il_one (is_ret (iCall (c__law_pick fx) hr hg (im_late 0 (im_val (bAdd (iv 1) (ie_lst (im_own (ie_lst im_nil) (im_own (ie_lst (im_own ie_str im_nil)) (im_own ie_dnew (im_own (ie_dct (iq_cons ie_str ie_int iq_nil)) (im_own (ie_tup (im_own (ie_tup im_nil) im_nil)) (im_own (ie_tup (im_own ie_int im_nil)) (im_own (ie_lst (im_own ie_int im_nil)) (im_own (ie_tup (im_own ie_non im_nil)) (im_own (ie_lst (im_own (ie_lst im_nil) im_nil)) (im_own (ie_tup (im_own ie_str (im_own ie_str im_nil))) im_nil)))))))))))) im_nil))))))

theorem c__law_odd (fx : Fx K cl mg base) : Cal P w K mg base cl "_law_odd" 3 ["_law_pen_here"] F__law_odd := by
  obtain ⟨f, fd, hm, F⟩ := fx.d__law_odd
  exact ⟨f, fd, hm, F.kp, F.bindsN fun _ _ _ _ _ _ us hl => match us, hl with | [_], _ => rfl, v__law_odd fx F⟩
theorem v__law_is_order (fx : Fx K cl mg base) {f : Addr} {fd : FuncData} (F : FunD K "_law_is_order" "_law_is_order" (defArgs s__law_is_order) (defBody s__law_is_order) (defScope s__law_is_order) [] [] f fd) : FnV P w K mg base cl 1 f fd ["_law_value", "_law_names_here"] F__law_is_order := by
  refine fnv_of F sc__law_is_order fun cdv A outer s H E hr hg => ?_
  exact (il_cons (is_if (iw_or (ib_not (ib_tru (iB (fIsiE) fx.n_isinstance boot_isinstance (ia_cons (iv 0) (ia_cons (ie_tup (im_own (ity fx.n_list boot_list) (im_own (ity fx.n_tuple boot_tuple) im_nil))) ia_nil))))) (iw_or1 (qCmp (kNe hr) (iB (fLenE) fx.n_len boot_len (ia_cons (iv 0) ia_nil)) (iB (fLenE) fx.n_len boot_len (ia_cons (iv 1) ia_nil))))).ib (il_one (is_ret ie_bl)) il_nil)
    (il_one (is_ret (vCmp (kEq hr) (ie_lcD [("_law_name", 2)] rfl sc__law_is_order.nd (id_any (iv_var 1)) (blkOk_by (by kernel_rfl)) (fun _ _ _ _ _ => (ig_set 2 sc__law_is_order.nd)) (fun _ _ _ _ _ => (its_one (qCmp (kNe hr) (ie_lcD [("_law_other", 3)] rfl sc__law_is_order.nd (id_any (iv_var 0)) (blkOk_by (by kernel_rfl)) (fun _ _ _ _ _ => (ig_set 3 sc__law_is_order.nd)) (fun _ _ _ _ _ => (its_one (qCmp (kEq hr) (iB (fRepr hr hg fx.sys) fx.n_repr boot_repr (ia_cons (iv 3) ia_nil)) (iB (fRepr hr hg fx.sys) fx.n_repr boot_repr (ia_cons (iv 2) ia_nil))))) (fun _ _ _ _ _ => (iv 3))) (ie_lst (im_own (iv 2) im_nil))))) (fun _ _ _ _ _ => (iv 2))) (ie_lst im_nil)))))

theorem c__law_is_order (fx : Fx K cl mg base) : Cal P w K mg base cl "_law_is_order" 1 ["_law_value", "_law_names_here"] F__law_is_order := by
  obtain ⟨f, fd, hm, F⟩ := fx.d__law_is_order
  exact ⟨f, fd, hm, F.kp, F.bindsN fun _ _ _ _ _ _ us hl => match us, hl with | [_, _], _ => rfl, v__law_is_order fx F⟩
theorem v__law_shuffled (fx : Fx K cl mg base) {f : Addr} {fd : FuncData} (F : FunD K "_law_shuffled" "_law_shuffled" (defArgs s__law_shuffled) (defBody s__law_shuffled) (defScope s__law_shuffled) [] [] f fd) : FnV P w K mg base cl 2 f fd ["_law_pen_here", "_law_some"] F__law_shuffled := by
  refine fnv_of F sc__law_shuffled fun cdv A outer s H E hr hg => ?_
  exact (il_cons (is_par2 2 3 true true rfl sc__law_shuffled.nd (im_own (iT fListE fx.n_list boot_list (ia_cons (iv 1) ia_nil)) (im_own (ie_lst im_nil) im_nil)))
    (il_cons (is_while (passes_of rfl) (ib_peek (qCmp (kNe hr) (iv 2) (ie_lst im_nil))) (il_one (is_expr (mAppendR 3 (ip_name 3) (ims_side (im_val (mPopR 2 (ip_name 2) (ims_one (ies_callQ 2 (c__law_draw fx) hr hg (imq_late 0 (imq_peek (iB (fLenE) fx.n_len boot_len (ia_cons (iv 2) ia_nil)) imq_nil))))) im_nil))))))
    (il_one (is_ret (imv 3)))))

theorem c__law_shuffled (fx : Fx K cl mg base) : Cal P w K mg base cl "_law_shuffled" 2 ["_law_pen_here", "_law_some"] F__law_shuffled := by
  obtain ⟨f, fd, hm, F⟩ := fx.d__law_shuffled
  exact ⟨f, fd, hm, F.kp, F.bindsN fun _ _ _ _ _ _ us hl => match us, hl with | [_, _], _ => rfl, v__law_shuffled fx F⟩
theorem v__law_names (fx : Fx K cl mg base) {f : Addr} {fd : FuncData} (F : FunD K "_law_names" "_law_names" (defArgs s__law_names) (defBody s__law_names) (defScope s__law_names) [] [] f fd) : FnV P w K mg base cl 3 f fd ["_law_pen_here", "_law_many"] F__law_names := by
  refine fnv_of F sc__law_names fun cdv A outer s H E hr hg => ?_
  exact (il_cons (is_set 2 sc__law_names.nd ie_str)
    (il_cons (is_set 3 sc__law_names.nd (mJoinR ie_str (ia_cons (ie_lc [("_law_k", 4)] rfl sc__law_names.nd (ii_range1 fx.n_range (ia_cons (bAdd ie_int (iCall (c__law_draw fx) hr hg (im_late 0 (im_val ie_int im_nil)))) ia_nil)) (blkOk_by (by kernel_rfl)) (fun _ _ _ _ _ => (ig_set 4 sc__law_names.nd)) (fun _ _ _ _ _ => its_nil) (fun _ _ _ _ _ => (iCall (c__law_pick fx) hr hg (im_late 0 (im_val (iv 2) im_nil))))) ia_nil)))
    (il_cons (is_par3 5 6 7 false false false rfl sc__law_names.nd (im_own (iCall (c__law_draw fx) hr hg (im_late 0 (im_val (iB (fLenE) fx.n_len boot_len (ia_cons (iv 3) ia_nil)) im_nil))) (im_own (iCall (c__law_draw fx) hr hg (im_late 0 (im_val ie_int im_nil))) (im_own (iCall (c__law_draw fx) hr hg (im_late 0 (im_val ie_int im_nil))) im_nil))))
    (il_cons (is_par2 8 9 false true rfl sc__law_names.nd (im_own (iCall (c__law_pick fx) hr hg (im_late 0 (im_val (ie_lst (im_own ie_int (im_own ie_int (im_own ie_int (im_own ie_int (im_own ie_int (im_own ie_int (im_own ie_int (im_own ie_int (im_own ie_int (im_own ie_int (im_own ie_int (im_own ie_int im_nil))))))))))))) im_nil))) (im_own (ie_lst im_nil) im_nil)))
    (il_cons (is_for (passes_of rfl) rfl (ii_range1 fx.n_range (ia_cons (iv 1) ia_nil)) (ig_set 4 sc__law_names.nd) (il_cons (is_set 10 sc__law_names.nd (ie_if (qCmp (kEq hr) (iv 7) ie_int) (islice (iv 3) (io_so (bAdd (iv 5) ie_int)) io_no) (islice (islice (iv 3) (io_so (bAdd (iv 5) ie_int)) io_no) io_no (io_so (bMod (iv 4) ie_int)))))
    (il_one (is_expr (mAppendR 9 (ip_name 9) (ims_side (im_val (bAdd (bAdd (islice (iv 3) io_no (io_so (iv 5))) (ix hr (iv 2) (bMod (bAdd (iv 6) (bMulE (iv 8) (iv 4))) ie_int))) (iv 10)) im_nil)))))))
    (il_one (is_ret (imv 9))))))))

theorem c__law_names (fx : Fx K cl mg base) : Cal P w K mg base cl "_law_names" 3 ["_law_pen_here", "_law_many"] F__law_names := by
  obtain ⟨f, fd, hm, F⟩ := fx.d__law_names
  exact ⟨f, fd, hm, F.kp, F.bindsN fun _ _ _ _ _ _ us hl => match us, hl with | [_, _], _ => rfl, v__law_names fx F⟩
theorem v__law_ranking (fx : Fx K cl mg base) {f : Addr} {fd : FuncData} (F : FunD K "_law_ranking" "_law_ranking" (defArgs s__law_ranking) (defBody s__law_ranking) (defScope s__law_ranking) [] [] f fd) : FnV P w K mg base cl 3 f fd ["_law_pen_here", "_law_gifts", "_law_known"] F__law_ranking := by
  refine fnv_of F sc__law_ranking fun cdv A outer s H E hr hg => ?_
  exact (il_cons (is_set 3 sc__law_ranking.nd (iCall (c__law_draw fx) hr hg (im_late 0 (im_val ie_int im_nil))))
    (il_cons (is_if (iw_or (qCmp (kEq hr) (iv 3) ie_int) (iw_or1 (qCmp (kEq hr) (iv 2) (ie_lst im_nil)))).ib (il_one (is_ret (iCall (c__law_shuffled fx) hr hg (im_late 0 (im_val (iv 1) im_nil))))) il_nil)
    (il_cons (is_own 4 sc__law_ranking.nd (iT fListE fx.n_list boot_list (ia_cons (iCall (c__law_pick fx) hr hg (im_late 0 (im_val (iv 2) im_nil))) ia_nil)))
    (il_cons (is_if (ib_peek (iw_and (qCmp (kEq hr) (iv 3) ie_int) (iw_and1 (qCmp kGt (iB (fLenE) fx.n_len boot_len (ia_cons (iv 4) ia_nil)) ie_int))).ib) (il_cons (is_set 5 sc__law_ranking.nd (iCall (c__law_draw fx) hr hg (im_late 0 (im_val (ie_peek (bSub (iB (fLenE) fx.n_len boot_len (ia_cons (iv 4) ia_nil)) ie_int)) im_nil))))
    (il_one (is_asg (ie_kf (ie_tup (im_own (ie_rdp (ip_ix 4 (u1 hr) (ip_name 4) (ies_side (bAdd (iv 5) ie_int)) (fun _ _ => rfl))) (im_own (ie_rdp (ip_ix 4 (u1 hr) (ip_name 4) (ies_side (iv 5)) (fun _ _ => rfl))) im_nil)))) (ig_tup rfl (igs_cons (ig_put 4 (u1 hr) (ip_name 4) (ies_side (iv 5))) (igs_cons (ig_put 4 (u1 hr) (ip_name 4) (ies_side (bAdd (iv 5) ie_int))) igs_nil)))))) il_nil)
    (il_one (is_ret (imv 4)))))))

theorem c__law_ranking (fx : Fx K cl mg base) : Cal P w K mg base cl "_law_ranking" 3 ["_law_pen_here", "_law_gifts", "_law_known"] F__law_ranking := by
  obtain ⟨f, fd, hm, F⟩ := fx.d__law_ranking
  exact ⟨f, fd, hm, F.kp, F.bindsN fun _ _ _ _ _ _ us hl => match us, hl with | [_, _, _], _ => rfl, v__law_ranking fx F⟩
theorem v__law_raw (fx : Fx K cl mg base) {f : Addr} {fd : FuncData} (F : FunD K "_law_raw" "_law_raw" (defArgs s__law_raw) (defBody s__law_raw) (defScope s__law_raw) [] [] f fd) : FnV P w K mg base cl 4 f fd ["_law_pen_here", "_law_guests", "_law_gifts"] F__law_raw := by
  refine fnv_of F sc__law_raw fun cdv A outer s H E hr hg => ?_
  exact (il_cons (is_par2 4 5 false true rfl sc__law_raw.nd (im_own (iCall (c__law_names fx) hr hg (im_late 0 (im_val (iv 2) im_nil))) (im_own ie_dnew im_nil)))
    (il_cons (is_for (passes_of rfl) rfl (ii_any (iCall (c__law_names fx) hr hg (im_late 0 (im_val (iv 1) im_nil)))) (ig_set 3 sc__law_raw.nd) (il_one (is_asg (ie_fzv (iCall (c__law_ranking fx) hr hg (im_late 0 (im_val (iv 4) (im_val (ie_lvp fx.n_list (ip_name 5)) im_nil))))) (ig_put 5 (u1 hr) (ip_name 5) (ies_side (iv 3))))))
    (il_one (is_ret (ie_tup (im_own (iv 4) (im_own (imv 5) im_nil)))))))

theorem c__law_raw (fx : Fx K cl mg base) : Cal P w K mg base cl "_law_raw" 4 ["_law_pen_here", "_law_guests", "_law_gifts"] F__law_raw := by
  obtain ⟨f, fd, hm, F⟩ := fx.d__law_raw
  exact ⟨f, fd, hm, F.kp, F.bindsN fun _ _ _ _ _ _ us hl => match us, hl with | [_, _, _], _ => rfl, v__law_raw fx F⟩
theorem v__law_begin (fx : Fx K cl mg base) {f : Addr} {fd : FuncData} (F : FunD K "_law_begin" "_law_begin" (defArgs s__law_begin) (defBody s__law_begin) (defScope s__law_begin) [] [] f fd) : FnV P w K mg base cl 5 f fd ["_law_pen_here", "_law_guests", "_law_gifts"] F__law_begin := by
  refine fnv_of F sc__law_begin fun cdv A outer s H E hr hg => ?_
  exact (il_cons (is_set 3 sc__law_begin.nd (iCall (c__law_raw fx) hr hg (im_late 0 (im_val (iv 1) (im_val (iv 2) im_nil)))))
    (il_one (is_ret (ie_tup (im_own (iv 3) (im_own (iT fTuple fx.n_tuple boot_tuple (ia_cons (iCall (c__law_shuffled fx) hr hg (im_late 0 (im_val (iT fListE fx.n_list boot_list (ia_cons (ix hr (iv 3) ie_int) ia_nil)) im_nil))) ia_nil)) im_nil))))))

theorem c__law_begin (fx : Fx K cl mg base) : Cal P w K mg base cl "_law_begin" 5 ["_law_pen_here", "_law_guests", "_law_gifts"] F__law_begin := by
  obtain ⟨f, fd, hm, F⟩ := fx.d__law_begin
  exact ⟨f, fd, hm, F.kp, F.bindsN fun _ _ _ _ _ _ us hl => match us, hl with | [_, _, _], _ => rfl, v__law_begin fx F⟩
theorem v__law_caught (fx : Fx K cl mg base) {f : Addr} {fd : FuncData} (F : FunD K "_law_caught" "_law_caught" (defArgs s__law_caught) (defBody s__law_caught) (defScope s__law_caught) [] [] f fd) : FnV P w K mg base cl 5 f fd ["_law_wishes_here", "_law_row"] F__law_caught := by
  refine fnv_of F sc__law_caught fun cdv A outer s H E hr hg => ?_
  exact (il_cons (is_set 2 sc__law_caught.nd ie_non)
    (il_cons (is_try _ (xtell fx) (fun _ _ => (il_one (is_set 2 sc__law_caught.nd (iCall (c_choose fx) hr hg (im_val (iv 0) (im_val (iv 1) im_nil)))))) (.cons (i := 3) rfl rfl rfl fx.g_InvalidRow rfl (by decide) (fun _ _ => (il_one (is_set 2 sc__law_caught.nd (ie_if (ib_tru (ie_isX (xi_ValueError fx) fx.n_ValueError bootX_ValueError fx.n_isinstance boot_isinstance (iv 3))) ie_str ie_str)))) .nil) (by simp [xkn]) sc__law_caught.nd)
    (il_one (is_ret (iv 2)))))

theorem c__law_caught (fx : Fx K cl mg base) : Cal P w K mg base cl "_law_caught" 5 ["_law_wishes_here", "_law_row"] F__law_caught := by
  obtain ⟨f, fd, hm, F⟩ := fx.d__law_caught
  exact ⟨f, fd, hm, F.kp, F.bindsN fun _ _ _ _ _ _ us hl => match us, hl with | [_, _], _ => rfl, v__law_caught fx F⟩
theorem v_law (fx : Fx K cl mg base) {f : Addr} {fd : FuncData} (F : FunD K "law" "law" (defArgs s_law) (defBody s_law) (defScope s_law) [] [] f fd) : FnV P w K mg base cl 7 f fd ["_law_script"] F_law := by
  refine fnv_of F sc_law fun cdv A outer s H E hr hg => ?_
  exact (il_cons (is_own 1 sc_law.nd (ie_kf (iCall (c__law_pen fx) hr hg (im_val (iv 0) im_nil))))
    (il_cons (is_for (passes_of rfl) rfl (ii_range1 fx.n_range (ia_cons ie_int ia_nil)) (ig_set 2 sc_law.nd) (il_cons (is_set 3 sc_law.nd (ix hr (ie_lst (im_own ie_int (im_own ie_int im_nil))) (iT fInt fx.n_int boot_int (ia_cons (vCmp (kEq hr) (iv 2) ie_int) ia_nil))))
    (il_cons (is_asg (iCall (c__law_begin fx) hr hg (im_late 1 (im_val (iCall (c__law_draw fx) hr hg (im_late 1 (im_val (iv 3) im_nil))) (im_val (iCall (c__law_draw fx) hr hg (im_late 1 (im_val (iv 3) im_nil))) im_nil)))) (ig_tup rfl (igs_cons (ig_set 8 sc_law.nd) (igs_cons (ig_set 9 sc_law.nd) igs_nil))))
    (il_cons (is_par2 10 11 false false rfl sc_law.nd (im_own (iCall (c__law_wishes fx) hr hg (im_val (iv 8) im_nil)) (im_own (iCall (c__law_choose fx) hr hg (im_val (iv 8) (im_val (iv 9) im_nil))) im_nil)))
    (il_cons (is_for (passes_of rfl) rfl (ii_any (ie_tup (im_own (iv 9) (im_own (iT fListE fx.n_list boot_list (ia_cons (iv 9) ia_nil)) im_nil)))) (ig_set 4 sc_law.nd) (il_cons (is_own 12 sc_law.nd (ie_kf (iCall (c_choose fx) hr hg (im_val (iv 10) (im_val (iv 4) im_nil)))))
    (il_cons (is_if (ib_peek (iw_or (ib_not (ib_tru (iB (fIsiE) fx.n_isinstance boot_isinstance (ia_cons (iv 12) (ia_cons (ity fx.n_dict boot_dict) ia_nil))))) (iw_or (qCmp (kNe hr) (iB (fRepr hr hg fx.sys) fx.n_repr boot_repr (ia_cons (iv 12) ia_nil)) (iB (fRepr hr hg fx.sys) fx.n_repr boot_repr (ia_cons (iv 11) ia_nil))) (iw_or1 (qCmp (kNe hr) (iT fTuple fx.n_tuple boot_tuple (ia_cons (iv 4) ia_nil)) (iv 9))))).ib) (il_one (is_ret ie_bl)) il_nil)
    (il_one (is_expr (mDClearR0 12 (ip_name 12)))))))
    (il_cons (is_set 5 sc_law.nd (iCall (c__law_draw fx) hr hg (im_late 1 (im_val (bAdd (iB (fLenE) fx.n_len boot_len (ia_cons (iv 9) ia_nil)) ie_int) im_nil))))
    (il_cons (is_own 6 sc_law.nd (ie_kf (ie_lst (im_own (bAdd (islice (iv 9) io_no (io_so (iv 5))) (islice (iv 9) (io_so (bAdd (iv 5) ie_int)) io_no)) (im_own (bAdd (iv 9) (islice (iv 9) io_no (io_so ie_int))) (im_own (bAdd (bAdd (islice (iv 9) io_no (io_so (iv 5))) (ie_tup (im_own (iCall (c__law_odd fx) hr hg (im_late 1 im_nil)) im_nil))) (islice (iv 9) (io_so (bAdd (iv 5) ie_int)) io_no)) (im_own (iCall (c__law_odd fx) hr hg (im_late 1 im_nil)) im_nil)))))))
    (il_cons (is_expr (mAppendR 6 (ip_name 6) (ims_side (im_val (bAdd (islice (iv 9) io_no (io_so (uNeg ie_int))) (islice (iv 9) io_no (io_so ie_int))) im_nil))))
    (il_one (is_for (passes_of rfl) rfl (ii_any (bAdd (ifz 6) (ie_lst (im_own (iT fDictE fx.n_dict boot_dict (ia_cons (ie_lcD [("_law_guest", 14)] rfl sc_law.nd (id_any (iv_var 9)) (blkOk_by (by kernel_rfl)) (fun _ _ _ _ _ => (ig_set 14 sc_law.nd)) (fun _ _ _ _ _ => its_nil) (fun _ _ _ _ _ => (ie_tup (im_own (iv 14) (im_own ie_int im_nil))))) ia_nil)) im_nil)))) (ig_set 7 sc_law.nd) (il_cons (is_set 13 sc_law.nd (ie_if (ib_tru (iCall (c__law_is_order fx) hr hg (im_val (iv 7) (im_val (iT fListE fx.n_list boot_list (ia_cons (ix hr (iv 8) ie_int) ia_nil)) im_nil)))) (iCall (c__law_choose fx) hr hg (im_val (iv 8) (im_val (iv 7) im_nil))) ie_str))
    (il_one (is_if (qCmp (kNeM hr) (iCall (c__law_caught fx) hr hg (im_val (iv 10) (im_val (iv 7) im_nil))) (iv 13)) (il_one (is_ret ie_bl)) il_nil)))))))))))))
    (il_one (is_ret ie_bl))))

theorem c_law (fx : Fx K cl mg base) : Cal P w K mg base cl "law" 7 ["_law_script"] F_law := by
  obtain ⟨f, fd, hm, F⟩ := fx.d_law
  exact ⟨f, fd, hm, F.kp, F.bindsN fun _ _ _ _ _ _ us hl => match us, hl with | [_], _ => rfl, v_law fx F⟩
end
end Gk04

namespace Gk04
open PySem PySem.Spec PyProof.Rows L2 VL
theorem factsH {K : PySem.W.Frag} {h : Heap} {mg : Str → Option Value} (X : K.In h) (G : h.Ns mainGlobals mg) (c : He.SaysD faL fnL K) (cx : exH K = true) (base : Heap) (hs : ∃ o, base.get? sysModules = some o) : Fx K (He.ga K) mg base := by
  obtain ⟨fd_is_sequence, F_is_sequence⟩ := c.def_ 0 (d := dd_is_sequence) rfl
  obtain ⟨fd_is_order_of, F_is_order_of⟩ := c.def_ 1 (d := dd_is_order_of) rfl
  obtain ⟨fd_Wishes_guests, F_Wishes_guests⟩ := c.def_ 2 (d := dd_Wishes_guests) rfl
  obtain ⟨fd_need_row, F_need_row⟩ := c.def_ 3 (d := dd_need_row) rfl
  obtain ⟨fd_Wishes_gifts, F_Wishes_gifts⟩ := c.def_ 4 (d := dd_Wishes_gifts) rfl
  obtain ⟨fd_Wishes_best_of, F_Wishes_best_of⟩ := c.def_ 5 (d := dd_Wishes_best_of) rfl
  obtain ⟨fd_choose, F_choose⟩ := c.def_ 6 (d := dd_choose) rfl
  obtain ⟨fd__law_pen, F__law_pen⟩ := c.def_ 7 (d := dd__law_pen) rfl
  obtain ⟨fd__law_draw, F__law_draw⟩ := c.def_ 8 (d := dd__law_draw) rfl
  obtain ⟨fd_is_name, F_is_name⟩ := c.def_ 9 (d := dd_is_name) rfl
  obtain ⟨fd_are_names, F_are_names⟩ := c.def_ 10 (d := dd_are_names) rfl
  obtain ⟨fd_need_gifts, F_need_gifts⟩ := c.def_ 11 (d := dd_need_gifts) rfl
  obtain ⟨fd_need_rankings, F_need_rankings⟩ := c.def_ 12 (d := dd_need_rankings) rfl
  obtain ⟨fd_places_of, F_places_of⟩ := c.def_ 13 (d := dd_places_of) rfl
  obtain ⟨fd_Wishes___init__, F_Wishes___init__⟩ := c.def_ 14 (d := dd_Wishes___init__) rfl
  obtain ⟨fd__law_wishes, F__law_wishes⟩ := c.def_ 15 (d := dd__law_wishes) rfl
  obtain ⟨fd__law_best, F__law_best⟩ := c.def_ 16 (d := dd__law_best) rfl
  obtain ⟨fd__law_choose, F__law_choose⟩ := c.def_ 17 (d := dd__law_choose) rfl
  obtain ⟨fd__law_pick, F__law_pick⟩ := c.def_ 18 (d := dd__law_pick) rfl
  obtain ⟨fd__law_odd, F__law_odd⟩ := c.def_ 19 (d := dd__law_odd) rfl
  obtain ⟨fd__law_is_order, F__law_is_order⟩ := c.def_ 20 (d := dd__law_is_order) rfl
  obtain ⟨fd__law_shuffled, F__law_shuffled⟩ := c.def_ 21 (d := dd__law_shuffled) rfl
  obtain ⟨fd__law_names, F__law_names⟩ := c.def_ 22 (d := dd__law_names) rfl
  obtain ⟨fd__law_ranking, F__law_ranking⟩ := c.def_ 23 (d := dd__law_ranking) rfl
  obtain ⟨fd__law_raw, F__law_raw⟩ := c.def_ 24 (d := dd__law_raw) rfl
  obtain ⟨fd__law_begin, F__law_begin⟩ := c.def_ 25 (d := dd__law_begin) rfl
  obtain ⟨fd__law_caught, F__law_caught⟩ := c.def_ 26 (d := dd__law_caught) rfl
  obtain ⟨fd_law, F_law⟩ := c.def_ 27 (d := dd_law) rfl
  obtain ⟨fd_InvalidRow___init__, F_InvalidRow___init__⟩ := c.def_ 28 (d := dd_InvalidRow___init__) rfl
  exact {
    sys := hs
    n_ValueError := He.free_ok X G (c.fact 0 (f := .free "ValueError") rfl)
    n_abs := He.free_ok X G (c.fact 1 (f := .free "abs") rfl)
    n_all := He.free_ok X G (c.fact 2 (f := .free "all") rfl)
    n_dict := He.free_ok X G (c.fact 3 (f := .free "dict") rfl)
    n_enumerate := He.free_ok X G (c.fact 4 (f := .free "enumerate") rfl)
    n_int := He.free_ok X G (c.fact 5 (f := .free "int") rfl)
    n_isinstance := He.free_ok X G (c.fact 6 (f := .free "isinstance") rfl)
    n_len := He.free_ok X G (c.fact 7 (f := .free "len") rfl)
    n_list := He.free_ok X G (c.fact 8 (f := .free "list") rfl)
    n_min := He.free_ok X G (c.fact 9 (f := .free "min") rfl)
    n_range := He.free_ok X G (c.fact 10 (f := .free "range") rfl)
    n_repr := He.free_ok X G (c.fact 11 (f := .free "repr") rfl)
    n_set := He.free_ok X G (c.fact 12 (f := .free "set") rfl)
    n_sorted := He.free_ok X G (c.fact 13 (f := .free "sorted") rfl)
    n_str := He.free_ok X G (c.fact 14 (f := .free "str") rfl)
    n_tuple := He.free_ok X G (c.fact 15 (f := .free "tuple") rfl)
    c_GIFTS := He.int_ok X G (c.fact 16 (f := .int "GIFTS" (16)) rfl)
    c_GUESTS := He.int_ok X G (c.fact 17 (f := .int "GUESTS" (16)) rfl)
    c_LETTERS := He.str_ok X G (c.fact 18 (f := .str "LETTERS" "abcdefghijklmnopqrstuvwxyz") rfl)
    c_LONGEST_NAME := He.int_ok X G (c.fact 19 (f := .int "LONGEST_NAME" (8)) rfl)
    k_Wishes := He.cls_ok (c.fact 20 (f := .cls "Wishes") rfl)
    g_InvalidRow := He.glo_ok X G (c.fact 21 (f := .glo "InvalidRow") rfl)
    g_Wishes := He.glo_ok X G (c.fact 22 (f := .glo "Wishes") rfl)
    na_Wishes_own_gifts := He.noat_ok (c.fact 23 (f := .noat "Wishes" "own_gifts") rfl)
    na_Wishes_own_rankings := He.noat_ok (c.fact 24 (f := .noat "Wishes" "own_rankings") rfl)
    na_Wishes_places := He.noat_ok (c.fact 25 (f := .noat "Wishes" "places") rfl)
    d_is_sequence := ⟨_, fd_is_sequence, He.glo_ok X G (c.fact 26 (f := .glo "is_sequence") rfl), F_is_sequence⟩
    d_is_order_of := ⟨_, fd_is_order_of, He.glo_ok X G (c.fact 27 (f := .glo "is_order_of") rfl), F_is_order_of⟩
    d_Wishes_guests := ⟨_, fd_Wishes_guests, He.meth_ok (c.fact 28 (f := .meth "Wishes" "guests") rfl), F_Wishes_guests⟩
    d_need_row := ⟨_, fd_need_row, He.glo_ok X G (c.fact 29 (f := .glo "need_row") rfl), F_need_row⟩
    d_Wishes_gifts := ⟨_, fd_Wishes_gifts, He.meth_ok (c.fact 30 (f := .meth "Wishes" "gifts") rfl), F_Wishes_gifts⟩
    d_Wishes_best_of := ⟨_, fd_Wishes_best_of, He.meth_ok (c.fact 31 (f := .meth "Wishes" "best_of") rfl), F_Wishes_best_of⟩
    d_choose := ⟨_, fd_choose, He.glo_ok X G (c.fact 32 (f := .glo "choose") rfl), F_choose⟩
    d__law_pen := ⟨_, fd__law_pen, He.glo_ok X G (c.fact 33 (f := .glo "_law_pen") rfl), F__law_pen⟩
    d__law_draw := ⟨_, fd__law_draw, He.glo_ok X G (c.fact 34 (f := .glo "_law_draw") rfl), F__law_draw⟩
    d_is_name := ⟨_, fd_is_name, He.glo_ok X G (c.fact 35 (f := .glo "is_name") rfl), F_is_name⟩
    d_are_names := ⟨_, fd_are_names, He.glo_ok X G (c.fact 36 (f := .glo "are_names") rfl), F_are_names⟩
    d_need_gifts := ⟨_, fd_need_gifts, He.glo_ok X G (c.fact 37 (f := .glo "need_gifts") rfl), F_need_gifts⟩
    d_need_rankings := ⟨_, fd_need_rankings, He.glo_ok X G (c.fact 38 (f := .glo "need_rankings") rfl), F_need_rankings⟩
    d_places_of := ⟨_, fd_places_of, He.glo_ok X G (c.fact 39 (f := .glo "places_of") rfl), F_places_of⟩
    d_Wishes___init__ := ⟨_, fd_Wishes___init__, He.mkr_ok (c.fact 40 (f := .mkr "Wishes") rfl), F_Wishes___init__⟩
    d__law_wishes := ⟨_, fd__law_wishes, He.glo_ok X G (c.fact 41 (f := .glo "_law_wishes") rfl), F__law_wishes⟩
    d__law_best := ⟨_, fd__law_best, He.glo_ok X G (c.fact 42 (f := .glo "_law_best") rfl), F__law_best⟩
    d__law_choose := ⟨_, fd__law_choose, He.glo_ok X G (c.fact 43 (f := .glo "_law_choose") rfl), F__law_choose⟩
    d__law_pick := ⟨_, fd__law_pick, He.glo_ok X G (c.fact 44 (f := .glo "_law_pick") rfl), F__law_pick⟩
    d__law_odd := ⟨_, fd__law_odd, He.glo_ok X G (c.fact 45 (f := .glo "_law_odd") rfl), F__law_odd⟩
    d__law_is_order := ⟨_, fd__law_is_order, He.glo_ok X G (c.fact 46 (f := .glo "_law_is_order") rfl), F__law_is_order⟩
    d__law_shuffled := ⟨_, fd__law_shuffled, He.glo_ok X G (c.fact 47 (f := .glo "_law_shuffled") rfl), F__law_shuffled⟩
    d__law_names := ⟨_, fd__law_names, He.glo_ok X G (c.fact 48 (f := .glo "_law_names") rfl), F__law_names⟩
    d__law_ranking := ⟨_, fd__law_ranking, He.glo_ok X G (c.fact 49 (f := .glo "_law_ranking") rfl), F__law_ranking⟩
    d__law_raw := ⟨_, fd__law_raw, He.glo_ok X G (c.fact 50 (f := .glo "_law_raw") rfl), F__law_raw⟩
    d__law_begin := ⟨_, fd__law_begin, He.glo_ok X G (c.fact 51 (f := .glo "_law_begin") rfl), F__law_begin⟩
    d__law_caught := ⟨_, fd__law_caught, He.glo_ok X G (c.fact 52 (f := .glo "_law_caught") rfl), F__law_caught⟩
    d_law := ⟨_, fd_law, He.glo_ok X G (c.fact 53 (f := .glo "law") rfl), F_law⟩
    x_InvalidRow := ⟨_, fd_InvalidRow___init__, VL.okX_of (Bool.and_eq_true_iff.mp cx).1, F_InvalidRow___init__⟩
    xt := (Bool.and_eq_true_iff.mp (Bool.and_eq_true_iff.mp cx).2).1
    xi_ValueError := (Bool.and_eq_true_iff.mp (Bool.and_eq_true_iff.mp cx).2).2 }
end Gk04

namespace Gk04
open PySem PySem.Spec PyProof.Rows L2 VL
/-! ### a law's pen -/
theorem n1 : ¬ ("cells" : Str) = "spot" := by decide
theorem n2 : ¬ ("cells" : Str) = "more" := by decide
theorem n3 : ¬ ("spot" : Str) = "more" := by decide
theorem n4 : ¬ ("spot" : Str) = "cells" := by decide
theorem n5 : ¬ ("more" : Str) = "cells" := by decide
theorem n6 : ¬ ("more" : Str) = "spot" := by decide
def pen (ns : List Int) (sp mo : Int) : T := .dct [(.inr "cells", .fz (.lst (ns.map .int))), (.inr "spot", .fz (.int sp)), (.inr "more", .fz (.int mo))]
theorem cut63 (ns : List Int) : VL.cutD (ns.map D.int) none (some 63) = (ns.take 63).map D.int := by
  unfold VL.cutD
  rw [HT.sIx_none, show (63 : Int) = ((63 : Nat) : Int) from rfl, HT.sIx_nat]
  simp [List.map_take]
theorem comp_fz {β : Type} (f : β → D) : (T.fz ∘ f) = fun x => T.fz (f x) := rfl
theorem pen_spec (ns : List Int) : ∃ t, F__law_pen [.fz (.scr ns)] = some (.ok t [none]) ∧ kfz t = pen (ns.take 63) 0 0 := by
  refine ⟨_, by simp [F__law_pen, t__law_pen, kp__law_pen, slD, cut63, n1, n2, n3, n4, n5, n6, List.nodup_cons, comp_fz]; rfl, ?_⟩
  simp [pen, comp_fz]
theorem cmul_l {i j : Int} (h : 0 ≤ i) (h2 : i < 18446744073709551616) : CMul i j := .inl ⟨by omega, by omega⟩
theorem cmul_r {i j : Int} (h : 0 ≤ j) (h2 : j < 18446744073709551616) : CMul i j := .inr ⟨by omega, by omega⟩
theorem cdiv_i {i j : Int} : CDiv i j = (0 < j ∧ j < 1073741824) := rfl
theorem draw_tail (c sp : Int) (h0 : 0 ≤ sp) (h1 : sp ≤ 10000000) : CMul (c % 2147483647) 69621 ∧ CMul 48271 sp ∧ CMul (48271 * sp) sp ∧ CMul 30011 sp ∧ CMul 7 sp ∧ CMul 37 sp ∧ (∀ m : Int, CMul (m % 2147483629) (m % 2147483629) ∧ CMul 40692 (m % 2147483629)) ∧ ∀ u : Int, CMul (u % 2147483587) (u % 2147483587 + 16807) := by
  refine ⟨cmul_r (by omega) (by omega), cmul_l (by omega) (by omega), cmul_r (by omega) (by omega), cmul_l (by omega) (by omega), cmul_l (by omega) (by omega), cmul_l (by omega) (by omega), fun m => ⟨cmul_l (Int.emod_nonneg _ (by omega)) (by have := Int.emod_lt_of_pos m (show (0:Int) < 2147483629 by omega); omega), cmul_l (by omega) (by omega)⟩, fun u => cmul_l (Int.emod_nonneg _ (by omega)) (by have := Int.emod_lt_of_pos u (show (0:Int) < 2147483587 by omega); omega)⟩
theorem p18 : CPow 10 18 := ⟨by decide, by decide, by decide⟩
theorem draw_spec (ns : List Int) (sp mo many : Int) (h0 : 0 ≤ sp) (h1 : sp ≤ 10000000) (h2 : 0 ≤ mo) (hm : 0 < many) (hm2 : many < 1073741824) :
    ∃ d sp' mo', F__law_draw [pen ns sp mo, .fz (.int many)] = some (.ok (.fz (.int d)) [some (pen ns sp' mo'), none]) ∧ 0 ≤ d ∧ d < many ∧ 0 ≤ sp' ∧ sp' ≤ sp + 1 ∧ 0 ≤ mo' := by
  by_cases c : 0 < mo
  · refine ⟨mo % many, sp, mo / many, ?_, Int.emod_nonneg _ (by omega), Int.emod_lt_of_pos _ hm, h0, by omega, Int.ediv_nonneg h2 (by omega)⟩
    simp [F__law_draw, t__law_draw, kp__law_draw, pen, kidIx, keyIx, n1, n2, n3, n4, n5, n6, c, hm, hm2, CDiv, putKid, putD]
  · have rng : ∀ x : Int, 0 ≤ x % many ∧ x % many < many := fun x => ⟨Int.emod_nonneg _ (by omega), Int.emod_lt_of_pos _ hm⟩
    have fin : ∀ x : Int, 0 ≤ x % many ∧ x % many < many ∧ 0 ≤ sp + 1 ∧ sp + 1 ≤ sp + 1 ∧ 0 ≤ mo := fun x => ⟨(rng x).1, (rng x).2, by omega, by omega, h2⟩
    by_cases e : ns = []
    · subst e
      obtain ⟨m1, m2, m3, m4, m5, m6, m7, m8⟩ := draw_tail (37 * sp + 11) sp h0 h1
      have lt0 : ¬ sp < 0 := by omega
      have q := eqAD_ints_nil []
      simp only [List.map_nil] at q
      simp [F__law_draw, t__law_draw, kp__law_draw, pen, kidIx, keyIx, n1, n2, n3, n4, n5, n6, c, hm, hm2, cdiv_i, putKid, putD, q, ixA_lst, atI_map, m1, m2, m3, m4, m5, m6, m7, m8, lt0]
      exact ⟨_, _, _, ⟨rfl, rfl, rfl⟩, fin _⟩
    · have hl0 : 0 < ns.length := List.length_pos_iff.mpr e
      have hl : 0 < (ns.length : Int) := by omega
      obtain ⟨cell, hc, _⟩ := atI_some (xs := ns) (i := sp % ns.length) (Int.emod_nonneg _ (by omega)) (Int.emod_lt_of_pos _ hl)
      obtain ⟨m1, m2, m3, m4, m5, m6, m7, m8⟩ := draw_tail cell sp h0 h1
      by_cases b : sp < ns.length ∧ 1000000000000000000 ≤ (if cell < 0 then -cell else cell)
      · obtain ⟨b1, b2⟩ := b
        simp [F__law_draw, t__law_draw, kp__law_draw, pen, kidIx, keyIx, n1, n2, n3, n4, n5, n6, c, hm, hm2, cdiv_i, putKid, putD, eqAD_ints_nil, e, ixA_lst, atI_map, m1, m2, m3, m4, m5, m6, m7, m8, p18, hl0, hc, b1, b2]
        exact ⟨_, _, _, ⟨rfl, rfl, rfl⟩, (rng _).1, (rng _).2, by omega, by omega, Int.ediv_nonneg (by omega) (by omega)⟩
      · by_cases b1 : sp < ns.length
        · have b2 : ¬ 1000000000000000000 ≤ (if cell < 0 then -cell else cell) := fun h => b ⟨b1, h⟩
          simp [F__law_draw, t__law_draw, kp__law_draw, pen, kidIx, keyIx, n1, n2, n3, n4, n5, n6, c, hm, hm2, cdiv_i, putKid, putD, eqAD_ints_nil, e, ixA_lst, atI_map, m1, m2, m3, m4, m5, m6, m7, m8, p18, hl0, hc, b1, b2]
          exact ⟨_, _, _, ⟨rfl, rfl, rfl⟩, fin _⟩
        · simp [F__law_draw, t__law_draw, kp__law_draw, pen, kidIx, keyIx, n1, n2, n3, n4, n5, n6, c, hm, hm2, cdiv_i, putKid, putD, eqAD_ints_nil, e, ixA_lst, atI_map, m1, m2, m3, m4, m5, m6, m7, m8, p18, hl0, hc, b1]
          exact ⟨_, _, _, ⟨rfl, rfl, rfl⟩, fin _⟩
/-- a pen that has drawn at most n times -/
def Pn (p : T) (n : Nat) : Prop := ∃ ns sp mo, p = pen ns sp mo ∧ 0 ≤ sp ∧ sp ≤ (n : Int) ∧ 0 ≤ mo
theorem Pn.mono {p : T} {n m : Nat} (h : Pn p n) (l : n ≤ m) : Pn p m := by
  obtain ⟨ns, sp, mo, e, h1, h2, h3⟩ := h
  exact ⟨ns, sp, mo, e, h1, by omega, h3⟩
theorem draw {p : T} {n : Nat} {many : Int} (hp : Pn p n) (hn : n ≤ 10000000) (hm : 0 < many) (hm2 : many < 1073741824) :
    ∃ d p', F__law_draw [p, .fz (.int many)] = some (.ok (.fz (.int d)) [some p', none]) ∧ 0 ≤ d ∧ d < many ∧ Pn p' (n + 1) := by
  obtain ⟨ns, sp, mo, rfl, h1, h2, h3⟩ := hp
  obtain ⟨d, sp', mo', e, a1, a2, a3, a4, a5⟩ := draw_spec ns sp mo many h1 (by omega) h3 hm hm2
  exact ⟨d, _, e, a1, a2, ns, sp', mo', rfl, a3, by omega, a5⟩
theorem pick_list {p : T} {n : Nat} {xs : List D} (hp : Pn p n) (hn : n ≤ 10000000) (h0 : xs ≠ []) (h1 : xs.length < 1073741824) :
    ∃ d p', F__law_pick [p, .fz (.lst xs)] = some (.ok (.fz d) [some p', none]) ∧ d ∈ xs ∧ Pn p' (n + 1) := by
  have hl : 0 < xs.length := List.length_pos_iff.mpr h0
  obtain ⟨d, p', e, a1, a2, a3⟩ := draw (many := (xs.length : Int)) hp hn (by omega) (by omega)
  obtain ⟨x, hx, hm⟩ := atI_some (xs := xs) a1 a2
  refine ⟨x, p', ?_, hm, a3⟩
  simp [F__law_pick, t__law_pick, kp__law_pick, e, ixA_lst, hx]
theorem pick_str {p : T} {n : Nat} {z : Str} (hp : Pn p n) (hn : n ≤ 10000000) (h0 : 0 < z.length) (h1 : z.length ≤ 1000000) :
    ∃ c p', F__law_pick [p, .fz (.str z)] = some (.ok (.fz (.str (tx [c]))) [some p', none]) ∧ c ∈ z.cps.toList ∧ Pn p' (n + 1) := by
  obtain ⟨d, p', e, a1, a2, a3⟩ := draw (many := (z.length : Int)) hp hn (by omega) (by omega)
  obtain ⟨x, hx, hm⟩ := atI_some (xs := z.cps.toList) a1 (by simpa [Str.length] using a2)
  have hz : z.length ≤ sizeLine := by rw [sizeLine_eq]; omega
  have hix : ixA (.str z) (.int d) = some (.fz (.str (tx [x]))) := by
    show (if z.length ≤ sizeLine then (atI z.cps.toList d).map fun c => T.fz (.str ⟨#[c]⟩) else none) = _
    rw [if_pos hz, hx]; rfl
  refine ⟨x, p', ?_, hm, a3⟩
  simp [F__law_pick, t__law_pick, kp__law_pick, e, hix, hz]
end Gk04

namespace Gk04
open PySem PySem.Spec PyProof.Rows L2 VL
/-! ### shuffled lists -/
theorem seqIx {i : Int} {n : Nat} (h0 : 0 ≤ i) (h1 : i < n) : seqIndex? i n = some i.toNat := by
  unfold seqIndex?
  simp only [show ¬ i < 0 by omega, if_false]
  simp [h0, h1]
theorem erase_mem {α : Type} {xs : List α} {n : Nat} {p : α → Bool} (h : xs.all p = true) : (xs.eraseIdx n).all p = true := by
  rw [List.all_eq_true] at h ⊢
  exact fun x hx => h x (List.mem_of_mem_eraseIdx hx)
theorem erase_map {α β : Type} (f : α → β) : ∀ (xs : List α) (n : Nat), (xs.map f).eraseIdx n = (xs.eraseIdx n).map f
  | [], _ => rfl
  | _ :: _, 0 => rfl
  | x :: xs, n + 1 => by simp [List.eraseIdx_cons_succ, erase_map f xs n]
theorem erase_perm {α : Type} : ∀ {xs : List α} {n : Nat} (h : n < xs.length), (xs[n] :: xs.eraseIdx n).Perm xs
  | x :: xs, 0, _ => .refl _
  | x :: xs, n + 1, h => by
    simp only [List.getElem_cons_succ, List.eraseIdx_cons_succ]
    exact (List.Perm.swap _ _ _).trans (.cons x (erase_perm (by simpa using h)))
theorem shuf_loop : ∀ (m : Nat) (xs ys : List D) (p x1 : T) (n : Nat), xs.length = m → xs.all plD = true → xs.length < 1000000 → ys.length + xs.length < 1000000 → Pn p n → n + m ≤ 10000000 →
    ∃ (p' : T) (zs : List D), sWhile (bPeek (bBin neA (eVar 2) (eLst mNil))) (sDrop (eMt 3 "list" gAppend (pName 3) (sid 3 (mVal (eMt 2 "list" gPop (pName 2) (msOne (eFnQ F__law_draw [some 0, none] (kLate 0 (kPeek (eCall lenE (aCons (eVar 2) aNil)) kNil))))) mNil))))
      [some p, some x1, some (.lst (xs.map .fz)), some (.lst (ys.map .fz))] = some (.ok .nx [some p', some x1, some (.lst []), some (.lst (zs.map .fz))]) ∧ zs.Perm (ys ++ xs) ∧ Pn p' (n + m)
  | 0, xs, ys, p, x1, n, hl, pl, _, _, hp, _ => by
    have : xs = [] := List.eq_nil_of_length_eq_zero hl
    subst this
    refine ⟨p, ys, ?_, by simp, hp⟩
    refine sWhile_of (n := 1) ?_
    have e := eqAD_pl (ds := []) rfl
    simp [whileN, e]
  | m + 1, xs, ys, p, x1, n, hl, pl, hx, hxy, hp, hn => by
    obtain ⟨d, p1, e, h0, h1, hp1⟩ := draw (many := (xs.length : Int)) hp (by omega) (by omega) (by omega)
    have hlt : d.toNat < xs.length := by omega
    obtain ⟨p', zs, ih, hperm, hp'⟩ := shuf_loop m (xs.eraseIdx d.toNat) (ys ++ [xs[d.toNat]]) p1 x1 (n + 1) (by rw [List.length_eraseIdx_of_lt hlt]; omega) (erase_mem pl) (by rw [List.length_eraseIdx_of_lt hlt]; omega)
      (by rw [List.length_eraseIdx_of_lt hlt]; simp only [List.length_append, List.length_cons, List.length_nil]; omega) hp1 (by omega)
    refine ⟨p', zs, ?_, ?_, by rw [show n + (m + 1) = n + 1 + m by omega]; exact hp'⟩
    · have hne : xs.isEmpty = false := by cases xs with | nil => simp at hl | cons => rfl
      refine sWhile_turn (E1 := [some p, some x1, some (.lst (xs.map .fz)), some (.lst (ys.map .fz))]) (E2 := [some p1, some x1, some (.lst ((xs.eraseIdx d.toNat).map .fz)), some (.lst ((ys ++ [xs[d.toNat]]).map .fz))]) ?_ ?_ ih
      · simp [eqAD_pl pl, hne]
      · have hg : gPop (.lst (xs.map T.fz)) [.fz (.int d)] = some (.fz xs[d.toNat], .lst ((xs.eraseIdx d.toNat).map .fz)) := by
          show (popIx (xs.map T.fz) [.fz (.int d)]).bind _ = _
          simp only [popIx]
          rw [if_pos ⟨by omega, by omega⟩, List.length_map, seqIx h0 h1, Option.bind_some, List.getElem?_map, List.getElem?_eq_getElem hlt, erase_map]
          rfl
        have hga : gAppend (.lst (ys.map T.fz)) [.fz xs[d.toNat]] = some (.fz .non, .lst ((ys ++ [xs[d.toNat]]).map .fz)) := by
          show (if (ys.map T.fz).length < 16777216 then _ else none) = _
          rw [if_pos (by rw [List.length_map]; omega)]
          simp
        simp [e, hg, hga]
    · refine hperm.trans ?_
      have h2 : (xs[d.toNat] :: xs.eraseIdx d.toNat).Perm xs := erase_perm hlt
      rw [List.append_assoc]
      exact List.Perm.append_left ys (by simpa using h2)
theorem shuffled {p : T} {n : Nat} {xs : List D} (pl : xs.all plD = true) (hx : xs.length < 1000000) (hp : Pn p n) (hn : n + xs.length ≤ 10000000) :
    ∃ (p' : T) (zs : List D), F__law_shuffled [p, .fz (.lst xs)] = some (.ok (.lst (zs.map .fz)) [some p', none]) ∧ zs.Perm xs ∧ Pn p' (n + xs.length) := by
  obtain ⟨p', zs, e, h1, h2⟩ := shuf_loop xs.length xs [] p (.fz (.lst xs)) n rfl pl hx (by simpa using hx) hp hn
  refine ⟨p', zs, ?_, by simpa using h1, h2⟩
  simp only [List.map_nil] at e
  simp [F__law_shuffled, t__law_shuffled, kp__law_shuffled, e]
theorem shuffledT {p : T} {n : Nat} {xs : List D} (pl : xs.all plD = true) (hx : xs.length < 1000000) (hp : Pn p n) (hn : n + xs.length ≤ 10000000) :
    ∃ (p' : T) (zs : List D), F__law_shuffled [p, .fz (.tup xs)] = some (.ok (.lst (zs.map .fz)) [some p', none]) ∧ zs.Perm xs ∧ Pn p' (n + xs.length) := by
  obtain ⟨p', zs, e, h1, h2⟩ := shuf_loop xs.length xs [] p (.fz (.tup xs)) n rfl pl hx (by simpa using hx) hp hn
  refine ⟨p', zs, ?_, by simpa using h1, h2⟩
  simp only [List.map_nil] at e
  simp [F__law_shuffled, t__law_shuffled, kp__law_shuffled, e]
theorem perm_map {β : Type} (f : β → D) (hf : ∀ a b, f a = f b → a = b) : ∀ {zs : List D} {xs : List β}, zs.Perm (xs.map f) → ∃ ys : List β, zs = ys.map f ∧ ys.Perm xs := by
  intro zs xs h
  have : ∀ {zs ws : List D}, zs.Perm ws → ∀ xs, ws = List.map f xs → ∃ ys : List β, zs = ys.map f ∧ ys.Perm xs := by
    intro zs ws h
    induction h with
    | nil => intro xs e; have : xs = [] := by cases xs with | nil => rfl | cons => simp at e
             subst this; exact ⟨[], rfl, .nil⟩
    | cons a _ ih =>
      intro xs e
      cases xs with
      | nil => simp at e
      | cons x xs =>
        simp only [List.map_cons, List.cons.injEq] at e
        obtain ⟨ys, e2, hp⟩ := ih xs e.2
        exact ⟨x :: ys, by rw [e.1, e2]; rfl, .cons _ hp⟩
    | swap a b l =>
      intro xs e
      match xs, e with
      | x :: y :: xs, e =>
        simp only [List.map_cons, List.cons.injEq] at e
        exact ⟨y :: x :: xs, by rw [e.1, e.2.1, e.2.2]; rfl, .swap _ _ _⟩
    | trans _ _ ih1 ih2 =>
      intro xs e
      obtain ⟨ys, e2, hp⟩ := ih2 xs e
      obtain ⟨us, e3, hq⟩ := ih1 ys e2
      exact ⟨us, e3, hq.trans hp⟩
  exact this h xs rfl
/-- shuffled texts -/
theorem shufS {p : T} {n : Nat} {xs : List Str} (ok : ∀ z ∈ xs, okS z) (hx : xs.length < 1000000) (hp : Pn p n) (hn : n + xs.length ≤ 10000000) :
    ∃ (p' : T) (zs : List Str), F__law_shuffled [p, .fz (.lst (xs.map .str))] = some (.ok (.lst (zs.map fun z => .fz (.str z))) [some p', none]) ∧ zs.Perm xs ∧ Pn p' (n + xs.length) := by
  obtain ⟨p', ws, e, h1, h2⟩ := shuffled (pl_strs ok) (by simpa using hx) hp (by simpa using hn)
  obtain ⟨zs, rfl, hz⟩ := perm_map D.str (fun a b h => by injection h) h1
  rw [List.length_map] at h2
  exact ⟨p', zs, by rw [e, List.map_map]; rfl, hz, h2⟩
/-! ### names -/
theorem stem_lc {p x1 : T} {n : Nat} {d : Nat} {x5 x6 x7 x8 x9 x10 x3 : Option T} (hp : Pn p n) (hn : n + 20 ≤ 10000000) (hd : d ≤ 9) :
    ∃ (p' : T) (cs : List Nat), lcE (gSet 4) bYes (eFn F__law_pick [some 0, none] (mLate 0 (mVal (eVar 2) mNil))) [4] (rngD 0 d) [some p, some x1, some (.fz (.str abcS)), x3, none, x5, x6, x7, x8, x9, x10] =
      some ((cs.map fun c => .fz (.str (tx [c]))), [some p', some x1, some (.fz (.str abcS)), x3, none, x5, x6, x7, x8, x9, x10]) ∧ Pn p' (n + d) ∧ cs.length = d ∧ ∀ c ∈ cs, c ∈ abc := by
  obtain ⟨rs, E', h1, h2⟩ := lcE_inv (g := gSet 4) (tb := bYes) (te := eFn F__law_pick [some 0, none] (mLate 0 (mVal (eVar 2) mNil))) (vs := [4])
    (fun i acc E => ∃ (p' : T) (cs : List Nat), acc = (cs.map fun c => .fz (.str (tx [c]))) ∧ E = [some p', some x1, some (.fz (.str abcS)), x3, none, x5, x6, x7, x8, x9, x10] ∧ Pn p' (n + i) ∧ cs.length = i ∧ ∀ c ∈ cs, c ∈ abc)
    (rngD 0 d) 0 [] [some p, some x1, some (.fz (.str abcS)), x3, none, x5, x6, x7, x8, x9, x10] ⟨p, [], rfl, rfl, hp, rfl, fun _ h => by simp at h⟩ (fun i dd acc E hi hI => by
      obtain ⟨p1, cs, rfl, rfl, hp1, hl, hc⟩ := hI
      obtain ⟨rfl, hid⟩ := rng_at hi
      obtain ⟨c, p2, e, hcz, hp2⟩ := pick_str (z := abcS) hp1 (by omega) (by rw [abc_len]; omega) (by rw [abc_len]; omega)
      rw [abc_eq] at hcz
      refine ⟨_, rfl, .inl ⟨_, .fz (.str (tx [c])), _, rfl, by simp [e]; rfl, p2, cs ++ [c], by simp, by simp, by rw [show n + (0 + i + 1) = n + (0 + i) + 1 by omega]; exact hp2, by simp [hl], fun x hx => ?_⟩⟩
      rcases List.mem_append.mp hx with hx | hx
      · exact hc x hx
      · simp at hx; subst hx; exact hcz)
  obtain ⟨p', cs, e1, e2, e3, e4, e5⟩ := h2
  rw [rng_len, Nat.zero_add] at e3 e4
  simp only [List.nil_append] at e1
  subst e1 e2
  exact ⟨p', cs, h1, e3, e4, e5⟩
def nameK (stem : List Nat) (at_ b s trim k : Nat) : List Nat := stem.take at_ ++ [97 + (b + s * k) % 26] ++ (if trim = 0 then stem.drop (at_ + 1) else (stem.drop (at_ + 1)).take (k % 3))
theorem nameK_nm {stem : List Nat} {at_ b s trim k : Nat} (hl : stem.length ≤ 8) (ha : at_ < stem.length) (hc : ∀ c ∈ stem, c ∈ abc) : Nm (tx (nameK stem at_ b s trim k)) := by
  have hlen : (nameK stem at_ b s trim k).length ≤ stem.length := by
    unfold nameK
    simp only [List.length_append, List.length_take, List.length_cons, List.length_nil]
    split
    · rw [List.length_drop]; omega
    · rw [List.length_take, List.length_drop]; omega
  have hpos : 1 ≤ (nameK stem at_ b s trim k).length := by
    unfold nameK
    simp only [List.length_append, List.length_cons, List.length_nil]
    omega
  refine ⟨by rw [tx_len]; exact hpos, by rw [tx_len]; omega, fun c h => ?_⟩
  rw [tx_cps] at h
  unfold nameK at h
  rcases List.mem_append.mp h with h | h
  · rcases List.mem_append.mp h with h | h
    · exact hc c (List.mem_of_mem_take h)
    · simp at h; subst h; exact abc_mem.mpr (by omega)
  · split at h
    · exact hc c (List.mem_of_mem_drop h)
    · exact hc c (List.mem_of_mem_drop (List.mem_of_mem_take h))
def stepsL : List Nat := [1, 3, 5, 7, 9, 11, 15, 17, 19, 21, 23, 25]
theorem step_cop {s : Nat} (hs : s ∈ stepsL) {d : Nat} (h0 : 0 < d) (h1 : d < 26) : s * d % 26 ≠ 0 := by
  have : ∀ s ∈ stepsL, ∀ d, d < 26 → 0 < d → s * d % 26 ≠ 0 := by decide
  exact this s hs d h1 h0
theorem nameK_ne {stem : List Nat} {at_ b s trim i j : Nat} (hs : s ∈ stepsL) (hij : i < j) (hj : j < 26) : nameK stem at_ b s trim i ≠ nameK stem at_ b s trim j := by
  intro h
  unfold nameK at h
  rw [List.append_assoc, List.append_assoc] at h
  have h2 := List.append_cancel_left h
  simp only [List.cons_append, List.nil_append, List.cons.injEq] at h2
  have h3 := step_cop hs (d := j - i) (by omega) (by omega)
  have h4 : s * (j - i) = s * j - s * i := Nat.mul_sub s j i
  have h5 : s * i ≤ s * j := Nat.mul_le_mul_left s (by omega)
  omega
def nb1 : Ev Fl := (sSet 10 (eIf (bBin eqA (eVar 7) (eC (.int 0))) (eSl slD (eVar 3) (oSo (eBin addD (eVar 5) (eC (.int 1)))) oNo) (eSl slD (eSl slD (eVar 3) (oSo (eBin addD (eVar 5) (eC (.int 1)))) oNo) oNo (oSo (eBin modD (eVar 4) (eC (.int 3)))))))
def nbE : Ev T := (eBin addD (eBin addD (eSl slD (eVar 3) oNo (oSo (eVar 5))) (eBin ixA (eVar 2) (eBin modD (eBin addD (eVar 6) (eBin mulE (eVar 8) (eVar 4))) (eC (.int 26))))) (eVar 10))
def nb2 : Ev Fl := (sDrop (eMt 9 "list" gAppend (pName 9) (sid 9 (mVal nbE mNil))))
def nbody : Ev Fl := (sSeq nb1 nb2)
theorem gApp {L : List T} {d : D} (h : L.length < 16777216) : gAppend (.lst L) [.fz d] = some (.fz .non, .lst (L ++ [.fz d])) := by
  show (if L.length < 16777216 then _ else none) = _
  rw [if_pos h]
theorem nb1_a {p x1 x10 L : Option T} {stem tail : List Nat} {A' S I B Tr : Int} (l0 : stem.length ≤ 1000) (hdr : cutS (tx stem) (some (A' + 1)) none = tx tail) (hT : Tr = 0) :
    nb1 [p, x1, some (.fz (.str abcS)), some (.fz (.str (tx stem))), some (.fz (.int I)), some (.fz (.int A')), some (.fz (.int B)), some (.fz (.int Tr)), some (.fz (.int S)), L, x10] = some (.ok .nx [p, x1, some (.fz (.str abcS)), some (.fz (.str (tx stem))), some (.fz (.int I)), some (.fz (.int A')), some (.fz (.int B)), some (.fz (.int Tr)), some (.fz (.int S)), L, some (.fz (.str (tx tail)))]) := by
  simp [nb1, slD_tx l0, hdr, hT]
theorem nb1_b {p x1 x10 L : Option T} {stem mid tail : List Nat} {A' S I B Tr : Int} (l0 : stem.length ≤ 1000) (l3 : mid.length ≤ 1000) (hdr : cutS (tx stem) (some (A' + 1)) none = tx mid) (htk : cutS (tx mid) none (some (I % 3)) = tx tail) (hT : ¬ Tr = 0) :
    nb1 [p, x1, some (.fz (.str abcS)), some (.fz (.str (tx stem))), some (.fz (.int I)), some (.fz (.int A')), some (.fz (.int B)), some (.fz (.int Tr)), some (.fz (.int S)), L, x10] = some (.ok .nx [p, x1, some (.fz (.str abcS)), some (.fz (.str (tx stem))), some (.fz (.int I)), some (.fz (.int A')), some (.fz (.int B)), some (.fz (.int Tr)), some (.fz (.int S)), L, some (.fz (.str (tx tail)))]) := by
  simp [nb1, slD_tx l0, slD_tx l3, hdr, htk, hT]
theorem nbE_s {p x1 L : Option T} {stem hd tail : List Nat} {q : Nat} {A' S I B Tr : Int} (l0 : stem.length ≤ 1000) (l1 : hd.length ≤ 1000) (l2 : (hd ++ [q]).length ≤ 1000) (lt : tail.length ≤ 1000) (hct : cutS (tx stem) none (some A') = tx hd) (cm : CMul S I) (hix : ixA (.str abcS) (.int ((B + S * I) % 26)) = some (.fz (.str (tx [q])))) :
    nbE [p, x1, some (.fz (.str abcS)), some (.fz (.str (tx stem))), some (.fz (.int I)), some (.fz (.int A')), some (.fz (.int B)), some (.fz (.int Tr)), some (.fz (.int S)), L, some (.fz (.str (tx tail)))] = some (.ok (.fz (.str (tx (hd ++ [q] ++ tail)))) [p, x1, some (.fz (.str abcS)), some (.fz (.str (tx stem))), some (.fz (.int I)), some (.fz (.int A')), some (.fz (.int B)), some (.fz (.int Tr)), some (.fz (.int S)), L, some (.fz (.str (tx tail)))]) := by
  have lone : ([q] : List Nat).length ≤ 1000 := by simp
  have a1 := addD_tx l1 lone
  have a2 := addD_tx l2 lt
  generalize tx (hd ++ [q] ++ tail) = W at *
  generalize tx (hd ++ [q]) = W1 at *
  simp [nbE, slD_tx l0, cm, hix, hct, a1, a2]
theorem nb2_s {p x1 x2 x3 x4 x5 x6 x7 x8 x10 : Option T} {L : List T} {W : D} (h : nbE [p, x1, x2, x3, x4, x5, x6, x7, x8, none, x10] = some (.ok (.fz W) [p, x1, x2, x3, x4, x5, x6, x7, x8, none, x10])) (hL : L.length < 16777216) :
    nb2 [p, x1, x2, x3, x4, x5, x6, x7, x8, some (.lst L), x10] = some (.ok .nx [p, x1, x2, x3, x4, x5, x6, x7, x8, some (.lst (L ++ [.fz W])), x10]) := by
  simp [nb2, h, gApp hL]
theorem nbody_spec {p x1 x4 x10 : Option T} {stem : List Nat} {i at_ b trim s : Nat} {L : List T} (hl : stem.length ≤ 8) (hs : s ≤ 25) (hi : i < 26) (hL : L.length < 16777216) :
    ∃ y, nbody [p, x1, some (.fz (.str abcS)), some (.fz (.str (tx stem))), some (.fz (.int (i : Int))), some (.fz (.int at_)), some (.fz (.int b)), some (.fz (.int trim)), some (.fz (.int s)), some (.lst L), x10] =
      some (.ok .nx [p, x1, some (.fz (.str abcS)), some (.fz (.str (tx stem))), some (.fz (.int (i : Int))), some (.fz (.int at_)), some (.fz (.int b)), some (.fz (.int trim)), some (.fz (.int s)), some (.lst (L ++ [.fz (.str (tx (nameK stem at_ b s trim i)))])), y]) := by
  have cm : CMul (s : Int) (i : Int) := cmul_r (by omega) (by omega)
  have hix : ixA (.str abcS) (.int (((b : Int) + (s : Int) * (i : Int)) % 26)) = some (.fz (.str (tx [97 + (b + s * i) % 26]))) := by
    have h := ix_abcN (j := (b + s * i) % 26) (Nat.mod_lt _ (by omega))
    rw [show (((b + s * i) % 26 : Nat) : Int) = ((b : Int) + (s : Int) * (i : Int)) % 26 by simp] at h
    exact h
  have hdr : cutS (tx stem) (some ((at_ : Int) + 1)) none = tx (stem.drop (at_ + 1)) := by
    have h := cut_drop stem (at_ + 1)
    rw [show ((at_ + 1 : Nat) : Int) = (at_ : Int) + 1 by simp] at h
    exact h
  have htk : cutS (tx (stem.drop (at_ + 1))) none (some ((i : Int) % 3)) = tx ((stem.drop (at_ + 1)).take (i % 3)) := by
    have h := cut_take (stem.drop (at_ + 1)) (i % 3)
    rw [show ((i % 3 : Nat) : Int) = (i : Int) % 3 by simp] at h
    exact h
  have l1 : (stem.take at_).length ≤ 1000 := by rw [List.length_take]; omega
  have l2 : (stem.take at_ ++ [97 + (b + s * i) % 26]).length ≤ 1000 := by rw [List.length_append, List.length_take]; simp; omega
  have l3 : (stem.drop (at_ + 1)).length ≤ 1000 := by rw [List.length_drop]; omega
  have l4 : ((stem.drop (at_ + 1)).take (i % 3)).length ≤ 1000 := by rw [List.length_take, List.length_drop]; omega
  have l0 : stem.length ≤ 1000 := by omega
  unfold nameK nbody
  rw [sSeq_a]
  by_cases ht : trim = 0
  · rw [if_pos ht, nb1_a l0 hdr (by omega)]
    exact ⟨_, nb2_s (nbE_s l0 l1 l2 l3 (cut_take _ _) cm hix) hL⟩
  · rw [if_neg ht, nb1_b l0 l3 hdr htk (by omega)]
    exact ⟨_, nb2_s (nbE_s l0 l1 l2 l4 (cut_take _ _) cm hix) hL⟩
theorem names_loop {p : T} {stem : List Nat} {many at_ b trim s : Nat} (hl : stem.length ≤ 8) (ha : at_ < stem.length) (hb : b < 26) (hs : s ∈ stepsL) (hm : many ≤ 26) :
    ∃ (x4 x10 : Option T), forE (gSet 4) nbody (rngD 0 many) [some p, some (.fz (.int many)), some (.fz (.str abcS)), some (.fz (.str (tx stem))), none, some (.fz (.int at_)), some (.fz (.int b)), some (.fz (.int trim)), some (.fz (.int s)), some (.lst []), none] =
      some (.ok .nx [some p, some (.fz (.int many)), some (.fz (.str abcS)), some (.fz (.str (tx stem))), x4, some (.fz (.int at_)), some (.fz (.int b)), some (.fz (.int trim)), some (.fz (.int s)), some (.lst (((List.range many).map (nameK stem at_ b s trim)).map fun z => .fz (.str (tx z)))), x10]) := by
  have hs26 : s ≤ 25 := by
    have : ∀ s ∈ stepsL, s ≤ 25 := by decide
    exact this s hs
  obtain ⟨E', h1, h2⟩ := forE_inv (g := gSet 4) (tb := nbody)
    (fun i E => i ≤ many ∧ ∃ (x4 x10 : Option T) (L : List T), L = (((List.range i).map (nameK stem at_ b s trim)).map fun z => .fz (.str (tx z))) ∧ E = [some p, some (.fz (.int many)), some (.fz (.str abcS)), some (.fz (.str (tx stem))), x4, some (.fz (.int at_)), some (.fz (.int b)), some (.fz (.int trim)), some (.fz (.int s)), some (.lst L), x10])
    (rngD 0 many) 0 _ ⟨Nat.zero_le _, none, none, [], rfl, rfl⟩ (fun i d E hi hI => by
      obtain ⟨_, x4, x10, L, hL, rfl⟩ := hI
      obtain ⟨rfl, hid⟩ := rng_at hi
      rw [Nat.zero_add] at hL ⊢
      have hlen : L.length < 16777216 := by rw [hL]; simp; omega
      obtain ⟨y, e⟩ := nbody_spec (p := some p) (x1 := some (.fz (.int many))) (x4 := x4) (x10 := x10) (trim := trim) (L := L) hl hs26 (show i < 26 by omega) hlen
      refine ⟨_, rfl, _, .inl e, by omega, _, y, _, ?_, rfl⟩
      rw [hL, List.range_succ, List.map_append, List.map_append]
      rfl)
  obtain ⟨_, x4, x10, L, hL, rfl⟩ := h2
  rw [rng_len, Nat.zero_add] at hL
  rw [← hL]
  exact ⟨x4, x10, h1⟩
theorem stepsD : ([.int 1, .int 3, .int 5, .int 7, .int 9, .int 11, .int 15, .int 17, .int 19, .int 21, .int 23, .int 25] : List D) = stepsL.map fun n => .int (n : Int) := rfl
theorem names_run {p p1 p2 p3 p4 p5 p6 : T} {d a b t S M CL : Int} {cs : List Nat} {N NM : Nat} {L : List T} {x4 x10 : Option T} (e1 : F__law_draw [p, .fz (.int 8)] = some (.ok (.fz (.int d)) [some p1, none]))
    (e2 : lcE (gSet 4) bYes (eFn F__law_pick [some 0, none] (mLate 0 (mVal (eVar 2) mNil))) [4] (rngD 0 N) [some p1, some (.fz (.int M)), some (.fz (.str abcS)), none, none, none, none, none, none, none, none] =
      some ((cs.map fun c => .fz (.str (tx [c]))), [some p2, some (.fz (.int M)), some (.fz (.str abcS)), none, none, none, none, none, none, none, none]))
    (hN : (1 + d).toNat = N) (r1 : -(4611686018427387904) ≤ 1 + d) (r2 : 1 + d < 4611686018427387904) (r3 : N ≤ 16777216)
    (hj : mJoin (.str "") [.lst (cs.map fun c => .str (tx [c]))] = some (.fz (.str (tx cs)))) (hl : lenD [.str (tx cs)] = some (.fz (.int CL)))
    (e3 : F__law_draw [p2, .fz (.int CL)] = some (.ok (.fz (.int a)) [some p3, none])) (e4 : F__law_draw [p3, .fz (.int 26)] = some (.ok (.fz (.int b)) [some p4, none])) (e5 : F__law_draw [p4, .fz (.int 2)] = some (.ok (.fz (.int t)) [some p5, none]))
    (e6 : F__law_pick [p5, .fz (.lst [.int 1, .int 3, .int 5, .int 7, .int 9, .int 11, .int 15, .int 17, .int 19, .int 21, .int 23, .int 25])] = some (.ok (.fz (.int S)) [some p6, none]))
    (hM : M.toNat = NM) (r4 : M < 4611686018427387904) (r5 : -(4611686018427387904) ≤ M)
    (e7 : forE (gSet 4) nbody (rngD 0 NM) [some p6, some (.fz (.int M)), some (.fz (.str abcS)), some (.fz (.str (tx cs))), none, some (.fz (.int a)), some (.fz (.int b)), some (.fz (.int t)), some (.fz (.int S)), some (.lst []), none] =
      some (.ok .nx [some p6, some (.fz (.int M)), some (.fz (.str abcS)), some (.fz (.str (tx cs))), x4, some (.fz (.int a)), some (.fz (.int b)), some (.fz (.int t)), some (.fz (.int S)), some (.lst L), x10])) :
    F__law_names [p, .fz (.int M)] = some (.ok (.lst L) [some p6, none]) := by
  unfold nbody nb1 nb2 nbE at e7
  simp [F__law_names, t__law_names, kp__law_names, e1, e2, e3, e4, e5, e6, e7, hj, hl, r1, r2, r3, r4, r5, hN, hM]
theorem names {p : T} {n many : Nat} (hp : Pn p n) (hn : n + 40 ≤ 10000000) (hm : many ≤ 26) :
    ∃ (p' : T) (ts : List Str), F__law_names [p, .fz (.int many)] = some (.ok (.lst (ts.map fun z => .fz (.str z))) [some p', none]) ∧ ts.length = many ∧ ts.Nodup ∧ (∀ z ∈ ts, Nm z) ∧ Pn p' (n + 13) := by
  obtain ⟨d, p1, e1, d0, d1, hp1⟩ := draw (many := 8) hp (by omega) (by omega) (by omega)
  obtain ⟨p2, cs, e2, hp2, hcl, hcs⟩ := stem_lc (p := p1) (x1 := .fz (.int many)) (n := n + 1) (d := (1 + d).toNat) (x3 := none) (x5 := none) (x6 := none) (x7 := none) (x8 := none) (x9 := none) (x10 := none) hp1 (by omega) (by omega)
  have hc8 : cs.length ≤ 8 := by omega
  have hc1 : 0 < cs.length := by omega
  obtain ⟨a, p3, e3, a0, a1, hp3⟩ := draw (many := (cs.length : Int)) hp2 (by omega) (by omega) (by omega)
  obtain ⟨b, p4, e4, b0, b1, hp4⟩ := draw (many := 26) hp3 (by omega) (by omega) (by omega)
  obtain ⟨t, p5, e5, t0, t1, hp5⟩ := draw (many := 2) hp4 (by omega) (by omega) (by omega)
  obtain ⟨sd, p6, e6, hs, hp6⟩ := pick_list (xs := [.int 1, .int 3, .int 5, .int 7, .int 9, .int 11, .int 15, .int 17, .int 19, .int 21, .int 23, .int 25]) hp5 (by omega) (by simp) (by simp)
  rw [stepsD] at hs
  obtain ⟨s, hsl, rfl⟩ := List.mem_map.mp hs
  obtain ⟨a, rfl⟩ := Int.eq_ofNat_of_zero_le a0
  obtain ⟨b, rfl⟩ := Int.eq_ofNat_of_zero_le b0
  obtain ⟨t, rfl⟩ := Int.eq_ofNat_of_zero_le t0
  obtain ⟨x4, x10, e7⟩ := names_loop (p := p6) (stem := cs) (many := many) (at_ := a) (b := b) (trim := t) (s := s) hc8 (by omega) (by omega) hsl hm
  refine ⟨p6, ((List.range many).map (nameK cs a b s t)).map tx, ?_, by simp, ?_, fun z hz => ?_, hp6.mono (by omega)⟩
  · have h := names_run e1 e2 rfl (by omega) (by omega) (by omega) (mJoin_one cs (by omega)) (lenD_tx (cs := cs) (by omega)) e3 e4 e5 e6 (show (many : Int).toNat = many by omega) (by omega) (by omega) e7
    rw [h, List.map_map, List.map_map, List.map_map]
    rfl
  · rw [List.nodup_iff_pairwise_ne, List.pairwise_map, List.pairwise_map]
    refine List.Pairwise.imp_of_mem ?_ (List.pairwise_lt_range (n := many))
    intro i j hi hj hij h
    exact nameK_ne hsl hij (by have := List.mem_range.mp hj; omega) (tx_inj h)
  · obtain ⟨c, hc, rfl⟩ := List.mem_map.mp hz
    obtain ⟨k, hk, rfl⟩ := List.mem_map.mp hc
    exact nameK_nm hc8 (by omega) hcs
end Gk04

namespace Gk04
open PySem PySem.Spec PyProof.Rows L2 VL
/-! ### rankings, raw wishes -/
theorem fz_strs (xs : List Str) : (xs.map fun z => T.fz (.str z)) = (xs.map D.str).map T.fz := by rw [List.map_map]; rfl
theorem frz_strs (xs : List Str) : frz (.lst (xs.map fun z => T.fz (.str z))) = .lst (xs.map .str) := by simp
/-- the exchange of two neighbours -/
theorem swap_run {p x1 x2 x3 : Option T} {L : List T} {A : Int} {i : Nat} {a b : D} (h1 : ixN L.length A = some i) (h2 : ixN L.length (A + 1) = some (i + 1)) (ha : L[i]? = some (.fz a)) (hb : L[i + 1]? = some (.fz b)) :
    sAsg (eKf (eTup (mOwn (eRdP (pIx 4 (pName 4) (sid 4 (eBin addD (eVar 5) (eC (.int 1)))))) (mOwn (eRdP (pIx 4 (pName 4) (sid 4 (eVar 5)))) mNil)))) (gTup' 2 (gCons' (gPut 4 (pName 4) (sid 4 (eVar 5))) (gCons' (gPut 4 (pName 4) (sid 4 (eBin addD (eVar 5) (eC (.int 1))))) gNil')))
      [p, x1, x2, x3, some (.lst L), some (.fz (.int A))] = some (.ok .nx [p, x1, x2, x3, some (.lst ((L.set i (.fz b)).set (i + 1) (.fz a))), some (.fz (.int A))]) := by
  have h3 : ixN (L.set i (.fz b)).length (A + 1) = some (i + 1) := by rw [List.length_set]; exact h2
  simp [h1, h2, ha, hb, putKid_l h1, putKid_l h3]
theorem ranking_a {p p1 P0 : T} {gs kn : D} {zs : List T} (e1 : F__law_draw [p, .fz (.int 3)] = some (.ok (.fz (.int 0)) [some p1, none])) (e2 : F__law_shuffled [p1, .fz gs] = some (.ok (.lst zs) [some P0, none])) :
    F__law_ranking [p, .fz gs, .fz kn] = some (.ok (.lst zs) [some P0, none, none]) := by
  simp [F__law_ranking, t__law_ranking, kp__law_ranking, e1, e2]
theorem ranking_b {p p1 P0 : T} {gs kn : D} {d : Int} {zs : List T} (e1 : F__law_draw [p, .fz (.int 3)] = some (.ok (.fz (.int d)) [some p1, none])) (e0 : eqAD kn (.lst []) = some true) (e2 : F__law_shuffled [p1, .fz gs] = some (.ok (.lst zs) [some P0, none])) :
    F__law_ranking [p, .fz gs, .fz kn] = some (.ok (.lst zs) [some P0, none, none]) := by
  by_cases h : d = 0
  · subst h; exact ranking_a e1 e2
  · simp [F__law_ranking, t__law_ranking, kp__law_ranking, e1, e2, e0, h]
theorem ranking_c {p p1 p2 : T} {gs kn : D} {d : Int} {r : List D} (e1 : F__law_draw [p, .fz (.int 3)] = some (.ok (.fz (.int d)) [some p1, none])) (e0 : eqAD kn (.lst []) = some false) (hd : ¬ d = 0)
    (e2 : F__law_pick [p1, .fz kn] = some (.ok (.fz (.lst r)) [some p2, none])) (h : ¬ (d = 1 ∧ (1 : Int) < r.length)) : F__law_ranking [p, .fz gs, .fz kn] = some (.ok (.lst (r.map .fz)) [some p2, none, none]) := by
  by_cases c : d = 1
  · have h2 : ¬ (1 : Int) < r.length := fun q => h ⟨c, q⟩
    simp [F__law_ranking, t__law_ranking, kp__law_ranking, e1, e2, e0, hd, c, h2]
  · simp [F__law_ranking, t__law_ranking, kp__law_ranking, e1, e2, e0, hd, c]
theorem ranking_d {p p1 p2 p3 : T} {gs kn : D} {A : Int} {r : List D} {i : Nat} {a b : D} (e1 : F__law_draw [p, .fz (.int 3)] = some (.ok (.fz (.int 1)) [some p1, none])) (e0 : eqAD kn (.lst []) = some false)
    (e2 : F__law_pick [p1, .fz kn] = some (.ok (.fz (.lst r)) [some p2, none])) (h : 1 < r.length) (e3 : F__law_draw [p2, .fz (.int (r.length - 1))] = some (.ok (.fz (.int A)) [some p3, none]))
    (h1 : ixN r.length A = some i) (h2 : ixN r.length (A + 1) = some (i + 1)) (ha : r[i]? = some a) (hb : r[i + 1]? = some b) :
    F__law_ranking [p, .fz gs, .fz kn] = some (.ok (.lst (((r.set i b).set (i + 1) a).map .fz)) [some p3, none, none]) := by
  have hI : (1 : Int) < r.length := by omega
  have sw := swap_run (p := some p3) (x1 := some (.fz gs)) (x2 := some (.fz kn)) (x3 := some (.fz (.int 1))) (L := r.map .fz) (A := A) (i := i) (a := a) (b := b) (by rw [List.length_map]; exact h1) (by rw [List.length_map]; exact h2) (by rw [List.getElem?_map, ha]; rfl) (by rw [List.getElem?_map, hb]; rfl)
  rw [← List.map_set, ← List.map_set] at sw
  generalize ((r.set i b).set (i + 1) a).map T.fz = W at *
  simp only [F__law_ranking, t__law_ranking, kp__law_ranking, runF_a, sSeq_a, List.length_cons, List.length_nil, List.cons_append, List.nil_append, List.map_cons, List.map_nil, startE_a] at sw ⊢
  generalize (sAsg _ _ : Ev Fl) = SW at *
  simp [e1, e2, e0, hI, e3, sw]
  exact ⟨rfl, rfl, rfl⟩
theorem ranking {p : T} {n : Nat} {gs : List Str} {known : List (List Str)} (hg : ∀ z ∈ gs, Nm z) (hl : gs.length ≤ 26) (hk : ∀ r ∈ known, r.Perm gs) (hkl : known.length ≤ 100) (hp : Pn p n) (hn : n + 100 ≤ 10000000) :
    ∃ (p' : T) (r : List Str), F__law_ranking [p, .fz (.lst (gs.map .str)), .fz (.lst (known.map fun r => .lst (r.map .str)))] = some (.ok (.lst (r.map fun z => .fz (.str z))) [some p', none, none]) ∧ r.Perm gs ∧ Pn p' (n + gs.length + 3) := by
  obtain ⟨d, p1, e1, d0, d1, hp1⟩ := draw (many := 3) hp (by omega) (by omega) (by omega)
  obtain ⟨p2, zs, e2, hz, hp2⟩ := shufS (xs := gs) (fun z h => (hg z h).ok) (by omega) hp1 (by omega)
  have okk : ∀ r ∈ known, ∀ z ∈ r, okS z := fun r hr z hz => (hg z ((hk r hr).mem_iff.mp hz)).ok
  have e0 := eqAD_pl (pl_ll (fun r => r) okk)
  by_cases hd : d = 0
  · subst hd
    exact ⟨p2, zs, ranking_a e1 e2, hz, hp2.mono (by omega)⟩
  cases known with
  | nil => exact ⟨p2, zs, ranking_b e1 e0 e2, hz, hp2.mono (by omega)⟩
  | cons k0 known =>
    obtain ⟨x, p3, e3, hx, hp3⟩ := pick_list (xs := (k0 :: known).map fun r => D.lst (r.map .str)) hp1 (by omega) (by simp) (by simp at hkl ⊢; omega)
    obtain ⟨r, hr, rfl⟩ := List.mem_map.mp hx
    have hrp := hk r hr
    by_cases c : d = 1 ∧ (1 : Int) < (r.map D.str).length
    · obtain ⟨rfl, c⟩ := c
      rw [List.length_map] at c
      have hrl : r.length = gs.length := hrp.length_eq
      obtain ⟨A, p4, e4, a0, a1, hp4⟩ := draw (many := (((r.map D.str).length : Int) - 1)) hp3 (by omega) (by rw [List.length_map]; omega) (by rw [List.length_map]; omega)
      rw [List.length_map] at a1
      have hi : A.toNat + 1 < r.length := by omega
      have q := ranking_d (gs := .lst (gs.map .str)) (i := A.toNat) (a := .str r[A.toNat]) (b := .str r[A.toNat + 1]) e1 e0 e3 (by rw [List.length_map]; omega) e4 (ixN_nat (j := A.toNat) (by omega) (by rw [List.length_map]; omega)) (ixN_nat (j := A.toNat + 1) (by omega) (by rw [List.length_map]; omega))
        (by rw [List.getElem?_map, List.getElem?_eq_getElem (by omega)]; rfl) (by rw [List.getElem?_map, List.getElem?_eq_getElem hi]; rfl)
      refine ⟨p4, (r.set A.toNat r[A.toNat + 1]).set (A.toNat + 1) r[A.toNat], ?_, (swap_perm hi).trans hrp, hp4.mono (by omega)⟩
      rw [q, ← List.map_set, ← List.map_set, List.map_map]
      rfl
    · have q := ranking_c (gs := .lst (gs.map .str)) e1 e0 hd e3 c
      refine ⟨p3, r, ?_, hrp, hp3.mono (by omega)⟩
      rw [q, List.map_map]
      rfl
structure RawOk (gs : List Str) (rs : List (Str × List Str)) : Prop where
  gn : ∀ z ∈ gs, Nm z
  gd : gs.Nodup
  gl : gs.length ≤ 26
  rn : ∀ q ∈ rs, Nm q.1
  rd : (rs.map (·.1)).Nodup
  rl : rs.length ≤ 26
  rp : ∀ q ∈ rs, q.2.Perm gs
def ranksD (rs : List (Str × List Str)) : List (Key × D) := rs.map fun q => (.inr q.1, .lst (q.2.map .str))
def rawD (gs : List Str) (rs : List (Str × List Str)) : D := .tup [.lst (gs.map .str), .dct (ranksD rs)]
def ranksT (rs : List (Str × List Str)) : List (Key × T) := rs.map fun q => (.inr q.1, .fz (.lst (q.2.map .str)))
theorem frz_ranks (rs : List (Str × List Str)) : frzK (ranksT rs) = ranksD rs := by
  rw [frzK_map]
  simp [ranksT, ranksD]
theorem lvp_ranks (rs : List (Str × List Str)) : fzs ((ranksT rs).map (·.2)) = some ((rs.map (·.2)).map fun r => .lst (r.map .str)) := by
  have e : (ranksT rs).map (·.2) = ((rs.map (·.2)).map fun r => D.lst (r.map .str)).map T.fz := by simp [ranksT]
  rw [e, fzs_map]
noncomputable def rbody : Ev Fl := (sAsg (eFz (eFn F__law_ranking [some 0, none, none] (mLate 0 (mVal (eVar 4) (mVal (eLvP (pName 5)) mNil))))) (gPut 5 (pName 5) (sid 5 (eVar 3))))
theorem rbody_s {p p' : T} {x1 x2 : Option T} {g : Str} {gd : D} {ks : List (Key × T)} {ds : List D} {r : List T} (h : fzs (ks.map (·.2)) = some ds) (hl : ks.length < 16777216) (e : F__law_ranking [p, .fz gd, .fz (.lst ds)] = some (.ok (.lst r) [some p', none, none])) :
    rbody [some p, x1, x2, some (.fz (.str g)), some (.fz gd), some (.dct ks)] = some (.ok .nx [some p', x1, x2, some (.fz (.str g)), some (.fz gd), some (.dct (putD ks (.inr g) (.fz (.lst (frzL r)))))]) := by
  simp [rbody, h, e, putKid_s hl]
theorem raw_loop {p : T} {n : Nat} {x1 x2 : Option T} {gs names : List Str} (hg : ∀ z ∈ gs, Nm z) (hl : gs.length ≤ 26) (hn26 : names.length ≤ 26) (hnd : names.Nodup) (hp : Pn p n) (hn : n + 26 * 40 + 100 ≤ 10000000) :
    ∃ (p' : T) (y : Option T) (rs : List (Str × List Str)), forE (gSet 3) rbody (names.map .str) [some p, x1, x2, none, some (.fz (.lst (gs.map .str))), some (.dct [])] = some (.ok .nx [some p', x1, x2, y, some (.fz (.lst (gs.map .str))), some (.dct (ranksT rs))]) ∧
      rs.map (·.1) = names ∧ (∀ q ∈ rs, q.2.Perm gs) ∧ Pn p' (n + names.length * (gs.length + 3)) := by
  obtain ⟨E', h1, h2⟩ := forE_inv (g := gSet 3) (tb := rbody)
    (fun i E => ∃ (p' : T) (y : Option T) (rs : List (Str × List Str)), E = [some p', x1, x2, y, some (.fz (.lst (gs.map .str))), some (.dct (ranksT rs))] ∧ rs.map (·.1) = names.take i ∧ (∀ q ∈ rs, q.2.Perm gs) ∧ Pn p' (n + i * (gs.length + 3)) ∧ i ≤ names.length)
    (names.map .str) 0 _ ⟨p, none, [], rfl, by simp, fun _ h => by simp at h, by simpa using hp, Nat.zero_le _⟩ (fun i d E hi hI => by
      obtain ⟨p1, y, rs, rfl, hk, hpm, hp1, hle⟩ := hI
      rw [Nat.zero_add] at hk hp1 ⊢
      rw [List.getElem?_map] at hi
      cases hx : names[i]? with
      | none => rw [hx] at hi; cases hi
      | some g =>
        rw [hx] at hi
        cases hi
        have hilt := (List.getElem?_eq_some_iff.mp hx).1
        have hlen : rs.length = i := by
          have := congrArg List.length hk
          rw [List.length_map, List.length_take] at this
          omega
        have hb : i * (gs.length + 3) ≤ 26 * 29 := Nat.mul_le_mul (by omega) (by omega)
        obtain ⟨p2, r, e, hr, hp2⟩ := ranking (p := p1) (gs := gs) (known := rs.map (·.2)) hg hl (fun r hr => by obtain ⟨q, hq, rfl⟩ := List.mem_map.mp hr; exact hpm q hq) (by rw [List.length_map]; omega) hp1 (by omega)
        have hnew : (Sum.inr g : Key) ∉ (ranksT rs).map (·.1) := by
          have e2 : (ranksT rs).map (·.1) = (names.take i).map Sum.inr := by rw [← hk]; simp [ranksT]
          rw [e2]
          intro hm
          obtain ⟨z, hz, hzg⟩ := List.mem_map.mp hm
          injection hzg with hzg
          subst hzg
          obtain ⟨j, hj, hjz⟩ := List.mem_take_iff_getElem.mp hz
          have hji : j < i := by omega
          have hne := (List.pairwise_iff_getElem.mp hnd) j i (by omega) hilt hji
          exact hne (hjz.trans (List.getElem?_eq_some_iff.mp hx).2.symm)
        refine ⟨_, rfl, _, .inl (rbody_s (lvp_ranks rs) (by simp [ranksT]; omega) e), p2, some (.fz (.str g)), rs ++ [(g, r)], ?_, ?_, ?_, ?_, hilt⟩
        · rw [putD_new hnew]
          simp [ranksT]
        · rw [List.map_append, hk, List.take_add_one, hx]; rfl
        · intro q hq
          rcases List.mem_append.mp hq with hq | hq
          · exact hpm q hq
          · simp at hq; subst hq; exact hr
        · rw [Nat.succ_mul]
          exact hp2.mono (by omega))
  obtain ⟨p', y, rs, rfl, hk, hpm, hp', _⟩ := h2
  rw [List.length_map, Nat.zero_add] at hk hp'
  exact ⟨p', y, rs, h1, by rw [hk, List.take_length], hpm, hp'⟩
theorem raw_run {p p1 p2 p3 : T} {G M : Int} {x3 : Option T} {gs names : List Str} {rs : List (Str × List Str)} (e1 : F__law_names [p, .fz (.int M)] = some (.ok (.lst (gs.map fun z => .fz (.str z))) [some p1, none])) (e2 : F__law_names [p1, .fz (.int G)] = some (.ok (.lst (names.map fun z => .fz (.str z))) [some p2, none]))
    (e3 : forE (gSet 3) rbody (names.map .str) [some p2, some (.fz (.int G)), some (.fz (.int M)), none, some (.fz (.lst (gs.map .str))), some (.dct [])] = some (.ok .nx [some p3, some (.fz (.int G)), some (.fz (.int M)), x3, some (.fz (.lst (gs.map .str))), some (.dct (ranksT rs))])) :
    F__law_raw [p, .fz (.int G), .fz (.int M)] = some (.ok (.tup [.fz (.lst (gs.map .str)), .dct (ranksT rs)]) [some p3, none, none]) := by
  unfold rbody at e3
  simp [F__law_raw, t__law_raw, kp__law_raw, e1, e2, e3]
theorem raw {p : T} {n ng mg : Nat} (hg : ng ≤ 26) (hm : mg ≤ 26) (hp : Pn p n) (hn : n + 2000 ≤ 10000000) :
    ∃ (p' : T) (gs : List Str) (rs : List (Str × List Str)), F__law_raw [p, .fz (.int ng), .fz (.int mg)] = some (.ok (.tup [.fz (.lst (gs.map .str)), .dct (ranksT rs)]) [some p', none, none]) ∧ RawOk gs rs ∧ gs.length = mg ∧ rs.length = ng ∧ Pn p' (n + 800) := by
  obtain ⟨p1, gs, e1, l1, d1, m1, hp1⟩ := names (many := mg) hp (by omega) hm
  obtain ⟨p2, ns, e2, l2, d2, m2, hp2⟩ := names (many := ng) hp1 (by omega) hg
  obtain ⟨p3, y, rs, e3, k3, r3, hp3⟩ := raw_loop (p := p2) (x1 := some (.fz (.int ng))) (x2 := some (.fz (.int mg))) (gs := gs) (names := ns) m1 (by omega) (by omega) d2 hp2 (by omega)
  have hb : ns.length * (gs.length + 3) ≤ 26 * 29 := Nat.mul_le_mul (by omega) (by omega)
  have hrl : rs.length = ng := by
    have := congrArg List.length k3
    rw [List.length_map] at this
    omega
  refine ⟨p3, gs, rs, raw_run e1 e2 e3, ⟨m1, d1, by omega, fun q hq => m2 _ (k3 ▸ List.mem_map_of_mem hq), by rw [k3]; exact d2, by omega, r3⟩, l1, hrl, hp3.mono (by omega)⟩
theorem frz_raw (gs : List Str) (rs : List (Str × List Str)) : frz (.tup [.fz (.lst (gs.map .str)), .dct (ranksT rs)]) = rawD gs rs := by
  simp [rawD, frz_ranks]
end Gk04

namespace Gk04
open PySem PySem.Spec PyProof.Rows L2 VL
/-! ### the checks of wishes -/
@[simp] theorem tyN_s (z : Str) : tyName (.str z) = some "str" := rfl
@[simp] theorem tyN_l (z : List D) : tyName (.lst z) = some "list" := rfl
@[simp] theorem tyN_t (z : List D) : tyName (.tup z) = some "tuple" := rfl
@[simp] theorem tyN_d (z : List (Key × D)) : tyName (.dct z) = some "dict" := rfl
theorem isSeq_l (xs : List D) : isTyE [.lst xs, .tup [.ty "list", .ty "tuple"]] = some (.fz (.bl true)) := rfl
theorem isSeq_t (xs : List D) : isTyE [.tup xs, .tup [.ty "list", .ty "tuple"]] = some (.fz (.bl true)) := rfl
theorem isStr_s (z : Str) : isTyD [.str z, .ty "str"] = some (.fz (.bl true)) := rfl
theorem isDct_d (z : List (Key × D)) : isTyD [.dct z, .ty "dict"] = some (.fz (.bl true)) := rfl
theorem seq_l (xs : List D) : F_is_sequence [.fz (.lst xs)] = some (.ok (.fz (.bl true)) [none]) := by
  simp [F_is_sequence, t_is_sequence, kp_is_sequence, isSeq_l]
theorem seq_t (xs : List D) : F_is_sequence [.fz (.tup xs)] = some (.ok (.fz (.bl true)) [none]) := by
  simp [F_is_sequence, t_is_sequence, kp_is_sequence, isSeq_t]
theorem abc_lc (z : Str) (x : D) : lcE (gSet 1) bYes (eBin (inA false) (eVar 1) (eC (.str "abcdefghijklmnopqrstuvwxyz"))) [1] (strD z) [some (.fz x), none] = some (z.cps.toList.map fun c => .fz (.bl (decide (c ∈ abc))), [some (.fz x), none]) := by
  have h := lcE_pure (v := 1) (tb := bYes) (te := eBin (inA false) (eVar 1) (eC (.str "abcdefghijklmnopqrstuvwxyz"))) (p := fun _ => true) (f := fun d => match d with | .str x => .fz (.bl (match x.cps.toList with | [c] => decide (c ∈ abc) | _ => false)) | _ => .fz .non)
    (strD z) [some (.fz x), none] rfl (fun d _ => rfl) (fun d hd _ => by
      obtain ⟨c, hc, rfl⟩ := List.mem_map.mp hd
      have e : inB (.str ⟨#[c]⟩) (.str abcS) = some (decide (c ∈ abcS.cps.toList)) := rfl
      simp [e, abc_eq])
  rw [h, List.filter_eq_self.mpr fun _ _ => rfl]
  simp [strD]
theorem lenD_nm {z : Str} (h : Nm z) : lenD [.str z] = some (.fz (.int z.length)) := by
  rw [lenD_s, if_pos (by rw [sizeLine_eq]; have := h.2.1; omega)]
theorem is_name_run {z : Str} {n : Int} (h1 : (1 : Int) ≤ n) (h2 : n ≤ 8) (hl : lenD [.str z] = some (.fz (.int n))) (h3 : (strD z).length ≤ 16777216) (h4 : allD [.lst (z.cps.toList.map fun c => .bl (decide (c ∈ abc)))] = some (.fz (.bl true))) : F_is_name [.fz (.str z)] = some (.ok (.fz (.bl true)) [none]) := by
  simp [F_is_name, t_is_name, kp_is_name, isStr_s, hl, h1, h2, abc_lc, h3, h4]
theorem is_name {z : Str} (h : Nm z) : F_is_name [.fz (.str z)] = some (.ok (.fz (.bl true)) [none]) := by
  have h1 := h.1
  have h2 := h.2.1
  refine is_name_run (n := z.length) (by omega) (by omega) (lenD_nm h) (by rw [show (strD z).length = z.length by simp [strD, Str.length]]; omega) ?_
  have e : (z.cps.toList.map fun c => D.bl (decide (c ∈ abc))) = z.cps.toList.map fun _ => .bl true := List.map_congr_left fun c hc => by rw [decide_eq_true (h.2.2 c hc)]
  rw [e]
  exact allD_true _
theorem allD_strs (xs : List Str) (f : D → T) (hf : ∀ z ∈ xs, f (.str z) = .fz (.bl true)) : allD [.lst (frzL ((xs.map D.str).map f))] = some (.fz (.bl true)) := by
  have e : frzL ((xs.map D.str).map f) = xs.map fun _ => .bl true := by
    rw [frzL_map, List.map_map, List.map_map]
    exact List.map_congr_left fun z hz => by simp [hf z hz]
  rw [e]
  exact allD_true _
theorem names_lc {xs : List Str} {x : D} (h : ∀ z ∈ xs, Nm z) : lcE (gSet 1) bYes (eFn F_is_name [none] (mVal (eVar 1) mNil)) [1] (xs.map .str) [some (.fz x), none] = some ((xs.map D.str).map fun _ => .fz (.bl true), [some (.fz x), none]) := by
  have e := lcE_pure (v := 1) (tb := bYes) (te := eFn F_is_name [none] (mVal (eVar 1) mNil)) (p := fun _ => true) (f := fun _ => .fz (.bl true)) (xs.map .str) [some (.fz x), none] rfl (fun d _ => rfl) (fun d hd _ => by
    obtain ⟨z, hz, rfl⟩ := List.mem_map.mp hd
    simp [is_name (h z hz)])
  rw [e, List.filter_eq_self.mpr fun _ _ => rfl]
theorem are_names_l {xs : List Str} (h : ∀ z ∈ xs, Nm z) (nd : xs.Nodup) (hl : xs.length < 4000) : F_are_names [.fz (.lst (xs.map .str))] = some (.ok (.fz (.bl true)) [none]) := by
  obtain ⟨R, e, a⟩ : ∃ R, lcE (gSet 1) bYes (eFn F_is_name [none] (mVal (eVar 1) mNil)) [1] (xs.map .str) [some (.fz (.lst (xs.map .str))), none] = some (R, [some (.fz (.lst (xs.map .str))), none]) ∧ allD [.lst (frzL R)] = some (.fz (.bl true)) :=
    ⟨_, names_lc h, allD_strs xs (fun _ => .fz (.bl true)) fun _ _ => rfl⟩
  have ls := (lenSet_nodup nd hl).1
  have hl2 : xs.length ≤ 16777216 := by omega
  simp [F_are_names, t_are_names, kp_are_names, seq_l, e, a, ls, hl2]
theorem strs_lc {xs : List Str} {x y : Option T} : ∃ R, lcE (gSet 2) bYes (eCall isTyE (aCons (eVar 2) (aCons (eC (.ty "str")) aNil))) [2] (xs.map .str) [x, y, none] = some (R, [x, y, none]) ∧ allD [.lst (frzL R)] = some (.fz (.bl true)) := by
  have e := lcE_pure (v := 2) (tb := bYes) (te := eCall isTyE (aCons (eVar 2) (aCons (eC (.ty "str")) aNil))) (p := fun _ => true) (f := fun _ => .fz (.bl true)) (xs.map .str) [x, y, none] rfl (fun d _ => rfl) (fun d hd _ => by
    obtain ⟨z, hz, rfl⟩ := List.mem_map.mp hd
    simp [isStr_s])
  rw [List.filter_eq_self.mpr fun _ _ => rfl] at e
  exact ⟨_, e, allD_strs xs (fun _ => .fz (.bl true)) fun _ _ => rfl⟩
theorem is_order_run {x : D} {ds es ss ts : List D} {R : List T} {n : Int} (hs : F_is_sequence [.fz x] = some (.ok (.fz (.bl true)) [none])) (h1 : lenE [x] = some (.fz (.int n))) (h2 : (es.length : Int) = n) (hw : walkD x = some ds) (hl : ds.length ≤ 16777216)
    (e : lcE (gSet 2) bYes (eCall isTyE (aCons (eVar 2) (aCons (eC (.ty "str")) aNil))) [2] ds [some (.fz x), some (.fz (.lst es)), none] = some (R, [some (.fz x), some (.fz (.lst es)), none])) (a : allD [.lst (frzL R)] = some (.fz (.bl true)))
    (s1 : sortD [x] = some (.lst (ss.map .fz))) (s2 : sortD [.lst es] = some (.lst (ts.map .fz))) (q : eqAD (.lst ss) (.lst ts) = some true) : F_is_order_of [.fz x, .fz (.lst es)] = some (.ok (.fz (.bl true)) [none, none]) := by
  simp [F_is_order_of, t_is_order_of, kp_is_order_of, hs, h1, h2, hw, hl, e, a, s1, s2, q]
theorem is_order_l {xs ys : List Str} (hx : ∀ z ∈ xs, Nm z) (hp : xs.Perm ys) (hl : xs.length < 64) : F_is_order_of [.fz (.lst (xs.map .str)), .fz (.lst (ys.map .str))] = some (.ok (.fz (.bl true)) [none, none]) := by
  obtain ⟨R, e, a⟩ := strs_lc (xs := xs) (x := some (.fz (.lst (xs.map .str)))) (y := some (.fz (.lst (ys.map .str))))
  have q := eqAD_strs (xs := sortS xs) (ys := sortS ys) (fun z h => (hx z (mem_sortS.mp h)).ok) (fun z h => (hx z (hp.mem_iff.mpr (mem_sortS.mp h))).ok)
  rw [decide_eq_true (sortS_perm.mpr hp)] at q
  have s1 := sortD_l hl
  have s2 := sortD_l (xs := ys) (by rw [← hp.length_eq]; exact hl)
  rw [fz_strs] at s1 s2
  exact is_order_run (seq_l _) rfl (by rw [List.length_map, List.length_map, hp.length_eq]) rfl (by rw [List.length_map]; omega) e a s1 s2 q
theorem is_order_t {xs ys : List Str} (hx : ∀ z ∈ xs, Nm z) (hp : xs.Perm ys) (hl : xs.length < 64) : F_is_order_of [.fz (.tup (xs.map .str)), .fz (.lst (ys.map .str))] = some (.ok (.fz (.bl true)) [none, none]) := by
  obtain ⟨R, e, a⟩ := strs_lc (xs := xs) (x := some (.fz (.tup (xs.map .str)))) (y := some (.fz (.lst (ys.map .str))))
  have q := eqAD_strs (xs := sortS xs) (ys := sortS ys) (fun z h => (hx z (mem_sortS.mp h)).ok) (fun z h => (hx z (hp.mem_iff.mpr (mem_sortS.mp h))).ok)
  rw [decide_eq_true (sortS_perm.mpr hp)] at q
  have s1 := sortD_t hl
  have s2 := sortD_l (xs := ys) (by rw [← hp.length_eq]; exact hl)
  rw [fz_strs] at s1 s2
  exact is_order_run (seq_t _) rfl (by rw [List.length_map, List.length_map, hp.length_eq]) rfl (by rw [List.length_map]; omega) e a s1 s2 q
end Gk04

namespace Gk04
open PySem PySem.Spec PyProof.Rows L2 VL
/-! ### wishes are made -/
theorem lookup_mem {β : Type} : ∀ {rs : List (Str × β)} {q : Str × β}, (rs.map (·.1)).Nodup → q ∈ rs → rs.lookup q.1 = some q.2
  | p :: rs, q, nd, h => by
    simp only [List.map_cons, List.nodup_cons] at nd
    rw [List.lookup_cons]
    rcases List.mem_cons.mp h with rfl | h
    · simp
    · have e : (q.1 == p.1) = false := by
        rw [str_beq]
        exact decide_eq_false fun e => nd.1 (by rw [← e]; exact List.mem_map_of_mem h)
      simp only [e]
      exact lookup_mem nd.2 h
def mapD {β : Type} (f : β → D) (rs : List (Str × β)) : List (Key × D) := rs.map fun q => (.inr q.1, f q.2)
theorem keys_mapD {β : Type} (f : β → D) (rs : List (Str × β)) : keysOf (mapD f rs) = (rs.map (·.1)).map .str := by simp [keysOf, mapD, VL.keyOf]
theorem find_mapD {β : Type} (f : β → D) {rs : List (Str × β)} {q : Str × β} (nd : (rs.map (·.1)).Nodup) (h : q ∈ rs) : findD (mapD f rs) (.inr q.1) = some (f q.2) := by
  unfold mapD
  rw [findD_map f rs q.1, lookup_mem nd h]
  rfl
theorem ix_mapD {β : Type} (f : β → D) {rs : List (Str × β)} {q : Str × β} (nd : (rs.map (·.1)).Nodup) (h : q ∈ rs) : ixA (.dct (mapD f rs)) (.str q.1) = some (.fz (f q.2)) := by
  rw [ixA_dct, find_mapD f nd h]
theorem mem_fst {β : Type} {rs : List (Str × β)} {g : Str} (h : g ∈ rs.map (·.1)) : ∃ q ∈ rs, q.1 = g := by
  obtain ⟨q, hq, e⟩ := List.mem_map.mp h
  exact ⟨q, hq, e⟩
def tupS (r : List Str) : D := .tup (r.map .str)
def lstS (r : List Str) : D := .lst (r.map .str)
theorem ranksD_eq (rs : List (Str × List Str)) : ranksD rs = mapD lstS rs := rfl
theorem need_gifts {gs : List Str} (h : ∀ z ∈ gs, Nm z) (nd : gs.Nodup) (hl : gs.length ≤ 16) : F_need_gifts [.fz (.lst (gs.map .str))] = some (.ok (.fz .non) [none]) := by
  have e := are_names_l h nd (by omega)
  have h2 : ¬ (16 : Int) < gs.length := by omega
  simp [F_need_gifts, t_need_gifts, kp_need_gifts, e, h2]
/-! the checks of the rankings -/
def nrbody1 : Ev Fl := (sIf (bNot (bTru (eFn F_is_name [none] (mVal (eVar 2) mNil)))) sNo sNx)
def nrbody2 : Ev Fl := (sIf (bNot (bTru (eFn F_is_order_of [none, none] (mVal (eBin ixA (eVar 1) (eVar 2)) (mVal (eVar 0) mNil))))) sNo sNx)
theorem need_rankings_run {gs : D} {ks : List (Key × D)} {n : Int} {y z : Option T} (h1 : forE (gSet 2) nrbody1 (keysOf ks) [some (.fz gs), some (.fz (.dct ks)), none] = some (.ok .nx [some (.fz gs), some (.fz (.dct ks)), y])) (hl : (ks.length : Int) = n) (h16 : ¬ (16 : Int) < n)
    (h2 : forE (gSet 2) nrbody2 (keysOf ks) [some (.fz gs), some (.fz (.dct ks)), y] = some (.ok .nx [some (.fz gs), some (.fz (.dct ks)), z])) : F_need_rankings [.fz gs, .fz (.dct ks)] = some (.ok (.fz .non) [none, none]) := by
  unfold nrbody1 at h1
  unfold nrbody2 at h2
  simp [F_need_rankings, t_need_rankings, kp_need_rankings, isDct_d, h1, hl, h16, h2]
theorem need_rankings {β : Type} {gs : List Str} {rs : List (Str × β)} {f : β → D} (hg : ∀ z ∈ gs, Nm z) (hl : gs.length ≤ 16) (hr : rs.length ≤ 16) (hn : ∀ q ∈ rs, Nm q.1) (nd : (rs.map (·.1)).Nodup) (hf : ∀ q ∈ rs, F_is_order_of [.fz (f q.2), .fz (.lst (gs.map .str))] = some (.ok (.fz (.bl true)) [none, none])) :
    F_need_rankings [.fz (.lst (gs.map .str)), .fz (.dct (mapD f rs))] = some (.ok (.fz .non) [none, none]) := by
  obtain ⟨y, h1⟩ := forE_fix (g := gSet 2) (tb := nrbody1) (E := [some (.fz (.lst (gs.map .str))), some (.fz (.dct (mapD f rs))), none]) (i := 2) (by simp) (keysOf (mapD f rs)) (fun d x => by simp) (fun d hd => by
    rw [keys_mapD] at hd
    obtain ⟨g, hg', rfl⟩ := List.mem_map.mp hd
    obtain ⟨q, hq, rfl⟩ := mem_fst hg'
    simp [nrbody1, is_name (hn q hq)]) none
  obtain ⟨z, h2⟩ := forE_fix (g := gSet 2) (tb := nrbody2) (E := [some (.fz (.lst (gs.map .str))), some (.fz (.dct (mapD f rs))), none]) (i := 2) (by simp) (keysOf (mapD f rs)) (fun d x => by simp) (fun d hd => by
    rw [keys_mapD] at hd
    obtain ⟨g, hg', rfl⟩ := List.mem_map.mp hd
    obtain ⟨q, hq, rfl⟩ := mem_fst hg'
    simp [nrbody2, ix_mapD f nd hq, hf q hq]) y
  exact need_rankings_run h1 rfl (by simp only [mapD, List.length_map]; omega) h2
/-! places -/
theorem enum_str (r : List Str) : enumD (r.map D.str) = (List.range r.length).map fun i => .tpn [.int (i : Nat), .str (r.getD i Str.empty)] := by
  unfold enumD
  rw [List.length_map]
  apply List.map_congr_left
  intro i hi
  have h := List.mem_range.mp hi
  simp [List.getD_eq_getElem?_getD, List.getElem?_eq_getElem h]
def plK : D → Key
  | .tpn [_, .str z] => .inr z
  | _ => .inl 0
def plT : D → T
  | .tpn [i, _] => .fz i
  | _ => .fz .non
theorem places_dc {r : List Str} {x : Option T} (nd : r.Nodup) : dcE (gTup' 2 (gCons' (gSet 1) (gCons' (gSet 2) gNil'))) bYes (eVar 2) (eVar 1) [1, 2] (enumD (r.map D.str)) [x, none, none] [] = some ((placesD r).map fun p => (p.1, .fz p.2), [x, none, none]) := by
  have e := dcE_fix (g := gTup' 2 (gCons' (gSet 1) (gCons' (gSet 2) gNil'))) (tb := bYes) (tk := eVar 2) (te := eVar 1) (vs := [1, 2]) (k := plK) (f := plT) (E := [x, none, none]) (enumD (r.map D.str)) [] (fun d hd => by
    rw [enum_str] at hd
    obtain ⟨i, hi, rfl⟩ := List.mem_map.mp hd
    generalize r.getD i Str.empty = z
    exact ⟨[x, some (.fz (.int (i : Nat))), some (.fz (.str z))], [x, some (.fz (.int (i : Nat))), some (.fz (.str z))], [x, some (.fz (.int (i : Nat))), some (.fz (.str z))], [x, some (.fz (.int (i : Nat))), some (.fz (.str z))], .fz (.str z), by simp, rfl, by simp, rfl, by simp [plT], by simp⟩)
  rw [e]
  have nk : ((enumD (r.map D.str)).map plK).Nodup := by
    have e2 : (enumD (r.map D.str)).map plK = (placesD r).map (·.1) := by
      rw [enum_str, placesD, List.map_map, List.map_map]
      rfl
    rw [e2, places_keys]
    exact List.Pairwise.map _ (fun a b h e => h (by injection e)) nd
  rw [fold_new plK plT (enumD (r.map D.str)) [] (by simp) nk, enum_str, placesD]
  simp only [List.nil_append, List.map_map]
  rfl
theorem places_run {x : D} {ds es : List D} {W : List (Key × T)} (hx : x = .tup ds) (he : enumD ds = es) (hl : es.length ≤ 16777216) (h : dcE (gTup' 2 (gCons' (gSet 1) (gCons' (gSet 2) gNil'))) bYes (eVar 2) (eVar 1) [1, 2] es [some (.fz x), none, none] [] = some (W, [some (.fz x), none, none])) : F_places_of [.fz x] = some (.ok (.dct W) [none]) := by
  subst hx
  simp [F_places_of, t_places_of, kp_places_of, he, hl, h]
theorem places_t {r : List Str} (nd : r.Nodup) (hl : r.length ≤ 1000) : F_places_of [.fz (tupS r)] = some (.ok (.dct ((placesD r).map fun p => (p.1, .fz p.2))) [none]) :=
  places_run rfl rfl (by rw [enumD_len, List.length_map]; omega) (places_dc nd)
/-! the constructor -/
theorem w1 : ¬ ("own_gifts" : Str) = "own_rankings" := by decide
theorem w2 : ¬ ("own_gifts" : Str) = "places" := by decide
theorem w3 : ¬ ("own_rankings" : Str) = "places" := by decide
theorem w4 : ¬ ("own_rankings" : Str) = "own_gifts" := by decide
theorem w5 : ¬ ("places" : Str) = "own_gifts" := by decide
theorem w6 : ¬ ("places" : Str) = "own_rankings" := by decide
def plcS (r : List Str) : D := .dct (placesD r)
def wishD (gs : List Str) (rs : List (Str × List Str)) : D := .ins "Wishes" [("own_gifts", tupS gs), ("own_rankings", .dct (mapD tupS rs)), ("places", .dct (mapD plcS rs))]
def wishT (gs : List Str) (rs : List (Str × List Str)) : T := .ins "Wishes" [("own_gifts", .fz (tupS gs)), ("own_rankings", .fz (.dct (mapD tupS rs))), ("places", .fz (.dct (mapD plcS rs)))]
theorem frz_wish (gs : List Str) (rs : List (Str × List Str)) : frz (wishT gs rs) = wishD gs rs := by simp [wishT, wishD]
theorem init_run {gs : D} {ks : List (Key × D)} {gt : T} {R1 R2 : List (Key × T)} (h1 : F_need_gifts [.fz gs] = some (.ok (.fz .non) [none])) (h2 : F_need_rankings [.fz gs, .fz (.dct ks)] = some (.ok (.fz .non) [none, none])) (hk : (keysOf ks).length ≤ 16777216) (h3 : tupleD [gs] = some gt)
    (h4 : dcE (gSet 3) bYes (eVar 3) (eCall tupleD (aCons (eBin ixA (eVar 2) (eVar 3)) aNil)) [3] (keysOf ks) [some (.ins "Wishes" [("own_gifts", .fz (frz gt))]), some (.fz gs), some (.fz (.dct ks)), none] [] = some (R1, [some (.ins "Wishes" [("own_gifts", .fz (frz gt))]), some (.fz gs), some (.fz (.dct ks)), none]))
    (h5 : dcE (gSet 3) bYes (eVar 3) (eFn F_places_of [none] (mVal (eBin ixA (eRdP (pFld "Wishes" "own_rankings" (pName 0))) (eVar 3)) mNil)) [3] (keysOf ks) [some (.ins "Wishes" [("own_gifts", .fz (frz gt)), ("own_rankings", .fz (.dct (frzK R1)))]), some (.fz gs), some (.fz (.dct ks)), none] [] =
      some (R2, [some (.ins "Wishes" [("own_gifts", .fz (frz gt)), ("own_rankings", .fz (.dct (frzK R1)))]), some (.fz gs), some (.fz (.dct ks)), none])) :
    F_Wishes___init__ [.ins "Wishes" [], .fz gs, .fz (.dct ks)] = some (.ok (.fz .non) [some (.ins "Wishes" [("own_gifts", .fz (frz gt)), ("own_rankings", .fz (.dct (frzK R1))), ("places", .fz (.dct (frzK R2)))]), none, none]) := by
  simp [F_Wishes___init__, t_Wishes___init__, kp_Wishes___init__, h1, h2, hk, h3, h4, h5, putFd, w1, w2, w3, w4, w5, w6]
/-- what a rankings dict holds for a guest -/
structure RkD (gs : List Str) (d : D) (r : List Str) (t : T) : Prop where
  tup : tupleD [d] = some t
  fz : frz t = tupS r
  ord : F_is_order_of [.fz d, .fz (.lst (gs.map .str))] = some (.ok (.fz (.bl true)) [none, none])
theorem rkT {gs r : List Str} (hg : ∀ z ∈ gs, Nm z) (hp : r.Perm gs) (hl : gs.length ≤ 26) : RkD gs (tupS r) r (.fz (tupS r)) :=
  ⟨rfl, rfl, is_order_t (fun z hz => hg z (hp.mem_iff.mp hz)) hp (by rw [hp.length_eq]; omega)⟩
theorem rkL {gs r : List Str} (hg : ∀ z ∈ gs, Nm z) (hp : r.Perm gs) (hl : gs.length ≤ 26) : RkD gs (lstS r) r (.tup ((r.map D.str).map .fz)) :=
  ⟨rfl, by simp [tupS], is_order_l (fun z hz => hg z (hp.mem_iff.mp hz)) hp (by rw [hp.length_eq]; omega)⟩
theorem initG {gs : List Str} {rs : List (Str × List Str)} {zs : List (Str × D)} (ok : RawOk gs rs) (hg : gs.length ≤ 16) (hr : rs.length ≤ 16) (hk : zs.map (·.1) = rs.map (·.1)) (hz : ∀ q ∈ rs, ∃ d t, zs.lookup q.1 = some d ∧ RkD gs d q.2 t) :
    F_Wishes___init__ [.ins "Wishes" [], .fz (lstS gs), .fz (.dct (mapD id zs))] = some (.ok (.fz .non) [some (wishT gs rs), none, none]) := by
  have ndz : (zs.map (·.1)).Nodup := by rw [hk]; exact ok.rd
  have keys : keysOf (mapD id zs) = (rs.map (·.1)).map .str := by rw [keys_mapD, hk]
  have nkT : ∀ f : Str → T, ((rs.map fun q => ((Sum.inr q.1 : Key), f q.1)).map (·.1)).Nodup := fun f => by
    rw [List.map_map]
    have e : (rs.map ((fun x : Key × T => x.1) ∘ fun q => ((Sum.inr q.1 : Key), f q.1))) = (rs.map (·.1)).map Sum.inr := by rw [List.map_map]; rfl
    rw [e]
    exact List.Pairwise.map _ (fun a b h e => h (by injection e)) ok.rd
  have klen : (keysOf (mapD id zs)).length ≤ 16777216 := by rw [keys, List.length_map, List.length_map]; omega
  have go : ∀ (te : Ev T) (f : Str → T) (x : Option T), (∀ q ∈ rs, te [x, some (.fz (lstS gs)), some (.fz (.dct (mapD id zs))), some (.fz (.str q.1))] = some (.ok (f q.1) [x, some (.fz (lstS gs)), some (.fz (.dct (mapD id zs))), some (.fz (.str q.1))])) →
      dcE (gSet 3) bYes (eVar 3) te [3] (keysOf (mapD id zs)) [x, some (.fz (lstS gs)), some (.fz (.dct (mapD id zs))), none] [] = some (rs.map fun q => (.inr q.1, f q.1), [x, some (.fz (lstS gs)), some (.fz (.dct (mapD id zs))), none]) := by
    intro te f x h
    have e := dcE_pure (v := 3) (tb := bYes) (tk := eVar 3) (te := te) (p := fun _ => true) (k := fun d => match d with | .str z => .inr z | _ => .inl 0) (f := fun d => match d with | .str z => f z | _ => .fz .non) (keysOf (mapD id zs)) [x, some (.fz (lstS gs)), some (.fz (.dct (mapD id zs))), none] [] rfl (fun d _ => rfl) (fun d hd _ => by
        rw [keys] at hd
        obtain ⟨g, hg', rfl⟩ := List.mem_map.mp hd
        exact ⟨.fz (.str g), by simp, rfl⟩) (fun d hd _ => by
        rw [keys] at hd
        obtain ⟨g, hg', rfl⟩ := List.mem_map.mp hd
        obtain ⟨q, hq, rfl⟩ := mem_fst hg'
        exact h q hq)
    rw [e, List.filter_eq_self.mpr fun _ _ => rfl]
    congr 2
    rw [keys, List.map_map, List.foldl_map]
    have nk : (rs.map fun q : Str × List Str => (Sum.inr q.1 : Key)).Nodup := by
      have := nkT f
      rw [List.map_map] at this
      exact this
    have := fold_new (fun q : Str × List Str => (Sum.inr q.1 : Key)) (fun q => f q.1) rs [] (by simp) nk
    simpa using this
  have ixz : ∀ q ∈ rs, ∀ d, zs.lookup q.1 = some d → ixA (.dct (mapD id zs)) (.str q.1) = some (.fz d) := fun q _ d h => by
    unfold mapD
    rw [ixA_dct, findD_map id zs q.1, h]
    rfl
  have h4 := go (eCall tupleD (aCons (eBin ixA (eVar 2) (eVar 3)) aNil)) (fun g => match zs.lookup g with | some d => (tupleD [d]).getD (.fz .non) | none => .fz .non) (some (.ins "Wishes" [("own_gifts", .fz (frz (.tup ((gs.map D.str).map T.fz))))])) (fun q hq => by
    obtain ⟨d, t, h1, h2⟩ := hz q hq
    have h := ixz q hq d h1
    have ht := h2.tup
    simp only [h1, ht, Option.getD_some]
    generalize mapD id zs = Z at *
    simp [h, ht])
  have e0 : frzK (rs.map fun q => ((Sum.inr q.1 : Key), (match zs.lookup q.1 with | some d => (tupleD [d]).getD (.fz .non) | none => .fz .non : T))) = mapD tupS rs := by
    rw [frzK_map, List.map_map, mapD]
    apply List.map_congr_left
    intro q hq
    obtain ⟨d, t, h1, h2⟩ := hz q hq
    simp only [Function.comp, h1, h2.tup, Option.getD_some, h2.fz]
  have h5 := go (eFn F_places_of [none] (mVal (eBin ixA (eRdP (pFld "Wishes" "own_rankings" (pName 0))) (eVar 3)) mNil)) (fun g => .dct ((placesD ((rs.lookup g).getD [])).map fun p => (p.1, .fz p.2))) (some (.ins "Wishes" [("own_gifts", .fz (frz (.tup ((gs.map D.str).map T.fz)))), ("own_rankings", .fz (.dct (frzK (rs.map fun q => (.inr q.1, (match zs.lookup q.1 with | some d => (tupleD [d]).getD (.fz .non) | none => .fz .non : T))))))])) (fun q hq => by
    have h := ix_mapD tupS ok.rd hq
    have hp := places_t (r := q.2) ((ok.rp q hq).nodup_iff.mpr ok.gd) (by rw [(ok.rp q hq).length_eq]; omega)
    rw [e0]
    simp only [lookup_mem ok.rd hq, Option.getD_some]
    generalize mapD id zs = Z at *
    simp [keyIx, w1, h, hp])
  have r := init_run (gt := .tup ((gs.map D.str).map T.fz)) (need_gifts ok.gn ok.gd hg) (need_rankings (f := id) (rs := zs) ok.gn hg (by rw [← List.length_map (f := (·.1)), hk, List.length_map]; exact hr) (fun q hq => by
    have : q.1 ∈ rs.map (·.1) := by rw [← hk]; exact List.mem_map_of_mem hq
    obtain ⟨p, hp, e⟩ := mem_fst this
    exact e ▸ ok.rn p hp) ndz fun q hq => by
    have : q.1 ∈ rs.map (·.1) := by rw [← hk]; exact List.mem_map_of_mem hq
    obtain ⟨p, hp, e⟩ := mem_fst this
    obtain ⟨d, t, h1, h2⟩ := hz p hp
    rw [e, lookup_mem ndz hq] at h1
    injection h1 with h1
    subst h1
    exact h2.ord) klen rfl h4 h5
  rw [e0] at r
  have e2 : frzK (rs.map fun q => ((Sum.inr q.1 : Key), T.dct ((placesD ((rs.lookup q.1).getD [])).map fun p => (p.1, T.fz p.2)))) = mapD plcS rs := by
    rw [frzK_map, List.map_map, mapD]
    apply List.map_congr_left
    intro q hq
    have e3 : ∀ l : List (Key × D), frzK (l.map fun p => (p.1, T.fz p.2)) = l := fun l => by
      rw [frzK_map, List.map_map]
      have : ((fun p : Key × T => (p.1, frz p.2)) ∘ fun p : Key × D => (p.1, T.fz p.2)) = id := by funext p; simp
      rw [this, List.map_id]
    simp [plcS, e3, lookup_mem ok.rd hq]
  rw [e2] at r
  have er : [some (T.ins "Wishes" [("own_gifts", .fz (frz (.tup ((gs.map D.str).map T.fz)))), ("own_rankings", .fz (.dct (mapD tupS rs))), ("places", .fz (.dct (mapD plcS rs)))]), none, none] = [some (wishT gs rs), none, none] := by simp [wishT, tupS]
  rw [← er]
  exact r
theorem init {gs : List Str} {rs : List (Str × List Str)} (ok : RawOk gs rs) (hg : gs.length ≤ 16) (hr : rs.length ≤ 16) : F_Wishes___init__ [.ins "Wishes" [], .fz (lstS gs), .fz (.dct (mapD tupS rs))] = some (.ok (.fz .non) [some (wishT gs rs), none, none]) := by
  have e : mapD tupS rs = mapD id (rs.map fun q => (q.1, tupS q.2)) := by simp [mapD]
  rw [e]
  refine initG ok hg hr (by rw [List.map_map]; rfl) fun q hq => ⟨tupS q.2, _, ?_, rkT ok.gn (ok.rp q hq) ok.gl⟩
  have nd : ((rs.map fun q => (q.1, tupS q.2)).map (·.1)).Nodup := by rw [List.map_map]; exact ok.rd
  exact lookup_mem nd (q := (q.1, tupS q.2)) (List.mem_map_of_mem (f := fun q : Str × List Str => (q.1, tupS q.2)) hq)
/-! the law's wishes -/
theorem pairsD_map {β : Type} (f : β → D) : ∀ rs : List (Str × β), pairsD (rs.map fun q => .tup [.str q.1, f q.2]) = some (mapD f rs)
  | [] => rfl
  | q :: rs => by simp [pairsD, VL.pairD, pairsD_map f rs, mapD]
theorem nodup_mapD {β : Type} (f : β → D) {rs : List (Str × β)} (nd : (rs.map (·.1)).Nodup) : ((mapD f rs).map (·.1)).Nodup := by
  have e : (mapD f rs).map (·.1) = (rs.map (·.1)).map Sum.inr := by simp [mapD]
  rw [e]
  exact List.Pairwise.map _ (fun a b h e => h (by injection e)) nd
theorem wishes_run {ks : List (Key × D)} {gl : List D} {ts : List T} {ps : List (Key × D)} {o : T} (hk : (keysOf ks).length ≤ 16777216)
    (h1 : lcE (gSet 1) bYes (eTup (mOwn (eVar 1) (mOwn (eCall tupleD (aCons (eBin ixA (eBin ixA (eVar 0) (eC (.int 1))) (eVar 1)) aNil)) mNil))) [1] (keysOf ks) [some (.fz (.tup [.lst gl, .dct ks])), none] = some (ts, [some (.fz (.tup [.lst gl, .dct ks])), none]))
    (h2 : pairsD (frzL ts) = some ps) (h3 : F_Wishes___init__ [.ins "Wishes" [], .fz (.lst gl), .fz (.dct (frzK (mergeT [] ps)))] = some (.ok (.fz .non) [some o, none, none])) : F__law_wishes [.fz (.tup [.lst gl, .dct ks])] = some (.ok o [none]) := by
  have i0 : L2.atI [D.lst gl, D.dct ks] 0 = some (.lst gl) := rfl
  have i1 : L2.atI [D.lst gl, D.dct ks] 1 = some (.dct ks) := rfl
  simp [F__law_wishes, t__law_wishes, kp__law_wishes, ixA_tup, i0, i1, hk, h1, h2, h3]
theorem wishes {gs : List Str} {rs : List (Str × List Str)} (ok : RawOk gs rs) (hg : gs.length ≤ 16) (hr : rs.length ≤ 16) : F__law_wishes [.fz (rawD gs rs)] = some (.ok (wishT gs rs) [none]) := by
  have klen : (keysOf (mapD lstS rs)).length ≤ 16777216 := by rw [keys_mapD, List.length_map, List.length_map]; omega
  have e := lcE_pure (v := 1) (tb := bYes) (te := eTup (mOwn (eVar 1) (mOwn (eCall tupleD (aCons (eBin ixA (eBin ixA (eVar 0) (eC (.int 1))) (eVar 1)) aNil)) mNil))) (p := fun _ => true) (f := fun d => match d with | .str z => .tup [.fz (.str z), .tup ((((rs.lookup z).getD []).map D.str).map .fz)] | _ => .fz .non)
    (keysOf (mapD lstS rs)) [some (.fz (.tup [.lst (gs.map .str), .dct (mapD lstS rs)])), none] rfl (fun d _ => rfl) (fun d hd _ => by
      rw [keys_mapD] at hd
      obtain ⟨g, hg', rfl⟩ := List.mem_map.mp hd
      obtain ⟨q, hq, rfl⟩ := mem_fst hg'
      have h := ix_mapD lstS ok.rd hq
      have i1 : L2.atI [D.lst (gs.map .str), D.dct (mapD lstS rs)] 1 = some (.dct (mapD lstS rs)) := rfl
      simp only [lookup_mem ok.rd hq, Option.getD_some]
      generalize mapD lstS rs = W at *
      simp [ixA_tup, i1, h, lstS])
  rw [List.filter_eq_self.mpr fun _ _ => rfl] at e
  refine wishes_run klen e ?_ ?_ (ps := mapD tupS rs)
  · have e2 : frzL (List.map (fun d => match d with | .str z => T.tup [.fz (.str z), .tup ((((rs.lookup z).getD []).map D.str).map .fz)] | _ => .fz .non) (keysOf (mapD lstS rs))) = rs.map fun q => .tup [.str q.1, tupS q.2] := by
      rw [frzL_map, keys_mapD, List.map_map, List.map_map, List.map_map]
      apply List.map_congr_left
      intro q hq
      simp [lookup_mem ok.rd hq, tupS]
    rw [e2]
    exact pairsD_map tupS rs
  · rw [merge_new (nodup_mapD tupS ok.rd)]
    have e3 : frzK ((mapD tupS rs).map fun p => (p.1, T.fz p.2)) = mapD tupS rs := by
      rw [frzK_map, List.map_map]
      have : ((fun p : Key × T => (p.1, frz p.2)) ∘ fun p : Key × D => (p.1, T.fz p.2)) = id := by funext p; simp
      rw [this, List.map_id]
    rw [e3]
    exact init ok hg hr
/-! what wishes tell -/
theorem lk1 {x y z : D} : ([("own_gifts", x), ("own_rankings", y), ("places", z)] : List (Str × D)).lookup ("own_gifts" : Str) = some x := by
  rw [List.lookup_cons, show (("own_gifts" : Str) == "own_gifts") = true by decide]
theorem lk2 {x y z : D} : ([("own_gifts", x), ("own_rankings", y), ("places", z)] : List (Str × D)).lookup ("own_rankings" : Str) = some y := by
  rw [List.lookup_cons, show (("own_rankings" : Str) == "own_gifts") = false by decide, List.lookup_cons, show (("own_rankings" : Str) == "own_rankings") = true by decide]
theorem lk3 {x y z : D} : ([("own_gifts", x), ("own_rankings", y), ("places", z)] : List (Str × D)).lookup ("places" : Str) = some z := by
  rw [List.lookup_cons, show (("places" : Str) == "own_gifts") = false by decide, List.lookup_cons, show (("places" : Str) == "own_rankings") = false by decide, List.lookup_cons, show (("places" : Str) == "places") = true by decide]
theorem lkm {x y z : D} {m : Str} (h1 : (m == "own_gifts") = false) (h2 : (m == "own_rankings") = false) (h3 : (m == "places") = false) : ([("own_gifts", x), ("own_rankings", y), ("places", z)] : List (Str × D)).lookup m = none := by
  rw [List.lookup_cons, h1, List.lookup_cons, h2, List.lookup_cons, h3]
  rfl
theorem guests_run {w : List (Str × D)} {P : D} {L : List T} (h0 : w.lookup ("own_rankings" : Str) = some P) (h1 : listE [P] = some (.lst L)) : F_Wishes_guests [.fz (.ins "Wishes" w)] = some (.ok (.lst L) [none]) := by
  simp [F_Wishes_guests, t_Wishes_guests, kp_Wishes_guests, h0, h1]
theorem gifts_run {w : List (Str × D)} {P : D} {L : List T} (h0 : w.lookup ("own_gifts" : Str) = some P) (h1 : listE [P] = some (.lst L)) : F_Wishes_gifts [.fz (.ins "Wishes" w)] = some (.ok (.lst L) [none]) := by
  simp [F_Wishes_gifts, t_Wishes_gifts, kp_Wishes_gifts, h0, h1]
theorem w_guests (gs : List Str) (rs : List (Str × List Str)) : F_Wishes_guests [.fz (wishD gs rs)] = some (.ok (.lst ((rs.map (·.1)).map fun z => .fz (.str z))) [none]) := by
  refine guests_run lk2 ?_
  rw [listE_d, keys_mapD, List.map_map]
  rfl
theorem w_gifts (gs : List Str) (rs : List (Str × List Str)) : F_Wishes_gifts [.fz (wishD gs rs)] = some (.ok (.lst (gs.map fun z => .fz (.str z))) [none]) := by
  refine gifts_run lk1 ?_
  rw [tupS, listE_t, List.map_map]
  rfl
/-- does the guest with this ranking like a better than what it has -/
def betterB (r : List Str) (a : Str) : Option Str → Bool
  | none => true
  | some b => decide (r.idxOf a < r.idxOf b)
end Gk04

namespace Gk04
open PySem PySem.Spec PyProof.Rows L2 VL
/-! ### methods of wishes, comprehensions over names -/
theorem im_w {gs : List Str} {rs : List (Str × List Str)} {m : Str} (h1 : (m == "own_gifts") = false) (h2 : (m == "own_rankings") = false) (h3 : (m == "places") = false) : insOf "Wishes" m (wishD gs rs) = true := by
  simp only [wishD, insOf_a]
  rw [lkm h1 h2 h3]
  simp
theorem strs_lcP {v : Nat} {tb : Ev Bool} {te : Ev T} {E : En} {ns : List Str} (P : Str → Bool) (hv : E[v]? = some none) (h1 : ∀ z ∈ ns, tb (E.set v (some (.fz (.str z)))) = some (.ok (P z) (E.set v (some (.fz (.str z)))))) (h2 : ∀ z ∈ ns, te (E.set v (some (.fz (.str z)))) = some (.ok (.fz (.str z)) (E.set v (some (.fz (.str z)))))) :
    lcE (gSet v) tb te [v] (ns.map .str) E = some (((ns.filter P).map D.str).map .fz, E) := by
  have e := lcE_pure (v := v) (tb := tb) (te := te) (p := fun d => match d with | .str z => P z | _ => false) (f := fun d => .fz d) (ns.map .str) E hv (fun d hd => by
    obtain ⟨z, hz, rfl⟩ := List.mem_map.mp hd
    exact h1 z hz) (fun d hd _ => by
    obtain ⟨z, hz, rfl⟩ := List.mem_map.mp hd
    exact h2 z hz)
  rw [e, List.filter_map]
  rfl
end Gk04

namespace Gk04
open PySem PySem.Spec PyProof.Rows L2 VL
/-! ### holdings -/
def putH (hs : List (Str × Option Str)) (g : Str) (v : Option Str) : List (Str × Option Str) := hs.map fun q => if q.1 = g then (q.1, v) else q
theorem putH_keys (hs : List (Str × Option Str)) (g : Str) (v : Option Str) : (putH hs g v).map (·.1) = hs.map (·.1) := by
  unfold putH
  rw [List.map_map]
  apply List.map_congr_left
  intro q _
  simp only [Function.comp]
  split <;> rfl
theorem lookup_putH (g : Str) (v : Option Str) (k : Str) : ∀ hs : List (Str × Option Str), (putH hs g v).lookup k = if k = g then (hs.lookup k).map fun _ => v else hs.lookup k
  | [] => by simp [putH]
  | q :: hs => by
    have ih := lookup_putH g v k hs
    unfold putH at ih ⊢
    rw [List.map_cons]
    obtain ⟨a, b⟩ := q
    by_cases e : a = g
    · subst e
      simp only [if_true, List.lookup_cons]
      by_cases e2 : k = a
      · subst e2; simp
      · have e3 : (k == a) = false := by rw [str_beq]; exact decide_eq_false e2
        simp only [e3, ih]
    · simp only [if_neg e, List.lookup_cons]
      by_cases e2 : k = a
      · subst e2; simp [e]
      · have e3 : (k == a) = false := by rw [str_beq]; exact decide_eq_false e2
        simp only [e3, ih]
def holdT (hs : List (Str × Option Str)) : List (Key × T) := hs.map fun q => (.inr q.1, .fz (optD q.2))
def holdD (hs : List (Str × Option Str)) : List (Key × D) := mapD optD hs
theorem frz_hold (hs : List (Str × Option Str)) : frzK (holdT hs) = holdD hs := by rw [frzK_map]; simp [holdT, holdD, mapD]
theorem hold_keys (hs : List (Str × Option Str)) : (holdT hs).map (·.1) = (hs.map (·.1)).map Sum.inr := by simp [holdT]
theorem putD_holdT : ∀ {hs : List (Str × Option Str)} {g : Str} {v : Option Str}, (hs.map (·.1)).Nodup → g ∈ hs.map (·.1) → putD (holdT hs) (.inr g) (.fz (optD v)) = holdT (putH hs g v)
  | q :: hs, g, v, nd, h => by
    simp only [List.map_cons, List.nodup_cons] at nd
    obtain ⟨a, b⟩ := q
    by_cases e : a = g
    · subst e
      have nx : ∀ q ∈ hs, ¬ q.1 = a := fun q hq e => by
        have m : q.1 ∈ hs.map (·.1) := List.mem_map_of_mem hq
        rw [e] at m
        exact nd.1 m
      have e2 : putH hs a v = hs := by
        unfold putH
        have : (hs.map fun q => if q.1 = a then (q.1, v) else q) = hs.map id := List.map_congr_left fun q hq => by rw [if_neg (nx q hq)]; rfl
        rw [this, List.map_id]
      show putD ((.inr a, .fz (optD b)) :: holdT hs) (.inr a) _ = holdT ((if a = a then (a, v) else (a, b)) :: putH hs a v)
      rw [if_pos rfl, e2]
      simp [putD, keyIx, holdT]
    · have h2 : g ∈ hs.map (·.1) := by
        rcases List.mem_cons.mp h with h | h
        · exact absurd h.symm e
        · exact h
      have ih := putD_holdT (v := v) nd.2 h2
      have e3 : ¬ (Sum.inr a : Key) = Sum.inr g := fun h => e (by injection h)
      show putD ((.inr a, .fz (optD b)) :: holdT hs) (.inr g) _ = holdT ((if a = g then (a, v) else (a, b)) :: putH hs g v)
      rw [if_neg e]
      unfold putD at ih ⊢
      simp only [List.map_cons, keyIx, if_neg e3]
      cases hk : keyIx ((holdT hs).map (·.1)) (.inr g) with
      | none =>
        have := keyIx_none hk
        rw [hold_keys] at this
        exact absurd (List.mem_map_of_mem h2) this
      | some n =>
        rw [hk] at ih
        simp only [Option.map_some, setSnd]
        dsimp only at ih
        rw [ih]
        rfl
structure HoldOk (gs : List Str) (rs : List (Str × List Str)) (hs : List (Str × Option Str)) : Prop where
  keys : hs.map (·.1) = rs.map (·.1)
  mem : ∀ g z, hs.lookup g = some (some z) → z ∈ gs
  inj : ∀ g g' z, hs.lookup g = some (some z) → hs.lookup g' = some (some z) → g = g'
theorem HoldOk.put {gs : List Str} {rs : List (Str × List Str)} {hs : List (Str × Option Str)} (h : HoldOk gs rs hs) {g : Str} {v : Option Str} (hv : ∀ z, v = some z → z ∈ gs ∧ ∀ g', hs.lookup g' = some (some z) → g' = g) : HoldOk gs rs (putH hs g v) := by
  refine ⟨(putH_keys hs g v).trans h.keys, fun k z e => ?_, fun k k' z e e' => ?_⟩
  · rw [lookup_putH] at e
    split at e
    · cases hl : hs.lookup k with
      | none => rw [hl] at e; cases e
      | some w => rw [hl] at e; exact (hv z (by injection e)).1
    · exact h.mem k z e
  · rw [lookup_putH] at e e'
    split at e
    · rename_i c
      subst c
      split at e'
      · rename_i c; exact c.symm
      · cases hl : hs.lookup k with
        | none => rw [hl] at e; cases e
        | some w =>
          rw [hl] at e
          exact ((hv z (by injection e)).2 k' e').symm
    · split at e'
      · rename_i c
        subst c
        cases hl : hs.lookup k' with
        | none => rw [hl] at e'; cases e'
        | some w =>
          rw [hl] at e'
          exact (hv z (by injection e')).2 k e
      · exact h.inj k k' z e e'
theorem HoldOk.swap {gs : List Str} {rs : List (Str × List Str)} {hs : List (Str × Option Str)} (h : HoldOk gs rs hs) {g g' : Str} {a b : Option Str} (hg : hs.lookup g = some a) (hg' : hs.lookup g' = some b) : HoldOk gs rs (putH (putH hs g b) g' a) := by
  have look : ∀ k, (putH (putH hs g b) g' a).lookup k = if k = g' then some a else if k = g then some b else hs.lookup k := by
    intro k
    rw [lookup_putH, lookup_putH]
    by_cases e : k = g'
    · subst e
      rw [if_pos rfl, if_pos rfl]
      by_cases e2 : k = g
      · subst e2; rw [if_pos rfl, hg]; rfl
      · rw [if_neg e2, hg']; rfl
    · rw [if_neg e, if_neg e]
      by_cases e2 : k = g
      · subst e2; rw [if_pos rfl, if_pos rfl, hg]; rfl
      · rw [if_neg e2, if_neg e2]
  -- where a key's new value stood before
  have back : ∀ k z, (putH (putH hs g b) g' a).lookup k = some (some z) → ∃ k0, hs.lookup k0 = some (some z) ∧ ((k = g' ∧ k0 = g) ∨ (k ≠ g' ∧ k = g ∧ k0 = g') ∨ (k ≠ g' ∧ k ≠ g ∧ k0 = k)) := by
    intro k z e
    rw [look] at e
    by_cases c : k = g'
    · rw [if_pos c] at e
      injection e with e
      exact ⟨g, by rw [hg, e], .inl ⟨c, rfl⟩⟩
    · rw [if_neg c] at e
      by_cases c2 : k = g
      · rw [if_pos c2] at e
        injection e with e
        exact ⟨g', by rw [hg', e], .inr (.inl ⟨c, c2, rfl⟩)⟩
      · rw [if_neg c2] at e
        exact ⟨k, e, .inr (.inr ⟨c, c2, rfl⟩)⟩
  refine ⟨by rw [putH_keys, putH_keys]; exact h.keys, fun k z e => ?_, fun k k' z e e' => ?_⟩
  · obtain ⟨k0, h0, _⟩ := back k z e
    exact h.mem k0 z h0
  · obtain ⟨k0, h0, c⟩ := back k z e
    obtain ⟨k1, h1, c'⟩ := back k' z e'
    have := h.inj k0 k1 z h0 h1
    subst this
    rcases c with ⟨c1, c2⟩ | ⟨c1, c2, c3⟩ | ⟨c1, c2, c3⟩ <;> rcases c' with ⟨d1, d2⟩ | ⟨d1, d2, d3⟩ | ⟨d1, d2, d3⟩ <;> simp_all
theorem ix_hold {hs : List (Str × Option Str)} {g : Str} {v : Option Str} (h : hs.lookup g = some v) : ixA (.dct (holdD hs)) (.str g) = some (.fz (optD v)) := by
  unfold holdD mapD
  rw [ixA_dct, findD_map optD hs g, h]
  rfl
theorem lookup_some {β : Type} : ∀ {rs : List (Str × β)} {g : Str}, g ∈ rs.map (·.1) → ∃ v, rs.lookup g = some v
  | q :: rs, g, h => by
    rw [List.lookup_cons]
    by_cases e : g = q.1
    · subst e; exact ⟨q.2, by simp⟩
    · have e2 : (g == q.1) = false := by rw [str_beq]; exact decide_eq_false e
      simp only [e2]
      rcases List.mem_cons.mp h with h | h
      · exact absurd h e
      · exact lookup_some h
theorem lookup_mem' {β : Type} : ∀ {rs : List (Str × β)} {g : Str} {v : β}, rs.lookup g = some v → (g, v) ∈ rs
  | q :: rs, g, v, h => by
    rw [List.lookup_cons] at h
    cases e : g == q.1 with
    | true =>
      rw [e] at h
      cases h
      rw [eq_of_beq e]
      exact List.mem_cons_self
    | false =>
      rw [e] at h
      exact List.mem_cons_of_mem _ (lookup_mem' h)
/-- what a guest holds -/
def hv (hs : List (Str × Option Str)) (g : Str) : Option Str := (hs.lookup g).getD none
theorem hv_of {hs : List (Str × Option Str)} {g : Str} {v : Option Str} (h : hs.lookup g = some v) : hv hs g = v := by rw [hv, h]; rfl
/-! ### who likes what -/
def likesB (r : List Str) (gift own : Option Str) : Bool := match gift with
  | none => false
  | some a => betterB r a own
theorem ix_raw1 (gs : List Str) (rs : List (Str × List Str)) : ixA (rawD gs rs) (.int 1) = some (.fz (.dct (ranksD rs))) := rfl
theorem ix_raw0 (gs : List Str) (rs : List (Str × List Str)) : ixA (rawD gs rs) (.int 0) = some (.fz (.lst (gs.map .str))) := rfl
end Gk04

namespace Gk04
open PySem PySem.Spec PyProof.Rows L2 VL
/-! ### the law's own choice -/
theorem atI0 {α : Type} (x : α) (xs : List α) : L2.atI (x :: xs) 0 = some x := by
  unfold L2.atI L2.ixN
  simp
theorem best_run {raw P R L : D} {g : Str} {rl : List D} {ts : List T} {d : D} (h0 : ixA raw (.int 1) = some (.fz P)) (h1 : ixA P (.str g) = some (.fz (.lst rl))) (hl : rl.length ≤ 16777216)
    (e : lcE (gSet 3) (bBin (inA false) (eVar 3) (eVar 2)) (eVar 3) [3] rl [some (.fz raw), some (.fz (.str g)), some (.fz L), none] = some (ts, [some (.fz raw), some (.fz (.str g)), some (.fz L), none]))
    (ha : addD (.lst (frzL ts)) (.lst [.non]) = some (.lst ((frzL ts ++ [D.non]).map .fz))) (hd : L2.atI (frzL ts ++ [D.non]) 0 = some d) : F__law_best [.fz raw, .fz (.str g), .fz L] = some (.ok (.fz d) [none, none, none]) := by
  have hx : ixA (.lst (frzL ts ++ [D.non])) (.int 0) = some (.fz d) := by rw [ixA_lst, hd]; rfl
  generalize frzL ts ++ [D.non] = W at *
  simp [F__law_best, t__law_best, kp__law_best, h0, h1, hl, e, ha, hx]
theorem filt_lc {xs ys : List Str} {x y : Option T} : lcE (gSet 3) (bBin (inA false) (eVar 3) (eVar 2)) (eVar 3) [3] (xs.map .str) [x, y, some (.fz (.lst (ys.map .str))), none] = some (((xs.filter fun z => decide (z ∈ ys)).map D.str).map .fz, [x, y, some (.fz (.lst (ys.map .str))), none]) := by
  have e := lcE_pure (v := 3) (tb := bBin (inA false) (eVar 3) (eVar 2)) (te := eVar 3) (p := fun d => match d with | .str z => decide (z ∈ ys) | _ => false) (f := fun d => .fz d) (xs.map .str) [x, y, some (.fz (.lst (ys.map .str))), none] rfl (fun d hd => by
    obtain ⟨z, hz, rfl⟩ := List.mem_map.mp hd
    simp [inB_strs]) (fun d hd _ => by
    obtain ⟨z, hz, rfl⟩ := List.mem_map.mp hd
    simp)
  rw [e, List.filter_map]
  rfl
def bestO (r left : List Str) : Option Str := (r.filter fun z => decide (z ∈ left)).head?
theorem bestO_mem {r left : List Str} {z : Str} (h : bestO r left = some z) : z ∈ left ∧ z ∈ r := by
  unfold bestO at h
  have := List.mem_of_head? h
  rw [List.mem_filter] at this
  exact ⟨by simpa using this.2, this.1⟩
theorem best {gs left : List Str} {rs : List (Str × List Str)} {q : Str × List Str} (ok : RawOk gs rs) (hq : q ∈ rs) : F__law_best [.fz (rawD gs rs), .fz (.str q.1), .fz (.lst (left.map .str))] = some (.ok (.fz (optD (bestO q.2 left))) [none, none, none]) := by
  have hl : q.2.length ≤ 26 := by rw [(ok.rp q hq).length_eq]; exact ok.gl
  have hfl : (q.2.filter fun z => decide (z ∈ left)).length ≤ q.2.length := List.length_filter_le _ _
  refine best_run (R := .non) (ix_raw1 gs rs) (ix_mapD lstS ok.rd hq) (by rw [List.length_map]; omega) filt_lc ?_ ?_
  · rw [frzL_fz]
    show (if _ then _ else _) = _
    rw [if_pos (by rw [List.length_map, sizeLine_eq]; simp; omega)]
  · rw [frzL_fz]
    unfold bestO
    cases q.2.filter fun z => decide (z ∈ left) with
    | nil => rfl
    | cons z l =>
      show L2.atI (D.str z :: _) 0 = _
      exact atI0 _ _
theorem hold_at {hs : List (Str × Option Str)} {g : Str} {v : Option Str} : hs.lookup g = some v → ∃ n, keyIx ((holdT hs).map (·.1)) (.inr g) = some n ∧ (holdT hs)[n]? = some (.inr g, .fz (optD v)) := by
  induction hs with
  | nil => intro h; cases h
  | cons q hs ih =>
    intro h
    obtain ⟨a, b⟩ := q
    rw [List.lookup_cons] at h
    show ∃ n, keyIx (.inr a :: (holdT hs).map (·.1)) (.inr g) = some n ∧ ((.inr a, T.fz (optD b)) :: holdT hs)[n]? = _
    cases e : g == a with
    | true =>
      rw [e] at h
      cases h
      have := eq_of_beq e
      subst this
      exact ⟨0, by simp [keyIx], rfl⟩
    | false =>
      rw [e] at h
      obtain ⟨n, h1, h2⟩ := ih h
      have ne : ¬ (Sum.inr a : Key) = Sum.inr g := fun z => by injection z with z; subst z; simp at e
      exact ⟨n + 1, by simp [keyIx, ne, h1], by simpa using h2⟩
def cbody : Ev Fl := (sSeq (sAsg (eFz (eFn F__law_best [none, none, none] (mVal (eVar 0) (mVal (eVar 2) (mVal (eVar 3) mNil))))) (gPut 4 (pName 4) (sid 4 (eVar 2))))
    (sSet 3 (eLc (iAhd (vAny (vVar 3))) (gSet 5) (bBin neA (eVar 5) (eRdP (pIx 4 (pName 4) (sid 4 (eVar 2))))) (eVar 5) [5])))
theorem cbody_s {raw row g : Option T} {r l v : D} {gn : Str} {ld : List D} {K : List (Key × T)} {ts : List T} (e1 : F__law_best [.fz r, .fz (.str gn), .fz (.lst ld)] = some (.ok (.fz v) [none, none, none])) (hK : K.length < 16777216) (hl : ld.length ≤ 16777216)
    (e2 : lcE (gSet 5) (bBin neA (eVar 5) (eRdP (pIx 4 (pName 4) (sid 4 (eVar 2))))) (eVar 5) [5] ld [some (.fz r), row, some (.fz (.str gn)), some (.fz (.lst ld)), some (.dct (putD K (.inr gn) (.fz v))), none] = some (ts, [some (.fz r), row, some (.fz (.str gn)), some (.fz (.lst ld)), some (.dct (putD K (.inr gn) (.fz v))), none])) :
    cbody [some (.fz r), row, some (.fz (.str gn)), some (.fz (.lst ld)), some (.dct K), none] = some (.ok .nx [some (.fz r), row, some (.fz (.str gn)), some (.fz (.lst (frzL ts))), some (.dct (putD K (.inr gn) (.fz v))), none]) := by
  simp [cbody, e1, putKid_s hK, hl, e2]
theorem cfilt_lc {xs : List Str} {x y : Option T} {gn : Str} {l : Option T} {hs : List (Str × Option Str)} {v : Option Str} (h : hs.lookup gn = some v) :
    lcE (gSet 5) (bBin neA (eVar 5) (eRdP (pIx 4 (pName 4) (sid 4 (eVar 2))))) (eVar 5) [5] (xs.map .str) [x, y, some (.fz (.str gn)), l, some (.dct (holdT hs)), none] = some (((xs.filter fun z => !decide (some z = v)).map D.str).map .fz, [x, y, some (.fz (.str gn)), l, some (.dct (holdT hs)), none]) := by
  obtain ⟨n, h1, h2⟩ := hold_at h
  have e := lcE_pure (v := 5) (tb := bBin neA (eVar 5) (eRdP (pIx 4 (pName 4) (sid 4 (eVar 2))))) (te := eVar 5) (p := fun d => match d with | .str z => !decide (some z = v) | _ => false) (f := fun d => .fz d) (xs.map .str) [x, y, some (.fz (.str gn)), l, some (.dct (holdT hs)), none] rfl (fun d hd => by
    obtain ⟨z, hz, rfl⟩ := List.mem_map.mp hd
    have q : eqAD (.str z) (optD v) = some (decide (some z = v)) := eqAD_opt (some z) v
    generalize holdT hs = K at *
    simp [h1, h2, q]) (fun d hd _ => by
    obtain ⟨z, hz, rfl⟩ := List.mem_map.mp hd
    simp)
  rw [e, List.filter_map]
  rfl
/-- the guests choose one by one -/
def chooseL (rs : List (Str × List Str)) : List Str → List Str → List (Str × Option Str)
  | [], _ => []
  | g :: row, left => let v := bestO ((rs.lookup g).getD []) left
    (g, v) :: chooseL rs row (left.filter fun z => !decide (some z = v))
theorem choose_loop {gs : List Str} {rs : List (Str × List Str)} (ok : RawOk gs rs) {row : Option T} : ∀ (todo left : List Str) (fs : List (Str × Option Str)) (y : Option D), todo.Nodup → (∀ g ∈ todo, g ∈ rs.map (·.1)) → (∀ g ∈ todo, g ∉ fs.map (·.1)) → left.length ≤ 26 → fs.length + todo.length ≤ 100 →
    ∃ (z : Option D) (l : Option T), forE (gSet 2) cbody (todo.map .str) [some (.fz (rawD gs rs)), row, y.map .fz, some (.fz (.lst (left.map .str))), some (.dct (holdT fs)), none] = some (.ok .nx [some (.fz (rawD gs rs)), row, z.map .fz, l, some (.dct (holdT (fs ++ chooseL rs todo left))), none])
  | [], left, fs, y, _, _, _, _, _ => ⟨y, _, by simp [chooseL, forE]; rfl⟩
  | g :: todo, left, fs, y, nd, hg, hf, hl, hlen => by
    simp only [List.nodup_cons] at nd
    obtain ⟨q, hq, rfl⟩ := mem_fst (hg g (by simp))
    have hb := best (left := left) ok hq
    have hv : bestO ((rs.lookup q.1).getD []) left = bestO q.2 left := by rw [lookup_mem ok.rd hq]; rfl
    have nk : (Sum.inr q.1 : Key) ∉ (holdT fs).map (·.1) := by
      rw [hold_keys]
      intro hm
      obtain ⟨a, ha, e⟩ := List.mem_map.mp hm
      injection e with e
      subst e
      exact hf _ (by simp) ha
    have ep : putD (holdT fs) (.inr q.1) (.fz (optD (bestO q.2 left))) = holdT (fs ++ [(q.1, bestO q.2 left)]) := by rw [putD_new nk]; simp [holdT]
    have hlk : (fs ++ [(q.1, bestO q.2 left)]).lookup q.1 = some (bestO q.2 left) := by
      have hn : q.1 ∉ fs.map (·.1) := hf _ (by simp)
      clear ep nk hf hlen
      induction fs with
      | nil => simp
      | cons p fs ih =>
        simp only [List.map_cons, List.mem_cons, not_or] at hn
        rw [List.cons_append, List.lookup_cons, show (q.1 == p.1) = false by rw [str_beq]; exact decide_eq_false hn.1]
        exact ih hn.2
    have eF := cfilt_lc (xs := left) (x := some (.fz (rawD gs rs))) (y := row) (l := some (.fz (.lst (left.map .str)))) hlk
    have eB := cbody_s (row := row) (raw := none) (g := none) (l := .non) (K := holdT fs) hb (by simp only [holdT, List.length_map]; omega) (by rw [List.length_map]; omega) (by rw [ep]; exact eF)
    rw [frzL_fz, ep] at eB
    obtain ⟨z, l, ih⟩ := choose_loop ok (row := row) todo (left.filter fun z => !decide (some z = bestO q.2 left)) (fs ++ [(q.1, bestO q.2 left)]) (some (.str q.1)) nd.2 (fun g h => hg g (by simp [h])) (fun g h => by
      rw [List.map_append, List.mem_append, not_or]
      exact ⟨hf g (by simp [h]), by simp; intro e; exact nd.1 (e ▸ h)⟩) (Nat.le_trans (List.length_filter_le _ _) hl) (by simp only [List.length_append, List.length_cons, List.length_nil] at hlen ⊢; omega)
    refine ⟨z, l, ?_⟩
    simp only [List.map_cons, forE, gSet_a, List.set_cons_succ, List.set_cons_zero, frz, eB]
    rw [show (some (T.fz (.str q.1)) : Option T) = (some (D.str q.1)).map T.fz from rfl, ih, chooseL, hv, List.append_assoc]
    rfl
theorem chooseL_keys (rs : List (Str × List Str)) : ∀ row left, (chooseL rs row left).map (·.1) = row
  | [], _ => rfl
  | g :: row, left => by simp [chooseL, chooseL_keys rs row]
theorem chooseL_mem (rs : List (Str × List Str)) : ∀ {row left : List Str} {g z : Str}, (g, some z) ∈ chooseL rs row left → z ∈ left ∧ g ∈ row
  | [], _, _, _, h => by simp [chooseL] at h
  | a :: row, left, g, z, h => by
    simp only [chooseL, List.mem_cons, Prod.mk.injEq] at h
    rcases h with ⟨rfl, h⟩ | h
    · exact ⟨(bestO_mem h.symm).1, by simp⟩
    · obtain ⟨h1, h2⟩ := chooseL_mem rs h
      exact ⟨(List.mem_filter.mp h1).1, by simp [h2]⟩
theorem chooseL_inj (rs : List (Str × List Str)) : ∀ {row left : List Str} {g g' z : Str}, row.Nodup → (g, some z) ∈ chooseL rs row left → (g', some z) ∈ chooseL rs row left → g = g'
  | [], _, _, _, _, _, h, _ => by simp [chooseL] at h
  | a :: row, left, g, g', z, nd, h, h' => by
    simp only [List.nodup_cons] at nd
    simp only [chooseL, List.mem_cons, Prod.mk.injEq] at h h'
    rcases h with ⟨rfl, h⟩ | h <;> rcases h' with ⟨rfl, h'⟩ | h'
    · rfl
    · have := (List.mem_filter.mp (chooseL_mem rs h').1).2
      simp [← h] at this
    · have := (List.mem_filter.mp (chooseL_mem rs h).1).2
      simp [← h'] at this
    · exact chooseL_inj rs nd.2 h h'
def chosen (rs : List (Str × List Str)) (row left : List Str) : List (Str × Option Str) := rs.map fun q => (q.1, hv (chooseL rs row left) q.1)
theorem lookup_map {β γ : Type} (f : Str → γ) : ∀ (rs : List (Str × β)) (g : Str), (rs.map fun q => (q.1, f q.1)).lookup g = if g ∈ rs.map (·.1) then some (f g) else none
  | [], g => rfl
  | q :: rs, g => by
    rw [List.map_cons, List.lookup_cons, lookup_map f rs g]
    by_cases e : g = q.1
    · subst e; simp
    · have e2 : (g == q.1) = false := by rw [str_beq]; exact decide_eq_false e
      simp only [e2, List.map_cons, List.mem_cons, e, false_or]
theorem chosen_ok {gs : List Str} {rs : List (Str × List Str)} {row : List Str} (nd : row.Nodup) : HoldOk gs rs (chosen rs row gs) := by
  have h0 : ∀ g z, (chosen rs row gs).lookup g = some (some z) → (g, some z) ∈ chooseL rs row gs := by
    intro g z h
    unfold chosen at h
    rw [lookup_map (fun g => hv (chooseL rs row gs) g)] at h
    split at h
    · injection h with h
      unfold hv at h
      cases hl : (chooseL rs row gs).lookup g with
      | none => rw [hl] at h; cases h
      | some v =>
        rw [hl] at h
        have : v = some z := h
        subst this
        exact lookup_mem' hl
    · cases h
  refine ⟨by simp [chosen], fun g z h => (chooseL_mem rs (h0 g z h)).1, fun g g' z h h' => chooseL_inj rs nd (h0 g z h) (h0 g' z h')⟩
theorem choose_run {gl : List D} {ks : List (Key × D)} {rd : D} {rl : List D} {z : Option D} {l : Option T} {K : List (Key × T)} {ts : List T} {ps : List (Key × D)}
    (hw : walkD rd = some rl) (h1 : forE (gSet 2) cbody rl [some (.fz (.tup [.lst gl, .dct ks])), some (.fz rd), none, some (.fz (.lst gl)), some (.dct []), none] = some (.ok .nx [some (.fz (.tup [.lst gl, .dct ks])), some (.fz rd), z.map .fz, l, some (.dct K), none])) (hk : (keysOf ks).length ≤ 16777216)
    (h2 : lcE (gSet 2) bYes (eTup (mOwn (eVar 2) (mOwn (eRdP (pIx 4 (pName 4) (sid 4 (eVar 2)))) mNil))) [2] (keysOf ks) [some (.fz (.tup [.lst gl, .dct ks])), some (.fz rd), none, l, some (.dct K), none] = some (ts, [some (.fz (.tup [.lst gl, .dct ks])), some (.fz rd), none, l, some (.dct K), none]))
    (h3 : pairsD (frzL ts) = some ps) : F__law_choose [.fz (.tup [.lst gl, .dct ks]), .fz rd] = some (.ok (.dct (mergeT [] ps)) [none, none]) := by
  have i0 : L2.atI [D.lst gl, D.dct ks] 0 = some (.lst gl) := rfl
  have i1 : L2.atI [D.lst gl, D.dct ks] 1 = some (.dct ks) := rfl
  unfold cbody at h1
  cases z with
  | none => simp [F__law_choose, t__law_choose, kp__law_choose, ixA_tup, hw, i0, i1, hk, h1, h2, h3]
  | some z => simp [F__law_choose, t__law_choose, kp__law_choose, ixA_tup, hw, i0, i1, hk, h1, h2, h3]
theorem chooseW {gs row : List Str} {rs : List (Str × List Str)} {rd : D} (hw : walkD rd = some (row.map .str)) (ok : RawOk gs rs) (hp : row.Perm (rs.map (·.1))) : F__law_choose [.fz (rawD gs rs), .fz rd] = some (.ok (.dct (holdT (chosen rs row gs))) [none, none]) := by
  have hrl : row.length = rs.length := by rw [hp.length_eq, List.length_map]
  obtain ⟨z, l, e1⟩ := choose_loop ok (row := some (.fz rd)) row gs [] none (hp.nodup_iff.mpr ok.rd) (fun g h => hp.mem_iff.mp h) (fun _ _ => by simp) ok.gl (by have := ok.rl; simp; omega)
  simp only [List.nil_append, holdT, List.map_nil, Option.map_none] at e1
  have hlk : ∀ q ∈ rs, (chooseL rs row gs).lookup q.1 = some (hv (chooseL rs row gs) q.1) := fun q hq => by
    obtain ⟨v, e⟩ := lookup_some (rs := chooseL rs row gs) (g := q.1) (by rw [chooseL_keys]; exact hp.mem_iff.mpr (List.mem_map_of_mem hq))
    rw [hv_of e, e]
  have e2 := lcE_pure (v := 2) (tb := bYes) (te := eTup (mOwn (eVar 2) (mOwn (eRdP (pIx 4 (pName 4) (sid 4 (eVar 2)))) mNil))) (p := fun _ => true) (f := fun d => match d with | .str g => .tup [.fz (.str g), .fz (optD (hv (chooseL rs row gs) g))] | _ => .fz .non)
    (keysOf (mapD lstS rs)) [some (.fz (rawD gs rs)), some (.fz rd), none, l, some (.dct (holdT (chooseL rs row gs))), none] rfl (fun d _ => rfl) (fun d hd _ => by
      rw [keys_mapD] at hd
      obtain ⟨g, hg', rfl⟩ := List.mem_map.mp hd
      obtain ⟨q, hq, rfl⟩ := mem_fst hg'
      obtain ⟨n, k1, k2⟩ := hold_at (hlk q hq)
      generalize holdT (chooseL rs row gs) = K at *
      simp [k1, k2])
  rw [List.filter_eq_self.mpr fun _ _ => rfl] at e2
  have e3 : frzL (List.map (fun d => match d with | .str g => T.tup [.fz (.str g), .fz (optD (hv (chooseL rs row gs) g))] | _ => .fz .non) (keysOf (mapD lstS rs))) = (chosen rs row gs).map fun q => .tup [.str q.1, optD q.2] := by
    rw [frzL_map, keys_mapD, chosen, List.map_map, List.map_map, List.map_map, List.map_map]
    apply List.map_congr_left
    intro q hq
    simp
  have r := choose_run (gl := gs.map .str) (ks := ranksD rs) (rd := rd) (rl := row.map .str) (K := holdT (chooseL rs row gs)) (ps := mapD optD (chosen rs row gs)) hw e1 (by rw [ranksD_eq, keys_mapD, List.length_map, List.length_map]; have := ok.rl; omega) e2 (by rw [e3]; exact pairsD_map optD _)
  rw [merge_new (nodup_mapD optD (by rw [(chosen_ok (gs := gs) (rs := rs) (hp.nodup_iff.mpr ok.rd)).keys]; exact ok.rd))] at r
  have e4 : ((mapD optD (chosen rs row gs)).map fun p => (p.1, T.fz p.2)) = holdT (chosen rs row gs) := by simp [mapD, holdT]
  rw [e4] at r
  exact r
theorem choose {gs row : List Str} {rs : List (Str × List Str)} (ok : RawOk gs rs) (hp : row.Perm (rs.map (·.1))) : F__law_choose [.fz (rawD gs rs), .fz (.lst (row.map .str))] = some (.ok (.dct (holdT (chosen rs row gs))) [none, none]) := chooseW rfl ok hp
end Gk04

namespace Gk04
open PySem PySem.Spec PyProof.Rows L2 VL
/-! ### the program's own choice -/
theorem best_at : ∀ {r left : List Str} {z : Str}, z ∈ left → z ∈ r → (∀ y ∈ left, y ∈ r → r.idxOf z ≤ r.idxOf y) → bestO r left = some z
  | [], _, _, _, h, _ => by simp at h
  | a :: r, left, z, hz, hr, h => by
    unfold bestO
    rw [List.filter_cons]
    by_cases c : a ∈ left
    · rw [if_pos (by simpa using c), List.head?_cons]
      have := h a c (by simp)
      rw [List.idxOf_cons_self] at this
      rw [List.idxOf_cons] at this
      by_cases e : a = z
      · rw [e]
      · have e2 : (a == z) = false := by rw [str_beq]; exact decide_eq_false e
        rw [e2] at this
        simp at this
    · rw [if_neg (by simpa using c)]
      have ne : ∀ y ∈ left, (a == y) = false := fun y hy => by rw [str_beq]; exact decide_eq_false fun e => c (e ▸ hy)
      have hr' : z ∈ r := by
        rcases List.mem_cons.mp hr with e | hr
        · exact absurd (e ▸ hz) c
        · exact hr
      refine best_at (r := r) hz hr' fun y hy hyr => ?_
      have := h y hy (by simp [hyr])
      rw [List.idxOf_cons, List.idxOf_cons, ne y hy, ne z hz] at this
      simpa using this
theorem intsOf_map (f : Str → Int) : ∀ l : List Str, intsOf (l.map fun z => .int (f z)) = some (l.map f)
  | [] => rfl
  | z :: l => by simp [intsOf, intsOf_map f l]
theorem min_best {r left : List Str} (sub : ∀ z ∈ left, z ∈ r) (ne : left ≠ []) : ∃ z, bestO r left = some z ∧ minE [.lst (left.map fun z => .int (r.idxOf z : Nat))] = some (.fz (.int (r.idxOf z : Nat))) := by
  cases left with
  | nil => exact absurd rfl ne
  | cons a l =>
    obtain ⟨h1, h2, h3⟩ := minI_le (l.map fun z => ((r.idxOf z : Nat) : Int)) (r.idxOf a : Nat)
    have hm : ∃ z ∈ a :: l, minI (r.idxOf a : Nat) (l.map fun z => ((r.idxOf z : Nat) : Int)) = (r.idxOf z : Nat) := by
      rcases h3 with h3 | h3
      · exact ⟨a, by simp, h3⟩
      · obtain ⟨z, hz, e⟩ := List.mem_map.mp h3
        exact ⟨z, by simp [hz], e.symm⟩
    obtain ⟨z, hz, e⟩ := hm
    refine ⟨z, best_at hz (sub z hz) fun y hy _ => ?_, ?_⟩
    · rw [e] at h1 h2
      rcases List.mem_cons.mp hy with rfl | hy
      · omega
      · have := h2 _ (List.mem_map_of_mem (f := fun z => ((r.idxOf z : Nat) : Int)) hy)
        omega
    · have ei := intsOf_map (fun z => ((r.idxOf z : Nat) : Int)) (a :: l)
      simp only [List.map_cons] at ei
      simp only [minE, List.map_cons, ei, e]
theorem bo_none {w : List (Str × D)} {g : Str} :
    F_Wishes_best_of [.fz (.ins "Wishes" w), .fz (.str g), .fz (.lst [])] = some (.ok (.fz .non) [none, none, none]) := by
  have q := eqAD_pl (ds := []) rfl
  simp [F_Wishes_best_of, t_Wishes_best_of, kp_Wishes_best_of, lcE, q]
theorem bo_run {w : List (Str × D)} {g : Str} {R R2 v : D} {ld is : List D} {ts : List T} {m : Int} (hl : ld.length ≤ 16777216) (h2 : w.lookup ("own_rankings" : Str) = some R) (h3 : ixA R (.str g) = some (.fz R2))
    (e : lcE (gSet 4) bYes (eBin ixA (eBin ixA (eFld "Wishes" "places" (eVar 0)) (eVar 1)) (eVar 4)) [4] ld [some (.fz (.ins "Wishes" w)), some (.fz (.str g)), some (.fz (.lst ld)), none, none] = some (ts, [some (.fz (.ins "Wishes" w)), some (.fz (.str g)), some (.fz (.lst ld)), none, none]))
    (hf : frzL ts = is) (hq : eqAD (.lst is) (.lst []) = some false) (hm : minE [.lst is] = some (.fz (.int m))) (hv : ixA R2 (.int m) = some (.fz v)) :
    F_Wishes_best_of [.fz (.ins "Wishes" w), .fz (.str g), .fz (.lst ld)] = some (.ok (.fz v) [none, none, none]) := by
  simp [F_Wishes_best_of, t_Wishes_best_of, kp_Wishes_best_of, hl, e, hf, hq, hm, h2, h3, hv]
theorem best_of {gs left : List Str} {rs : List (Str × List Str)} {q : Str × List Str} (ok : RawOk gs rs) (hq : q ∈ rs) (sub : ∀ z ∈ left, z ∈ gs) (hl : left.length ≤ 26) :
    F_Wishes_best_of [.fz (wishD gs rs), .fz (.str q.1), .fz (.lst (left.map .str))] = some (.ok (.fz (optD (bestO q.2 left))) [none, none, none]) := by
  by_cases ne : left = []
  · subst ne
    have e : bestO q.2 [] = none := by simp [bestO]
    rw [e]
    exact bo_none
  · have sub' : ∀ z ∈ left, z ∈ q.2 := fun z hz => (ok.rp q hq).mem_iff.mpr (sub z hz)
    obtain ⟨z, e1, e2⟩ := min_best sub' ne
    have zr : z ∈ q.2 := (bestO_mem e1).2
    have hlen : q.2.length ≤ 26 := by rw [(ok.rp q hq).length_eq]; exact ok.gl
    have e := lcE_pure (v := 4) (tb := bYes) (te := eBin ixA (eBin ixA (eFld "Wishes" "places" (eVar 0)) (eVar 1)) (eVar 4)) (p := fun _ => true) (f := fun d => match d with | .str z => .fz (.int (q.2.idxOf z : Nat)) | _ => .fz .non) (left.map D.str)
      [some (.fz (wishD gs rs)), some (.fz (.str q.1)), some (.fz (.lst (left.map .str))), none, none] rfl (fun _ _ => rfl) (fun d hd _ => by
        obtain ⟨y, hy, rfl⟩ := List.mem_map.mp hd
        have i1 : ixA (.dct (mapD plcS rs)) (.str q.1) = some (.fz (plcS q.2)) := ix_mapD plcS ok.rd hq
        have i2 : ixA (plcS q.2) (.str y) = some (.fz (.int (q.2.idxOf y : Nat))) := by rw [plcS, ixA_dct, find_places (sub' y hy)]
        have i0 : fldD "Wishes" "places" (wishD gs rs) = some (.fz (.dct (mapD plcS rs))) := by rw [wishD, fldD_a, if_pos rfl, lk3]; rfl
        dsimp only
        generalize ((q.2.idxOf y : Nat) : Int) = I at *
        generalize plcS q.2 = PQ at *
        generalize D.dct (mapD plcS rs) = PP at *
        generalize wishD gs rs = W at *
        simp [i0, i1, i2])
    rw [List.filter_eq_self.mpr fun _ _ => rfl] at e
    have hf : frzL ((left.map D.str).map fun d => match d with | .str z => T.fz (.int (q.2.idxOf z : Nat)) | _ => .fz .non) = left.map fun z => .int (q.2.idxOf z : Nat) := by
      rw [frzL_map, List.map_map, List.map_map]
      rfl
    have hq2 : eqAD (.lst (left.map fun z => D.int (q.2.idxOf z : Nat))) (.lst []) = some false := by
      rw [eqAD_pl (by rw [List.all_map]; exact List.all_eq_true.mpr fun _ _ => rfl)]
      cases left with
      | nil => exact absurd rfl ne
      | cons _ _ => rfl
    have hv : ixA (tupS q.2) (.int (q.2.idxOf z : Nat)) = some (.fz (.str z)) := by
      have : q.2.idxOf z < q.2.length := List.idxOf_lt_length_of_mem zr
      rw [tupS, ixA_tup, atI_nat (j := q.2.idxOf z) rfl (by rw [List.length_map]; exact this), List.getElem_map, List.getElem_idxOf]
      rfl
    rw [e1]
    exact bo_run (by rw [List.length_map]; omega) lk2 (ix_mapD tupS ok.rd hq) e hf hq2 e2 hv
end Gk04

namespace Gk04
open PySem PySem.Spec PyProof.Rows L2 VL
/-! ### rows, the program's choice, parties -/
theorem row_run {W rd : D} {rl ds : List D} (hw : rd = .tup ds) (im : insOf "Wishes" "guests" W = true) (e1 : F_Wishes_guests [.fz W] = some (.ok (.lst (rl.map .fz)) [none])) (e2 : F_is_order_of [.fz rd, .fz (.lst rl)] = some (.ok (.fz (.bl true)) [none, none])) :
    F_need_row [.fz W, .fz rd] = some (.ok (.fz (.tup ds)) [none, none]) := by
  subst hw
  simp [F_need_row, t_need_row, kp_need_row, im, e1, e2]
theorem row_runL {W rd : D} {rl ds : List D} (hw : rd = .lst ds) (im : insOf "Wishes" "guests" W = true) (e1 : F_Wishes_guests [.fz W] = some (.ok (.lst (rl.map .fz)) [none])) (e2 : F_is_order_of [.fz rd, .fz (.lst rl)] = some (.ok (.fz (.bl true)) [none, none])) :
    F_need_row [.fz W, .fz rd] = some (.ok (.tup (ds.map .fz)) [none, none]) := by
  subst hw
  simp [F_need_row, t_need_row, kp_need_row, im, e1, e2]
/-- what a row may be handed in as -/
structure RowD (rd : D) (row : List Str) (t : T) : Prop where
  fz : frz t = tupS row
  need : ∀ {gs : List Str} {rs : List (Str × List Str)}, RawOk gs rs → row.Perm (rs.map (·.1)) → F_need_row [.fz (wishD gs rs), .fz rd] = some (.ok t [none, none])
theorem rowT (row : List Str) : RowD (tupS row) row (.fz (tupS row)) := ⟨rfl, fun {gs rs} ok hp => by
  have g1 := w_guests gs rs
  rw [fz_strs] at g1
  exact row_run rfl (im_w (by decide) (by decide) (by decide)) g1 (is_order_t (fun z hz => by obtain ⟨q, hq, rfl⟩ := mem_fst (hp.mem_iff.mp hz); exact ok.rn q hq) hp (by rw [hp.length_eq, List.length_map]; have := ok.rl; omega))⟩
theorem rowL (row : List Str) : RowD (lstS row) row (.tup ((row.map D.str).map .fz)) := ⟨by simp [tupS], fun {gs rs} ok hp => by
  have g1 := w_guests gs rs
  rw [fz_strs] at g1
  exact row_runL rfl (im_w (by decide) (by decide) (by decide)) g1 (is_order_l (fun z hz => by obtain ⟨q, hq, rfl⟩ := mem_fst (hp.mem_iff.mp hz); exact ok.rn q hq) hp (by rw [hp.length_eq, List.length_map]; have := ok.rl; omega))⟩
def pbody : Ev Fl := (sSeq (sAsg (eFz (eMth "Wishes" "best_of" F_Wishes_best_of [none, none] (eVar 0) (mVal (eVar 2) (mVal (eVar 3) mNil)))) (gPut 4 (pName 4) (sid 4 (eVar 2))))
    (sSet 3 (eLc (iAhd (vAny (vVar 3))) (gSet 5) (bBin neA (eVar 5) (eRdP (pIx 4 (pName 4) (sid 4 (eVar 2))))) (eVar 5) [5])))
theorem pbody_s {row : Option T} {r v : D} {gn : Str} {ld : List D} {K : List (Key × T)} {ts : List T} (im : insOf "Wishes" "best_of" r = true) (e1 : F_Wishes_best_of [.fz r, .fz (.str gn), .fz (.lst ld)] = some (.ok (.fz v) [none, none, none])) (hK : K.length < 16777216) (hl : ld.length ≤ 16777216)
    (e2 : lcE (gSet 5) (bBin neA (eVar 5) (eRdP (pIx 4 (pName 4) (sid 4 (eVar 2))))) (eVar 5) [5] ld [some (.fz r), row, some (.fz (.str gn)), some (.fz (.lst ld)), some (.dct (putD K (.inr gn) (.fz v))), none] = some (ts, [some (.fz r), row, some (.fz (.str gn)), some (.fz (.lst ld)), some (.dct (putD K (.inr gn) (.fz v))), none])) :
    pbody [some (.fz r), row, some (.fz (.str gn)), some (.fz (.lst ld)), some (.dct K), none] = some (.ok .nx [some (.fz r), row, some (.fz (.str gn)), some (.fz (.lst (frzL ts))), some (.dct (putD K (.inr gn) (.fz v))), none]) := by
  simp [pbody, im, e1, putKid_s hK, hl, e2]
theorem pchoose_loop {gs : List Str} {rs : List (Str × List Str)} (ok : RawOk gs rs) {row : Option T} : ∀ (todo left : List Str) (fs : List (Str × Option Str)) (y : Option D), todo.Nodup → (∀ g ∈ todo, g ∈ rs.map (·.1)) → (∀ g ∈ todo, g ∉ fs.map (·.1)) → left.length ≤ 26 → (∀ z ∈ left, z ∈ gs) → fs.length + todo.length ≤ 100 →
    ∃ (z : Option D) (l : Option T), forE (gSet 2) pbody (todo.map .str) [some (.fz (wishD gs rs)), row, y.map .fz, some (.fz (.lst (left.map .str))), some (.dct (holdT fs)), none] = some (.ok .nx [some (.fz (wishD gs rs)), row, z.map .fz, l, some (.dct (holdT (fs ++ chooseL rs todo left))), none])
  | [], left, fs, y, _, _, _, _, _, _ => ⟨y, _, by simp [chooseL, forE]; rfl⟩
  | g :: todo, left, fs, y, nd, hg, hf, hl, sub, hlen => by
    simp only [List.nodup_cons] at nd
    obtain ⟨q, hq, rfl⟩ := mem_fst (hg g (by simp))
    have hb := best_of (left := left) ok hq sub hl
    have hv : bestO ((rs.lookup q.1).getD []) left = bestO q.2 left := by rw [lookup_mem ok.rd hq]; rfl
    have nk : (Sum.inr q.1 : Key) ∉ (holdT fs).map (·.1) := by
      rw [hold_keys]
      intro hm
      obtain ⟨a, ha, e⟩ := List.mem_map.mp hm
      injection e with e
      subst e
      exact hf _ (by simp) ha
    have ep : putD (holdT fs) (.inr q.1) (.fz (optD (bestO q.2 left))) = holdT (fs ++ [(q.1, bestO q.2 left)]) := by rw [putD_new nk]; simp [holdT]
    have hlk : (fs ++ [(q.1, bestO q.2 left)]).lookup q.1 = some (bestO q.2 left) := by
      have hn : q.1 ∉ fs.map (·.1) := hf _ (by simp)
      clear ep nk hf hlen
      induction fs with
      | nil => simp
      | cons p fs ih =>
        simp only [List.map_cons, List.mem_cons, not_or] at hn
        rw [List.cons_append, List.lookup_cons, show (q.1 == p.1) = false by rw [str_beq]; exact decide_eq_false hn.1]
        exact ih hn.2
    have eF := cfilt_lc (xs := left) (x := some (.fz (wishD gs rs))) (y := row) (l := some (.fz (.lst (left.map .str)))) hlk
    have eB := pbody_s (row := row) (K := holdT fs) (im_w (by decide) (by decide) (by decide)) hb (by simp only [holdT, List.length_map]; omega) (by rw [List.length_map]; omega) (by rw [ep]; exact eF)
    rw [frzL_fz, ep] at eB
    obtain ⟨z, l, ih⟩ := pchoose_loop ok (row := row) todo (left.filter fun z => !decide (some z = bestO q.2 left)) (fs ++ [(q.1, bestO q.2 left)]) (some (.str q.1)) nd.2 (fun g h => hg g (by simp [h])) (fun g h => by
      rw [List.map_append, List.mem_append, not_or]
      exact ⟨hf g (by simp [h]), by simp; intro e; exact nd.1 (e ▸ h)⟩) (Nat.le_trans (List.length_filter_le _ _) hl) (fun z hz => sub z (List.mem_filter.mp hz).1) (by simp only [List.length_append, List.length_cons, List.length_nil] at hlen ⊢; omega)
    refine ⟨z, l, ?_⟩
    simp only [List.map_cons, forE, gSet_a, List.set_cons_succ, List.set_cons_zero, frz, eB]
    rw [show (some (T.fz (.str q.1)) : Option T) = (some (D.str q.1)).map T.fz from rfl, ih, chooseL, hv, List.append_assoc]
    rfl
theorem pchoose_run {W rd : D} {gl rl ol : List D} {R : T} {z : Option D} {l : Option T} {K KK : List (Key × T)} (im1 : insOf "Wishes" "gifts" W = true) (im2 : insOf "Wishes" "guests" W = true) (g1 : F_Wishes_gifts [.fz W] = some (.ok (.lst (gl.map .fz)) [none])) (g2 : F_Wishes_guests [.fz W] = some (.ok (.lst (ol.map .fz)) [none]))
    (hr : F_need_row [.fz W, .fz rd] = some (.ok R [none, none])) (hR : frz R = .tup rl) (hl : ol.length ≤ 16777216)
    (h1 : forE (gSet 2) pbody rl [some (.fz W), some (.fz rd), none, some (.fz (.lst gl)), some (.dct []), none] = some (.ok .nx [some (.fz W), some (.fz rd), z.map .fz, l, some (.dct K), none]))
    (h2 : dcE (gSet 2) bYes (eVar 2) (eRdP (pIx 4 (pName 4) (sid 4 (eVar 2)))) [2] ol [some (.fz W), some (.fz rd), none, l, some (.dct K), none] [] = some (KK, [some (.fz W), some (.fz rd), none, l, some (.dct K), none])) :
    F_choose [.fz W, .fz rd] = some (.ok (.dct KK) [none, none]) := by
  unfold pbody at h1
  cases z with
  | none => simp [F_choose, t_choose, kp_choose, im1, im2, g1, g2, hr, hR, hl, h1, h2]
  | some z => simp [F_choose, t_choose, kp_choose, im1, im2, g1, g2, hr, hR, hl, h1, h2]
theorem chooseL_look {rs : List (Str × List Str)} {row gs : List Str} (hp : row.Perm (rs.map (·.1))) : ∀ q ∈ rs, (chooseL rs row gs).lookup q.1 = some (hv (chooseL rs row gs) q.1) := fun q hq => by
  obtain ⟨v, e⟩ := lookup_some (rs := chooseL rs row gs) (g := q.1) (by rw [chooseL_keys]; exact hp.mem_iff.mpr (List.mem_map_of_mem hq))
  rw [hv_of e, e]
theorem pchoose {gs row : List Str} {rs : List (Str × List Str)} {rd : D} {R : T} (hd : RowD rd row R) (ok : RawOk gs rs) (hp : row.Perm (rs.map (·.1))) : F_choose [.fz (wishD gs rs), .fz rd] = some (.ok (.dct (holdT (chosen rs row gs))) [none, none]) := by
  have hrl : row.length = rs.length := by rw [hp.length_eq, List.length_map]
  obtain ⟨z, l, e1⟩ := pchoose_loop ok (row := some (.fz rd)) row gs [] none (hp.nodup_iff.mpr ok.rd) (fun g h => hp.mem_iff.mp h) (fun _ _ => by simp) ok.gl (fun _ h => h) (by have := ok.rl; simp; omega)
  simp only [List.nil_append, holdT, List.map_nil, Option.map_none] at e1
  have g1 := w_gifts gs rs
  have g2 := w_guests gs rs
  rw [fz_strs] at g1 g2
  have hlk := chooseL_look (gs := gs) hp
  have e2 := dcE_pure (v := 2) (tb := bYes) (tk := eVar 2) (te := eRdP (pIx 4 (pName 4) (sid 4 (eVar 2)))) (p := fun _ => true) (k := fun d => match d with | .str g => .inr g | _ => .inl 0) (f := fun d => match d with | .str g => .fz (optD (hv (chooseL rs row gs) g)) | _ => .fz .non)
    ((rs.map (·.1)).map D.str) [some (.fz (wishD gs rs)), some (.fz rd), none, l, some (.dct (holdT (chooseL rs row gs))), none] [] rfl (fun _ _ => rfl) (fun d hd _ => by
      obtain ⟨g, hg', rfl⟩ := List.mem_map.mp hd
      exact ⟨.fz (.str g), by simp, rfl⟩) (fun d hd _ => by
      obtain ⟨g, hg', rfl⟩ := List.mem_map.mp hd
      obtain ⟨q, hq, rfl⟩ := mem_fst hg'
      obtain ⟨n, k1, k2⟩ := hold_at (hlk q hq)
      generalize holdT (chooseL rs row gs) = K at *
      simp [k1, k2])
  rw [List.filter_eq_self.mpr fun _ _ => rfl, List.map_map, List.foldl_map] at e2
  have nk : (rs.map fun q : Str × List Str => (Sum.inr q.1 : Key)).Nodup := by
    have e : (rs.map fun q : Str × List Str => (Sum.inr q.1 : Key)) = (rs.map (·.1)).map Sum.inr := by rw [List.map_map]; rfl
    rw [e]
    exact List.Pairwise.map _ (fun a b h e => h (by injection e)) ok.rd
  have e3 := fold_new (fun q : Str × List Str => (Sum.inr q.1 : Key)) (fun q => T.fz (optD (hv (chooseL rs row gs) q.1))) rs [] (by simp) nk
  simp only [Function.comp] at e2
  rw [e3] at e2
  have e4 : ([] ++ rs.map fun q : Str × List Str => ((Sum.inr q.1 : Key), T.fz (optD (hv (chooseL rs row gs) q.1)))) = holdT (chosen rs row gs) := by simp [holdT, chosen]
  rw [e4] at e2
  exact pchoose_run (K := holdT (chooseL rs row gs)) (im_w (by decide) (by decide) (by decide)) (im_w (by decide) (by decide) (by decide)) g1 g2 (hd.need ok hp) hd.fz (by rw [List.length_map, List.length_map]; have := ok.rl; omega) e1 (by rw [List.map_map]; exact e2)
/-! parties -/
end Gk04

namespace Gk04
open PySem PySem.Spec PyProof.Rows L2 VL
/-! ### values of every kind; how they are shown -/
def plC (c : Nat) : Bool := c == 32 || (48 ≤ c && c ≤ 57) || (65 ≤ c && c ≤ 90) || (97 ≤ c && c ≤ 122)
theorem rc_all : ((List.range 123).all fun c => !plC c || decide (Builtin.Str.reprChar 39 c = [c])) = true := by decide +kernel
theorem rc_plain {c : Nat} (h : plC c = true) : Builtin.Str.reprChar 39 c = [c] := by
  have hc : c < 123 := by
    simp only [plC, Bool.or_eq_true, Bool.and_eq_true, beq_iff_eq, decide_eq_true_eq] at h
    omega
  have := List.all_eq_true.mp rc_all c (List.mem_range.mpr hc)
  rw [h] at this
  simpa using this
def Pl (z : Str) : Prop := ∀ c ∈ z.cps.toList, plC c = true
theorem nm_pl {z : Str} (h : Nm z) : Pl z := fun c hc => by
  have := h.2.2 c hc
  have key : ∀ c ∈ abc, plC c = true := by decide
  exact key c this
theorem Pl.ok {z : Str} (h : Pl z) : okS z := by
  show PyData.strOk z = true
  unfold PyData.strOk
  rw [Array.all_eq_true']
  intro c hc
  have := h c (by simpa using hc)
  simp only [plC, Bool.or_eq_true, Bool.and_eq_true, beq_iff_eq, decide_eq_true_eq] at this
  simp only [decide_eq_true_eq]
  omega
theorem Pl.quote {z : Str} (h : Pl z) : reprQuote z = 39 := by
  have e : z.cps.contains 39 = false := by
    rw [Bool.eq_false_iff]
    intro hc
    have := h 39 (by simpa using hc)
    exact absurd this (by decide)
  unfold reprQuote
  rw [e]; rfl
theorem fold_plain : ∀ (l : List Nat) (acc : Array Nat), (∀ c ∈ l, plC c = true) → (l.foldl (fun out c => out ++ (Builtin.Str.reprChar 39 c).toArray) acc).toList = acc.toList ++ l
  | [], acc, _ => by simp
  | c :: l, acc, h => by
    rw [List.foldl_cons, fold_plain l _ fun d hd => h d (by simp [hd]), rc_plain (h c (by simp))]
    simp
theorem repr_pl {z : Str} (h : Pl z) : (reprText z).cps.toList = 39 :: (z.cps.toList ++ [39]) := by
  unfold reprText
  rw [h.quote, ← Array.foldl_toList, Array.toList_push, fold_plain _ _ h]
  simp
theorem str_ext {a b : Str} (h : a.cps.toList = b.cps.toList) : a = b := by
  obtain ⟨⟨x⟩⟩ := a
  obtain ⟨⟨y⟩⟩ := b
  have h' : x = y := h
  rw [h']
theorem repr_inj {a b : Str} (ha : Pl a) (hb : Pl b) (h : reprText a = reprText b) : a = b := by
  have e : (reprText a).cps.toList = (reprText b).cps.toList := by rw [h]
  rw [repr_pl ha, repr_pl hb] at e
  simp at e
  exact str_ext (by simpa using e)
theorem repr_len {z : Str} (h : Pl z) : (reprText z).length = z.length + 2 := by
  show (reprText z).cps.size = _
  have := congrArg List.length (repr_pl h)
  simp at this
  rw [this]; rfl
theorem reprD_pl {z : Str} (h : Pl z) (hl : z.length ≤ 1000) : reprD [.str z] = some (.fz (.str (reprText z))) := by
  have c : PyData.showable (.str z) = true ∧ PyData.depth (.str z) ≤ 60 ∧ (PyData.shown (.str z)).length ≤ 16777216 := ⟨by simp [PyData.showable], by simp [PyData.depth], by rw [PyData.shown_str, repr_len h]; omega⟩
  simp only [reprD, reprS, toPyF]
  rw [if_pos c, PyData.shown_str]
  rfl
/-- an item of a value that is handed in -/
structure ElOk (d : D) : Prop where
  rp : ∃ z, reprD [d] = some (.fz (.str z)) ∧ ∀ n, Nm n → ((z == reprText n) = true ↔ d = .str n)
  ty : (∃ z, d = .str z ∧ okS z) ∨ isTyD [d, .ty "str"] = some (.fz (.bl false))
theorem ElOk.pl {z : Str} (h : Pl z) (hl : z.length ≤ 1000) : ElOk (.str z) := by
  refine ⟨⟨_, reprD_pl h hl, fun n hn => ?_⟩, .inl ⟨z, rfl, h.ok⟩⟩
  rw [beq_iff_eq]
  refine ⟨fun e => by rw [repr_inj h (nm_pl hn) e], fun e => by cases e; rfl⟩
theorem ElOk.nm {z : Str} (h : Nm z) : ElOk (.str z) := ElOk.pl (nm_pl h) (by have := h.2.1; omega)
theorem ElOk.no {d : D} {p : PyData} (h : toPyF d = some p) (c : p.showable = true ∧ p.depth ≤ 60 ∧ p.shown.length ≤ 16777216) (h39 : (p.shown.cps.toList.head? == some 39) = false) (ht : isTyD [d, .ty "str"] = some (.fz (.bl false))) (hn : ∀ n, d ≠ .str n) : ElOk d := by
  refine ⟨⟨p.shown, ?_, fun n hn' => ⟨fun e => ?_, fun e => (hn n e).elim⟩⟩, .inr ht⟩
  · simp only [reprD, reprS, h]
    rw [if_pos c]
    rfl
  · rw [beq_iff_eq] at e
    rw [e, repr_pl (nm_pl hn')] at h39
    simp at h39
def oddL : List D := [.non, .bl true, .bl false, .int 0, .int 1, .int (-1), .int 2, .int 1000000000000000000000000000000000000000000000000000000000000, .str "", .str "a", .str "Ab", .str "a b", .str "abcdefgh", .str "abcdefghi", .str "a1", .tup [], .tup [.str "a"], .lst [], .lst [.str "a"], .dct [], .dct [(.inr "a", .int 1)], .tup [.tup []], .tup [.int 0], .lst [.int 0], .tup [.non], .lst [.lst []], .tup [.str "a", .str "a"]]
def plB (z : Str) : Bool := z.cps.toList.all plC && decide (z.length ≤ 1000)
theorem plB_of {z : Str} (h : plB z = true) : ElOk (.str z) := by
  simp only [plB, Bool.and_eq_true, decide_eq_true_eq, List.all_eq_true] at h
  exact ElOk.pl h.1 h.2
/-- is an item no text, and shown as none -/
def noB (d : D) : Bool := match toPyF d with
  | some p => p.showable && decide (p.depth ≤ 60) && decide (p.shown.length ≤ 16777216) && !(p.shown.cps.toList.head? == some 39)
  | none => false
theorem noB_of {d : D} (h : noB d = true) (ht : isTyD [d, .ty "str"] = some (.fz (.bl false))) (hn : ∀ n, d ≠ .str n) : ElOk d := by
  unfold noB at h
  cases e : toPyF d with
  | none => rw [e] at h; cases h
  | some p =>
    rw [e] at h
    simp only [Bool.and_eq_true, decide_eq_true_eq, Bool.not_eq_true'] at h
    exact ElOk.no e ⟨h.1.1.1, h.1.1.2, h.1.2⟩ h.2 ht hn
theorem odd_el {d : D} (h : d ∈ oddL) : ElOk d := by
  simp only [oddL, List.mem_cons, List.not_mem_nil, or_false] at h
  rcases h with rfl | rfl | rfl | rfl | rfl | rfl | rfl | rfl | rfl | rfl | rfl | rfl | rfl | rfl | rfl | rfl | rfl | rfl | rfl | rfl | rfl | rfl | rfl | rfl | rfl | rfl | rfl <;>
    first
    | exact plB_of (by decide +kernel)
    | exact noB_of (by decide +kernel) rfl (fun n q => by cases q)
/-- a value that is handed in as a row -/
inductive VOk : D → Prop
  | tup {xs : List D} (h : ∀ d ∈ xs, ElOk d) : VOk (.tup xs)
  | lst {xs : List D} (h : ∀ d ∈ xs, ElOk d) : VOk (.lst xs)
  | non : VOk .non
  | bl (b) : VOk (.bl b)
  | int (i) : VOk (.int i)
  | str (z) : VOk (.str z)
  | dct (ks) : VOk (.dct ks)
theorem odd_v {d : D} (h : d ∈ oddL) : VOk d := by
  have el : ∀ {d : D}, d ∈ oddL → ElOk d := odd_el
  simp only [oddL, List.mem_cons, List.not_mem_nil, or_false] at h
  rcases h with rfl | rfl | rfl | rfl | rfl | rfl | rfl | rfl | rfl | rfl | rfl | rfl | rfl | rfl | rfl | rfl | rfl | rfl | rfl | rfl | rfl | rfl | rfl | rfl | rfl | rfl | rfl <;>
    first
    | exact .non
    | exact .bl _
    | exact .int _
    | exact .str _
    | exact .dct _
    | (refine .tup fun d hd => ?_; simp at hd; done)
    | (refine .lst fun d hd => ?_; simp at hd; done)
    | (refine .tup fun d hd => ?_; simp only [List.mem_cons, List.not_mem_nil, or_false, or_self] at hd; subst hd; exact el (by simp [oddL]))
    | (refine .lst fun d hd => ?_; simp only [List.mem_cons, List.not_mem_nil, or_false, or_self] at hd; subst hd; exact el (by simp [oddL]))
theorem odd {p : T} {n : Nat} (hp : Pn p n) (hn : n ≤ 10000000) : ∃ d p', F__law_odd [p] = some (.ok (.fz d) [some p']) ∧ d ∈ oddL ∧ Pn p' (n + 1) := by
  obtain ⟨d, p', e, hd, hp'⟩ := pick_list (xs := oddL) hp hn (by simp [oddL]) (by simp [oddL])
  have c10 : CPow 10 60 := ⟨by decide, by decide, by decide⟩
  have e' := e
  simp only [oddL] at e'
  refine ⟨d, p', ?_, hd, hp'⟩
  have ad : ∀ xs ys : List D, xs.length + ys.length ≤ 1000 → addD (.lst xs) (.lst ys) = some (.lst ((xs ++ ys).map .fz)) := fun xs ys h => by
    simp only [addD]
    rw [if_pos (by rw [sizeLine_eq]; omega)]
  simp [F__law_odd, t__law_odd, kp__law_odd, c10, e', putD, ad]
end Gk04

namespace Gk04
open PySem PySem.Spec PyProof.Rows L2 VL
/-! ### is a value an order of the names: the program's word and the law's -/
def OrdL (xs : List D) (ns : List Str) : Prop := ∃ row : List Str, xs = row.map .str ∧ row.Perm ns
inductive SeqOf : D → List D → Prop
  | tup (xs) : SeqOf (.tup xs) xs
  | lst (xs) : SeqOf (.lst xs) xs
theorem SeqOf.walk {v : D} {xs : List D} (h : SeqOf v xs) : walkD v = some xs := by cases h <;> rfl
theorem SeqOf.len {v : D} {xs : List D} (h : SeqOf v xs) : lenE [v] = some (.fz (.int xs.length)) := by cases h <;> rfl
theorem SeqOf.seq {v : D} {xs : List D} (h : SeqOf v xs) : F_is_sequence [.fz v] = some (.ok (.fz (.bl true)) [none]) := by
  cases h
  · exact seq_t _
  · exact seq_l _
theorem SeqOf.isq {v : D} {xs : List D} (h : SeqOf v xs) : isTyE [v, .tup [.ty "list", .ty "tuple"]] = some (.fz (.bl true)) := by cases h <;> rfl
/-- no list, no tuple -/
inductive NoSeq : D → Prop
  | non : NoSeq .non
  | bl (b) : NoSeq (.bl b)
  | int (i) : NoSeq (.int i)
  | str (z) : NoSeq (.str z)
  | dct (ks) : NoSeq (.dct ks)
theorem NoSeq.isq {v : D} (h : NoSeq v) : isTyE [v, .tup [.ty "list", .ty "tuple"]] = some (.fz (.bl false)) := by cases h <;> rfl
theorem NoSeq.seq {v : D} (h : NoSeq v) : F_is_sequence [.fz v] = some (.ok (.fz (.bl false)) [none]) := by
  have := h.isq
  simp [F_is_sequence, t_is_sequence, kp_is_sequence, this]
theorem vok_cases {v : D} (h : VOk v) : NoSeq v ∨ ∃ xs, SeqOf v xs ∧ ∀ d ∈ xs, ElOk d := by
  cases h with
  | tup h => exact .inr ⟨_, .tup _, h⟩
  | lst h => exact .inr ⟨_, .lst _, h⟩
  | non => exact .inl .non
  | bl b => exact .inl (.bl b)
  | int i => exact .inl (.int i)
  | str z => exact .inl (.str z)
  | dct ks => exact .inl (.dct ks)
/-! the program -/
theorem is_order_ns {v ns : D} (h : NoSeq v) : F_is_order_of [.fz v, .fz ns] = some (.ok (.fz (.bl false)) [none, none]) := by
  have := h.seq
  simp [F_is_order_of, t_is_order_of, kp_is_order_of, this]
theorem is_order_len {v : D} {xs : List D} {es : List D} (h : SeqOf v xs) (hl : xs.length ≠ es.length) : F_is_order_of [.fz v, .fz (.lst es)] = some (.ok (.fz (.bl false)) [none, none]) := by
  have h1 := h.seq
  have h2 := h.len
  have h3 : lenE [D.lst es] = some (.fz (.int es.length)) := rfl
  have h4 : ¬ ((xs.length : Int) = es.length) := by omega
  simp [F_is_order_of, t_is_order_of, kp_is_order_of, h1, h2, h3, h4]
theorem is_order_alls {x : D} {ds es : List D} {R : List T} {n : Int} (hs : F_is_sequence [.fz x] = some (.ok (.fz (.bl true)) [none])) (h1 : lenE [x] = some (.fz (.int n))) (h2 : (es.length : Int) = n) (hw : walkD x = some ds) (hl : ds.length ≤ 16777216)
    (e : lcE (gSet 2) bYes (eCall isTyE (aCons (eVar 2) (aCons (eC (.ty "str")) aNil))) [2] ds [some (.fz x), some (.fz (.lst es)), none] = some (R, [some (.fz x), some (.fz (.lst es)), none])) (a : allD [.lst (frzL R)] = some (.fz (.bl false))) :
    F_is_order_of [.fz x, .fz (.lst es)] = some (.ok (.fz (.bl false)) [none, none]) := by
  simp [F_is_order_of, t_is_order_of, kp_is_order_of, hs, h1, h2, hw, hl, e, a]
theorem is_order_nq {x : D} {ds es ss ts : List D} {R : List T} {n : Int} (hs : F_is_sequence [.fz x] = some (.ok (.fz (.bl true)) [none])) (h1 : lenE [x] = some (.fz (.int n))) (h2 : (es.length : Int) = n) (hw : walkD x = some ds) (hl : ds.length ≤ 16777216)
    (e : lcE (gSet 2) bYes (eCall isTyE (aCons (eVar 2) (aCons (eC (.ty "str")) aNil))) [2] ds [some (.fz x), some (.fz (.lst es)), none] = some (R, [some (.fz x), some (.fz (.lst es)), none])) (a : allD [.lst (frzL R)] = some (.fz (.bl true)))
    (s1 : sortD [x] = some (.lst (ss.map .fz))) (s2 : sortD [.lst es] = some (.lst (ts.map .fz))) (q : eqAD (.lst ss) (.lst ts) = some false) : F_is_order_of [.fz x, .fz (.lst es)] = some (.ok (.fz (.bl false)) [none, none]) := by
  simp [F_is_order_of, t_is_order_of, kp_is_order_of, hs, h1, h2, hw, hl, e, a, s1, s2, q]
def strB : D → Bool
  | .str _ => true
  | _ => false
theorem ElOk.tyE {d : D} (h : ElOk d) : isTyD [d, .ty "str"] = some (.fz (.bl (strB d))) := by
  rcases h.ty with ⟨z, rfl, _⟩ | h'
  · rfl
  · have : strB d = false := by
      cases d <;> first | rfl | (rw [show isTyD [D.str _, .ty "str"] = some (.fz (.bl true)) from rfl] at h'; cases h')
    rw [this]; exact h'
theorem tys_lc {xs : List D} {x y : Option T} (h : ∀ d ∈ xs, ElOk d) : lcE (gSet 2) bYes (eCall isTyE (aCons (eVar 2) (aCons (eC (.ty "str")) aNil))) [2] xs [x, y, none] = some (xs.map fun d => .fz (.bl (strB d)), [x, y, none]) := by
  have e := lcE_pure (v := 2) (tb := bYes) (te := eCall isTyE (aCons (eVar 2) (aCons (eC (.ty "str")) aNil))) (p := fun _ => true) (f := fun d => .fz (.bl (strB d))) xs [x, y, none] rfl (fun d _ => rfl) (fun d hd _ => by
    have := (h d hd).tyE
    simp [this])
  rw [List.filter_eq_self.mpr fun _ _ => rfl] at e
  exact e
theorem bools_map (f : D → Bool) : ∀ xs : List D, boolsOf (frzL (xs.map fun d => T.fz (.bl (f d)))) = some (xs.map f)
  | [] => rfl
  | x :: xs => by
    have ih := bools_map f xs
    simp only [List.map_cons, frzL, VL.frz, boolsOf, ih, Option.map_some]
theorem strs_of : ∀ {xs : List D}, (∀ d ∈ xs, ElOk d) → (∀ d ∈ xs, strB d = true) → ∃ ss : List Str, xs = ss.map .str ∧ ∀ z ∈ ss, okS z
  | [], _, _ => ⟨[], rfl, by simp⟩
  | d :: xs, h, hs => by
    obtain ⟨ss, e, ho⟩ := strs_of (xs := xs) (fun d hd => h d (by simp [hd])) fun d hd => hs d (by simp [hd])
    rcases (h d (by simp)).ty with ⟨z, rfl, hz⟩ | h'
    · exact ⟨z :: ss, by simp [e], fun y hy => by
        rcases List.mem_cons.mp hy with rfl | hy
        · exact hz
        · exact ho y hy⟩
    · have := (h d (by simp)).tyE
      rw [hs d (by simp), h'] at this
      cases this
theorem is_order_no {v : D} {xs : List D} {ns : List Str} (hv : SeqOf v xs) (hx : ∀ d ∈ xs, ElOk d) (hn : ∀ z ∈ ns, Nm z) (hl : ns.length < 64) (hno : ¬ OrdL xs ns) : F_is_order_of [.fz v, .fz (.lst (ns.map .str))] = some (.ok (.fz (.bl false)) [none, none]) := by
  by_cases c : xs.length = ns.length
  · have e := tys_lc (x := some (.fz v)) (y := some (.fz (.lst (ns.map .str)))) hx
    have hw := hv.walk
    have hle : xs.length ≤ 16777216 := by omega
    have h2 : (((ns.map D.str).length : Nat) : Int) = (xs.length : Nat) := by rw [List.length_map, c]
    by_cases s : ∀ d ∈ xs, strB d = true
    · obtain ⟨ss, rfl, ho⟩ := strs_of hx s
      have np : ¬ ss.Perm ns := fun p => hno ⟨ss, rfl, p⟩
      have q := eqAD_strs (xs := sortS ss) (ys := sortS ns) (fun z h => ho z (mem_sortS.mp h)) (fun z h => (hn z (mem_sortS.mp h)).ok)
      rw [decide_eq_false (fun z => np (sortS_perm.mp z))] at q
      have hls : ss.length < 64 := by rw [List.length_map] at c; omega
      have s1 : sortD [v] = some (.lst ((sortS ss).map fun x => .fz (.str x))) := by
        cases hv
        · exact sortD_t hls
        · exact sortD_l hls
      have s2 := sortD_l (xs := ns) hl
      rw [fz_strs] at s1 s2
      refine is_order_nq hv.seq hv.len h2 hw hle e ?_ s1 s2 q
      simp only [allD, bools_map, Option.map_some]
      have : (List.map strB (ss.map D.str)).all id = true := by simp [strB]
      rw [this]
    · refine is_order_alls hv.seq hv.len h2 hw hle e ?_
      simp only [allD, bools_map, Option.map_some]
      have : (List.map strB xs).all id = false := by
        rw [Bool.eq_false_iff]
        intro z
        refine s fun d hd => ?_
        have := List.all_eq_true.mp z (strB d) (List.mem_map.mpr ⟨d, hd, rfl⟩)
        exact this
      rw [this]
  · exact is_order_len hv (by rw [List.length_map]; exact c)
/-! the law -/
theorem lis_ns {v ns : D} (h : NoSeq v) : F__law_is_order [.fz v, .fz ns] = some (.ok (.fz (.bl false)) [none, none]) := by
  have := h.isq
  simp [F__law_is_order, t__law_is_order, kp__law_is_order, this]
theorem lis_len {v : D} {xs es : List D} (h : SeqOf v xs) (hl : xs.length ≠ es.length) : F__law_is_order [.fz v, .fz (.lst es)] = some (.ok (.fz (.bl false)) [none, none]) := by
  have h1 := h.isq
  have h2 := h.len
  have h3 : lenE [D.lst es] = some (.fz (.int es.length)) := rfl
  have h4 : ¬ ((xs.length : Int) = es.length) := by omega
  simp [F__law_is_order, t__law_is_order, kp__law_is_order, h1, h2, h3, h4]
def isN (n : Str) : D → Bool
  | .str z => z == n
  | _ => false
theorem isN_eq {n : Str} {d : D} : isN n d = true ↔ d = .str n := by
  cases d <;> simp [isN]
def linE : Ev T := eLc (iAhd (vAny (vVar 0))) (gSet 3) (bBin eqA (eCall reprD (aCons (eVar 3) aNil)) (eCall reprD (aCons (eVar 2) aNil))) (eVar 3) [3]
theorem filt_n {n : Str} : ∀ xs : List D, xs.filter (isN n) = (List.replicate (xs.countP (isN n)) n).map .str
  | [] => rfl
  | d :: xs => by
    by_cases c : isN n d = true
    · rw [List.filter_cons_of_pos c, List.countP_cons_of_pos c, List.replicate_succ, List.map_cons, filt_n xs, isN_eq.mp c]
    · rw [List.filter_cons_of_neg c, List.countP_cons_of_neg c, filt_n xs]
theorem lin_lc {v : D} {xs : List D} {n : Str} {y : Option T} (hx : ∀ d ∈ xs, ElOk d) (hn : Nm n) :
    lcE (gSet 3) (bBin eqA (eCall reprD (aCons (eVar 3) aNil)) (eCall reprD (aCons (eVar 2) aNil))) (eVar 3) [3] xs [some (.fz v), y, some (.fz (.str n)), none] = some ((xs.filter (isN n)).map .fz, [some (.fz v), y, some (.fz (.str n)), none]) := by
  refine lcE_pure (v := 3) (p := isN n) (f := .fz) xs _ rfl (fun d hd => ?_) fun d hd _ => rfl
  obtain ⟨z, hz, hq⟩ := (hx d hd).rp
  have h2 := reprD_pl (nm_pl hn) (by have := hn.2.1; omega)
  have e : isN n d = (z == reprText n) := by
    rw [Bool.eq_iff_iff, isN_eq, hq n hn]
  simp [hz, h2, e]
theorem lis_run {v : D} {xs : List D} {es : List D} {R : List T} {b : Bool} (h : SeqOf v xs) (hl : xs.length = es.length) (h64 : es.length ≤ 100)
    (e : lcE (gSet 2) (bBin neA linE (eLst (mOwn (eVar 2) mNil))) (eVar 2) [2] es [some (.fz v), some (.fz (.lst es)), none, none] = some (R, [some (.fz v), some (.fz (.lst es)), none, none])) (q : eqAD (.lst (frzL R)) (.lst []) = some b) :
    F__law_is_order [.fz v, .fz (.lst es)] = some (.ok (.fz (.bl b)) [none, none]) := by
  have h1 := h.isq
  have h2 := h.len
  have h3 : lenE [D.lst es] = some (.fz (.int es.length)) := rfl
  have hle : es.length ≤ 16777216 := by omega
  unfold linE at e
  simp [F__law_is_order, t__law_is_order, kp__law_is_order, h1, h2, h3, hl, hle, e, q]
theorem lis_gen {v : D} {xs : List D} {ns : List Str} (hv : SeqOf v xs) (hx : ∀ d ∈ xs, ElOk d) (hn : ∀ z ∈ ns, Nm z) (hl : ns.length < 64) (c : xs.length = ns.length) :
    F__law_is_order [.fz v, .fz (.lst (ns.map .str))] = some (.ok (.fz (.bl (ns.filter fun n => !(xs.countP (isN n) == 1)).isEmpty)) [none, none]) := by
  have hle : xs.length ≤ 16777216 := by omega
  have hw := hv.walk
  refine lis_run hv (by rw [List.length_map]; exact c) (by rw [List.length_map]; omega) (R := ((ns.filter fun n => !(xs.countP (isN n) == 1)).map D.str).map .fz) ?_ ?_
  · have := strs_lcP (v := 2) (tb := bBin neA linE (eLst (mOwn (eVar 2) mNil))) (te := eVar 2) (E := [some (.fz v), some (.fz (.lst (ns.map .str))), none, none]) (ns := ns) (fun n => !(xs.countP (isN n) == 1)) rfl
      (fun n hns => by
        have e1 := lin_lc (v := v) (y := some (.fz (.lst (ns.map .str)))) hx (hn n hns)
        have q := eqAD_strs (xs := List.replicate (xs.countP (isN n)) n) (ys := [n]) (fun z hz => by rw [List.eq_of_mem_replicate hz]; exact (hn n hns).ok) (fun z hz => by simp at hz; rw [hz]; exact (hn n hns).ok)
        have e2 : decide (List.replicate (xs.countP (isN n)) n = [n]) = (xs.countP (isN n) == 1) := by
          rw [Bool.eq_iff_iff, decide_eq_true_eq, beq_iff_eq]
          constructor
          · intro h; have := congrArg List.length h; simpa using this
          · intro h; rw [h]; rfl
        rw [e2] at q
        simp only [List.map_cons, List.map_nil] at q
        rw [filt_n] at e1
        have fe : frzL (List.replicate (xs.countP (isN n)) (T.fz (.str n))) = (List.replicate (xs.countP (isN n)) n).map .str := by rw [frzL_map]; simp
        rw [List.map_replicate] at q fe
        simp [linE, hw, hle, e1, fe, q])
      (fun n hns => rfl)
    exact this
  · rw [frzL_fz]
    exact eqAD_strs_nil _ fun z hz => (hn z (List.mem_filter.mp hz).1).ok
/-! the counting -/
theorem cnt_ord : ∀ {ns : List Str} {xs : List D}, ns.Nodup → xs.length = ns.length → (∀ n ∈ ns, xs.countP (isN n) = 1) → OrdL xs ns
  | [], xs, _, hl, _ => ⟨[], by simpa using hl, .nil⟩
  | n :: ns, xs, nd, hl, h => by
    have c := h n (by simp)
    obtain ⟨d, hd, hq⟩ := List.countP_pos_iff.mp (by rw [c]; omega : 0 < xs.countP (isN n))
    rw [isN_eq] at hq
    subst hq
    obtain ⟨a, b, rfl⟩ := List.append_of_mem hd
    have nd' := List.nodup_cons.mp nd
    obtain ⟨row, e, hp⟩ := cnt_ord (ns := ns) (xs := a ++ b) nd'.2 (by simp at hl ⊢; omega) fun m hm => by
      have := h m (by simp [hm])
      have ne : isN m (.str n) = false := by
        rw [Bool.eq_false_iff]
        intro q
        have := isN_eq.mp q
        cases this
        exact nd'.1 hm
      rw [List.countP_append, List.countP_cons_of_neg (by rw [ne]; simp)] at this
      rw [List.countP_append]; exact this
    obtain ⟨r1, r2, rfl, ea, eb⟩ := List.map_eq_append_iff.mp e.symm
    refine ⟨r1 ++ n :: r2, by rw [← ea, ← eb]; simp, ?_⟩
    exact List.perm_middle.trans (hp.cons n)
theorem ord_cnt {ns : List Str} {xs : List D} (nd : ns.Nodup) (h : OrdL xs ns) : xs.length = ns.length ∧ ∀ n ∈ ns, xs.countP (isN n) = 1 := by
  obtain ⟨row, rfl, hp⟩ := h
  refine ⟨by rw [List.length_map, hp.length_eq], fun n hn => ?_⟩
  rw [List.countP_map]
  have e : (isN n ∘ D.str) = fun z => z == n := by funext z; rfl
  rw [e]
  have : row.countP (fun z => z == n) = row.count n := rfl
  rw [this, hp.count_eq]
  exact nd.count.trans (if_pos hn)
theorem lis_no {v : D} {xs : List D} {ns : List Str} (hv : SeqOf v xs) (hx : ∀ d ∈ xs, ElOk d) (hn : ∀ z ∈ ns, Nm z) (hl : ns.length < 64) (nd : ns.Nodup) (hno : ¬ OrdL xs ns) : F__law_is_order [.fz v, .fz (.lst (ns.map .str))] = some (.ok (.fz (.bl false)) [none, none]) := by
  by_cases c : xs.length = ns.length
  · rw [lis_gen hv hx hn hl c]
    have : (ns.filter fun n => !(xs.countP (isN n) == 1)).isEmpty = false := by
      rw [Bool.eq_false_iff]
      intro z
      rw [List.isEmpty_iff, List.filter_eq_nil_iff] at z
      exact hno (cnt_ord nd c fun n hn => by have := z n hn; simpa using this)
    rw [this]
  · exact lis_len hv (by rw [List.length_map]; exact c)
theorem lis_yes {v : D} {xs : List D} {ns : List Str} (hv : SeqOf v xs) (hn : ∀ z ∈ ns, Nm z) (hl : ns.length < 64) (nd : ns.Nodup) (h : OrdL xs ns) : F__law_is_order [.fz v, .fz (.lst (ns.map .str))] = some (.ok (.fz (.bl true)) [none, none]) := by
  obtain ⟨c, hc⟩ := ord_cnt nd h
  have hx : ∀ d ∈ xs, ElOk d := by
    obtain ⟨row, rfl, hp⟩ := h
    intro d hd
    obtain ⟨z, hz, rfl⟩ := List.mem_map.mp hd
    exact ElOk.nm (hn z (hp.mem_iff.mp hz))
  rw [lis_gen hv hx hn hl c]
  have : (ns.filter fun n => !(xs.countP (isN n) == 1)).isEmpty = true := by
    rw [List.isEmpty_iff, List.filter_eq_nil_iff]
    intro n hns
    rw [hc n hns]; simp
  rw [this]
end Gk04

namespace Gk04
open PySem PySem.Spec PyProof.Rows L2 VL
/-! ### wishes compared -/
theorem inB_dct (x : Str) (ds : List (Key × D)) : inB (.str x) (.dct ds) = some (findD ds (.inr x)).isSome := rfl
def rankT (rs : List (Str × List Str)) : List (Key × T) := rs.map fun q => (.inr q.1, .fz (tupS q.2))
theorem frz_rankT (rs : List (Str × List Str)) : frzK (rankT rs) = mapD tupS rs := by rw [frzK_map]; simp [rankT, mapD]
/-! equal wishes -/
theorem eqDD_tup {r : List Str} (h : ∀ z ∈ r, okS z) : eqDD (tupS r) (tupS r) = some true := by
  have e : toPy (tupS r) = some (.tuple (r.map .str)) := by simp [tupS, toPy, toPyL_strs]
  have s := shaped_strs h
  have s2 : SeqAt.shaped (.tuple (r.map PyData.str)) = true := s
  unfold eqDD
  rw [e]
  dsimp only
  rw [if_pos ⟨s2, s2⟩]
  have : PyData.eqv (.tuple (r.map PyData.str)) (.tuple (r.map PyData.str)) = true := by
    show PyData.eqvAll _ _ = true
    clear s s2 e h
    induction r with
    | nil => rfl
    | cons z r ih => simp [PyData.eqvAll, PyData.eqv, ih]
  rw [this]
theorem hits_self {β : Type} {f : β → D} : ∀ {ls : List (Key × D)} {rs : List (Str × β)}, (∀ q ∈ rs, findD ls (.inr q.1) = some (f q.2) ∧ eqDD (f q.2) (f q.2) = some true) → VL.hitsD ls (mapD f rs) = some true
  | _, [], _ => rfl
  | ls, q :: rs, h => by
    obtain ⟨h1, h2⟩ := h q (by simp)
    show VL.hitsD ls ((.inr q.1, f q.2) :: mapD f rs) = _
    have ih := hits_self (ls := ls) (rs := rs) fun q' hq' => h q' (by simp [hq'])
    simp only [VL.hitsD, h1, h2, ih]
    rfl
theorem eqK_self {β : Type} {f : β → D} {rs : List (Str × β)} (nd : (rs.map (·.1)).Nodup) (h : ∀ q ∈ rs, eqDD (f q.2) (f q.2) = some true) : eqKB (.dct (mapD f rs)) (.dct (mapD f rs)) = some true := by
  simp only [eqKB, if_true]
  exact hits_self fun q hq => ⟨find_mapD f nd hq, h q hq⟩
theorem eqAD_tupS {r : List Str} (h : ∀ z ∈ r, okS z) : eqAD (tupS r) (tupS r) = some true := by
  have e : eqAD (tupS r) (tupS r) = eqDD (tupS r) (tupS r) := rfl
  rw [e]
  exact eqDD_tup h
end Gk04

namespace Gk04
open PySem PySem.Spec PyProof.Rows L2 VL
/-! ### the law begins -/
theorem begin_run {p p1 p2 : T} {n m : D} {G : D} {ks : List (Key × T)} {L : List D} (e1 : F__law_raw [p, .fz n, .fz m] = some (.ok (.tup [.fz G, .dct ks]) [some p1, none, none])) (e2 : F__law_shuffled [p1, .fz (.lst (keysOf (frzK ks)))] = some (.ok (.lst (L.map .fz)) [some p2, none])) :
    F__law_begin [p, .fz n, .fz m] = some (.ok (.tup [.fz (.tup [G, .dct (frzK ks)]), .tup (L.map .fz)]) [some p2, none, none]) := by
  have i1 : L2.atI [G, D.dct (frzK ks)] 1 = some (.dct (frzK ks)) := rfl
  have e3 : (keysOf (frzK ks)).map T.fz = (keysOf (frzK ks)).map T.fz := rfl
  simp [F__law_begin, t__law_begin, kp__law_begin, e1, ixA_tup, i1, e2]
theorem frz_ranksT (rs : List (Str × List Str)) : frzK (ranksT rs) = ranksD rs := by rw [frzK_map]; simp [ranksT, ranksD]
theorem begin_spec {p : T} {n ng mg : Nat} (hg : ng ≤ 26) (hm : mg ≤ 26) (hp : Pn p n) (hn : n + 4000 ≤ 10000000) :
    ∃ (p' : T) (gs row : List Str) (rs : List (Str × List Str)), F__law_begin [p, .fz (.int ng), .fz (.int mg)] = some (.ok (.tup [.fz (rawD gs rs), .tup ((row.map D.str).map .fz)]) [some p', none, none]) ∧ RawOk gs rs ∧ gs.length = mg ∧ rs.length = ng ∧ row.Perm (rs.map (·.1)) ∧ Pn p' (n + 900) := by
  obtain ⟨p1, gs, rs, e1, ok, l1, l2, hp1⟩ := raw hg hm hp (by omega)
  obtain ⟨p2, zs, e2, hz, hp2⟩ := shufS (xs := rs.map (·.1)) (fun z hz => by obtain ⟨q, hq, rfl⟩ := mem_fst hz; exact (ok.rn q hq).ok) (by rw [List.length_map]; omega) hp1 (by rw [List.length_map]; omega)
  rw [List.length_map] at hp2
  have ek : keysOf (frzK (ranksT rs)) = (rs.map (·.1)).map .str := by rw [frz_ranksT, ranksD_eq, keys_mapD]
  rw [fz_strs] at e2
  have e := begin_run e1 (by rw [ek]; exact e2)
  rw [frz_ranksT] at e
  exact ⟨p2, gs, zs, rs, e, ok, l1, l2, hz, hp2.mono (by omega)⟩
end Gk04

namespace Gk04
open PySem PySem.Spec PyProof.Rows L2 VL
/-! ### holdings, again -/
theorem nodup_fst {hs : List (Str × Option Str)} {rs : List (Str × List Str)} {gs : List Str} (ok : RawOk gs rs) (h : HoldOk gs rs hs) : (hs.map (·.1)).Nodup := by rw [h.keys]; exact ok.rd
theorem kfz_hold (hs : List (Str × Option Str)) : kfz (.dct (holdT hs)) = .dct (holdT hs) := by
  rw [kfz_dct]
  congr 1
  unfold holdT
  rw [List.map_map]
  rfl
/-- the start of a drawn holding -/
theorem hold_len {gs : List Str} {rs : List (Str × List Str)} {hs : List (Str × Option Str)} (h : HoldOk gs rs hs) : hs.length = rs.length := by
  have := congrArg List.length h.keys
  simpa using this
theorem put_hold {rs : List (Str × List Str)} {hs : List (Str × Option Str)} {g : Str} {v : Option Str} {gs : List Str} (ok : RawOk gs rs) (h : hs.map (·.1) = rs.map (·.1)) (hg : g ∈ rs.map (·.1)) : putKid (.dct (holdT hs)) (.str g) (.fz (optD v)) = some (.dct (holdT (putH hs g v))) := by
  have hl : hs.length = rs.length := by
    have := congrArg List.length h
    simpa using this
  rw [putKid_s (by simp only [holdT, List.length_map]; rw [hl]; have := ok.rl; omega), putD_holdT (by rw [h]; exact ok.rd) (by rw [h]; exact hg)]
def holderO (hs : List (Str × Option Str)) (z : Str) : Option Str := ((hs.filter fun q => decide (q.2 = some z)).map (·.1)).head?
end Gk04

namespace Gk04
open PySem PySem.Spec PyProof.Rows L2 VL
/-! ### the law -/
def optP : Option Str → PyData
  | none => .none
  | some z => .str z
theorem toPyF_opt (v : Option Str) : toPyF (optD v) = some (optP v) := by cases v <;> rfl
theorem toPyFK_hold : ∀ hs : List (Str × Option Str), toPyFK (holdD hs) = some (hs.map fun q => (.str q.1, optP q.2))
  | [] => rfl
  | q :: hs => by
    show toPyFK ((.inr q.1, optD q.2) :: holdD hs) = _
    simp [toPyFK, toPyF_opt, toPyFK_hold hs, keyPy]
theorem kv_good : ∀ {hs : List (Str × Option Str)}, (∀ q ∈ hs, Nm q.1 ∧ ∀ z, q.2 = some z → Nm z) → gdKv (hs.map fun q => (.str q.1, optP q.2)) = true ∧ rbKv (hs.map fun q => (.str q.1, optP q.2)) ≤ hs.length * 200 ∧ PyData.depthKv (hs.map fun q => (.str q.1, optP q.2)) = 0
  | [], _ => ⟨rfl, Nat.zero_le _, rfl⟩
  | q :: hs, h => by
    obtain ⟨h1, h2, h3⟩ := kv_good (hs := hs) fun q hq => h q (by simp [hq])
    obtain ⟨n1, n2⟩ := h q (by simp)
    have g1 : gdP (.str q.1) = true := n1.ok
    have b1 : rb (.str q.1) ≤ 82 := by show 10 * q.1.length + 2 ≤ 82; have := n1.2.1; omega
    have g2 : gdP (optP q.2) = true ∧ rb (optP q.2) ≤ 82 ∧ (optP q.2).depth = 0 := by
      cases hv : q.2 with
      | none => exact ⟨rfl, by show 4 ≤ 82; omega, rfl⟩
      | some z => exact ⟨(n2 z hv).ok, by show 10 * z.length + 2 ≤ 82; have := (n2 z hv).2.1; omega, rfl⟩
    refine ⟨by simp [gdKv, g1, g2.1, h1], ?_, ?_⟩
    · show rb (.str q.1) + rb (optP q.2) + 4 + rbKv _ ≤ (hs.length + 1) * 200
      omega
    · simp [PyData.depthKv, g2.2.2, h3, PyData.depth]
theorem hold_nm {gs : List Str} {rs : List (Str × List Str)} {hs : List (Str × Option Str)} (ok : RawOk gs rs) (h : HoldOk gs rs hs) : ∀ q ∈ hs, Nm q.1 ∧ ∀ z, q.2 = some z → Nm z := fun q hq => by
  have hk : q.1 ∈ rs.map (·.1) := by rw [← h.keys]; exact List.mem_map_of_mem hq
  obtain ⟨r, hr, e⟩ := mem_fst hk
  refine ⟨e ▸ ok.rn r hr, fun z hz => ok.gn z (h.mem q.1 z ?_)⟩
  rw [lookup_mem (nodup_fst ok h) hq, hz]
theorem repr_holds {gs : List Str} {rs : List (Str × List Str)} {b a : List (Str × Option Str)} (ok : RawOk gs rs) (hb : HoldOk gs rs b) (ha : HoldOk gs rs a) : ∃ z, reprD [.tup [.dct (holdD b), .dct (holdD a)]] = some (.fz (.str z)) := by
  obtain ⟨b1, b2, b3⟩ := kv_good (hold_nm ok hb)
  obtain ⟨a1, a2, a3⟩ := kv_good (hold_nm ok ha)
  have hr := ok.rl
  rw [hold_len hb] at b2
  rw [hold_len ha] at a2
  refine repr_some (p := .tuple [.dict (b.map fun q => (.str q.1, optP q.2)), .dict (a.map fun q => (.str q.1, optP q.2))]) (by simp [toPyF, toPyFL, toPyFK_hold]) (by simp [gdP, gdAll, b1, a1]) (by simp [PyData.depth, PyData.depthAll, b3, a3]) ?_
  show 3 + ((3 + rbKv _) + 2 + ((3 + rbKv _) + 2 + 0)) ≤ _
  omega
/-! nobody is better off both ways; everybody is one way or the same -/
theorem likes_not {r : List Str} {x y : Option Str} (h : likesB r x y = true) : likesB r y x = false := by
  cases x with
  | none => cases h
  | some x =>
    cases y with
    | none => rfl
    | some y =>
      simp only [likesB, betterB, decide_eq_true_eq, decide_eq_false_iff_not] at h ⊢
      omega
theorem idx_inj {r : List Str} {x y : Str} (hx : x ∈ r) (hy : y ∈ r) (h : r.idxOf x = r.idxOf y) : x = y := by
  rw [← idxOf_range r x hx, ← idxOf_range r y hy, h]
theorem likes_one {r : List Str} {x y : Option Str} (hx : ∀ z, x = some z → z ∈ r) (hy : ∀ z, y = some z → z ∈ r) : (if likesB r x y = true then 1 else 0) + (if likesB r y x = true then 1 else 0) + (if y = x then 1 else 0) = 1 := by
  cases x with
  | none =>
    cases y with
    | none => rfl
    | some y => rfl
  | some x =>
    cases y with
    | none => rfl
    | some y =>
      by_cases e : y = x
      · subst e
        simp [likesB, betterB]
      · have ne : r.idxOf x ≠ r.idxOf y := fun h => e (idx_inj (hx x rfl) (hy y rfl) h).symm
        rcases Nat.lt_or_gt_of_ne ne with c | c
        · have c2 : ¬ r.idxOf y < r.idxOf x := by omega
          simp [likesB, betterB, c, c2, e]
        · have c2 : ¬ r.idxOf x < r.idxOf y := by omega
          simp [likesB, betterB, c, c2, e]
theorem count_three {α : Type} (p q s : α → Bool) : ∀ l : List α, (∀ x ∈ l, (if p x = true then 1 else 0) + (if q x = true then 1 else 0) + (if s x = true then 1 else 0) = 1) → (l.filter p).length + (l.filter q).length + (l.filter s).length = l.length
  | [], _ => rfl
  | x :: l, h => by
    have ih := count_three p q s l fun y hy => h y (by simp [hy])
    have hx := h x (by simp)
    simp only [List.filter_cons, List.length_cons]
    cases hp : p x <;> cases hq : q x <;> cases hs : s x <;> simp [hp, hq, hs] at hx ⊢ <;> omega
theorem hv_look {gs : List Str} {rs : List (Str × List Str)} {hs : List (Str × Option Str)} (h : HoldOk gs rs hs) {q : Str × List Str} (hq : q ∈ rs) : hs.lookup q.1 = some (hv hs q.1) := by
  obtain ⟨v, e⟩ := lookup_some (rs := hs) (g := q.1) (by rw [h.keys]; exact List.mem_map_of_mem hq)
  rw [hv_of e, e]
theorem hv_mem {gs : List Str} {rs : List (Str × List Str)} {hs : List (Str × Option Str)} (ok : RawOk gs rs) (h : HoldOk gs rs hs) {q : Str × List Str} (hq : q ∈ rs) : ∀ z, hv hs q.1 = some z → z ∈ q.2 := fun z hz =>
  (ok.rp q hq).mem_iff.mpr (h.mem q.1 z (by rw [hv_look h hq, hz]))
end Gk04

namespace Gk04
open PySem PySem.Spec PyProof.Rows L2 VL
/-! ### a row that is none: choosing raises -/
theorem need_row_x {W v : D} {rl : List D} (im : insOf "Wishes" "guests" W = true) (g1 : F_Wishes_guests [.fz W] = some (.ok (.lst (rl.map .fz)) [none])) (h : F_is_order_of [.fz v, .fz (.lst rl)] = some (.ok (.fz (.bl false)) [none, none])) :
    F_need_row [.fz W, .fz v] = some (.ex ⟨"InvalidRow", []⟩ [none, none]) := by
  simp [F_need_row, t_need_row, kp_need_row, im, g1, h, sRaise0, runF, startE]
theorem need_row_no {gs : List Str} {rs : List (Str × List Str)} {v : D} (h : F_is_order_of [.fz v, .fz (.lst ((rs.map (·.1)).map .str))] = some (.ok (.fz (.bl false)) [none, none])) :
    F_need_row [.fz (wishD gs rs), .fz v] = some (.ex ⟨"InvalidRow", []⟩ [none, none]) := by
  have g1 := w_guests gs rs
  rw [fz_strs] at g1
  exact need_row_x (im_w (by decide) (by decide) (by decide)) g1 h
theorem choose_x {W v : D} {gl : List D} (im : insOf "Wishes" "gifts" W = true) (g1 : F_Wishes_gifts [.fz W] = some (.ok (.lst (gl.map .fz)) [none])) (h : F_need_row [.fz W, .fz v] = some (.ex ⟨"InvalidRow", []⟩ [none, none])) :
    F_choose [.fz W, .fz v] = some (.ex ⟨"InvalidRow", []⟩ [none, none]) := by
  simp [F_choose, t_choose, kp_choose, im, g1, h, runF, startE]
theorem choose_no {gs : List Str} {rs : List (Str × List Str)} {v : D} (h : F_need_row [.fz (wishD gs rs), .fz v] = some (.ex ⟨"InvalidRow", []⟩ [none, none])) :
    F_choose [.fz (wishD gs rs), .fz v] = some (.ex ⟨"InvalidRow", []⟩ [none, none]) := by
  have g1 := w_gifts gs rs
  rw [fz_strs] at g1
  exact choose_x (im_w (by decide) (by decide) (by decide)) g1 h
theorem caught_no {W v : D} (h : F_choose [.fz W, .fz v] = some (.ex ⟨"InvalidRow", []⟩ [none, none])) :
    F__law_caught [.fz W, .fz v] = some (.ok (.fz (.str "row")) [none, none]) := by
  have k1 : ("InvalidRow" : Str) ∈ xkn := by simp [xkn]
  have k2 : (List.lookup ("InvalidRow" : Str) xt_ValueError) = some true := by decide
  simp [F__law_caught, t__law_caught, kp__law_caught, h, sTry, tryH, k1, isXD, k2, runF, startE]
theorem caught_yes {W v : D} {C : T} (h : F_choose [.fz W, .fz v] = some (.ok C [none, none])) : F__law_caught [.fz W, .fz v] = some (.ok (.fz (frz C)) [none, none]) := by
  simp [F__law_caught, t__law_caught, kp__law_caught, h, sTry, tryH, runF, startE]
end Gk04

namespace Gk04
open PySem PySem.Spec PyProof.Rows L2 VL
/-! ### the law's loops -/
def hb1 : Ev Fl := (sOwn 12 (eKf (eFn F_choose [none, none] (mVal (eVar 10) (mVal (eVar 4) mNil)))))
def hb2 : Ev Fl := (sIf (bPeek (bOr (bNot (bTru (eCall isTyE (aCons (eVar 12) (aCons (eC (.ty "dict")) aNil))))) (bOr (bBin neA (eCall reprD (aCons (eVar 12) aNil)) (eCall reprD (aCons (eVar 11) aNil))) (bBin neA (eCall tupleD (aCons (eVar 4) aNil)) (eVar 9))))) (sRet (eC (.bl false))) sNx)
def hb3 : Ev Fl := (sDrop (eMt 12 "dict" gDClear (pName 12) msNil))
def hbody : Ev Fl := (sSeq hb1 (sSeq hb2 hb3))
section
variable {s p b l h4 a5 s6 v7 r8 r9 w10 d11 t12 n13 g14 : Option T}
theorem hb1_s {W rd : D} {ks : List (Key × T)} (e : F_choose [.fz W, .fz rd] = some (.ok (.dct ks) [none, none])) (hk : kfz (.dct ks) = .dct ks) :
    hb1 [s, p, b, l, some (.fz rd), a5, s6, v7, r8, r9, some (.fz W), d11, t12, n13, g14] = some (.ok .nx [s, p, b, l, some (.fz rd), a5, s6, v7, r8, r9, some (.fz W), d11, some (.dct ks), n13, g14]) := by
  simp [hb1, e, hk]
theorem hb2_s {rd R : D} {z : Str} {t : T} {ks : List (Key × T)} {kd : List (Key × D)} (hk : frzK ks = kd) (e1 : reprD [.dct kd] = some (.fz (.str z))) (e2 : tupleD [rd] = some t) (e3 : eqAD (frz t) R = some true) :
    hb2 [s, p, b, l, some (.fz rd), a5, s6, v7, r8, some (.fz R), w10, some (.fz (.dct kd)), some (.dct ks), n13, g14] = some (.ok .nx [s, p, b, l, some (.fz rd), a5, s6, v7, r8, some (.fz R), w10, some (.fz (.dct kd)), some (.dct ks), n13, g14]) := by
  have i0 : isTyD [D.dct kd, .ty "dict"] = some (.fz (.bl true)) := rfl
  simp [hb2, hk, i0, e1, e2, e3]
theorem hb3_s {ks : List (Key × T)} : hb3 [s, p, b, l, h4, a5, s6, v7, r8, r9, w10, d11, some (.dct ks), n13, g14] = some (.ok .nx [s, p, b, l, h4, a5, s6, v7, r8, r9, w10, d11, some (.dct []), n13, g14]) := by
  simp [hb3, gDClear]
theorem hbody_s {W rd R : D} {z : Str} {t : T} {ks : List (Key × T)} {kd : List (Key × D)} (e : F_choose [.fz W, .fz rd] = some (.ok (.dct ks) [none, none])) (hk' : kfz (.dct ks) = .dct ks) (hk : frzK ks = kd) (e1 : reprD [.dct kd] = some (.fz (.str z))) (e2 : tupleD [rd] = some t) (e3 : eqAD (frz t) R = some true) :
    hbody [s, p, b, l, some (.fz rd), a5, s6, v7, r8, some (.fz R), some (.fz W), some (.fz (.dct kd)), t12, n13, g14] = some (.ok .nx [s, p, b, l, some (.fz rd), a5, s6, v7, r8, some (.fz R), some (.fz W), some (.fz (.dct kd)), some (.dct []), n13, g14]) :=
  seq_of (hb1_s e hk') (seq_of (hb2_s hk e1 e2 e3) hb3_s)
def vb1 : Ev Fl := (sSet 13 (eIf (bTru (eFn F__law_is_order [none, none] (mVal (eVar 7) (mVal (eCall listE (aCons (eBin ixA (eVar 8) (eC (.int 1))) aNil)) mNil)))) (eFn F__law_choose [none, none] (mVal (eVar 8) (mVal (eVar 7) mNil))) (eC (.str "row"))))
def vb2 : Ev Fl := (sIf (bBin neMD (eFn F__law_caught [none, none] (mVal (eVar 10) (mVal (eVar 7) mNil))) (eVar 13)) (sRet (eC (.bl false))) sNx)
def vbody : Ev Fl := (sSeq vb1 vb2)
theorem vb1_no {R1 v G : D} {L : List D} (hl : listE [R1] = some (.lst (L.map .fz))) (e : F__law_is_order [.fz v, .fz (.lst L)] = some (.ok (.fz (.bl false)) [none, none])) :
    vb1 [s, p, b, l, h4, a5, s6, some (.fz v), some (.fz (.tup [G, R1])), r9, w10, d11, t12, n13, g14] = some (.ok .nx [s, p, b, l, h4, a5, s6, some (.fz v), some (.fz (.tup [G, R1])), r9, w10, d11, t12, some (.fz (.str "row")), g14]) := by
  have i1 : L2.atI [G, R1] 1 = some R1 := rfl
  simp [vb1, ixA_tup, i1, hl, e]
theorem vb1_yes {R1 v G : D} {L : List D} {C : T} (hl : listE [R1] = some (.lst (L.map .fz))) (e : F__law_is_order [.fz v, .fz (.lst L)] = some (.ok (.fz (.bl true)) [none, none])) (c : F__law_choose [.fz (.tup [G, R1]), .fz v] = some (.ok C [none, none])) :
    vb1 [s, p, b, l, h4, a5, s6, some (.fz v), some (.fz (.tup [G, R1])), r9, w10, d11, t12, n13, g14] = some (.ok .nx [s, p, b, l, h4, a5, s6, some (.fz v), some (.fz (.tup [G, R1])), r9, w10, d11, t12, some (.fz (frz C)), g14]) := by
  have i1 : L2.atI [G, R1] 1 = some R1 := rfl
  simp [vb1, ixA_tup, i1, hl, e, c]
theorem vb2_s {W v x y : D} (e : F__law_caught [.fz W, .fz v] = some (.ok (.fz x) [none, none])) (q : neMD x y = some (.fz (.bl false))) :
    vb2 [s, p, b, l, h4, a5, s6, some (.fz v), r8, r9, some (.fz W), d11, t12, some (.fz y), g14] = some (.ok .nx [s, p, b, l, h4, a5, s6, some (.fz v), r8, r9, some (.fz W), d11, t12, some (.fz y), g14]) := by
  simp [vb2, e, q]
theorem vbody_no {R1 v G W : D} {L : List D} (hl : listE [R1] = some (.lst (L.map .fz))) (e : F__law_is_order [.fz v, .fz (.lst L)] = some (.ok (.fz (.bl false)) [none, none])) (c : F__law_caught [.fz W, .fz v] = some (.ok (.fz (.str "row")) [none, none])) :
    ∃ y, vbody [s, p, b, l, h4, a5, s6, some (.fz v), some (.fz (.tup [G, R1])), r9, some (.fz W), d11, t12, n13, g14] = some (.ok .nx [s, p, b, l, h4, a5, s6, some (.fz v), some (.fz (.tup [G, R1])), r9, some (.fz W), d11, t12, y, g14]) :=
  ⟨_, seq_of (vb1_no hl e) (vb2_s c rfl)⟩
theorem vbody_yes {R1 v G W : D} {L : List D} {C C' : T} (hl : listE [R1] = some (.lst (L.map .fz))) (e : F__law_is_order [.fz v, .fz (.lst L)] = some (.ok (.fz (.bl true)) [none, none])) (c : F__law_choose [.fz (.tup [G, R1]), .fz v] = some (.ok C [none, none]))
    (c2 : F__law_caught [.fz W, .fz v] = some (.ok (.fz (frz C')) [none, none])) (q : neMD (frz C') (frz C) = some (.fz (.bl false))) :
    ∃ y, vbody [s, p, b, l, h4, a5, s6, some (.fz v), some (.fz (.tup [G, R1])), r9, some (.fz W), d11, t12, n13, g14] = some (.ok .nx [s, p, b, l, h4, a5, s6, some (.fz v), some (.fz (.tup [G, R1])), r9, some (.fz W), d11, t12, y, g14]) :=
  ⟨_, seq_of (vb1_yes hl e c) (vb2_s c2 q)⟩
end
/-! one value -/
theorem eqDD_optH (v : Option Str) (h : ∀ z, v = some z → okS z) : eqDD (optD v) (optD v) = some true := by
  cases v with
  | none => rfl
  | some z =>
    have hz : PyData.strOk z = true := h z rfl
    show (if SeqAt.shaped (.str z) = true ∧ SeqAt.shaped (.str z) = true then some (PyData.eqv (.str z) (.str z)) else none) = _
    have s : SeqAt.shaped (.str z) = true := by simp [SeqAt.shaped, PyData.canLay0, PyData.depth, hz]
    rw [if_pos ⟨s, s⟩]
    simp [PyData.eqv]
theorem neM_hold {gs row : List Str} {rs : List (Str × List Str)} (ok : RawOk gs rs) (nd : row.Nodup) : neMD (.dct (holdD (chosen rs row gs))) (.dct (holdD (chosen rs row gs))) = some (.fz (.bl false)) := by
  have ho := chosen_ok (gs := gs) (rs := rs) nd
  have q : eqKB (.dct (holdD (chosen rs row gs))) (.dct (holdD (chosen rs row gs))) = some true := by
    refine eqK_self (f := optD) (nodup_fst ok ho) fun q hq => eqDD_optH _ fun z hz => ?_
    exact ((hold_nm ok ho q hq).2 z hz).ok
  simp [neMD, neKD, q]
theorem v_spec {s p b l h4 a5 s6 d11 t12 n13 g14 r9 : Option T} {gs : List Str} {rs : List (Str × List Str)} {v : D} (ok : RawOk gs rs) (hv : VOk v) :
    ∃ y, vbody [s, p, b, l, h4, a5, s6, some (.fz v), some (.fz (rawD gs rs)), r9, some (.fz (wishD gs rs)), d11, t12, n13, g14] = some (.ok .nx [s, p, b, l, h4, a5, s6, some (.fz v), some (.fz (rawD gs rs)), r9, some (.fz (wishD gs rs)), d11, t12, y, g14]) := by
  have hl : listE [.dct (ranksD rs)] = some (.lst (((rs.map (·.1)).map D.str).map .fz)) := by rw [listE_d, ranksD_eq, keys_mapD]
  have hn : ∀ z ∈ rs.map (·.1), Nm z := fun z hz => by obtain ⟨q, hq, rfl⟩ := mem_fst hz; exact ok.rn q hq
  have h64 : (rs.map (·.1)).length < 64 := by rw [List.length_map]; have := ok.rl; omega
  rcases vok_cases hv with ns | ⟨xs, hq, hx⟩
  · exact vbody_no hl (lis_ns ns) (caught_no (choose_no (need_row_no (is_order_ns ns))))
  · by_cases c : OrdL xs (rs.map (·.1))
    · have c' := c
      obtain ⟨row, rfl, hp⟩ := c
      have hd : ∃ R, RowD v row R := by
        cases hq
        · exact ⟨_, rowT row⟩
        · exact ⟨_, rowL row⟩
      obtain ⟨R, hd⟩ := hd
      have e1 := pchoose hd ok hp
      have e2 := chooseW hq.walk ok hp
      have nd : row.Nodup := hp.nodup_iff.mpr ok.rd
      refine vbody_yes hl (lis_yes hq hn h64 ok.rd c') e2 (caught_yes e1) ?_
      have := neM_hold ok nd
      simpa [frz_hold] using this
    · exact vbody_no hl (lis_no hq hx hn h64 ok.rd c) (caught_no (choose_no (need_row_no (is_order_no hq hx hn h64 c))))
theorem v_loop {s p b l h4 a5 s6 d11 t12 g14 r9 : Option T} {gs : List Str} {rs : List (Str × List Str)} (ok : RawOk gs rs) : ∀ (ds : List D) (v7 n13 : Option T), (∀ d ∈ ds, VOk d) →
    ∃ y7 y13, forE (gSet 7) vbody ds [s, p, b, l, h4, a5, s6, v7, some (.fz (rawD gs rs)), r9, some (.fz (wishD gs rs)), d11, t12, n13, g14] = some (.ok .nx [s, p, b, l, h4, a5, s6, y7, some (.fz (rawD gs rs)), r9, some (.fz (wishD gs rs)), d11, t12, y13, g14])
  | [], v7, n13, _ => ⟨v7, n13, by simp [forE]⟩
  | d :: ds, v7, n13, h => by
    obtain ⟨y, e⟩ := v_spec (s := s) (p := p) (b := b) (l := l) (h4 := h4) (a5 := a5) (s6 := s6) (d11 := d11) (t12 := t12) (n13 := n13) (g14 := g14) (r9 := r9) ok (h d (by simp))
    obtain ⟨y7, y13, e2⟩ := v_loop (s := s) (p := p) (b := b) (l := l) (h4 := h4) (a5 := a5) (s6 := s6) (d11 := d11) (t12 := t12) (g14 := g14) (r9 := r9) ok ds (some (.fz d)) y fun d hd => h d (by simp [hd])
    exact ⟨y7, y13, by simp [forE, e, e2]⟩
end Gk04

namespace Gk04
open PySem PySem.Spec PyProof.Rows L2 VL
/-! ### the law, all of it -/
theorem repr_hold1 {gs : List Str} {rs : List (Str × List Str)} {b : List (Str × Option Str)} (ok : RawOk gs rs) (hb : HoldOk gs rs b) : ∃ z, reprD [.dct (holdD b)] = some (.fz (.str z)) := by
  obtain ⟨b1, b2, b3⟩ := kv_good (hold_nm ok hb)
  have hr := ok.rl
  rw [hold_len hb] at b2
  refine repr_some (p := .dict (b.map fun q => (.str q.1, optP q.2))) (by simp [toPyF, toPyFK_hold]) (by simp [gdP, b1]) (by simp [PyData.depth, b3]) ?_
  show 3 + rbKv _ ≤ _
  omega
theorem h_loop {s p b l h4 a5 s6 v7 r8 t12 n13 g14 : Option T} {gs row : List Str} {rs : List (Str × List Str)} (ok : RawOk gs rs) (hp : row.Perm (rs.map (·.1))) :
    ∃ y4 y12, forE (gSet 4) hbody [tupS row, lstS row] [s, p, b, l, h4, a5, s6, v7, r8, some (.fz (tupS row)), some (.fz (wishD gs rs)), some (.fz (.dct (holdD (chosen rs row gs)))), t12, n13, g14] =
      some (.ok .nx [s, p, b, l, y4, a5, s6, v7, r8, some (.fz (tupS row)), some (.fz (wishD gs rs)), some (.fz (.dct (holdD (chosen rs row gs)))), y12, n13, g14]) := by
  have nd : row.Nodup := hp.nodup_iff.mpr ok.rd
  obtain ⟨z, hz⟩ := repr_hold1 ok (chosen_ok (gs := gs) (rs := rs) nd)
  have hs : ∀ z ∈ row, okS z := fun z hz => by obtain ⟨q, hq, rfl⟩ := mem_fst (hp.mem_iff.mp hz); exact (ok.rn q hq).ok
  have e1 := hbody_s (s := s) (p := p) (b := b) (l := l) (a5 := a5) (s6 := s6) (v7 := v7) (r8 := r8) (t12 := t12) (n13 := n13) (g14 := g14) (R := tupS row) (pchoose (rowT row) ok hp) (kfz_hold _) (frz_hold _) hz (t := .fz (tupS row)) rfl (eqAD_tupS hs)
  have e2 := hbody_s (s := s) (p := p) (b := b) (l := l) (a5 := a5) (s6 := s6) (v7 := v7) (r8 := r8) (t12 := some (.dct [])) (n13 := n13) (g14 := g14) (R := tupS row) (pchoose (rowL row) ok hp) (kfz_hold _) (frz_hold _) hz (t := .tup ((row.map D.str).map .fz)) rfl (by rw [VL.frz, frzL_fz]; exact eqAD_tupS hs)
  exact ⟨some (.fz (lstS row)), some (.dct []), by simp [forE, e1, e2]⟩
/-! parts of a row -/
theorem sl_sub (xs : List D) (lo hi : Option Int) : ∃ t ys, slD (.tup xs) lo hi = some t ∧ frz t = .tup ys ∧ (∀ d ∈ ys, d ∈ xs) ∧ ys.length ≤ xs.length := by
  simp only [slD]
  split
  · exact ⟨_, xs, rfl, rfl, fun d h => h, Nat.le_refl _⟩
  · refine ⟨_, VL.cutD xs lo hi, rfl, by simp, fun d h => List.drop_subset _ _ (List.take_subset _ _ h), ?_⟩
    unfold VL.cutD
    rw [List.length_take, List.length_drop]
    omega
theorem add_tup (a b : List D) (h : a.length + b.length ≤ 1000) : ∃ t, addD (.tup a) (.tup b) = some t ∧ frz t = .tup (a ++ b) := by
  simp only [addD]
  rw [if_pos (by rw [sizeLine_eq]; omega)]
  by_cases c1 : a = []
  · subst c1; exact ⟨_, rfl, rfl⟩
  · by_cases c2 : b = []
    · subst c2
      have : a.isEmpty = false := by cases a <;> first | exact (c1 rfl).elim | rfl
      exact ⟨.fz (.tup a), by simp [this], by simp⟩
    · have e1 : a.isEmpty = false := by cases a <;> first | exact (c1 rfl).elim | rfl
      have e2 : b.isEmpty = false := by cases b <;> first | exact (c2 rfl).elim | rfl
      exact ⟨_, by simp [e1, e2]; rfl, by rw [VL.frz, ← List.map_append, frzL_fz]⟩
noncomputable def o1 : Ev Fl := (sSet 3 (eBin ixA (eLst (mOwn (eC (.int 6)) (mOwn (eC (.int 17)) mNil))) (eCall intE (aCons (eBin eqA (eVar 2) (eC (.int 0))) aNil))))
noncomputable def o2 : Ev Fl := (sAsg (eFn F__law_begin [some 1, none, none] (mLate 1 (mVal (eFn F__law_draw [some 1, none] (mLate 1 (mVal (eVar 3) mNil))) (mVal (eFn F__law_draw [some 1, none] (mLate 1 (mVal (eVar 3) mNil))) mNil)))) (gTup' 2 (gCons' (gSet 8) (gCons' (gSet 9) gNil'))))
noncomputable def o3 : Ev Fl := (sPar [(10, false), (11, false)] (mOwn (eFn F__law_wishes [none] (mVal (eVar 8) mNil)) (mOwn (eFn F__law_choose [none, none] (mVal (eVar 8) (mVal (eVar 9) mNil))) mNil)))
noncomputable def o4 : Ev Fl := (sFor (iAny (eTup (mOwn (eVar 9) (mOwn (eCall listE (aCons (eVar 9) aNil)) mNil)))) (gSet 4) hbody)
noncomputable def o5 : Ev Fl := (sSet 5 (eFn F__law_draw [some 1, none] (mLate 1 (mVal (eBin addD (eCall lenE (aCons (eVar 9) aNil)) (eC (.int 1))) mNil))))
noncomputable def o6 : Ev Fl := (sOwn 6 (eKf (eLst (mOwn (eBin addD (eSl slD (eVar 9) oNo (oSo (eVar 5))) (eSl slD (eVar 9) (oSo (eBin addD (eVar 5) (eC (.int 1)))) oNo)) (mOwn (eBin addD (eVar 9) (eSl slD (eVar 9) oNo (oSo (eC (.int 1))))) (mOwn (eBin addD (eBin addD (eSl slD (eVar 9) oNo (oSo (eVar 5))) (eTup (mOwn (eFn F__law_odd [some 1] (mLate 1 mNil)) mNil))) (eSl slD (eVar 9) (oSo (eBin addD (eVar 5) (eC (.int 1)))) oNo)) (mOwn (eFn F__law_odd [some 1] (mLate 1 mNil)) mNil)))))))
noncomputable def o7 : Ev Fl := (sDrop (eMt 6 "list" gAppend (pName 6) (sid 6 (mVal (eBin addD (eSl slD (eVar 9) oNo (oSo (eUn negD (eC (.int 1))))) (eSl slD (eVar 9) oNo (oSo (eC (.int 1))))) mNil))))
noncomputable def o8 : Ev Fl := (sFor (iAny (eBin addD (eFrz 6) (eLst (mOwn (eCall dictE (aCons (eLc (iAhd (vAny (vVar 9))) (gSet 14) bYes (eTup (mOwn (eVar 14) (mOwn (eC (.int 1)) mNil))) [14]) aNil)) mNil)))) (gSet 7) vbody)
noncomputable def outer' : Ev Fl := (sSeq o1 (sSeq o2 (sSeq o3 (sSeq o4 (sSeq o5 (sSeq o6 (sSeq o7 o8)))))))
section
variable {s l h4 a5 s6 v7 r8 r9 w10 d11 t12 n13 g14 : Option T} {p : T}
theorem o1_s {i : Int} : ∃ L : Int, (L = 6 ∨ L = 17) ∧ o1 [s, some p, some (.fz (.int i)), l, h4, a5, s6, v7, r8, r9, w10, d11, t12, n13, g14] = some (.ok .nx [s, some p, some (.fz (.int i)), some (.fz (.int L)), h4, a5, s6, v7, r8, r9, w10, d11, t12, n13, g14]) := by
  have i0 : L2.atI [D.int 6, D.int 17] 0 = some (.int 6) := rfl
  have i1 : L2.atI [D.int 6, D.int 17] 1 = some (.int 17) := rfl
  by_cases c : i = 0
  · exact ⟨17, .inr rfl, by subst c; simp [o1, ixA_lst, i1]⟩
  · exact ⟨6, .inl rfl, by simp [o1, ixA_lst, i0, c]⟩
theorem o2_s {b : Option T} {p1 p2 p3 : T} {L n m : Int} {R : D} {Ls : List D} (e1 : F__law_draw [p, .fz (.int L)] = some (.ok (.fz (.int n)) [some p1, none])) (e2 : F__law_draw [p1, .fz (.int L)] = some (.ok (.fz (.int m)) [some p2, none])) (e3 : F__law_begin [p2, .fz (.int n), .fz (.int m)] = some (.ok (.tup [.fz R, .tup (Ls.map .fz)]) [some p3, none, none])) :
    o2 [s, some p, b, some (.fz (.int L)), h4, a5, s6, v7, r8, r9, w10, d11, t12, n13, g14] = some (.ok .nx [s, some p3, b, some (.fz (.int L)), h4, a5, s6, v7, some (.fz R), some (.fz (.tup Ls)), w10, d11, t12, n13, g14]) := by
  simp [o2, e1, e2, e3]
theorem o3_s {b : Option T} {R r W : D} {wt : T} {K : List (Key × T)} {ks : List (Key × D)} (e1 : F__law_wishes [.fz R] = some (.ok wt [none])) (hw : frz wt = W) (e2 : F__law_choose [.fz R, .fz r] = some (.ok (.dct K) [none, none])) (hk : frzK K = ks) :
    o3 [s, some p, b, l, h4, a5, s6, v7, some (.fz R), some (.fz r), w10, d11, t12, n13, g14] = some (.ok .nx [s, some p, b, l, h4, a5, s6, v7, some (.fz R), some (.fz r), some (.fz W), some (.fz (.dct ks)), t12, n13, g14]) := by
  simp [o3, e1, hw, e2, hk]
theorem o4_s {b : Option T} {xs : List D} {E : En} (h : forE (gSet 4) hbody [.tup xs, .lst xs] [s, some p, b, l, h4, a5, s6, v7, r8, some (.fz (.tup xs)), w10, d11, t12, n13, g14] = some (.ok .nx E)) :
    o4 [s, some p, b, l, h4, a5, s6, v7, r8, some (.fz (.tup xs)), w10, d11, t12, n13, g14] = some (.ok .nx E) := by
  have hl : listE [.tup xs] = some (.lst (xs.map .fz)) := rfl
  refine for_s ?_ h
  simp [hl]
theorem o5_s {b : Option T} {xs : List D} {p1 : T} {m k : Int} (hm : (xs.length : Int) + 1 = m) (e1 : F__law_draw [p, .fz (.int m)] = some (.ok (.fz (.int k)) [some p1, none])) :
    o5 [s, some p, b, l, h4, a5, s6, v7, r8, some (.fz (.tup xs)), w10, d11, t12, n13, g14] = some (.ok .nx [s, some p1, b, l, h4, some (.fz (.int k)), s6, v7, r8, some (.fz (.tup xs)), w10, d11, t12, n13, g14]) := by
  have hl : lenE [.tup xs] = some (.fz (.int xs.length)) := rfl
  subst hm
  simp [o5, hl, e1]
theorem o6_s {b : Option T} {R o1' o2' : D} {p1 p2 t1 t2 t3 u1 u2 u3 u4 : T} {k : Int} (s1 : slD R none (some k) = some t1) (s2 : slD R (some (k + 1)) none = some t2) (a1 : addD (frz t1) (frz t2) = some u1) (s3 : slD R none (some 1) = some t3) (a2 : addD R (frz t3) = some u2)
    (e1 : F__law_odd [p] = some (.ok (.fz o1') [some p1])) (a3 : addD (frz t1) (.tup [o1']) = some u3) (a4 : addD (frz u3) (frz t2) = some u4) (e2 : F__law_odd [p1] = some (.ok (.fz o2') [some p2])) :
    o6 [s, some p, b, l, h4, some (.fz (.int k)), s6, v7, r8, some (.fz R), w10, d11, t12, n13, g14] = some (.ok .nx [s, some p2, b, l, h4, some (.fz (.int k)), some (.lst [.fz (frz u1), .fz (frz u2), .fz (frz u4), .fz o2']), v7, r8, some (.fz R), w10, d11, t12, n13, g14]) := by
  simp [o6, s1, s2, a1, s3, a2, e1, a3, a4, e2]
theorem o7_s {b : Option T} {R : D} {t3 t5 u5 : T} {L : List T} (hL : L.length < 1000) (s4 : slD R none (some (-1)) = some t5) (s3 : slD R none (some 1) = some t3) (a5' : addD (frz t5) (frz t3) = some u5) :
    o7 [s, some p, b, l, h4, a5, some (.lst L), v7, r8, some (.fz R), w10, d11, t12, n13, g14] = some (.ok .nx [s, some p, b, l, h4, a5, some (.lst (L ++ [.fz (frz u5)])), v7, r8, some (.fz R), w10, d11, t12, n13, g14]) := by
  have hL' : L.length < 16777216 := by omega
  simp [o7, s4, s3, a5', gApp hL']
theorem o8_s {b : Option T} {xs vs : List D} {ts : List T} {ps : List (Key × D)} {E : En} (hx : xs.length ≤ 1000) (hv : vs.length ≤ 1000)
    (h1 : ∀ E : En, E[14]? = some none → lcE (gSet 14) bYes (eTup (mOwn (eVar 14) (mOwn (eC (.int 1)) mNil))) [14] xs E = some (ts, E))
    (h2 : pairsD (frzL ts) = some ps)
    (h : forE (gSet 7) vbody (vs ++ [.dct (frzK (mergeT [] ps))]) [s, some p, b, l, h4, a5, some (.fz (.lst vs)), v7, r8, some (.fz (.tup xs)), w10, d11, t12, n13, none] = some (.ok .nx E)) :
    o8 [s, some p, b, l, h4, a5, some (.lst (vs.map .fz)), v7, r8, some (.fz (.tup xs)), w10, d11, t12, n13, none] = some (.ok .nx E) := by
  have hx' : xs.length ≤ 16777216 := by omega
  have ad : addD (.lst vs) (.lst [D.dct (frzK (mergeT [] ps))]) = some (.lst ((vs ++ [D.dct (frzK (mergeT [] ps))]).map .fz)) := by
    simp only [addD]
    rw [if_pos (by simp only [List.length_cons, List.length_nil]; rw [sizeLine_eq]; omega)]
  refine for_s ?_ h
  have c2 : frzL (vs.map T.fz ++ [T.fz (D.dct (frzK (mergeT [] ps)))]) = vs ++ [D.dct (frzK (mergeT [] ps))] := by
    have := frzL_fz (vs ++ [D.dct (frzK (mergeT [] ps))])
    rwa [List.map_append] at this
  simp [hx', h1, h2, ad, c2]
end
theorem outer_spec {s l h4 a5 s6 v7 r8 r9 w10 d11 t12 n13 : Option T} {p : T} {n : Nat} {i : Int} (hp : Pn p n) (hn : n + 20000 ≤ 10000000) :
    ∃ (p' : T) (z3 z4 z5 z6 z7 z8 z9 z10 z11 z12 z13 : Option T), outer' [s, some p, some (.fz (.int i)), l, h4, a5, s6, v7, r8, r9, w10, d11, t12, n13, none] = some (.ok .nx [s, some p', some (.fz (.int i)), z3, z4, z5, z6, z7, z8, z9, z10, z11, z12, z13, none]) ∧ Pn p' (n + 1200) := by
  obtain ⟨L, hL, q1⟩ := o1_s (s := s) (p := p) (l := l) (h4 := h4) (a5 := a5) (s6 := s6) (v7 := v7) (r8 := r8) (r9 := r9) (w10 := w10) (d11 := d11) (t12 := t12) (n13 := n13) (g14 := none) (i := i)
  obtain ⟨d1, p1, e1, a1, a2, hp1⟩ := draw (many := L) hp (by omega) (by omega) (by omega)
  obtain ⟨d2, p2, e2, b1, b2, hp2⟩ := draw (many := L) hp1 (by omega) (by omega) (by omega)
  obtain ⟨n1, hn1⟩ : ∃ k : Nat, (k : Int) = d1 := ⟨d1.toNat, by omega⟩
  obtain ⟨n2, hn2⟩ : ∃ k : Nat, (k : Int) = d2 := ⟨d2.toNat, by omega⟩
  obtain ⟨p3, gs, row, rs, e3, ok, l1, l2, hrow, hp3⟩ := begin_spec (p := p2) (ng := n1) (mg := n2) (by omega) (by omega) hp2 (by omega)
  rw [hn1, hn2] at e3
  have hgl : gs.length ≤ 16 := by omega
  have hrl : rs.length ≤ 16 := by omega
  have hlen : row.length ≤ 16 := by rw [hrow.length_eq, List.length_map]; exact hrl
  have q2 := o2_s (s := s) (h4 := h4) (a5 := a5) (s6 := s6) (v7 := v7) (r8 := r8) (r9 := r9) (w10 := w10) (d11 := d11) (t12 := t12) (n13 := n13) (g14 := none) (b := some (.fz (.int i))) e1 e2 e3
  have q3 := o3_s (s := s) (p := p3) (l := some (.fz (.int L))) (h4 := h4) (a5 := a5) (s6 := s6) (v7 := v7) (w10 := w10) (d11 := d11) (t12 := t12) (n13 := n13) (g14 := none) (b := some (.fz (.int i))) (wishes ok hgl hrl) (frz_wish gs rs) (chooseW (rd := tupS row) rfl ok hrow) (frz_hold _)
  obtain ⟨y4, y12, q4⟩ := h_loop (s := s) (p := some p3) (b := some (.fz (.int i))) (l := some (.fz (.int L))) (h4 := h4) (a5 := a5) (s6 := s6) (v7 := v7) (r8 := some (.fz (rawD gs rs))) (t12 := t12) (n13 := n13) (g14 := none) ok hrow
  have q4' := o4_s q4
  obtain ⟨k, p4, e4, c1, c2, hp4⟩ := draw (many := ((row.map D.str).length : Int) + 1) hp3 (by omega) (by omega) (by rw [List.length_map]; omega)
  have q5 := o5_s (s := s) (l := some (.fz (.int L))) (h4 := y4) (a5 := a5) (s6 := s6) (v7 := v7) (r8 := some (.fz (rawD gs rs))) (w10 := some (.fz (wishD gs rs))) (d11 := some (.fz (.dct (holdD (chosen rs row gs))))) (t12 := y12) (n13 := n13) (g14 := none) (b := some (.fz (.int i))) rfl e4
  have hR : (row.map D.str).length ≤ 16 := by rw [List.length_map]; exact hlen
  have elR : ∀ d ∈ row.map D.str, ElOk d := fun d hd => by
    obtain ⟨z, hz, rfl⟩ := List.mem_map.mp hd
    obtain ⟨q, hq, rfl⟩ := mem_fst (hrow.mem_iff.mp hz)
    exact ElOk.nm (ok.rn q hq)
  obtain ⟨t1, x1, s1, f1, m1, k1⟩ := sl_sub (row.map D.str) none (some k)
  obtain ⟨t2, x2, s2, f2, m2, k2⟩ := sl_sub (row.map D.str) (some (k + 1)) none
  obtain ⟨t3, x3, s3, f3, m3, k3⟩ := sl_sub (row.map D.str) none (some 1)
  obtain ⟨t5, x5, s5, f5, m5, k5⟩ := sl_sub (row.map D.str) none (some (-1))
  obtain ⟨o1', p5, e5, ho1, hp5⟩ := odd hp4 (by omega)
  obtain ⟨o2', p6, e6, ho2, hp6⟩ := odd hp5 (by omega)
  obtain ⟨u1, ad1, g1⟩ := add_tup x1 x2 (by omega)
  obtain ⟨u2, ad2, g2⟩ := add_tup (row.map D.str) x3 (by omega)
  obtain ⟨u3, ad3, g3⟩ := add_tup x1 [o1'] (by simp; omega)
  obtain ⟨u4, ad4, g4⟩ := add_tup (x1 ++ [o1']) x2 (by simp; omega)
  obtain ⟨u5, ad5, g5⟩ := add_tup x5 x3 (by omega)
  have q6 := o6_s (s := s) (l := some (.fz (.int L))) (h4 := y4) (s6 := s6) (v7 := v7) (r8 := some (.fz (rawD gs rs))) (w10 := some (.fz (wishD gs rs))) (d11 := some (.fz (.dct (holdD (chosen rs row gs))))) (t12 := y12) (n13 := n13) (g14 := none) (b := some (.fz (.int i))) (R := tupS row) s1 s2 (by rw [f1, f2]; exact ad1) s3 (by rw [f3]; exact ad2) e5 (by rw [f1]; exact ad3) (by rw [g3, f2]; exact ad4) e6
  have q7 := o7_s (s := s) (p := p6) (l := some (.fz (.int L))) (h4 := y4) (a5 := some (.fz (.int k))) (v7 := v7) (r8 := some (.fz (rawD gs rs))) (w10 := some (.fz (wishD gs rs))) (d11 := some (.fz (.dct (holdD (chosen rs row gs))))) (t12 := y12) (n13 := n13) (g14 := none) (b := some (.fz (.int i))) (R := tupS row) (L := [.fz (frz u1), .fz (frz u2), .fz (frz u4), .fz o2']) (by simp) s5 s3 (by rw [f5, f3]; exact ad5)
  have h1 : ∀ E : En, E[14]? = some none → lcE (gSet 14) bYes (eTup (mOwn (eVar 14) (mOwn (eC (.int 1)) mNil))) [14] (row.map D.str) E = some ((row.map D.str).map fun d => T.tup [.fz d, .fz (.int 1)], E) := fun E hE => by
    have := lcE_pure (v := 14) (tb := bYes) (te := eTup (mOwn (eVar 14) (mOwn (eC (.int 1)) mNil))) (p := fun _ => true) (f := fun d => T.tup [.fz d, .fz (.int 1)]) (row.map D.str) E hE (fun d _ => rfl) (fun d hd _ => by
      have : (E.set 14 (some (.fz d)))[14]? = some (some (.fz d)) := by
        rw [List.getElem?_set_self (by have := (List.getElem?_eq_some_iff.mp hE).1; exact this)]
      simp [this])
    rw [List.filter_eq_self.mpr fun _ _ => rfl] at this
    exact this
  have h2 : pairsD (frzL ((row.map D.str).map fun d => T.tup [.fz d, .fz (.int 1)])) = some (mapD (fun _ => D.int 1) (row.map fun z => (z, ()))) := by
    have e : frzL ((row.map D.str).map fun d => T.tup [.fz d, .fz (.int 1)]) = (row.map fun z => (z, ())).map fun q => .tup [.str q.1, .int 1] := by
      rw [frzL_map, List.map_map, List.map_map, List.map_map]
      rfl
    rw [e]
    exact pairsD_map (fun _ : Unit => D.int 1) _
  have vt : ∀ {xs : List D}, (∀ d ∈ xs, ElOk d) → VOk (.tup xs) := fun h => .tup h
  have hvs : ∀ d ∈ [frz u1, frz u2, frz u4, o2', frz u5] ++ [.dct (frzK (mergeT [] (mapD (fun _ => D.int 1) (row.map fun z => (z, ())))))], VOk d := by
    intro d hd
    simp only [List.cons_append, List.nil_append, List.mem_cons, List.not_mem_nil, or_false] at hd
    rcases hd with rfl | rfl | rfl | rfl | rfl | rfl
    · rw [g1]; exact vt fun d hd => (List.mem_append.mp hd).elim (fun h => elR d (m1 d h)) fun h => elR d (m2 d h)
    · rw [g2]; exact vt fun d hd => (List.mem_append.mp hd).elim (fun h => elR d h) fun h => elR d (m3 d h)
    · rw [g4]
      refine vt fun d hd => (List.mem_append.mp hd).elim (fun h => (List.mem_append.mp h).elim (fun h => elR d (m1 d h)) fun h => ?_) fun h => elR d (m2 d h)
      simp at h; rw [h]; exact odd_el ho1
    · exact odd_v ho2
    · rw [g5]; exact vt fun d hd => (List.mem_append.mp hd).elim (fun h => elR d (m5 d h)) fun h => elR d (m3 d h)
    · exact .dct _
  obtain ⟨y7, y13, q8⟩ := v_loop (s := s) (p := some p6) (b := some (.fz (.int i))) (l := some (.fz (.int L))) (h4 := y4) (a5 := some (.fz (.int k))) (s6 := some (.fz (.lst [frz u1, frz u2, frz u4, o2', frz u5]))) (d11 := some (.fz (.dct (holdD (chosen rs row gs))))) (t12 := y12) (g14 := none) (r9 := some (.fz (tupS row))) ok _ v7 n13 hvs
  have q8' := o8_s (by omega) (by simp) h1 h2 q8
  exact ⟨p6, _, _, _, _, _, _, _, _, _, _, _, seq_of q1 (seq_of q2 (seq_of q3 (seq_of q4' (seq_of q5 (seq_of q6 (seq_of q7 q8')))))), hp6.mono (by omega)⟩
theorem bouts {s : Option T} {p : T} {n : Nat} (hp : Pn p n) (hn : n ≤ 10) :
    ∃ E' : En, forE (gSet 2) outer' (rngD 0 6) [s, some p, none, none, none, none, none, none, none, none, none, none, none, none, none] = some (.ok .nx E') := by
  obtain ⟨E', h1, h2⟩ := forE_inv (g := gSet 2) (tb := outer')
    (fun i E => ∃ (p' : T) (z2 z3 z4 z5 z6 z7 z8 z9 z10 z11 z12 z13 : Option T), E = [s, some p', z2, z3, z4, z5, z6, z7, z8, z9, z10, z11, z12, z13, none] ∧ Pn p' (n + i * 1500) ∧ i ≤ 6)
    (rngD 0 6) 0 _ ⟨p, none, none, none, none, none, none, none, none, none, none, none, none, rfl, by simpa using hp, by omega⟩ (fun i d E hi hI => by
      obtain ⟨p1, z2, z3, z4, z5, z6, z7, z8, z9, z10, z11, z12, z13, rfl, hp1, _⟩ := hI
      obtain ⟨rfl, hid⟩ := rng_at hi
      rw [Nat.zero_add] at hp1 ⊢
      obtain ⟨p2, w3, w4, w5, w6, w7, w8, w9, w10, w11, w12, w13, e, hp2⟩ := outer_spec (s := s) (i := (i : Int)) (l := z3) (h4 := z4) (a5 := z5) (s6 := z6) (v7 := z7) (r8 := z8) (r9 := z9) (w10 := z10) (d11 := z11) (t12 := z12) (n13 := z13) hp1 (by omega)
      exact ⟨_, rfl, _, .inl e, p2, _, _, _, _, _, _, _, _, _, _, _, _, rfl, hp2.mono (by omega), by omega⟩)
  exact ⟨E', h1⟩
theorem law_run {sc : D} {t p : T} {E' : En} (e1 : F__law_pen [.fz sc] = some (.ok t [none])) (hk : kfz t = p) (e2 : forE (gSet 2) outer' (rngD 0 6) [some (.fz sc), some p, none, none, none, none, none, none, none, none, none, none, none, none, none] = some (.ok .nx E')) : F_law [.fz sc] = some (.ok (.fz (.bl true)) (maskE kp_law 0 1 E')) := by
  have s1 : (sOwn 1 (eKf (eFn F__law_pen [none] (mVal (eVar 0) mNil))) : Ev Fl) [some (.fz sc), none, none, none, none, none, none, none, none, none, none, none, none, none, none] = some (.ok .nx [some (.fz sc), some p, none, none, none, none, none, none, none, none, none, none, none, none, none]) := by
    simp [e1, hk]
  have s3 : (sRet (eC (.bl true)) : Ev Fl) E' = some (.ok (.ret (.fz (.bl true))) E') := by simp
  have h := seq_of s1 (seq_of (for_s (ti := iRange1 (aCons (eC (.int 6)) aNil)) (by simp) e2) s3)
  unfold outer' o1 o2 o3 o4 o5 o6 o7 o8 hbody hb1 hb2 hb3 vbody vb1 vb2 at h
  exact runF_ret h
theorem law_spec (ns : List Int) : ∃ E, F_law [.fz (.scr ns)] = some (.ok (.fz (.bl true)) E) := by
  obtain ⟨t, e1, hk⟩ := pen_spec ns
  obtain ⟨E', e2⟩ := bouts (s := some (.fz (.scr ns))) (p := pen (ns.take 63) 0 0) (n := 0) ⟨_, 0, 0, rfl, by omega, by omega, by omega⟩ (by omega)
  exact ⟨_, law_run e1 hk e2⟩
end Gk04

namespace Gk04
open PySem PySem.Spec PyProof.Rows L2 VL
theorem endH {w : World} {K : PySem.W.Frag} {h : Heap} {mg : Str → Option Value} {f : Addr} (X : K.In h) (G : h.Ns mainGlobals mg) (hfa : mg ("law" : Str) = some (.ref f)) (c : He.SaysD faL fnL K) (cx : exH K = true) :
    ∃ (K : PySem.W.Frag) (cl : Str → Addr) (fd : FuncData) (F : List T → Option (Out T)), K.In h ∧ (∀ (s : Shared) (u : Value), BindsTo s fd ⟨[u], []⟩ [("_law_script", u)]) ∧
      (∀ ns : List Int, ns.length ≤ 63 → (∀ z ∈ ns, Builtin.Int.intBits z ≤ 1048576) → ∃ E, F [.fz (.scr ns)] = some (.ok (.fz (.bl true)) E)) ∧
      ∀ base : Heap, K.In base → base.Ns mainGlobals mg → (∃ o, base.get? sysModules = some o) → FnV (PySem.Challenge.rw_lastturn_k04_choosing_down_rows).prog w K mg base cl 7 f fd ["_law_script"] F := by
  obtain ⟨fd, F⟩ := c.def_ 27 (d := dd_law) rfl
  have e := hfa.symm.trans (He.glo_ok X G (c.fact 53 (f := .glo "law") rfl))
  cases e
  have b := FunD.bindsA (ps := ["_law_script"]) F fun _ _ _ _ _ _ us hl => match us, hl with | [_], _ => rfl
  refine ⟨K, He.ga K, fd, F_law, X, fun s v => b s [v] rfl, fun ns h1 h2 => law_spec ns, fun base hK hG hs => ?_⟩
  exact v_law (factsH X G c cx base hs) F
end Gk04
open PySem PySem.W PySem.Calls PyProof.Rows
theorem PySem.Challenge.cw_lastturn_k04_choosing_down_rows_holds : PySem.Challenge.rw_lastturn_k04_choosing_down_rows.Holds := by
  w_on; o_law
  refine HandSHeadRun.head_any (r := OpenLaw.row PySem.Challenge.rw_lastturn_k04_choosing_down_rows) (q := view (OpenLaw.row PySem.Challenge.rw_lastturn_k04_choosing_down_rows).prog [40]) (H := Gk04.hkH) (ob := Gk04.obH) (M := 6000) (loose := Gk04.looseL) (d := HandSHeadRun.topDef (OpenLaw.row PySem.Challenge.rw_lastturn_k04_choosing_down_rows).prog 40) (kwd := []) Gk04.ob_eq
    (by kernel_rfl) (fun s => by kernel_rfl) Gk04.runH (by kernel_rfl) (by kernel_rfl) (by kernel_rfl) (by rfl) (by first | assumption | decide +kernel) (by decide +kernel) ⟨rfl, rfl, rfl, rfl, rfl, by decide +kernel⟩ ?hw ?hc
  case hw => w_witness2
  case hc =>
    refine VL.walk_ofV (l := PySem.Challenge.rw_lastturn_k04_choosing_down_rows) (n := 63) (k := 7) (x := "_law_script") rfl (by decide) (by kernel_rfl) ⟨rfl, by decide, by decide⟩ (by kernel_rfl) ?F
    intro w mg fa h Y G hmg0
    obtain ⟨K, KX, c, cx⟩ := Y
    have hmg : mg ("law" : PySem.Str) = some (.ref fa) := by
      have e : (HandSHeadRun.topDef (OpenLaw.row PySem.Challenge.rw_lastturn_k04_choosing_down_rows).prog 40).name = ("law" : PySem.Str) := by kernel_rfl
      rw [← e]
      exact hmg0
    exact Gk04.endH KX G hmg c cx
