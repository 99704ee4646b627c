import PyProof.Rows.All
import Wide.All
import OpenK.AllK
import Wide.FinOn
import HandS.ForMost
import HandS.ForExc
import KE.GoesEnumKw
import KE.GoesMore
import HandS.Zip0
import HandS.Lambda
import HandS.CallSlots
import HandS.Defaults
import HandS.Property
import HandS.IsInst
import HandS.HeadHook1
import HandS.Style
import KE.KStateDown
import HandS.Head0
import HandS.Head1
import HandS.Head2
import HandS.HeadEnd
import HandS.HeadHook2
import HandS.HeadNt
import HandS.OwnEq
import HandS.FStr
import HandS.RaiseMore
import HandS.ClsMeth
import OpenK.KOps
import PyProof.ReprRoads
import HandS.TupAny
import HandS.Deep
import HandS.TupLe
import HandS.Dict
import HandS.Small
import HandS.Iter
import HandS.Walk
import HandS.DictComp
import HandS.Comp
import HandS.SetKeys
import PyProof.DictUpdate
import KE.KDictCopyH
import KE.GoesEnum
import PyProof.EnumMake
import KE.KSortKeyAny
import HandS.More
import HandS.SortInts
import HandS.SortKw
import HandS.Conv
import HandS.Star
import KE.KUnpackStar
import HandS.TupSets
import HandS.SortOrd
import HandS.SetBool
import HandS.ExcInit
import HandS.ExcField
import HandS.ExcIs
import KE.KExcIs
import KE.KDictPairs
import HandS.TupMul
import KE.KDictZip
import PyProof.NeKinds
import PyProof.EqAt
import HandS.SetFor
import HandS.Strs
import KE.DataMinMax
import KE.KExcInit
import HandS.Exc
import PyProof.DictMoreH
import PyProof.ExcBaseAll.LookupError
import HandS.EndTab
import HandS.HeadHook4
import HandS.NoneIn
import PyProof.StrOps2
import HandS.GenList
import HandS.Flow
import KE.KCallOwn
import HandS.Text
import KE.KSuper
import HandS.Nested
import PyProof.ExcBaseAll.OverflowError
import HandS.ExcValue
import PyProof.ExcBaseAll.RuntimeError
import PySem.Challenge.RW_keptbythree_k08_errors_and_their_fields
set_option Elab.async false
set_option linter.all false
set_option maxRecDepth 100000
set_option maxHeartbeats 4000000
open Option renaming some → ξ, none → ζ
section
namespace SB
open PySem PySem.Spec L2
open PyProof.Rows hiding St
def AJ (K : PySem.W.Frag) (D : Addr) : Bool := decide (PySem.W.findIn K (.ref D) "__getattribute__" = ξ (ξ (.builtin "BaseException.__getattribute__"))) && (decide (PySem.W.findIn K (.ref D) "__getattr__" = ξ ζ) && (decide (PySem.W.subIn K (.ref D) (.type "BaseException") = ξ true) && (PySem.W.hasDictIn K D &&
 (decide (PySem.W.findIn K (.ref D) "__class__" = ξ (ξ (.builtin "object.__class__"))) && (decide (PySem.W.specialIn K (.builtin "object.__class__") "__get__" = ξ (ξ (.builtin "getset_descriptor.__get__"))) && (decide (PySem.W.takesIn K (.builtin "object.__class__") = ξ true) && decide (PySem.W.mroIn K D (.type "object") = ξ true)))))))
def kr (K : PySem.W.Frag) (C fI : Addr) (fs : List Str) : Bool := decide (PySem.W.findIn K (.ref C) "__init__" = ξ (ξ (.ref fI))) && (decide (PySem.W.typeIn K (.ref fI) = ξ (.type "function")) && fs.all fun f => decide (PySem.W.findIn K (.ref C) f = ξ ζ))
section
end
section
end
def ka (K : PySem.W.Frag) (C : Addr) (tl : List Value) (newId : String) : Bool := PySem.W.excOver K C tl && PySem.W.excInitIn K C tl newId
def FR : List Value := [.type "IndexError", .type "LookupError", .type "Exception", .type "BaseException", .type "object"]
def zC (K : PySem.W.Frag) (C : Addr) : Bool := ka K C FR "IndexError.__new__" && (PySem.W.hasDictIn K C && (decide (PySem.W.findIn K (.ref C) "__setattr__" = ξ (ξ (.builtin "object.__setattr__"))) && (decide (PySem.W.subIn K (.ref C) (.type "BaseException") = ξ true) && (decide (PySem.W.typeIn K (.ref C) = ξ (.type "type")) && PySem.W.keepIn K (.ref C)))))
section
end
section
end
def xP : List Value := [.type "LookupError", .type "Exception", .type "BaseException", .type "object"]
def wm (K : PySem.W.Frag) (C : Addr) : Bool := ka K C xP "LookupError.__new__" && (PySem.W.hasDictIn K C && (decide (PySem.W.findIn K (.ref C) "__setattr__" = ξ (ξ (.builtin "object.__setattr__"))) && (decide (PySem.W.subIn K (.ref C) (.type "BaseException") = ξ true) && (decide (PySem.W.typeIn K (.ref C) = ξ (.type "type")) && PySem.W.keepIn K (.ref C)))))
def FA : List Value := [.type "KeyError", .type "LookupError", .type "Exception", .type "BaseException", .type "object"]
def Fd : List Value := [.type "OverflowError", .type "ArithmeticError", .type "Exception", .type "BaseException", .type "object"]
def qd (K : PySem.W.Frag) (C : Addr) : Bool := PySem.W.hasDictIn K C && (decide (PySem.W.findIn K (.ref C) "__setattr__" = ξ (ξ (.builtin "object.__setattr__"))) && (PySem.W.keepIn K (.ref C) && (decide (PySem.W.subIn K (.ref C) (.type "BaseException") = ξ true) && decide (PySem.W.typeIn K (.ref C) = ξ (.type "type")))))
def tP (K : PySem.W.Frag) (C : Addr) : Bool := qd K C && ka K C FA "LookupError.__new__"
def zA (K : PySem.W.Frag) (C : Addr) : Bool := qd K C && ka K C Fd "OverflowError.__new__"
def yA : List Value := [.type "ValueError", .type "Exception", .type "BaseException", .type "object"]
def Jr : List Value := [.type "RuntimeError", .type "Exception", .type "BaseException", .type "object"]
def mL (K : PySem.W.Frag) (C : Addr) : Bool := qd K C && ka K C yA "ValueError.__new__"
def qM (K : PySem.W.Frag) (C : Addr) (tl : List Value) (n : String) : Bool := PySem.W.excIn K C tl n && PySem.W.keepIn K (.ref C)
def jW (K : PySem.W.Frag) (C : Addr) : Bool := qM K C yA "ValueError.__new__"
def nK (K : PySem.W.Frag) (C : Addr) : Bool := qM K C xP "LookupError.__new__"
def sf (K : PySem.W.Frag) (C : Addr) : Bool := qM K C Jr "RuntimeError.__new__"
def DW (K : PySem.W.Frag) (l : List Addr) : Bool := l.all (AJ K)
def xNames : List Str := ["BadCommand", "BadConstraint", "BadEntries", "BadKind", "BadName", "BadOrder", "BadPlace", "BadRow", "BadSize", "Busy", "DuplicateName", "EmptySet", "Full", "KindsDiffer", "Known", "NotClosed", "NothingLeft", "UnknownName", "UnknownNumber", "WrongState"]
def xTys : List String := ["ValueError", "LookupError", "KeyError", "IndexError", "OverflowError", "RuntimeError"]
def xUp (n : Str) : List String :=
 if (["UnknownName", "DuplicateName", "UnknownNumber"] : List Str).contains n = true then ["LookupError", "KeyError"]
 else if (["EmptySet", "Known", "WrongState", "NothingLeft"] : List Str).contains n = true then ["LookupError"]
 else if (n == ("BadPlace" : Str)) = true then ["LookupError", "IndexError"]
 else if (n == ("Full" : Str)) = true then ["OverflowError"]
 else if (n == ("Busy" : Str)) = true then ["RuntimeError"]
 else ["KeptError", "ValueError"]
def exL (K : PySem.W.Frag) : List Addr := xNames.map (He.ga K)
def xisB (K : PySem.W.Frag) : Bool := xNames.all fun n => (xNames.all fun m => PySem.W.kitOne K (.ref (He.ga K n)) (.ref (He.ga K m)) == ξ (n == m)) && (PySem.W.kitOne K (.ref (He.ga K n)) (.ref (He.ga K "KeptError")) == ξ ((xUp n).contains "KeptError") && xTys.all fun t => PySem.W.kitOne K (.ref (He.ga K n)) (.type t) == ξ ((xUp n).contains t))
end SB
end
section
namespace SB
open PySem L2
open He (ga ma)
abbrev dA (a : PySem.W.Frag → Addr) (n q : Str) (s : Stmt) (v : List He.Dv) (w : List (Str × He.Dv)) : He5.DefA := ⟨a, n, q, defArgs s, defBody s, defScope s, v, w⟩
section
variable (K: PySem.W.Frag)(f: Str)
abbrev oF : Bool := (He.Fa.free f).ok K
abbrev oG : Bool := (He.Fa.glo f).ok K
end
end SB
end
section
noncomputable section
namespace SB
open PySem PySem.W PySem.Calls PyProof.Rows HandSHeadRun
def ya (r : OpenRow) (M : Nat) (w : World) (os : OsState) : Option SharedT := endF (stepQ (denQ tabQ) r.prog w) M r.prog w os
def lg (as : List Addr) (s : SharedT) : PySem.W.Frag := He.frG (getT s) as
def Ea (r : OpenRow) (q : Program) (M : Nat) (loose : List PySem.Str) (w : World) : Prop := ∀ os, (ya r M w os).map (fun s => (looksF r.prog (boot_heap w.params) s.abs, seenQ q loose (importedModules r.prog.main.body) (fun s => xlAt q [] s && recOk r.toRowW.records s) s.abs)) = ξ (true, openGood q loose)
def Eb (r : OpenRow) (M : Nat) (as : List Addr) (ex : PySem.W.Frag → Bool) (w : World) : Prop := ∀ os, (ya r M w os).map (fun s => ex (lg as s)) = ξ true
def Ec (r : OpenRow) (M : Nat) (as : List Addr) (fn : List He5.DefA) (w : World) : Prop := ∀ os, (ya r M w os).map (fun s => (fn.all fun d => d.ok (lg as s), fn.map fun d => He5.fnA (lg as s) (d.at_ (lg as s)))) = ξ (true, fn.map He5.DefA.val)
end SB
end
section
namespace K08
open PySem L2 SB
open He (ga ma)
def pj (i : Nat) : Stmt := PySem.Challenge.pw_keptbythree_k08_errors_and_their_fields.main.body.getD i (.Pass ⟨0, 0, 0, 0⟩)
def HY (K : PySem.W.Frag) : Bool :=
 oF K "IndexError" && (oF K "KeyError" && (oF K "LookupError" && (oF K "OverflowError" && (oF K "RuntimeError" && (oF K "ValueError" && (oF K "abs" && (oF K "enumerate" && (oF K "int" && (oF K "isinstance" && (oF K "len" && (oF K "max" && (oF K "min" && (oF K "range" && (oG K "BadCommand" && (oG K "BadConstraint" && (oG K "BadEntries" && (oG K "BadKind" && (oG K "BadName" && (oG K "BadOrder" && (oG K "BadPlace" && (oG K "BadRow" && (oG K "BadSize" && (oG K "Busy" && (oG K "DuplicateName" && (oG K "EmptySet" && (oG K "Full" && (oG K "KeptError" && (oG K "KindsDiffer" && (oG K "Known" && (oG K "NotClosed" && (oG K "NothingLeft" && (oG K "UnknownName" && (oG K "UnknownNumber" && (oG K "WrongState" && (oG K "_law_apart" && (oG K "_law_bases" && (oG K "_law_bases_right" && (oG K "_law_classes" && (oG K "_law_draw" && (oG K "_law_fields_right" && (oG K "_law_odd" && (oG K "_law_source" && (jW K (ga K "BadCommand") && (jW K (ga K "BadConstraint") && (jW K (ga K "BadEntries") && (jW K (ga K "BadOrder") && (sf K (ga K "Busy") && (nK K (ga K "EmptySet") && (nK K (ga K "NothingLeft") && (mL K (ga K "BadKind") && (kr K (ga K "BadKind") (ma K (ga K "BadKind") "__init__") ["x", "y"] && (mL K (ga K "BadName") && (kr K (ga K "BadName") (ma K (ga K "BadName") "__init__") ["name"] && (zC K (ga K "BadPlace") && (kr K (ga K "BadPlace") (ma K (ga K "BadPlace") "__init__") ["place"] && (mL K (ga K "BadRow") && (kr K (ga K "BadRow") (ma K (ga K "BadRow") "__init__") ["row"] && (mL K (ga K "BadSize") && (kr K (ga K "BadSize") (ma K (ga K "BadSize") "__init__") ["given"] && (tP K (ga K "DuplicateName") && (kr K (ga K "DuplicateName") (ma K (ga K "DuplicateName") "__init__") ["name"] && (zA K (ga K "Full") && (kr K (ga K "Full") (ma K (ga K "Full") "__init__") ["most"] && (mL K (ga K "KindsDiffer") && (kr K (ga K "KindsDiffer") (ma K (ga K "KindsDiffer") "__init__") ["place", "other"] && (wm K (ga K "Known") && (kr K (ga K "Known") (ma K (ga K "Known") "__init__") ["row"] && (mL K (ga K "NotClosed") && (kr K (ga K "NotClosed") (ma K (ga K "NotClosed") "__init__") ["x", "y", "z"] && (tP K (ga K "UnknownName") && (kr K (ga K "UnknownName") (ma K (ga K "UnknownName") "__init__") ["name"] && (tP K (ga K "UnknownNumber") && (kr K (ga K "UnknownNumber") (ma K (ga K "UnknownNumber") "__init__") ["number"] && (wm K (ga K "WrongState") && (kr K (ga K "WrongState") (ma K (ga K "WrongState") "__init__") ["name"] && (DW K (exL K) && (xisB K)))))))))))))))))))))))))))))))))))))))))))))))))))))))))))))))))))))))))))))
def gZ : He5.DefA := dA (fun K => ga K "_law_classes") "_law_classes" "_law_classes" (pj 29) [] []
def i9 : He5.DefA := dA (fun K => ga K "_law_apart") "_law_apart" "_law_apart" (pj 30) [] []
def iA : He5.DefA := dA (fun K => ga K "_law_source") "_law_source" "_law_source" (pj 23) [] []
def jH : He5.DefA := dA (fun K => ga K "_law_draw") "_law_draw" "_law_draw" (pj 24) [] []
def kA : He5.DefA := dA (fun K => ga K "_law_odd") "_law_odd" "_law_odd" (pj 25) [] []
def eD : He5.DefA := dA (fun K => ga K "_law_fields_right") "_law_fields_right" "_law_fields_right" (pj 27) [] []
def i7 : He5.DefA := dA (fun K => ga K "_law_bases") "_law_bases" "_law_bases" (pj 26) [] []
def eU : He5.DefA := dA (fun K => ga K "_law_bases_right") "_law_bases_right" "_law_bases_right" (pj 28) [] []
def D1 : He5.DefA := dA (fun K => ga K "law") "law" "law" (pj 31) [] []
def fB : He5.DefA := dA (fun K => ma K (ga K "BadKind") "__init__") "__init__" "BadKind.__init__" (inClass (pj 2) 0) [] []
def fA : He5.DefA := dA (fun K => ma K (ga K "BadName") "__init__") "__init__" "BadName.__init__" (inClass (pj 9) 0) [] []
def eM : He5.DefA := dA (fun K => ma K (ga K "BadPlace") "__init__") "__init__" "BadPlace.__init__" (inClass (pj 12) 0) [] []
def gh : He5.DefA := dA (fun K => ma K (ga K "BadRow") "__init__") "__init__" "BadRow.__init__" (inClass (pj 5) 0) [] []
def fw : He5.DefA := dA (fun K => ma K (ga K "BadSize") "__init__") "__init__" "BadSize.__init__" (inClass (pj 3) 0) [] []
def cV : He5.DefA := dA (fun K => ma K (ga K "DuplicateName") "__init__") "__init__" "DuplicateName.__init__" (inClass (pj 14) 0) [] []
def h9 : He5.DefA := dA (fun K => ma K (ga K "Full") "__init__") "__init__" "Full.__init__" (inClass (pj 20) 0) [] []
def dF : He5.DefA := dA (fun K => ma K (ga K "KindsDiffer") "__init__") "__init__" "KindsDiffer.__init__" (inClass (pj 7) 0) [] []
def gK : He5.DefA := dA (fun K => ma K (ga K "Known") "__init__") "__init__" "Known.__init__" (inClass (pj 17) 0) [] []
def eg : He5.DefA := dA (fun K => ma K (ga K "NotClosed") "__init__") "__init__" "NotClosed.__init__" (inClass (pj 6) 0) [] []
def dE : He5.DefA := dA (fun K => ma K (ga K "UnknownName") "__init__") "__init__" "UnknownName.__init__" (inClass (pj 13) 0) [] []
def cU : He5.DefA := dA (fun K => ma K (ga K "UnknownNumber") "__init__") "__init__" "UnknownNumber.__init__" (inClass (pj 15) 0) [] []
def dQ : He5.DefA := dA (fun K => ma K (ga K "WrongState") "__init__") "__init__" "WrongState.__init__" (inClass (pj 18) 0) [] []
def Lv : List He5.DefA := [gZ, i9, iA, jH, kA, eD, i7, eU, D1, fB, fA, eM, gh, fw, cV, h9, dF, gK, eg, dE, cU, dQ]
end K08
end
section
namespace K08
open PySem L2 SB
abbrev R : PySem.W.OpenRow := PySem.W.OpenLaw.row PySem.Challenge.rw_keptbythree_k08_errors_and_their_fields
def as : List PySem.Addr := [3,6,4,24,44,63,75,94,113,132,144,163,175,187,206,226,246,266,279,299,319,332,352,365,375,382,389,396,403,410,417,422,427,0,23,43,62,74,93,112,131,143,162,174,186,205,225,245,265,278,298,318,331,351,364,374,381,388,395,402,409,416,421,426,22,25,41,42,60,61,73,91,92,110,111,129,130,142,160,161,173,185,203,204,207,223,224,227,243,244,247,263,264,267,277,280,296,297,300,316,317,320,330,333,349,350,353,363,366,369,370,371,372,373,376,377,378,379,380,383,384,385,386,387,390,391,392,393,394,397,398,399,400,401,404,405,406,407,408,411,412,413,414,415,418,419,420,423,424,425,40,59,90,109,128,159,202,222,242,262,295,315,348,35,36,37,38,39,54,55,56,57,58,85,86,87,88,89,104,105,106,107,108,123,124,125,126,127,154,155,156,157,158,197,198,199,200,201,217,218,219,220,221,237,238,239,240,241,257,258,259,260,261,290,291,292,293,294,310,311,312,313,314,343,344,345,346,347,2]
def Ft : List PySem.Str := ["KeptError", "BadKind", "BadSize", "BadEntries", "BadRow", "NotClosed", "KindsDiffer", "BadOrder", "BadName", "BadConstraint", "BadCommand", "BadPlace", "UnknownName", "DuplicateName", "UnknownNumber", "EmptySet", "Known", "WrongState", "NothingLeft", "Full", "Busy", "_law_source", "_law_draw", "_law_odd", "_law_bases", "_law_fields_right", "_law_bases_right", "_law_classes", "_law_apart"]
def loose : List PySem.Str := Ft
theorem ko (w : World) : Ea R (PySem.W.view R.prog [31]) 6000 loose w := by
 intro os
 kernel_rfl
theorem fact (w : World) : Eb R 6000 as (fun K => HY K && (He.Fa.glo "law").ok K) w := by
 intro os
 kernel_rfl
theorem dfns (w : World) : Ec R 6000 as Lv w := by
 intro os
 kernel_rfl
end K08
end
section
namespace SZ
open PySem
structure Sr where
 it : Addr
 a : Addr
 l : Bool
def SrAt (h : Heap) (x : Sr) (i : Nat) : Prop := if x.l = true then h.IsListIter x.it x.a i else h.IsTupleIter x.it x.a i
def SrOk (h : Heap) (x : Sr) (items : Array Value) : Prop := if x.l = true then h.IsList x.a items else h.IsTuple x.a items
theorem SrAt.obj {h : Heap} {x : Sr} {i : Nat} (q : SrAt h x i) : ∃ o, h.get? x.it = ξ o ∧ ∀ v, o.data ≠ .cell v := by
 unfold SrAt at q
 split at q
 ·obtain ⟨o, e, _, d⟩ := q
  exact ⟨o, e, fun v z => by rw [d] at z; cases z⟩
 ·obtain ⟨o, e, _, d⟩ := q
  exact ⟨o, e, fun v z => by rw [d] at z; cases z⟩
theorem SrAt.keep {h h' : Heap} {x : Sr} {i : Nat} (q : SrAt h x i) (k : ∀ o, h.get? x.it = ξ o → h'.get? x.it = ξ o) : SrAt h' x i := by
 unfold SrAt at q ⊢
 split at q
 ·rename_i hl
  rw [if_pos hl]
  obtain ⟨o, e, r⟩ := q
  exact ⟨o, k o e, r⟩
 ·rename_i hl
  rw [if_neg hl]
  obtain ⟨o, e, r⟩ := q
  exact ⟨o, k o e, r⟩
theorem SrOk.keep {h h' : Heap} {x : Sr} {items : Array Value} (q : SrOk h x items) (k : ∀ o, h.get? x.a = ξ o → h'.get? x.a = ξ o) : SrOk h' x items := by
 unfold SrOk at q ⊢
 split at q
 ·rename_i hl
  rw [if_pos hl]
  obtain ⟨o, e, r⟩ := q
  exact ⟨o, k o e, r⟩
 ·rename_i hl
  rw [if_neg hl]
  obtain ⟨o, e, r⟩ := q
  exact ⟨o, k o e, r⟩
section
variable {prog: Program}{w: World}{A: Around}{E: Value → Shared → Prop}{s: Shared}
theorem tV {x : Sr} {i : Nat} {items : Array Value} {Q : Option Value → Shared → Prop} (hh : A.handled = ζ) (hi : SrAt s.heap x i) (ho : SrOk s.heap x items) (hv : items[i]? = ζ)
  (hQ : ∀ h', Heap.ExtBut x.it s.heap h' → Q ζ { s with heap := h' }) : wpAny (model prog w) A (Builtin.SmallTypes.nextOrEnd (.ref x.it)) Q E s := by
 unfold Builtin.SmallTypes.nextOrEnd
 refine wpAny_bind (wpAny_attempt ?_)
 unfold SrAt at hi
 unfold SrOk at ho
 have fin : ∀ h' e, Heap.ExtBut x.it s.heap h' → (∃ o, h'.get? e = ξ o ∧ o.cls = .type "StopIteration") → wpAny (model prog w) A (do if ← isInstance (.ref e) (.type "StopIteration") then pure ζ else throw (.ref e)) Q E { s with heap := h' } := fun h' e k ⟨o, eo, co⟩ =>
  wpAny_bind (wpAny_isInstance (T := "StopIteration") (b := true) ⟨o, eo, co⟩ isSubtype_stop (wpAny_pure (hQ h' k)))
 by_cases hl : x.l = true
 ·rw [if_pos hl] at hi ho
  exact wpAny_nextOf_list_end hh hi ho hv fin
 ·rw [if_neg hl] at hi ho
  exact wpAny_nextOf_tuple_end hh hi ho hv fin
end
abbrev IsT (h : Heap) (T : Addr) (vs : List Value) : Prop := h.get? T = ξ { cls := .type "tuple", data := .seq vs.toArray }
def wr (z TO : Addr) (ss : List Sr) : List Addr := z :: TO :: ss.map (·.it)
structure Sep (z TI TO : Addr) (ss : List Sr) : Prop where
 nd : (wr z TO ss).Nodup
 ti : TI ∉ wr z TO ss
 src : ∀ x ∈ ss, x.a ∉ wr z TO ss
section
variable {z TI TO: Addr}{ss: List Sr}
theorem Sep.iz (D : Sep z TI TO ss) {x : Sr} (h : x ∈ ss) : x.it ≠ z := fun e => by
 have q := D.nd
 unfold wr at q
 rw [List.nodup_cons] at q
 exact q.1 (by rw [← e]; exact List.mem_cons_of_mem _ (List.mem_map_of_mem h))
theorem Sep.ii (D : Sep z TI TO ss) {j k : Nat} {x y : Sr} (h1 : ss[j]? = ξ x) (h2 : ss[k]? = ξ y) (hjk : j ≠ k) : x.it ≠ y.it := fun e => by
 have q := D.nd
 unfold wr at q
 rw [List.nodup_cons, List.nodup_cons] at q
 have h3 : (ss.map (·.it))[j]? = ξ x.it := by rw [List.getElem?_map, h1]; rfl
 have h4 : (ss.map (·.it))[k]? = ξ x.it := by rw [List.getElem?_map, h2, e]; rfl
 obtain ⟨l3, e3⟩ := List.getElem?_eq_some_iff.mp h3
 obtain ⟨l4, e4⟩ := List.getElem?_eq_some_iff.mp h4
 exact hjk ((List.getElem_inj q.2.2).mp (e3.trans e4.symm))
end
section
end
end SZ
end
section
namespace SB
open PySem L2
inductive Im where
 | tpl (nd : Bool) | exc (C : Addr) (fs : List Str)
 deriving DecidableEq
inductive W where
 | non | bl (b : Bool) | int (i : Int) | str (x : Str) | tup (ws : List W) | ref (n : Nat) | ob (a : Addr) | ty (n : String) | scr (ns : List Int) | im (k : Im) (ws : List W)
inductive O where
 | lst (ws : List W) | dct (kvs : List (Key × W)) | dtp (kvs : List (List Key × W)) | ins (C : Addr) (fs : List (Str × W)) | xd (fs : List (Str × W))
 | lcd (kvs : List (Key × W)) | lct (kvs : List (List Key × W))
abbrev M := List O
abbrev Env := List (Option W)
def SqF (K : PySem.W.Frag) (H : Hp) (a : Addr) (xs : List V) : Prop := (∃ o, H a = ξ (.frz o (.lst xs))) ∨
 ∃ (o : Obj) (its : Array Value) (n : Nat), K.lookup a = ξ o ∧ o.cls = .type "list" ∧ o.dict = ζ ∧ o.data = .seq its n ∧ its.size ≤ sizeLine ∧ Vals xs its.toList
theorem SqF.sql {K : PySem.W.Frag} {H : Hp} {a : Addr} {xs : List V} (h : SqF K H a xs) : SqL K H a xs := by
 rcases h with ⟨o, h⟩ | h
 ·exact .inl (.inr ⟨o, h⟩)
 ·exact .inr h
def ImR (H : Hp) : Im → Addr → List V → Prop
 | .tpl nd, a, vs => (∃ o, H a = ξ (.frz o (.tup vs)) ∧ (nd = true → o.dict = ζ)) ∨ (nd = false ∧ H a = ξ (.tup vs))
 | .exc C fs, a, vs => ∃ oe u, H a = ξ (.frz oe u) ∧ (∃ ys, oe.data = .fields ys) ∧ oe.cls = .ref C ∧ fs.length = vs.length ∧ ((oe.dict = ζ ∧ fs = []) ∨ ∃ dd od, oe.dict = ξ dd ∧ H dd = ξ (.frz od (.xd (fs.zip vs))))
theorem ImR.le {H H' : Hp} (lt : ∀ a vs, H a = ξ (.tup vs) → H' a = ξ (.tup vs)) (l : ∀ a ob u, H a = ξ (.frz ob u) → H' a = ξ (.frz ob u)) : ∀ {k : Im} {a : Addr} {vs : List V}, ImR H k a vs → ImR H' k a vs
 | .tpl _, _, _, .inl ⟨o, h, d⟩ => .inl ⟨o, l _ _ _ h, d⟩
 | .tpl _, _, _, .inr ⟨e, h⟩ => .inr ⟨e, lt _ _ h⟩
 | .exc _ _, _, _, ⟨oe, u, h, d, c, n, q⟩ => ⟨oe, u, l _ _ _ h, d, c, n, q.elim .inl fun ⟨dd, od, e, h2⟩ => .inr ⟨dd, od, e, l _ _ _ h2⟩⟩
theorem ImR.rd {H : Hp} {nd : Bool} {a : Addr} {vs : List V} : ImR H (.tpl nd) a vs → Rd H a (.tup vs)
 | .inl ⟨o, h, _⟩ => .inr ⟨o, h⟩
 | .inr ⟨_, h⟩ => .inl h
theorem ImR.no {H : Hp} {a : Addr} {vs : List V} : ImR H (.tpl true) a vs → ∃ o, H a = ξ (.frz o (.tup vs)) ∧ o.dict = ζ
 | .inl ⟨o, h, d⟩ => ⟨o, h, d rfl⟩
 | .inr ⟨e, _⟩ => nomatch e
mutual
def RW (K : PySem.W.Frag) (r : List Addr) (H : Hp) : W → V → Prop
 | .non, v => v = .non
 | .bl b, v => v = .bl b
 | .int i, v => v = .int i
 | .str x, v => v = .str x
 | .tup ws, v => ∃ a vs, v = .ref a ∧ H a = ξ (.tup vs) ∧ RWs K r H ws vs
 | .ref n, v => ∃ a, r[n]? = ξ a ∧ v = .ref a
 | .ob a, v => v = .ref a
 | .ty n, v => v = .ty n
 | .scr ns, v => ∃ a, v = .ref a ∧ SqF K H a (ns.map V.int)
 | .im k ws, v => ∃ a vs, v = .ref a ∧ ImR H k a vs ∧ RWs K r H ws vs
def RWs (K : PySem.W.Frag) (r : List Addr) (H : Hp) : List W → List V → Prop
 | [], vs => vs = []
 | w :: ws, vs => ∃ v rest, vs = v :: rest ∧ RW K r H w v ∧ RWs K r H ws rest
end
def RKV {κ : Type} (K : PySem.W.Frag) (r : List Addr) (H : Hp) : List (κ × W) → List (κ × V) → Prop
 | [], vs => vs = []
 | p :: ps, vs => ∃ v rest, vs = (p.1, v) :: rest ∧ RW K r H p.2 v ∧ RKV K r H ps rest
def RO (K : PySem.W.Frag) (r : List Addr) (H : Hp) : O → HO → Prop
 | .lst ws, u => ∃ vs, u = .lst vs ∧ RWs K r H ws vs
 | .dct kvs, u => ∃ vs, u = .dK vs ∧ RKV K r H kvs vs
 | .dtp kvs, u => ∃ vs, u = .dT vs ∧ RKV K r H kvs vs
 | .ins C fs, u => ∃ dx vs, u = .ins C dx vs ∧ RKV K r H fs vs
 | .xd fs, u => ∃ vs, u = .xd vs ∧ RKV K r H fs vs
 | .lcd kvs, u => ∃ o vs, u = .frz o (.dK vs) ∧ RKV K r H kvs vs
 | .lct kvs, u => ∃ o vs, u = .frz o (.dT vs) ∧ RKV K r H kvs vs
class Tabs where
 T : List (Addr × Str)
 g : Bool := true
class Past where
 P : List (List Addr × Hp)
structure Later [Tabs] (K : PySem.W.Frag) (H H' : Hp) : Prop where
 tup : ∀ (a : Addr) (vs : List V), H a = ξ (.tup vs) → H' a = ξ (.tup vs)
 frz : ∀ a vs, SqF K H a vs → SqF K H' a vs
 lk : ∀ a ob u, H a = ξ (.frz ob u) → H' a = ξ (.frz ob u)
 tb : ∀ p ∈ Tabs.T, LamX.TabS H p.1 p.2 → LamX.TabS H' p.1 p.2
 tbs : ∀ a ps, H a = ξ (.tbl ps) → ∃ qs, H' a = ξ (.tbl qs)
 co : ∀ c q, H c = ξ (LamX.CodeO c q) → H' c = ξ (LamX.CodeO c q)
structure Lp [Tabs] (K : PySem.W.Frag) (r : List Addr) (H : Hp) (r' : List Addr) (H' : Hp) : Prop where
 pre : r <+: r'
 lat : Later K H H'
structure Sim [Tabs] [Past] (K : PySem.W.Frag) (r : List Addr) (m : M) (H : Hp) : Prop where
 len : r.length = m.length
 nd : r.Nodup
 at_ : ∀ (n : Nat) (o : O), m[n]? = ξ o → ∃ a u, r[n]? = ξ a ∧ H a = ξ u ∧ RO K r H o u
 tb : ∀ p ∈ Tabs.T, LamX.TabS H p.1 p.2
 past : ∀ p ∈ Past.P, Lp K p.1 p.2 r H
structure Later0 (K : PySem.W.Frag) (H H' : Hp) : Prop where
 tup : ∀ (a : Addr) (vs : List V), H a = ξ (.tup vs) → H' a = ξ (.tup vs)
 frz : ∀ a vs, SqF K H a vs → SqF K H' a vs
 lk : ∀ a ob u, H a = ξ (.frz ob u) → H' a = ξ (.frz ob u)
theorem Later.l0 [Tabs] {K : PySem.W.Frag} {H H' : Hp} (l : Later K H H') : Later0 K H H' := ⟨l.tup, l.frz, l.lk⟩
structure Le (K : PySem.W.Frag) (r : List Addr) (H : Hp) (r' : List Addr) (H' : Hp) : Prop where
 pre : r <+: r'
 lat : Later0 K H H'
structure Lt [Tabs] (K : PySem.W.Frag) (r : List Addr) (H : Hp) (r' : List Addr) (H' : Hp) : Prop where
 pre : r <+: r'
 lat : Later K H H'
 kept : ∀ a u, H a = ξ u → a ∉ r → (∀ ps, u ≠ .tbl ps) → H' a = ξ u
 fresh : ∀ a, a ∈ r' → a ∉ r → H a = ζ
def EnvR (K : PySem.W.Frag) (r : List Addr) (H : Hp) (env : Env) (σ : St) : Prop :=
 env.length = σ.length ∧ ∀ (i : Nat) (w : W), env[i]? = ξ (ξ w) → ∃ v, σ[i]? = ξ (ξ v) ∧ RW K r H w v
variable [Tabs][Past]
section
variable {K: PySem.W.Frag}{r r' r'': List Addr}{H H' H'': Hp}{m: M}
theorem Later.refl : Later K H H := ⟨fun _ _ h => h, fun _ _ h => h, fun _ _ _ h => h, fun _ _ h => h, fun _ ps h => ⟨ps, h⟩, fun _ _ h => h⟩
theorem Later.trans (a : Later K H H') (b : Later K H' H'') : Later K H H'' := ⟨fun x v h => b.tup x v (a.tup x v h), fun x v h => b.frz x v (a.frz x v h), fun x o u h => b.lk x o u (a.lk x o u h), fun x n h => b.tb x n (a.tb x n h), fun x ps h => by
 obtain ⟨qs, q⟩ := a.tbs x ps h
 exact b.tbs x qs q, fun c q h => b.co c q (a.co c q h)⟩
theorem Lt.refl : Lt K r H r H := ⟨List.prefix_rfl, .refl, fun _ _ h _ _ => h, fun _ h q => absurd h q⟩
theorem Lt.trans (a : Lt K r H r' H') (b : Lt K r' H' r'' H'') : Lt K r H r'' H'' := by
  refine ⟨a.pre.trans b.pre, a.lat.trans b.lat, fun x u h n nt => b.kept x u (a.kept x u h n nt) (fun z => ?_) nt, fun x h n => ?_⟩
  · rw [a.fresh x z n] at h
    cases h
  · by_cases z : x ∈ r'
    · exact a.fresh x z n
    · have q := b.fresh x h z
      cases e : H x with
      | none => rfl
      | some u =>
        by_cases hu : ∃ ps, u = .tbl ps
        · obtain ⟨ps, rfl⟩ := hu
          obtain ⟨qs, q'⟩ := a.lat.tbs x ps e
          rw [q'] at q
          cases q
        · rw [a.kept x u e n fun ps z => hu ⟨ps, z⟩] at q
          cases q
theorem nC {α : Type} {l l' : List α} (h : l <+: l') {n : Nat} {a : α} (e : l[n]? = ξ a) : l'[n]? = ξ a := by
 obtain ⟨t, rfl⟩ := h
 rw [List.getElem?_append_left (List.getElem?_eq_some_iff.mp e).1]
 exact e
mutual
theorem RW.le (l : Le K r H r' H') : ∀ {w : W} {v : V}, RW K r H w v → RW K r' H' w v
 | .non, _, h => h
 | .bl _, _, h => h
 | .int _, _, h => h
 | .str _, _, h => h
 | .tup ws, _, h => by
  obtain ⟨a, vs, e, ht, hr⟩ := h
  exact ⟨a, vs, e, l.lat.tup _ _ ht, RWs.le l hr⟩
 | .ref n, _, h => by
  obtain ⟨a, e, q⟩ := h
  exact ⟨a, nC l.pre e, q⟩
 | .ob _, _, h => h
 | .ty _, _, h => h
 | .scr ns, _, h => by
  obtain ⟨a, e, q⟩ := h
  exact ⟨a, e, l.lat.frz _ _ q⟩
 | .im k ws, _, h => by
  obtain ⟨a, vs, e, q, hr⟩ := h
  exact ⟨a, vs, e, q.le l.lat.tup l.lat.lk, RWs.le l hr⟩
theorem RWs.le (l : Le K r H r' H') : ∀ {ws : List W} {vs : List V}, RWs K r H ws vs → RWs K r' H' ws vs
 | [], _, h => h
 | w :: ws, _, h => by
  obtain ⟨v, rest, e, h1, h2⟩ := h
  exact ⟨v, rest, e, RW.le l h1, RWs.le l h2⟩
end
theorem RKV.le {κ : Type} (l : Le K r H r' H') : ∀ {ps : List (κ × W)} {vs : List (κ × V)}, RKV K r H ps vs → RKV K r' H' ps vs
 | [], _, h => h
 | p :: ps, _, h => by
  obtain ⟨v, rest, e, h1, h2⟩ := h
  exact ⟨v, rest, e, RW.le l h1, RKV.le l h2⟩
theorem RO.le (l : Le K r H r' H') : ∀ {o : O} {u : HO}, RO K r H o u → RO K r' H' o u
 | .lst _, _, h => by obtain ⟨vs, e, h⟩ := h; exact ⟨vs, e, h.le l⟩
 | .dct _, _, h => by obtain ⟨vs, e, h⟩ := h; exact ⟨vs, e, h.le l⟩
 | .dtp _, _, h => by obtain ⟨vs, e, h⟩ := h; exact ⟨vs, e, h.le l⟩
 | .ins _ _, _, h => by obtain ⟨dx, vs, e, h⟩ := h; exact ⟨dx, vs, e, h.le l⟩
 | .xd _, _, h => by obtain ⟨vs, e, h⟩ := h; exact ⟨vs, e, h.le l⟩
 | .lcd _, _, h => by obtain ⟨o, vs, e, h⟩ := h; exact ⟨o, vs, e, h.le l⟩
 | .lct _, _, h => by obtain ⟨o, vs, e, h⟩ := h; exact ⟨o, vs, e, h.le l⟩
theorem EnvR.le {env : Env} {σ : St} (l : Le K r H r' H') (h : EnvR K r H env σ) : EnvR K r' H' env σ := ⟨h.1, fun i w e => by
 obtain ⟨v, e1, q⟩ := h.2 i w e
 exact ⟨v, e1, q.le l⟩⟩
theorem Lt.le (l : Lt K r H r' H') : Le K r H r' H' := ⟨l.pre, l.lat.l0⟩
theorem Lt.lp (l : Lt K r H r' H') : Lp K r H r' H' := ⟨l.pre, l.lat⟩
theorem Lp.le (l : Lp K r H r' H') : Le K r H r' H' := ⟨l.pre, l.lat.l0⟩
theorem Lp.trans (a : Lp K r H r' H') (b : Lp K r' H' r'' H'') : Lp K r H r'' H'' := ⟨a.pre.trans b.pre, a.lat.trans b.lat⟩
theorem RW.mono {w : W} {v : V} (h : RW K r H w v) (l : Lt K r H r' H') : RW K r' H' w v := RW.le l.le h
theorem RWs.mono {w : List W} {v : List V} (h : RWs K r H w v) (l : Lt K r H r' H') : RWs K r' H' w v := RWs.le l.le h
theorem RO.mono {w : O} {v : HO} (h : RO K r H w v) (l : Lt K r H r' H') : RO K r' H' w v := RO.le l.le h
theorem EnvR.mono {env : Env} {σ : St} (h : EnvR K r H env σ) (l : Lt K r H r' H') : EnvR K r' H' env σ := EnvR.le l.le h
theorem EnvR.set {env : Env} {σ : St} {w : W} {v : V} (h : EnvR K r H env σ) (q : RW K r H w v) (i : Nat) : EnvR K r H (env.set i (ξ w)) (σ.set i (ξ v)) := ⟨by rw [List.length_set, List.length_set]; exact h.1, fun j x e => by
 rw [List.getElem?_set] at e ⊢
 by_cases hij : i = j
 ·subst hij
  rw [if_pos rfl] at e ⊢
  by_cases hl : i < env.length
  ·rw [if_pos hl] at e
   rw [if_pos (by rw [← h.1]; exact hl)]
   cases e
   exact ⟨v, rfl, q⟩
  ·rw [if_neg hl] at e
   cases e
 ·rw [if_neg hij] at e ⊢
  exact h.2 j x e⟩
theorem RWs.len : ∀ {ws : List W} {vs : List V}, RWs K r H ws vs → ws.length = vs.length
 | [], _, h => by cases (show _ = _ from h); rfl
 | _ :: _, _, h => by
  obtain ⟨v, rest, rfl, _, h2⟩ := h
  simp [RWs.len h2]
theorem RWs.get : ∀ {ws : List W} {vs : List V} {i : Nat} {w : W}, RWs K r H ws vs → ws[i]? = ξ w → ∃ v, vs[i]? = ξ v ∧ RW K r H w v
 | [], _, _, _, _, e => by simp at e
 | w :: ws, _, 0, _, h, e => by
  obtain ⟨v, rest, rfl, h1, _⟩ := h
  simp at e; subst e
  exact ⟨v, rfl, h1⟩
 | w :: ws, _, i + 1, _, h, e => by
  obtain ⟨v, rest, rfl, _, h2⟩ := h
  obtain ⟨v', e', q⟩ := RWs.get (i := i) h2 (by simpa using e)
  exact ⟨v', by simpa using e', q⟩
theorem RWs.append : ∀ {ws xs : List W} {vs us : List V}, RWs K r H ws vs → RWs K r H xs us → RWs K r H (ws ++ xs) (vs ++ us)
 | [], _, _, _, h, q => by cases (show _ = _ from h); exact q
 | w :: ws, _, _, _, h, q => by
  obtain ⟨v, rest, rfl, h1, h2⟩ := h
  exact ⟨v, rest ++ _, rfl, h1, RWs.append h2 q⟩
theorem RWs.one {w : W} {v : V} (h : RW K r H w v) : RWs K r H [w] [v] := ⟨v, [], rfl, h, rfl⟩
theorem RWs.set : ∀ {ws : List W} {vs : List V} (i : Nat) {w : W} {v : V}, RWs K r H ws vs → RW K r H w v → RWs K r H (ws.set i w) (vs.set i v)
 | [], _, _, _, _, h, _ => by cases (show _ = _ from h); rfl
 | x :: ws, _, 0, _, _, h, q => by
  obtain ⟨u, rest, rfl, h1, h2⟩ := h
  exact ⟨_, rest, rfl, q, h2⟩
 | x :: ws, _, i + 1, _, _, h, q => by
  obtain ⟨u, rest, rfl, h1, h2⟩ := h
  exact ⟨u, _, rfl, h1, RWs.set i h2 q⟩
theorem RWs.ints {ns : List Int} : RWs K r H (ns.map W.int) (ns.map V.int) := by
 induction ns with
 | nil => rfl
 | cons n ns ih => exact ⟨_, _, rfl, rfl, ih⟩
theorem RKV.lookup : ∀ {fs : List (Str × W)} {vs : List (Str × V)} {f : Str}, RKV K r H fs vs → match fs.lookup f with
  | some w => ∃ v, vs.lookup f = ξ v ∧ RW K r H w v
  | none => vs.lookup f = ζ
 | [], _, _, h => by cases (show _ = _ from h); rfl
 | p :: ps, _, f, h => by
  obtain ⟨v, rest, rfl, h1, h2⟩ := h
  obtain ⟨k, w⟩ := p
  have ih := RKV.lookup (f := f) h2
  simp only [List.lookup]
  cases hq : f == k with
  | true => exact ⟨v, rfl, h1⟩
  | false => exact ih
def O.open : O → Bool
 | .lcd _ => false
 | .lct _ => false
 | _ => true
theorem RO.plain : ∀ {o : O} {u : HO}, o.open = true → RO K r H o u → (∀ vs, u ≠ .tup vs) ∧ (∀ ob u', u ≠ .frz ob u') ∧ (∀ ps, u ≠ .tbl ps) ∧ ∀ c q, u ≠ LamX.CodeO c q
 | .lst _, _, _, h => by obtain ⟨vs, rfl, _⟩ := h; refine ⟨?_, ?_, ?_, ?_⟩ <;> intros <;> intro e <;> cases e
 | .dct _, _, _, h => by obtain ⟨vs, rfl, _⟩ := h; refine ⟨?_, ?_, ?_, ?_⟩ <;> intros <;> intro e <;> cases e
 | .dtp _, _, _, h => by obtain ⟨vs, rfl, _⟩ := h; refine ⟨?_, ?_, ?_, ?_⟩ <;> intros <;> intro e <;> cases e
 | .ins _ _, _, _, h => by obtain ⟨_, vs, rfl, _⟩ := h; refine ⟨?_, ?_, ?_, ?_⟩ <;> intros <;> intro e <;> cases e
 | .xd _, _, _, h => by obtain ⟨vs, rfl, _⟩ := h; refine ⟨?_, ?_, ?_, ?_⟩ <;> intros <;> intro e <;> cases e
 | .lcd _, _, h, _ => by cases h
 | .lct _, _, h, _ => by cases h
theorem zI {a p : Addr} {x : HO} (e : H a = ξ x) (h : ∀ y, H p = ξ y → y ≠ x) : a ≠ p := fun z => by
 subst z
 exact h x e rfl
theorem pe {P p : Addr} {nm : Str} {u : HO} (t : LamX.TabS H P nm) (h : ∀ x, H p = ξ x → (∀ ps, x ≠ .tbl ps) ∧ ∀ c q, x ≠ LamX.CodeO c q) : LamX.TabS (upd H p u) P nm := by
 obtain ⟨ps, h1, h2, h3⟩ := t
 refine ⟨ps, by rw [upd_ne (zI h1 fun x e => (h x e).1 ps)]; exact h1, h2, fun pos cv e => ?_⟩
 obtain ⟨c, e1, e2⟩ := h3 pos cv e
 exact ⟨c, e1, by rw [upd_ne (zI e2 fun x e => (h x e).2 c nm)]; exact e2⟩
theorem mj {p : Addr} {u : HO} (h : H p = ζ) : Later K H (upd H p u) := by
 refine ⟨fun a vs q => ?_, fun a vs q => ?_, fun a ob u' q => by rw [upd_ne (ne_of_none q h)]; exact q, fun p' _ t => pe t (fun x e => by rw [h] at e; cases e), fun a ps q => ⟨ps, by rw [upd_ne (ne_of_none q h)]; exact q⟩, fun c q e => by rw [upd_ne (ne_of_none e h)]; exact e⟩
 ·rw [upd_ne (ne_of_none q h)]
  exact q
 ·rcases q with ⟨o, q⟩ | q
  ·exact .inl ⟨o, by rw [upd_ne (ne_of_none q h)]; exact q⟩
  ·exact .inr q
theorem qz {p : Addr} {o : O} {u0 u : HO} (h : H p = ξ u0) (q0 : RO K r H o u0) (ho : o.open = true := by rfl) : Later K H (upd H p u) := by
 obtain ⟨n1, n2, n3, n4⟩ := q0.plain ho
 refine ⟨fun a vs q => ?_, fun a vs q => ?_, fun a ob u' q => by rw [upd_ne (ne_of q h fun e => n2 _ _ e.symm)]; exact q, fun p' _ t => pe t (fun x e => by rw [h] at e; cases e; exact ⟨n3, n4⟩), fun a ps q => ⟨ps, by rw [upd_ne (ne_of q h fun e => n3 _ e.symm)]; exact q⟩, fun c q e => by rw [upd_ne (ne_of e h fun z => n4 _ _ z.symm)]; exact e⟩
 ·rw [upd_ne (ne_of q h fun e => n1 _ e.symm)]
  exact q
 ·rcases q with ⟨o, q⟩ | q
  ·exact .inl ⟨o, by rw [upd_ne (ne_of q h fun e => n2 _ _ e.symm)]; exact q⟩
  ·exact .inr q
theorem zN {p : Addr} {u : HO} (h : H p = ζ) : Lt K r H (r ++ [p]) (upd H p u) := ⟨List.prefix_append _ _, mj h, fun b x e _ _ => by rw [upd_ne (ne_of_none e h)]; exact e, fun b x y => by
 rcases List.mem_append.mp x with z | z
 ·exact absurd z y
 ·simp at z
  rw [z]
  exact h⟩
theorem dH {p : Addr} {u : HO} (h : H p = ζ) : Lt K r H r (upd H p u) := ⟨List.prefix_rfl, mj h, fun b x e _ _ => by rw [upd_ne (ne_of_none e h)]; exact e, fun _ x y => absurd x y⟩
theorem Sim.aside (s : Sim K r m H) {p : Addr} {u : HO} (h : H p = ζ) : Sim K r m (upd H p u) := ⟨s.len, s.nd, fun n o e => by
 obtain ⟨a, u', e1, e2, e3⟩ := s.at_ n o e
 exact ⟨a, u', e1, by rw [upd_ne (ne_of_none e2 h)]; exact e2, e3.mono (dH h)⟩, fun p hp => (mj (K := K) h).tb _ hp (s.tb p hp), fun p hp => (s.past p hp).trans (dH h).lp⟩
theorem Sim.new (s : Sim K r m H) {p : Addr} {o : O} {u : HO} (h : H p = ζ) (q : RO K (r ++ [p]) (upd H p u) o u) : Sim K (r ++ [p]) (m ++ [o]) (upd H p u) ∧ Lt K r H (r ++ [p]) (upd H p u) := by
  have lt : Lt K r H (r ++ [p]) (upd H p u) := zN h
  refine ⟨⟨by simp [s.len], ?_, fun n o' e => ?_, fun p hp => lt.lat.tb _ hp (s.tb p hp), fun p hp => (s.past p hp).trans lt.lp⟩, lt⟩
  · rw [List.nodup_append]
    refine ⟨s.nd, by simp, fun a ha b hb e => ?_⟩
    simp at hb
    subst hb
    subst e
    obtain ⟨n, hn⟩ := List.getElem?_of_mem ha
    have hl : n < m.length := by rw [← s.len]; exact (List.getElem?_eq_some_iff.mp hn).1
    obtain ⟨a', u', e1, e2, _⟩ := s.at_ n _ (List.getElem?_eq_getElem hl)
    rw [hn] at e1
    cases e1
    rw [h] at e2
    cases e2
  · by_cases hn : n < m.length
    · rw [List.getElem?_append_left hn] at e
      obtain ⟨a, u', e1, e2, e3⟩ := s.at_ n o' e
      exact ⟨a, u', nC lt.pre e1, by rw [upd_ne (ne_of_none e2 h)]; exact e2, e3.mono lt⟩
    · have hn' : n = m.length := by
        have := (List.getElem?_eq_some_iff.mp e).1
        simp at this
        omega
      subst hn'
      simp at e
      subst e
      exact ⟨p, u, by rw [← s.len]; simp, upd_same, q⟩
theorem Sim.set (s : Sim K r m H) {n : Nat} {a : Addr} {o0 o : O} {u0 u : HO} (e0 : m[n]? = ξ o0) (ea : r[n]? = ξ a) (h : H a = ξ u0) (q0 : RO K r H o0 u0) (q : RO K r (upd H a u) o u) (ho : o0.open = true := by rfl) : Sim K r (m.set n o) (upd H a u) ∧ Lt K r H r (upd H a u) := by
 have lt : Lt K r H r (upd H a u) := ⟨List.prefix_rfl, qz h q0 ho, fun b x e n _ => by
  have hb : b ≠ a := fun z => n (by rw [z]; exact List.mem_of_getElem? ea)
  rw [upd_ne hb]
  exact e, fun _ x y => absurd x y⟩
 refine ⟨⟨by simp [s.len], s.nd, fun k o' e => ?_, fun p hp => lt.lat.tb _ hp (s.tb p hp), fun p hp => (s.past p hp).trans lt.lp⟩, lt⟩
 rw [List.getElem?_set] at e
 by_cases hk : n = k
 ·subst hk
  rw [if_pos rfl, if_pos (List.getElem?_eq_some_iff.mp e0).1] at e
  cases e
  exact ⟨a, u, ea, upd_same, q⟩
 ·rw [if_neg hk] at e
  obtain ⟨b, u', e1, e2, e3⟩ := s.at_ k o' e
  have hb : b ≠ a := fun z => by
   subst z
   obtain ⟨h1, e1'⟩ := List.getElem?_eq_some_iff.mp e1
   obtain ⟨h2, ea'⟩ := List.getElem?_eq_some_iff.mp ea
   exact hk ((List.getElem_inj s.nd).mp (ea'.trans e1'.symm))
  exact ⟨b, u', e1, by rw [upd_ne hb]; exact e2, e3.mono lt⟩
end
inductive R (α : Type) where
 | ok (a : α) (m : M) | exc (C : Addr) (d : Option Nat) (m : M)
def bnd {α β : Type} (x : Option (R α)) (k : α → M → Option (R β)) : Option (R β) := match x with
 | none => ζ
 | some (.ok a m) => k a m
 | some (.exc C d m) => ξ (.exc C d m)
theorem vN {α β : Type} {a : α} {m : M} {k : α → M → Option (R β)} : bnd (ξ (.ok a m)) k = k a m := rfl
def XR (r : List Addr) : Option Nat → Option Addr → Prop
 | none, d => d = ζ
 | some n, d => ∃ a, r[n]? = ξ a ∧ d = ξ a
abbrev Rel (α β : Type) := List Addr → Hp → α → β → Prop
def Post {α β : Type} (K : PySem.W.Frag) (rel : Rel α β) (r : List Addr) (H : Hp) (x : Option (R α)) (Q : β → Hp → Prop) (E : XK) : Prop := match x with
 | none => False
 | some (.ok a m) => ∀ r' H' v, Lt K r H r' H' → Sim K r' m H' → rel r' H' a v → Q v H'
 | some (.exc C d m) => ∀ r' H' dv, Lt K r H r' H' → Sim K r' m H' → XR r' d dv → E (.ref C) dv H'
theorem Post.base {α β : Type} {K : PySem.W.Frag} {rel : Rel α β} {r r' : List Addr} {H H' : Hp} {x : Option (R α)} {Q : β → Hp → Prop} {E : XK} (h : Post K rel r H x Q E) (l : Lt K r H r' H') : Post K rel r' H' x Q E := by
 cases x with
 | none => exact h
 | some y =>
  cases y with
  | ok a m => exact fun r2 H2 v l2 s q => h r2 H2 v (l.trans l2) s q
  | exc C d m => exact fun r2 H2 v l2 s q => h r2 H2 v (l.trans l2) s q
theorem Post.bnd {α β γ δ : Type} {K : PySem.W.Frag} {rel : Rel α β} {rel' : Rel γ δ} {r : List Addr} {H : Hp} {x : Option (R α)} {k : α → M → Option (R γ)} {Q : δ → Hp → Prop} {Q1 : β → Hp → Prop} {E : XK} (h : Post K rel' r H (SB.bnd x k) Q E)
  (hk : ∀ a m r1 H1 v, Lt K r H r1 H1 → Sim K r1 m H1 → rel r1 H1 a v → Post K rel' r1 H1 (k a m) Q E → Q1 v H1) : Post K rel r H x Q1 E := by
 cases x with
 | none => exact h
 | some y =>
  cases y with
  | ok a m => exact fun r1 H1 v l s q => hk a m r1 H1 v l s q (Post.base h l)
  | exc C d m => exact h
abbrev DE := Env → M → Option (R W)
abbrev DT := Env → M → Option (R Bool)
abbrev DA := Env → M → Option (R (List W))
abbrev gU (K : PySem.W.Frag) : Rel W V := fun r H => RW K r H
abbrev EG : Rel Bool Bool := fun _ _ a b => a = b
abbrev xB (K : PySem.W.Frag) : Rel (List W) (List V) := fun r H => RWs K r H
def tX {α β : Type} (K : PySem.W.Frag) (rel : Rel α β) (Z : WX) (d : Env → M → Option (R α)) : St → Hp → (β → Hp → Prop) → Prop := fun σ H Q => ∃ r m env, Sim K r m H ∧ EnvR K r H env σ ∧ Post K rel r H (d env m) Q (WE Z σ)
abbrev tE (K : PySem.W.Frag) (Z : WX) (d : DE) : TE := tX K (gU K) Z d
abbrev tT (K : PySem.W.Frag) (Z : WX) (d : DT) : TT := tX K EG Z d
abbrev tA (K : PySem.W.Frag) (Z : WX) (d : DA) : TA := tX K (xB K) Z d
abbrev SE (X : Cx) (Z : WX) (e : Expr) (d : DE) : Prop := PE X e (tE X.K Z d)
abbrev ST (X : Cx) (Z : WX) (e : Expr) (d : DT) : Prop := PT X e (tT X.K Z d)
abbrev SA (X : Cx) (Z : WX) (es : List Expr) (d : DA) : Prop := PA X es (tA X.K Z d)
theorem PE.imp {X : Cx} {e : Expr} {t u : TE} (h : PE X e t) (i : ∀ σ H Q, u σ H Q → t σ H Q) : PE X e u := ⟨fun pins s σ H Q I q => h.run pins s σ H Q I (i σ H Q q)⟩
theorem PT.imp {X : Cx} {e : Expr} {t u : TT} (h : PT X e t) (i : ∀ σ H Q, u σ H Q → t σ H Q) : PT X e u := ⟨fun pins s σ H Q I q => h.run pins s σ H Q I (i σ H Q q)⟩
theorem PA.imp {X : Cx} {e : List Expr} {t u : TA} (h : PA X e t) (i : ∀ σ H Q, u σ H Q → t σ H Q) : PA X e u := ⟨fun pos pins s σ H Q I q => h.run pos pins s σ H Q I (i σ H Q q)⟩
theorem PS.imp {X : Cx} {e : Stmt} {t u : TS} (h : PS X e t) (i : ∀ D σ H, u D σ H → t D σ H) : PS X e u := ⟨fun pins s σ H D I q => h.run pins s σ H D I (i D σ H q)⟩
theorem PSs.imp {X : Cx} {e : List Stmt} {t u : TS} (h : PSs X e t) (i : ∀ D σ H, u D σ H → t D σ H) : PSs X e u := ⟨fun pins s σ H D I q => h.run pins s σ H D I (i D σ H q)⟩
theorem tX.step {α β γ δ : Type} {K : PySem.W.Frag} {rel : Rel α β} {rel' : Rel γ δ} {Z : WX} {d : Env → M → Option (R α)} {k : α → M → Option (R γ)} {r : List Addr} {m : M} {env : Env} {σ : St} {H : Hp} {Q : δ → Hp → Prop} {Q1 : β → Hp → Prop}
  (s : Sim K r m H) (e : EnvR K r H env σ) (h : Post K rel' r H (SB.bnd (d env m) k) Q (WE Z σ)) (hk : ∀ a m1 r1 H1 v, Lt K r H r1 H1 → Sim K r1 m1 H1 → EnvR K r1 H1 env σ → rel r1 H1 a v → Post K rel' r1 H1 (k a m1) Q (WE Z σ) → Q1 v H1) : tX K rel Z d σ H Q1 :=
 ⟨r, m, env, s, e, h.bnd fun a m1 r1 H1 v l s1 q p => hk a m1 r1 H1 v l s1 (e.mono l) q p⟩
theorem Post.done {α β : Type} {K : PySem.W.Frag} {rel : Rel α β} {r : List Addr} {H : Hp} {a : α} {m : M} {v : β} {Q : β → Hp → Prop} {E : XK} (h : Post K rel r H (ξ (.ok a m)) Q E) (s : Sim K r m H) (q : rel r H a v) : Q v H := h r H v .refl s q
theorem Post.done' {α β : Type} {K : PySem.W.Frag} {rel : Rel α β} {r r' : List Addr} {H H' : Hp} {a : α} {m : M} {v : β} {Q : β → Hp → Prop} {E : XK} (h : Post K rel r H (ξ (.ok a m)) Q E) (l : Lt K r H r' H') (s : Sim K r' m H') (q : rel r' H' a v) : Q v H' := h r' H' v l s q
structure Ctx (X : Cx) (Z : WX) (k : Nat) : Prop where
 calm : X.calm = true
 nd : X.N.Nodup
 tk : Takes X Z
 own : PassesOwn (model X.prog X.w) X.A X.env X.xe
 room : Room k X.A
 gd : Tabs.g = true → X.A.guards = ξ []
def aA (i : Nat) : DE := fun env m => match env[i]? with
 | some (ξ w) => ξ (.ok w m)
 | _ => ζ
def eC (w : W) : DE := fun _ m => ξ (.ok w m)
section
variable {X: Cx}{E: XK}{Z: WX}{a b c e: Expr}{es: List Expr}{da db: DE}{pos p: Pos}{k: Nat}
theorem EH {K : PySem.W.Frag} {i : Nat} {r : List Addr} {m : M} {env : Env} {σ : St} {H : Hp} {Q : VK} (s : Sim K r m H) (e : EnvR K r H env σ) (h : Post K (gU K) r H (aA i env m) Q E) : tVar i σ H Q := by
 unfold aA at h
 split at h
 ·rename_i w hw
  obtain ⟨v, e1, q⟩ := e.2 i w hw
  exact ⟨v, e1, h.done s q⟩
 ·exact h.elim
theorem ak (i : Nat) {x : Str} (hN : X.N[i]? = ξ x := by rfl) (hv : Vis X.env.scope x := by first | exact Or.inl rfl | exact Or.inr (Or.inl rfl) | exact Or.inr (Or.inr rfl)) (hd : (x == ("__debug__" : Str)) = false := by decide)
  (hcd : (x == ("__classdict__" : Str)) = false := by decide) : SE X Z (.Name x pos) (aA i) :=
 PE.imp (pe_var hN hv hd hcd) fun σ H Q ⟨r, m, env, s, e, h⟩ => EH s e h
theorem xD {K : PySem.W.Frag} {w : W} {v : V} (hv : ∀ r H, RW K r H w v) {σ : St} {H : Hp} {Q : VK} (h : tE K Z (eC w) σ H Q) : tC v σ H Q := by
 obtain ⟨r, m, env, s, e, h⟩ := h
 exact h.done s (hv r H)
theorem aK {i : Int} {j} : SE X Z (.Constant (.int i) j pos) (eC (.int i)) := PE.imp pe_int fun _ _ _ h => xD (w := .int i) (v := .int i) (fun _ _ => rfl) h
theorem aZ {i : Bool} {j} : SE X Z (.Constant (.bool i) j pos) (eC (.bl i)) := PE.imp pe_bl fun _ _ _ h => xD (w := .bl i) (v := .bl i) (fun _ _ => rfl) h
theorem uY {j} : SE X Z (.Constant .none j pos) (eC .non) := PE.imp pe_non fun _ _ _ h => xD (w := .non) (v := .non) (fun _ _ => rfl) h
theorem rz {x : Str} {j} : SE X Z (.Constant (.str x) j pos) (eC (.str x)) := PE.imp pe_str fun _ _ _ h => xD (w := .str x) (v := .str x) (fun _ _ => rfl) h
theorem BE {x : Str} {w : W} {v : V} {u : Value} (hg : Gl X x) (hm : X.mg x = ξ u) (r : RelV v u) (hw : ∀ r H, RW X.K r H w v) (hd : (x == ("__debug__" : Str)) = false := by decide) : SE X Z (.Name x pos) (eC w) := PE.imp (pe_glob hg hm r hd) fun _ _ _ h => xD hw h
theorem BG {x : Str} {w : W} {v : V} {u : Value} (hg : Gl X x) (hm : X.mg x = ζ) (hv : bootBuiltins x = ξ u) (r : RelV v u) (hw : ∀ r H, RW X.K r H w v) (hn : x ≠ "__name__" := by decide) (hd : (x == ("__debug__" : Str)) = false := by decide) : SE X Z (.Name x pos) (eC w) := PE.imp (pe_bltn hg hm hv r hn hd) fun _ _ _ h => xD hw h
def up (x : Option (W × M)) : Option (R W) := match x with
 | none => ζ
 | some p => ξ (.ok p.1 p.2)
@[simp] theorem KS : up ζ = ζ := rfl
@[simp] theorem KR {p : W × M} : up (ξ p) = ξ (.ok p.1 p.2) := rfl
abbrev F2 := W → W → M → Option (W × M)
abbrev F1 := W → M → Option (W × M)
abbrev FN := List W → M → Option (W × M)
def Imp2 (K : PySem.W.Frag) (rr : R2) (f : F2) : Prop := ∀ (r : List Addr) (m : M) (H : Hp) (x y : V) (w1 w2 : W) (Q : VK) (E : XK), Sim K r m H → RW K r H w1 x → RW K r H w2 y → Post K (gU K) r H (up (f w1 w2 m)) Q E → rr x y H Q
def GW (K : PySem.W.Frag) (rr : V → Hp → VK → Prop) (f : F1) : Prop := ∀ (r : List Addr) (m : M) (H : Hp) (x : V) (w1 : W) (Q : VK) (E : XK), Sim K r m H → RW K r H w1 x → Post K (gU K) r H (up (f w1 m)) Q E → rr x H Q
def pf (K : PySem.W.Frag) (rr : List V → Hp → VK → Prop) (f : FN) : Prop := ∀ (r : List Addr) (m : M) (H : Hp) (xs : List V) (ws : List W) (Q : VK) (E : XK), Sim K r m H → RWs K r H ws xs → Post K (gU K) r H (up (f ws m)) Q E → rr xs H Q
def dh (f : F2) (a b : DE) : DE := fun env m => bnd (a env m) fun x m1 => bnd (b env m1) fun y m2 => up (f x y m2)
def Gn (f : F1) (a : DE) : DE := fun env m => bnd (a env m) fun x m1 => up (f x m1)
theorem wh {K : PySem.W.Frag} {rr : R2} {f : F2} (hi : Imp2 K rr f) {σ : St} {H : Hp} {Q : VK} (h : tE K Z (dh f da db) σ H Q) : tOp rr (tE K Z da) (tE K Z db) σ H Q := by
 obtain ⟨r, m, env, s, e, h⟩ := h
 refine tX.step s e h fun w1 m1 r1 H1 x l1 s1 e1 q1 h1 => ?_
 refine tX.step s1 e1 h1 fun w2 m2 r2 H2 y l2 s2 e2 q2 h2 => ?_
 exact hi r2 m2 H2 x y w1 w2 Q _ s2 (q1.mono l2) q2 h2
theorem Jx {K : PySem.W.Frag} {rr : V → Hp → VK → Prop} {f : F1} (hi : GW K rr f) {σ : St} {H : Hp} {Q : VK} (h : tE K Z (Gn f da) σ H Q) : tUn rr (tE K Z da) σ H Q := by
 obtain ⟨r, m, env, s, e, h⟩ := h
 refine tX.step s e h fun w1 m1 r1 H1 x l1 s1 e1 q1 h1 => ?_
 exact hi r1 m1 H1 x w1 Q _ s1 q1 h1
theorem bH {op : Operator} {rr : R2} {f : F2} (ho : OpR X (binaryOp op) rr) (hi : Imp2 X.K rr f) (ha : SE X Z a da) (hb : SE X Z b db) : SE X Z (.BinOp a op b pos) (dh f da db) := PE.imp (pe_op ho ha hb) fun _ _ _ h => wh hi h
theorem y5 {op : UnaryOp} {rr : V → Hp → VK → Prop} {f : F1} (ho : UnR X (unaryOp op) rr) (hi : GW X.K rr f) (ha : SE X Z a da) : SE X Z (.UnaryOp op a pos) (Gn f da) := PE.imp (pe_un ho ha) fun _ _ _ h => Jx hi h
theorem rA {op : CmpOp} {rr : R2} {f : F2} (ho : OpR X (compareOp op) rr) (hi : Imp2 X.K rr f) (ha : SE X Z a da) (hb : SE X Z b db) (hm : behindInMarks op b = false := by first | exact nomark _ | rfl) : SE X Z (.Compare a [op] [b] pos) (dh f da db) := PE.imp (pe_cmpR ho ha hb hm) fun _ _ _ h => wh hi h
theorem iI {rr : R2} {f : F2} (ho : IxR X rr) (hi : Imp2 X.K rr f) (ha : SE X Z a da) (hb : SE X Z b db) (hs : PlainIx b := by exact fun _ _ => rfl) : SE X Z (.Subscript a b pos) (dh f da db) := PE.imp (pe_ix ho ha hb hs) fun _ _ _ h => wh hi h
def LJ : W → M → Option (R Bool)
 | .bl b, m => ξ (.ok b m)
 | _, _ => ζ
def eL (d : DE) : DT := fun env m => bnd (d env m) LJ
theorem wg {K : PySem.W.Frag} {d : DE} {r : List Addr} {m : M} {env : Env} {σ : St} {H : Hp} {Q : Bool → Hp → Prop} (s : Sim K r m H) (e : EnvR K r H env σ) (h : Post K EG r H (bnd (d env m) LJ) Q (WE Z σ)) : tE K Z d σ H fun x H' => ∃ k, x = .bl k ∧ Q k H' := by
 refine tX.step (rel := gU K) s e h fun w m1 r1 H1 v l1 s1 e1 q1 h1 => ?_
 cases w <;> first | exact h1.elim | skip
 rename_i b
 exact ⟨b, q1, h1.done s1 rfl⟩
theorem EI {K : PySem.W.Frag} {rr : R2} {f : F2} (hi : Imp2 K rr f) {σ : St} {H : Hp} {Q : Bool → Hp → Prop} (h : tT K Z (eL (dh f da db)) σ H Q) : tTest (tOp rr (tE K Z da) (tE K Z db)) σ H Q := by
 obtain ⟨r, m, env, s, e, h⟩ := h
 exact wh hi (wg s e h)
theorem gS {op : CmpOp} {rr : R2} {f : F2} (ho : OpR X (compareOp op) rr) (hi : Imp2 X.K rr f) (ha : SE X Z a da) (hb : SE X Z b db) (hm : behindInMarks op b = false := by first | exact nomark _ | rfl) : ST X Z (.Compare a [op] [b] pos) (eL (dh f da db)) :=
 PT.imp (pt_cmpR ho ha hb hm) fun _ _ _ h => EI hi h
theorem uR (ha : SE X Z a da) (he : ∀ whole, isTrue a X.env whole = (do let v ← whole; standAt a.pos; holding [v] (truthy v)) := by intro _; rfl) : ST X Z a (eL da) :=
 PT.imp (pt_val ha he) fun _ _ _ ⟨r, m, env, s, e, h⟩ => wg s e h
def Jd (a b : DT) : DT := fun env m => bnd (a env m) fun x m1 => if x = true then b env m1 else ξ (.ok false m1)
def xt (a b : DT) : DT := fun env m => bnd (a env m) fun x m1 => if x = true then ξ (.ok true m1) else b env m1
def pU (a : DT) : DT := fun env m => bnd (a env m) fun x m1 => ξ (.ok (!x) m1)
abbrev SW (X : Cx) (Z : WX) (e : Expr) (d : DT) : Prop := PW X e (tT X.K Z d)
theorem PW.imp {X : Cx} {e : Expr} {t u : TT} (h : PW X e t) (i : ∀ σ H Q, u σ H Q → t σ H Q) : PW X e u := ⟨fun w pins s σ H Q I q => h.run w pins s σ H Q I (i σ H Q q)⟩
variable {ta tb: DT}{rest: List Expr}
theorem yP (ha : ST X Z a ta) : SW X Z (.BoolOp .Or [a] pos) ta := pw_or1 ha
theorem yQ (ha : ST X Z a ta) (hb : SW X Z (.BoolOp .Or (b :: rest) pos) tb) : SW X Z (.BoolOp .Or (a :: b :: rest) pos) (xt ta tb) := PW.imp (pw_or ha hb) fun σ H Q ⟨r, m, env, s, e, h⟩ => by
 refine tX.step s e h fun x m1 r1 H1 v l1 s1 e1 q1 h1 => ?_
 subst q1
 cases x with
 | true => exact iteT (h1.done s1 rfl)
 | false => exact iteF ⟨r1, m1, env, s1, e1, h1⟩
theorem Je {d : DT} (h : SW X Z a d) : ST X Z a d := PW.pt h
theorem uS (ha : ST X Z a ta) : ST X Z (.UnaryOp .Not a pos) (pU ta) := PT.imp (pt_not ha) fun σ H Q ⟨r, m, env, s, e, h⟩ => by
 refine tX.step s e h fun x m1 r1 H1 v l1 s1 e1 q1 h1 => ?_
 subst q1
 exact h1.done s1 rfl
def AR (a b : DE) : DE := fun env m => bnd (a env m) fun x m1 => match x with
 | .bl true => b env m1
 | .bl false => ξ (.ok (.bl false) m1)
 | _ => ζ
def eOrV (a b : DE) : DE := fun env m => bnd (a env m) fun x m1 => match x with
 | .bl true => ξ (.ok (.bl true) m1)
 | .bl false => b env m1
 | _ => ζ
def AQ (a : DE) : DE := fun env m => bnd (a env m) fun x m1 => match x with
 | .bl k => ξ (.ok (.bl (!k)) m1)
 | _ => ζ
def eIf (c : DT) (a b : DE) : DE := fun env m => bnd (c env m) fun x m1 => if x = true then a env m1 else b env m1
def aB : DA := fun _ m => ξ (.ok [] m)
def aj (a : DE) (as : DA) : DA := fun env m => bnd (a env m) fun x m1 => bnd (as env m1) fun xs m2 => ξ (.ok (x :: xs) m2)
theorem au : SA X Z [] aB := PA.imp pa_nil fun σ H Q ⟨r, m, env, s, e, h⟩ => h.done s rfl
theorem ae {das : DA} (ha : SE X Z e da) (hr : SA X Z es das) (hs : starEach (e :: es) X.env = (false, eval e X.env) :: starEach es X.env := by rfl) : SA X Z (e :: es) (aj da das) := PA.imp (pa_cons ha hr hs) fun σ H Q ⟨r, m, env, s, e, h⟩ => by
 refine tX.step s e h fun w m1 r1 H1 v l1 s1 e1 q1 h1 => ?_
 refine tX.step (rel := xB X.K) s1 e1 h1 fun ws m2 r2 H2 vs l2 s2 e2 q2 h2 => ?_
 exact h2.done s2 ⟨v, vs, rfl, q1.mono l2, q2⟩
def iO (as : DA) : DE := fun env m => bnd (as env m) fun ws m1 => if ws.length ≤ sizeLine then ξ (.ok (.tup ws) m1) else ζ
def cS (as : DA) : DE := fun env m => bnd (as env m) fun ws m1 => if ws.length ≤ sizeLine then ξ (.ok (.ref m1.length) (m1 ++ [.lst ws])) else ζ
theorem wA {K : PySem.W.Frag} {r : List Addr} {m : M} {H : Hp} {ws : List W} {vs : List V} {Q : VK} {p : Addr} (s : Sim K r m H) (q : RWs K r H ws vs) (h : Post K (gU K) r H (ξ (.ok (.tup ws) m)) Q E) (hp : H p = ζ) : Q (.ref p) (upd H p (.tup vs)) :=
 h.done' (dH hp) (s.aside hp) ⟨p, vs, rfl, upd_same, q.mono (dH hp)⟩
theorem rK {K : PySem.W.Frag} {r : List Addr} {m : M} {H : Hp} {ws : List W} {vs : List V} {Q : VK} {p : Addr} (s : Sim K r m H) (q : RWs K r H ws vs) (h : Post K (gU K) r H (ξ (.ok (.ref m.length) (m ++ [.lst ws]))) Q E) (hp : H p = ζ) : Q (.ref p) (upd H p (.lst vs)) := by
 obtain ⟨s', l'⟩ := s.new (o := .lst ws) (u := .lst vs) hp ⟨vs, rfl, q.mono (zN hp)⟩
 exact h.done' l' s' ⟨p, by rw [← s.len]; simp, rfl⟩
theorem eO {das : DA} {x1} (h : SA X Z es das) : SE X Z (.Tuple es x1 pos) (iO das) := PE.imp (pe_tup h) fun σ H Q ⟨r, m, env, s, e, h⟩ => by
 refine tX.step s e h fun ws m1 r1 H1 vs l1 s1 e1 q1 h1 => ?_
 by_cases hl : ws.length ≤ sizeLine
 ·rw [if_pos hl] at h1
  exact ⟨by rw [← RWs.len q1]; exact hl, fun p hp => wA s1 q1 h1 hp⟩
 ·rw [if_neg hl] at h1
  exact h1.elim
theorem bg {das : DA} (h : SA X Z es das) : SE X Z (.List es pos) (cS das) := PE.imp (pe_lst h) fun σ H Q ⟨r, m, env, s, e, h⟩ => by
 refine tX.step s e h fun ws m1 r1 H1 vs l1 s1 e1 q1 h1 => ?_
 by_cases hl : ws.length ≤ sizeLine
 ·rw [if_pos hl] at h1
  exact ⟨by rw [← RWs.len q1]; exact hl, fun p hp => rK s1 q1 h1 hp⟩
 ·rw [if_neg hl] at h1
  exact h1.elim
def iy (f : FN) (as : DA) : DE := fun env m => bnd (as env m) fun ws m1 => up (f ws m1)
theorem DC {K : PySem.W.Frag} {rr : List V → Hp → VK → Prop} {f : FN} {das : DA} (hi : pf K rr f) {σ : St} {H : Hp} {Q : VK} (h : tE K Z (iy f das) σ H Q) : tCB rr (tA K Z das) σ H Q := by
 obtain ⟨r, m, env, s, e, h⟩ := h
 refine tX.step s e h fun ws m1 r1 H1 vs l1 s1 e1 q1 h1 => ?_
 exact hi r1 m1 H1 vs ws Q _ s1 q1 h1
theorem y6 {x : Str} {id : String} {rr : List V → Hp → VK → Prop} {f : FN} {das : DA} (hc : CallR X (.builtin id) rr) (hi : pf X.K rr f) (hg : Gl X x) (hm : X.mg x = ζ) (hv : bootBuiltins x = ξ (.builtin id)) (ha : SA X Z (e :: es) das)
  (hn : x ≠ "__name__" := by decide) (hdb : (x == ("__debug__" : Str)) = false := by decide) (he : starEach (e :: es) X.env = (false, eval e X.env) :: starEach es X.env := by rfl) (hpl : (backTo pos (starEach es X.env)).any (·.1) = false := by rfl) :
  SE X Z (.Call (.Name x p) (e :: es) [] pos) (iy f das) := PE.imp (pe_callB hc hg hm hv ha hn hdb he hpl) fun _ _ _ h => DC hi h
theorem xv {x : Str} {T : String} {rr : List V → Hp → VK → Prop} {f : FN} {das : DA} (hc : CallR X (.type T) rr) (hi : pf X.K rr f) (hg : Gl X x) (hm : X.mg x = ζ) (hv : bootBuiltins x = ξ (.type T)) (ha : SA X Z (e :: es) das)
  (hn : x ≠ "__name__" := by decide) (hdb : (x == ("__debug__" : Str)) = false := by decide) (he : starEach (e :: es) X.env = (false, eval e X.env) :: starEach es X.env := by rfl) (hpl : (backTo pos (starEach es X.env)).any (·.1) = false := by rfl) :
  SE X Z (.Call (.Name x p) (e :: es) [] pos) (iy f das) := PE.imp (pe_callTy hc hg hm hv ha hn hdb he hpl) fun _ _ _ h => DC hi h
end
inductive F where
 | next | ret (w : W) | brk | cont
inductive RS where
 | fl (f : F) (env : Env) (m : M) | exc (C : Addr) (d : Option Nat) (env : Env) (m : M)
abbrev DS := Env → M → Option RS
def PostS (K : PySem.W.Frag) (r : List Addr) (H : Hp) (x : Option RS) (D : Ends) (Z : WX) : Prop := match x with
 | none => False
 | some (.fl .next env m) => ∀ r' H' σ', Lt K r H r' H' → Sim K r' m H' → EnvR K r' H' env σ' → D.nx σ' H'
 | some (.fl .brk env m) => ∀ r' H' σ', Lt K r H r' H' → Sim K r' m H' → EnvR K r' H' env σ' → D.bk σ' H'
 | some (.fl .cont env m) => ∀ r' H' σ', Lt K r H r' H' → Sim K r' m H' → EnvR K r' H' env σ' → D.ct σ' H'
 | some (.fl (.ret w) _ m) => ∀ r' H' v, Lt K r H r' H' → Sim K r' m H' → RW K r' H' w v → D.rt v H'
 | some (.exc C d env m) => ∀ r' H' σ' dv, Lt K r H r' H' → Sim K r' m H' → EnvR K r' H' env σ' → XR r' d dv → Z (.ref C) dv σ' H'
def tS (K : PySem.W.Frag) (Z : WX) (d : DS) : TS := fun D σ H => ∃ r m env, Sim K r m H ∧ EnvR K r H env σ ∧ PostS K r H (d env m) D Z
abbrev SS (X : Cx) (Z : WX) (st : Stmt) (d : DS) : Prop := PS X st (tS X.K Z d)
abbrev Dm (X : Cx) (Z : WX) (st : List Stmt) (d : DS) : Prop := PSs X st (tS X.K Z d)
theorem PostS.base {K : PySem.W.Frag} {r r' : List Addr} {H H' : Hp} {x : Option RS} {D : Ends} {Z : WX} (h : PostS K r H x D Z) (l : Lt K r H r' H') : PostS K r' H' x D Z := by
 cases x with
 | none => exact h
 | some y =>
  cases y with
  | exc C d env m => exact fun r2 H2 σ2 dv l2 => h r2 H2 σ2 dv (l.trans l2)
  | fl f env m => cases f <;> exact fun r2 H2 σ2 l2 => h r2 H2 σ2 (l.trans l2)
def bS {α : Type} (x : Option (R α)) (env : Env) (k : α → M → Option RS) : Option RS := match x with
 | none => ζ
 | some (.ok a m) => k a m
 | some (.exc C d m) => ξ (.exc C d env m)
theorem Kt {α : Type} {a : α} {m : M} {env : Env} {k : α → M → Option RS} : bS (ξ (.ok a m)) env k = k a m := rfl
theorem tX.stepS {α β : Type} {K : PySem.W.Frag} {rel : Rel α β} {Z : WX} {d : Env → M → Option (R α)} {k : α → M → Option RS} {r : List Addr} {m : M} {env : Env} {σ : St} {H : Hp} {D : Ends} {Q1 : β → Hp → Prop}
  (s : Sim K r m H) (e : EnvR K r H env σ) (h : PostS K r H (bS (d env m) env k) D Z) (hk : ∀ a m1 r1 H1 v, Lt K r H r1 H1 → Sim K r1 m1 H1 → EnvR K r1 H1 env σ → rel r1 H1 a v → PostS K r1 H1 (k a m1) D Z → Q1 v H1) : tX K rel Z d σ H Q1 := by
 refine ⟨r, m, env, s, e, ?_⟩
 cases hx : d env m with
 | none => rw [hx] at h; exact h
 | some y =>
  rw [hx] at h
  cases y with
  | ok a m1 => exact fun r1 H1 v l s1 q => hk a m1 r1 H1 v l s1 (e.mono l) q (PostS.base h l)
  | exc C dd m1 => exact fun r1 H1 dv l s1 q => h r1 H1 σ dv l s1 (e.mono l) q
def hM : DS := fun env m => ξ (.fl .next env m)
def cO (a b : DS) : DS := fun env m => match a env m with
 | some (.fl .next env' m') => b env' m'
 | x => x
section
variable {X: Cx}{Z: WX}{st: Stmt}{rest: List Stmt}{a b e c tg: Expr}{da: DE}{d u: DS}{pos: Pos}{k: Nat}
theorem gT : Dm X Z [] hM := PSs.imp pss_nil fun D σ H ⟨r, m, env, s, e, h⟩ => h r H σ .refl s e
theorem aQ (h1 : SS X Z st d) (h2 : Dm X Z rest u) : Dm X Z (st :: rest) (cO d u) := PSs.imp (pss_cons h1 h2) fun D σ H ⟨r, m, env, s, e, h⟩ => by
 refine ⟨r, m, env, s, e, ?_⟩
 unfold cO at h
 cases hx : d env m with
 | none => rw [hx] at h; exact h
 | some y =>
  rw [hx] at h
  cases y with
  | exc C dd en m1 => exact h
  | fl f en m1 =>
   cases f with
   | next => exact fun r1 H1 σ1 l1 s1 e1 => ⟨r1, m1, en, s1, e1, PostS.base h l1⟩
   | ret w => exact h
   | brk => exact h
   | cont => exact h
theorem cm (h1 : SS X Z st d) : Dm X Z [st] d := pss_one h1
def sFl (f : F) : DS := fun env m => ξ (.fl f env m)
def Jo (a : DE) : DS := fun env m => bS (a env m) env fun _ m1 => ξ (.fl .next env m1)
def hH (a : DE) : DS := fun env m => bS (a env m) env fun w m1 => ξ (.fl (.ret w) env m1)
theorem dC (he : SE X Z e da) : SS X Z (.Return (ξ e) pos) (hH da) := PS.imp (ps_ret he) fun D σ H ⟨r, m, env, s, e, h⟩ =>
 tX.stepS s e h fun w m1 r1 H1 v l1 s1 e1 q1 h1 => h1 r1 H1 v .refl s1 q1
def wc (c : DT) (a b : DS) : DS := fun env m => bS (c env m) env fun x m1 => if x = true then a env m1 else b env m1
theorem js {tc : DT} {sa sb : List Stmt} (hc : ST X Z c tc) (ha : Dm X Z sa d) (hb : Dm X Z sb u) : SS X Z (.If c sa sb pos) (wc tc d u) := PS.imp (ps_if hc ha hb) fun D σ H ⟨r, m, env, s, e, h⟩ => by
 refine tX.stepS s e h fun x m1 r1 H1 v l1 s1 e1 q1 h1 => ?_
 subst q1
 cases x with
 | true => exact iteT ⟨r1, m1, env, s1, e1, h1⟩
 | false => exact iteF ⟨r1, m1, env, s1, e1, h1⟩
abbrev DG := W → Env → M → Option (Env × M)
abbrev Bg := List W → Env → M → Option (Env × M)
def Out (sl : List Nat) (σ σ' : St) : Prop := σ'.length = σ.length ∧ ∀ (i : Nat), i ∉ sl → σ'[i]? = σ[i]?
theorem Out.refl {sl : List Nat} {σ : St} : Out sl σ σ := ⟨rfl, fun _ _ => rfl⟩
theorem Out.trans {sl sl' : List Nat} {σ σ' σ'' : St} (a : Out sl σ σ') (b : Out sl' σ' σ'') : Out (sl ++ sl') σ σ'' := ⟨b.1.trans a.1, fun i h => by
 rw [List.mem_append] at h
 rw [b.2 i fun z => h (.inr z), a.2 i fun z => h (.inl z)]⟩
theorem Out.set {σ : St} {i : Nat} {v : Option V} : Out [i] σ (σ.set i v) := ⟨by simp, fun j h => by
 have hj : i ≠ j := fun z => h (by simp [z])
 rw [List.getElem?_set_ne hj]⟩
def PostG (K : PySem.W.Frag) (r : List Addr) (H : Hp) (sl : List Nat) (σ : St) (x : Option (Env × M)) (Q : St → Hp → Prop) : Prop := match x with
 | none => False
 | some (env, m) => ∀ r' H' σ', Lt K r H r' H' → Sim K r' m H' → EnvR K r' H' env σ' → Out sl σ σ' → Q σ' H'
theorem PostG.base {K : PySem.W.Frag} {r r' : List Addr} {H H' : Hp} {sl : List Nat} {σ : St} {x : Option (Env × M)} {Q : St → Hp → Prop} (h : PostG K r H sl σ x Q) (l : Lt K r H r' H') : PostG K r' H' sl σ x Q := by
 cases x with
 | none => exact h
 | some y => exact fun r2 H2 σ2 l2 => h r2 H2 σ2 (l.trans l2)
def tG (K : PySem.W.Frag) (sl : List Nat) (g : DG) : TG := fun v σ H Q => ∃ r m env w, Sim K r m H ∧ EnvR K r H env σ ∧ RW K r H w v ∧ PostG K r H sl σ (g w env m) Q
def tGs (K : PySem.W.Frag) (sl : List Nat) (g : Bg) : TGs := fun vs σ H Q => ∃ r m env ws, Sim K r m H ∧ EnvR K r H env σ ∧ RWs K r H ws vs ∧ PostG K r H sl σ (g ws env m) Q
abbrev SG (X : Cx) (tg : Expr) (sl : List Nat) (g : DG) : Prop := PG X tg (tG X.K sl g)
abbrev LL (X : Cx) (ts : List Expr) (sl : List Nat) (g : Bg) : Prop := PGs X ts (tGs X.K sl g)
theorem PG.imp {X : Cx} {e : Expr} {t u : TG} (h : PG X e t) (i : ∀ v σ H Q, u v σ H Q → t v σ H Q) : PG X e u := ⟨fun pins s σ H v w Q I rv q => h.run pins s σ H v w Q I rv (i v σ H Q q)⟩
theorem PGs.imp {X : Cx} {e : List Expr} {t u : TGs} (h : PGs X e t) (i : ∀ v σ H Q, u v σ H Q → t v σ H Q) : PGs X e u := ⟨fun pins s σ H v w Q I rv q => h.run pins s σ H v w Q I rv (i v σ H Q q)⟩
def bP (i : Nat) : DG := fun w env m => ξ (env.set i (ξ w), m)
theorem hJ {i : Nat} {x : Str} (hN : X.N.Nodup) (hi : X.N[i]? = ξ x := by rfl) (hx : Loc X.env.scope x := by first | exact Or.inl rfl | exact Or.inr rfl) (hf : X.fn x = true ∨ X.env.scope.names.lookup x = ξ .local := by first | exact .inl rfl | exact .inr rfl | assumption) : SG X (.Name x pos) [i] (bP i) :=
 PG.imp (pg_name hN hi hx hf) fun v σ H Q ⟨r, m, env, w, s, e, q, h⟩ => h r H _ .refl s (e.set q i) .set
def AU : Bg := fun ws env m => match ws with
 | [] => ξ (env, m)
 | _ => ζ
def mB (g : DG) (gs : Bg) : Bg := fun ws env m => match ws with
 | w :: r => match g w env m with
  | some (env', m') => gs r env' m'
  | none => ζ
 | [] => ζ
theorem BA : LL X [] [] AU := PGs.imp pgs_nil fun vs σ H Q ⟨r, m, env, ws, s, e, q, h⟩ => by
 cases ws with
 | nil => exact ⟨q, h r H σ .refl s e .refl⟩
 | cons w ws => exact h.elim
theorem sS {es : List Expr} {sl sl' : List Nat} {g : DG} {gs : Bg} (h1 : SG X e sl g) (h2 : LL X es sl' gs) (hs : (assignEach (e :: es) X.env).map (·.2) = assign e X.env :: (assignEach es X.env).map (·.2) := by rfl) : LL X (e :: es) (sl ++ sl') (mB g gs) :=
 PGs.imp (pgs_cons h1 h2 hs) fun vs σ H Q ⟨r, m, env, ws, s, e, q, h⟩ => by
  cases ws with
  | nil => exact h.elim
  | cons w ws =>
   obtain ⟨v, rest, rfl, q1, q2⟩ := q
   refine ⟨v, rest, rfl, r, m, env, w, s, e, q1, ?_⟩
   unfold mB at h
   simp only at h
   cases hx : g w env m with
   | none => rw [hx] at h; exact h
   | some y =>
    obtain ⟨env1, m1⟩ := y
    rw [hx] at h
    intro r1 H1 σ1 l1 s1 e1 o1
    refine ⟨r1, m1, env1, ws, s1, e1, q2.mono l1, ?_⟩
    simp only at h
    cases hy : gs ws env1 m1 with
    | none => rw [hy] at h; exact h
    | some z =>
     rw [hy] at h
     exact fun r2 H2 σ2 l2 s2 e2 o2 => h r2 H2 σ2 (l1.trans l2) s2 e2 (o1.trans o2)
def AY (n : Nat) (gs : Bg) : DG := fun w env m => match w with
 | .tup ws => if ws.length = n then gs ws env m else ζ
 | _ => ζ
theorem EA {es : List Expr} {kk n : Nat} {sl : List Nat} {gs : Bg} (hc : X.calm = true) (h : LL X es sl gs) (hn : (assignEach es X.env).length = n := by rfl) (hst : (assignEach es X.env).findIdx? (·.1) = ζ := by rfl) : SG X (.Tuple es kk pos) sl (AY n gs) :=
 PG.imp (pg_tup hc h hn hst) fun v σ H Q ⟨r, m, env, w, s, e, q, h⟩ => by
  cases w <;> first | exact h.elim | skip
  rename_i ws
  obtain ⟨a, vs, rfl, ht, q⟩ := q
  unfold AY at h
  simp only at h
  by_cases hl : ws.length = n
  ·rw [if_pos hl] at h
   exact ⟨a, vs, rfl, SqT.of ht, by rw [← q.len]; exact hl, r, m, env, ws, s, e, q, h⟩
  ·rw [if_neg hl] at h
   exact h.elim
abbrev F3 := W → W → W → M → Option M
def KA (K : PySem.W.Frag) (t : TSet) (f : F3) : Prop := ∀ (r : List Addr) (m : M) (H : Hp) (o i v : V) (wo wi wv : W) (Q : Hp → Prop), Sim K r m H → RW K r H wo o → RW K r H wi i → RW K r H wv v →
 (match f wo wi wv m with | none => False | some m' => ∀ r' H', Lt K r H r' H' → Sim K r' m' H' → Q H') → t o i v H Q
def HM (x : Option (R W)) (k : W → M → Option (Env × M)) : Option (Env × M) := match x with
 | some (.ok w m) => k w m
 | _ => ζ
def yd (f : F3) (o i : DE) : DG := fun w env m => HM (o env m) fun wo m1 => HM (i env m1) fun wi m2 => (f wo wi w m2).map fun m3 => (env, m3)
theorem tM {K : PySem.W.Frag} {d : DE} {kk : W → M → Option (Env × M)} {r : List Addr} {m : M} {env : Env} {σ : St} {H : Hp} {sl : List Nat} {σ0 : St} {Q : St → Hp → Prop} {Q1 : VK} (s : Sim K r m H) (e : EnvR K r H env σ) (h : PostG K r H sl σ0 (HM (d env m) kk) Q)
  (hk : ∀ w m1 r1 H1 v, Lt K r H r1 H1 → Sim K r1 m1 H1 → EnvR K r1 H1 env σ → RW K r1 H1 w v → PostG K r1 H1 sl σ0 (kk w m1) Q → Q1 v H1) : tE K Z d σ H Q1 := by
 refine ⟨r, m, env, s, e, ?_⟩
 cases hx : d env m with
 | none => rw [hx] at h; exact h
 | some y =>
  rw [hx] at h
  cases y with
  | ok w m1 => exact fun r1 H1 v l s1 q => hk w m1 r1 H1 v l s1 (e.mono l) q (PostG.base h l)
  | exc C dd m1 => exact h.elim
theorem yZ {o i : Expr} {d1 d2 : DE} {t : TSet} {f : F3} (_C : Ctx X Z k) (ho : SE X Z o d1) (hi : SE X Z i d2) (hs : PSet X t) (hf : KA X.K t f)
  (ha : ∀ v, assign (.Subscript o i pos) X.env v = (do
   let ov ← holding [v] (eval o X.env)
   let iv ← holding [v, ov] (eval i X.env)
   standAt pos
   holding [v, ov, iv] (setItem ov iv v)
   release [v, ov, iv] []) := by intro _; rfl) : SG X (.Subscript o i pos) [] (yd f d1 d2) :=
 PG.imp (pg_sub ho hi hs ha) fun v σ H Q ⟨r, m, env, w, s, e, q, h⟩ => by
  refine tM s e h fun wo m1 r1 H1 vo l1 s1 e1 q1 h1 => ?_
  refine tM s1 e1 h1 fun wi m2 r2 H2 vi l2 s2 e2 q2 h2 => ?_
  refine hf r2 m2 H2 vo vi v wo wi w _ s2 (q1.mono l2) q2 ((q.mono l1).mono l2) ?_
  cases hx : f wo wi w m2 with
  | none => rw [hx] at h2; exact h2
  | some m3 =>
   rw [hx] at h2
   exact fun r3 H3 l3 s3 => h2 r3 H3 σ l3 s3 (e2.mono l3) .refl
def HP (x : Option (Env × M)) : Option RS := match x with
 | none => ζ
 | some (env, m) => ξ (.fl .next env m)
theorem PostS.g {K : PySem.W.Frag} {r : List Addr} {H : Hp} {x : Option (Env × M)} {D : Ends} {sl : List Nat} {σ : St} (h : PostS K r H (HP x) D Z) : PostG K r H sl σ x D.nx := by
 cases x with
 | none => exact h
 | some y => exact fun r1 H1 σ1 l1 s1 e1 _ => h r1 H1 σ1 l1 s1 e1
def dU (a : DE) (g : DG) : DS := fun env m => bS (a env m) env fun w m1 => HP (g w env m1)
theorem EK {K : PySem.W.Frag} {sl : List Nat} {g : DG} {D : Ends} {σ : St} {H : Hp} (h : tS K Z (dU da g) D σ H) : tAsg (tE K Z da) (tG K sl g) D σ H := by
 obtain ⟨r, m, env, s, e, h⟩ := h
 exact tX.stepS s e h fun w m1 r1 H1 v l1 s1 e1 q1 h1 => ⟨r1, m1, env, w, s1, e1, q1, h1.g⟩
theorem yT {sl : List Nat} {g : DG} (he : SE X Z e da) (hg : SG X tg sl g) (hs : swapsWithSole [tg] e pos.line X.env = pure false := by rfl) (hw : swappedStores [tg] e X.env = pure ζ := by rfl)
  (h1 : (assignEach [tg] X.env).map (·.2) = [assign tg X.env] := by rfl) : SS X Z (.Assign [tg] e pos) (dU da g) := PS.imp (ps_asg he hg hs hw h1) fun _ _ _ h => EK h
theorem ck {i : Nat} {x : Str} {pos' : Pos} (hN : X.N.Nodup) (he : SE X Z e da) (hi : X.N[i]? = ξ x := by rfl) (hx : Loc X.env.scope x := by first | exact Or.inl rfl | exact Or.inr rfl) (hs : swapsWith e (ξ (.Name x pos')) pos.line X.env = pure false := by rfl)
  (hf : X.fn x = true ∨ X.env.scope.names.lookup x = ξ .local := by first | exact .inl rfl | exact .inr rfl | assumption) : SS X Z (.Assign [.Name x pos'] e pos) (dU da (bP i)) :=
 PS.imp (ps_set hN hi hx he hs hf) fun D σ H ⟨r, m, env, s, e, h⟩ => tX.stepS s e h fun w m1 r1 H1 v l1 s1 e1 q1 h1 => h1 r1 H1 _ .refl s1 (e1.set q1 i)
def sPar (i j : Nat) (as : DA) : DS := fun env m => bS (as env m) env fun ws m1 => match ws with
 | [x, y] => ξ (.fl .next ((env.set i (ξ x)).set j (ξ y)) m1)
 | _ => ζ
end
section
variable {X: Cx}{Z: WX}{rest: List Stmt}{a b e tg iter: Expr}{da: DE}{d u: DS}{pos: Pos}{k: Nat}
structure Wk where
 items : List W
 chk : M → Bool
abbrev DI := Env → M → Option (R Wk)
def JR (K : PySem.W.Frag) (r : List Addr) (H : Hp) (J : It) (k : Wk) : Prop := ∀ (i : Nat) (r' : List Addr) (m : M) (H' : Hp), Lp K r H r' H' → Sim K r' m H' → k.chk m = true →
 (k.items.length ≤ i → J.stop i H') ∧ ∀ w, k.items[i]? = ξ w → J.go i H' ∧ ∀ x H2, J.yld i H' x H2 → Lt K r' H' r' H2 ∧ Sim K r' m H2 ∧ RW K r' H2 w x
def tI (K : PySem.W.Frag) (Z : WX) (d : DI) : TI := fun σ H R => ∃ r m env, Sim K r m H ∧ EnvR K r H env σ ∧ match d env m with
 | none => False
 | some (.ok k m1) => ∀ r1 H1 J, Lt K r H r1 H1 → Sim K r1 m1 H1 → JR K r1 H1 J k → R J H1
 | some (.exc C dd m1) => ∀ r' H' dv, Lt K r H r' H' → Sim K r' m1 H' → XR r' dd dv → WE Z σ (.ref C) dv H'
abbrev SI (X : Cx) (Z : WX) (tg iter : Expr) (d : DI) : Prop := PI X tg iter (tI X.K Z d)
theorem PI.imp {X : Cx} {tg e : Expr} {t u : TI} (h : PI X tg e t) (i : ∀ σ H Q, u σ H Q → t σ H Q) : PI X tg e u := ⟨fun pins s σ H Q I q => h.run pins s σ H Q I (i σ H Q q)⟩
theorem tI.step {α β : Type} {K : PySem.W.Frag} {rel : Rel α β} {d : Env → M → Option (R α)} {kk : α → M → Option (R Wk)} {r : List Addr} {m : M} {env : Env} {σ : St} {H : Hp} {R : It → Hp → Prop} {Q1 : β → Hp → Prop} (s : Sim K r m H) (e : EnvR K r H env σ)
  (h : match bnd (d env m) kk with
   | none => False
   | some (.ok k m1) => ∀ r1 H1 J, Lt K r H r1 H1 → Sim K r1 m1 H1 → JR K r1 H1 J k → R J H1
   | some (.exc C dd m1) => ∀ r' H' dv, Lt K r H r' H' → Sim K r' m1 H' → XR r' dd dv → WE Z σ (.ref C) dv H')
  (hk : ∀ a m1 r1 H1 v, Lt K r H r1 H1 → Sim K r1 m1 H1 → EnvR K r1 H1 env σ → rel r1 H1 a v → (∀ k m2, kk a m1 = ξ (.ok k m2) → ∀ r2 H2 J, Lt K r1 H1 r2 H2 → Sim K r2 m2 H2 → JR K r2 H2 J k → R J H2) → (kk a m1).isSome = true → Q1 v H1)
  (hkk : ∀ a m1 C dd m2, kk a m1 ≠ ξ (.exc C dd m2) := by intros; rename_i h; revert h; simp) : tX K rel Z d σ H Q1 := by
 refine ⟨r, m, env, s, e, ?_⟩
 cases hx : d env m with
 | none => rw [hx] at h; exact h
 | some y =>
  rw [hx] at h
  cases y with
  | exc C dd m1 => exact fun r1 H1 dv l s1 q => h r1 H1 dv l s1 q
  | ok a m1 =>
   refine fun r1 H1 v l s1 q => hk a m1 r1 H1 v l s1 (e.mono l) q (fun k m2 hz r2 H2 J l2 s2 j => ?_) ?_
   ·simp only [vN, hz] at h
    exact h r2 H2 J (l.trans l2) s2 j
   ·simp only [vN] at h
    cases hy : kk a m1 with
    | none => rw [hy] at h; exact h.elim
    | some z => rfl
def dy (m : M) : W → Option (List W)
 | .ref n => match m[n]? with
  | some (.lst ws) => ξ ws
  | _ => ζ
 | .scr ns => ξ (ns.map W.int)
 | _ => ζ
mutual
def W.beq : W → W → Bool
 | .non, .non => true
 | .bl a, .bl b => a == b
 | .int a, .int b => a == b
 | .str a, .str b => a == b
 | .tup a, .tup b => W.beqs a b
 | .ref a, .ref b => a == b
 | .ob a, .ob b => a == b
 | .ty a, .ty b => a == b
 | .scr a, .scr b => a == b
 | .im j a, .im k b => decide (j = k) && W.beqs a b
 | _, _ => false
def W.beqs : List W → List W → Bool
 | [], [] => true
 | a :: as, b :: bs => W.beq a b && W.beqs as bs
 | _, _ => false
end
mutual
theorem W.beq_eq : ∀ {a b : W}, W.beq a b = true → a = b
 | .non, b, h => by cases b <;> first | rfl | exact absurd h (by simp [W.beq])
 | .bl x, b, h => by cases b <;> first | (simp [W.beq] at h; done) | (simp only [W.beq, beq_iff_eq] at h; rw [h])
 | .int x, b, h => by cases b <;> first | (simp [W.beq] at h; done) | (simp only [W.beq, beq_iff_eq] at h; rw [h])
 | .str x, b, h => by cases b <;> first | (simp [W.beq] at h; done) | (simp only [W.beq, beq_iff_eq] at h; rw [h])
 | .tup x, b, h => by
  cases b <;> first | (simp [W.beq] at h; done) | skip
  simp only [W.beq] at h
  rw [W.beqs_eq h]
 | .ref x, b, h => by cases b <;> first | (simp [W.beq] at h; done) | (simp only [W.beq, beq_iff_eq] at h; rw [h])
 | .ob x, b, h => by cases b <;> first | (simp [W.beq] at h; done) | (simp only [W.beq, beq_iff_eq] at h; rw [h])
 | .ty x, b, h => by cases b <;> first | (simp [W.beq] at h; done) | (simp only [W.beq, beq_iff_eq] at h; rw [h])
 | .scr x, b, h => by cases b <;> first | (simp [W.beq] at h; done) | (simp only [W.beq, beq_iff_eq] at h; rw [h])
 | .im k x, b, h => by
  cases b <;> first | (simp [W.beq] at h; done) | skip
  simp only [W.beq, Bool.and_eq_true, decide_eq_true_eq] at h
  rw [h.1, W.beqs_eq h.2]
theorem W.beqs_eq : ∀ {a b : List W}, W.beqs a b = true → a = b
 | [], b, h => by cases b <;> first | rfl | exact absurd h (by simp [W.beqs])
 | x :: a, b, h => by
  cases b with
  | nil => simp [W.beqs] at h
  | cons y b =>
   simp only [W.beqs, Bool.and_eq_true] at h
   rw [W.beq_eq h.1, W.beqs_eq h.2]
end
mutual
theorem W.beq_rfl : ∀ (a : W), W.beq a a = true
 | .non => rfl
 | .bl x => by simp [W.beq]
 | .int x => by simp [W.beq]
 | .str x => by simp [W.beq]
 | .tup x => by simp only [W.beq]; exact W.beqs_rfl x
 | .ref x => by simp [W.beq]
 | .ob x => by simp [W.beq]
 | .ty x => by simp [W.beq]
 | .scr x => by simp [W.beq]
 | .im k x => by simp only [W.beq, Bool.and_eq_true, decide_eq_true_eq]; exact ⟨trivial, W.beqs_rfl x⟩
theorem W.beqs_rfl : ∀ (a : List W), W.beqs a a = true
 | [] => rfl
 | x :: a => by simp only [W.beqs, Bool.and_eq_true]; exact ⟨W.beq_rfl x, W.beqs_rfl a⟩
end
def isLst (m : M) (w : W) (ws : List W) : Bool := match dy m w with
 | some xs => W.beqs xs ws
 | none => false
@[simp] theorem isLst_self {m : M} {w : W} {ws : List W} : isLst m w ws = true ↔ dy m w = ξ ws := by
  unfold isLst
  cases h : dy m w with
  | none => simp
  | some xs =>
    simp only [Option.some.injEq]
    exact ⟨fun q => W.beqs_eq q, fun q => by rw [q]; exact W.beqs_rfl ws⟩
theorem iK {K : PySem.W.Frag} {r : List Addr} {m : M} {H : Hp} {w : W} {ws : List W} {v : V} (s : Sim K r m H) (q : RW K r H w v) (h : dy m w = ξ ws) : ∃ a vs, v = .ref a ∧ SqL K H a vs ∧ RWs K r H ws vs := by
 cases w <;> first | (cases h; done) | skip
 ·rename_i n
  obtain ⟨a, e, rfl⟩ := q
  unfold dy at h
  simp only at h
  split at h
  ·rename_i xs hx
   cases h
   obtain ⟨a', u, e1, e2, vs, rfl, e3⟩ := s.at_ n _ hx
   rw [e] at e1
   cases e1
   exact ⟨a, vs, rfl, SqL.of e2, e3⟩
  ·cases h
 ·obtain ⟨a, rfl, f⟩ := q
  cases h
  exact ⟨a, _, rfl, f.sql, .ints⟩
def FT (a : DE) : DI := fun env m => bnd (a env m) fun w m1 => match dy m1 w with
 | some ws => ξ (.ok ⟨ws, fun m => isLst m w ws⟩ m1)
 | none => ζ
theorem Cu {K : PySem.W.Frag} {r : List Addr} {H : Hp} {w : W} {ws : List W} {a : Addr} (q : RW K r H w (.ref a)) : JR K r H (Itl K a) ⟨ws, fun m => isLst m w ws⟩ := by
 intro i r' m H' l s hc
 obtain ⟨a', vs, e, hs, rs⟩ := iK s (q.le l.le) (isLst_self.mp hc)
 cases e
 refine ⟨fun hi => ⟨vs, hs, by rw [← rs.len]; exact hi⟩, fun w' hw => ?_⟩
 obtain ⟨v, hv, rv⟩ := rs.get hw
 refine ⟨⟨vs, v, hs, hv⟩, fun x H2 ⟨e2, f⟩ => ?_⟩
 subst e2
 have e3 := f vs hs
 rw [hv] at e3
 cases e3
 exact ⟨.refl, s, rv⟩
theorem Bz (ha : SE X Z a da) : SI X Z tg a (FT da) := PI.imp (pi_list ha) fun σ H R ⟨r, m, env, s, e, h⟩ => by
 refine tI.step s e h (fun w m1 r1 H1 v l1 s1 e1 q1 h1 hS => ?_) (by intro w m1 C dd m2; split <;> simp)
 cases hx : dy m1 w with
 | none => simp [hx] at hS
 | some ws =>
  obtain ⟨a, vs, rfl, hs, rs⟩ := iK s1 q1 hx
  exact ⟨a, rfl, ⟨vs, hs⟩, h1 _ _ (by rw [hx]) r1 H1 _ .refl s1 (Cu q1)⟩
def Aj (a : DE) : DI := fun env m => bnd (a env m) fun w m1 => match w with
 | .tup ws => ξ (.ok ⟨ws, fun _ => true⟩ m1)
 | .im (.tpl _) ws => ξ (.ok ⟨ws, fun _ => true⟩ m1)
 | _ => ζ
theorem zW {K : PySem.W.Frag} {r : List Addr} {H : Hp} {ws : List W} {vs : List V} {a : Addr} (ht : Rd H a (.tup vs)) (q : RWs K r H ws vs) : JR K r H (Itt K a) ⟨ws, fun _ => true⟩ := by
 intro i r' m H' l s hc
 have ht' : SqT K H' a vs := .inl (ht.elim (fun h => .inl (l.lat.tup _ _ h)) fun ⟨o, h⟩ => .inr ⟨o, l.lat.lk _ _ _ h⟩)
 have rs := q.le l.le
 refine ⟨fun hi => ⟨vs, ht', by rw [← rs.len]; exact hi⟩, fun w' hw => ?_⟩
 obtain ⟨v, hv, rv⟩ := rs.get hw
 refine ⟨⟨vs, v, ht', hv⟩, fun x H2 ⟨e2, f⟩ => ?_⟩
 subst e2
 have e3 := f vs ht'
 rw [hv] at e3
 cases e3
 exact ⟨.refl, s, rv⟩
theorem Ex (ha : SE X Z a da) : SI X Z tg a (Aj da) := PI.imp (pi_tup ha) fun σ H R ⟨r, m, env, s, e, h⟩ => by
 refine tI.step s e h (fun w m1 r1 H1 v l1 s1 e1 q1 h1 hS => ?_) (by intro w m1 C dd m2; split <;> simp)
 cases w <;> first | (simp at hS; done) | skip
 ·obtain ⟨a, vs, rfl, ht, rs⟩ := q1
  exact ⟨a, rfl, ⟨vs, SqT.of ht⟩, h1 _ _ rfl r1 H1 _ .refl s1 (zW (.inl ht) rs)⟩
 ·rename_i k us
  cases k with
  | exc C fs => simp at hS
  | tpl nd =>
   obtain ⟨a, vs, rfl, hi, rs⟩ := q1
   have ht := hi.rd
   exact ⟨a, rfl, ⟨vs, .inl ht⟩, h1 _ _ rfl r1 H1 _ .refl s1 (zW ht rs)⟩
def sm (N : Nat) (i : Int) : Bool := Nat.ble i.natAbs N
theorem sR {N : Nat} {i : Int} (h : sm N i = true) : i.natAbs ≤ N := Nat.le_of_ble_eq_true h
theorem j8 {N : Nat} {i : Int} (h : i.natAbs ≤ N) : sm N i = true := Nat.ble_eq_true_of_le h
theorem Js {j : Int} (h : sm 1000000000000 j = true) : -(2 ^ 62) ≤ j ∧ j < 2 ^ 62 := by
 have := sR h
 omega
def rng (lo : Int) (n : Nat) : List W := (List.range n).map fun (i : Nat) => W.int (lo + i)
theorem FH {K : PySem.W.Frag} {r : List Addr} {H : Hp} {lo : Int} {n : Nat} : JR K r H (Itr lo n) ⟨rng lo n, fun _ => true⟩ := by
 intro i r' m H' l s hc
 have hl : (rng lo n).length = n := by unfold rng; simp
 refine ⟨fun hi => (show n ≤ i from by rw [← hl]; exact hi), fun w' hw => ?_⟩
 have hi : i < n := by rw [← hl]; exact (List.getElem?_eq_some_iff.mp hw).1
 refine ⟨hi, fun x H2 ⟨e2, f⟩ => ?_⟩
 subst e2
 subst f
 have e3 : w' = .int (lo + i) := by
  unfold rng at hw
  rw [List.getElem?_map, List.getElem?_range hi] at hw
  exact (Option.some.inj hw).symm
 subst e3
 exact ⟨.refl, s, rfl⟩
def oL (as : DA) : DI := fun env m => bnd (as env m) fun ws m1 => match ws with
 | [.int j] => if sm 1000000000000 j = true then ξ (.ok ⟨rng 0 j.toNat, fun _ => true⟩ m1) else ζ
 | _ => ζ
theorem lR {das : DA} {p : Pos} (hg : Gl X "range") (hm : X.mg "range" = ζ) (ha : SA X Z [a] das) (hs : starEach [a] X.env = [(false, eval a X.env)] := by rfl) : SI X Z tg (.Call (.Name "range" p) [a] [] pos) (oL das) := PI.imp (pi_range1 hg hm ha hs) fun σ H R ⟨r, m, env, s, e, h⟩ => by
 refine tI.step s e h (fun ws m1 r1 H1 vs l1 s1 e1 q1 h1 hS => ?_) (by intro w m1 C dd m2; split <;> (try split) <;> simp)
 split at hS
 ·rename_i j
  obtain ⟨v, rest, rfl, q2, q3⟩ := q1
  cases q3
  cases q2
  split at hS
  ·rename_i hj
   exact ⟨j, rfl, (Js hj).1, (Js hj).2, h1 _ _ (if_pos hj) r1 H1 _ .refl s1 FH⟩
  ·simp at hS
 ·simp at hS
def gX (chk : M → Bool) (g : DG) (body : DS) : List W → Env → M → Option RS
  | [], env, m => if chk m = true then ξ (.fl .next env m) else ζ
  | w :: ws, env, m => if chk m = true then match g w env m with
      | none => ζ
      | some (env1, m1) => match body env1 m1 with
        | some (.fl .next env2 m2) => gX chk g body ws env2 m2
        | some (.fl .cont env2 m2) => gX chk g body ws env2 m2
        | some (.fl .brk env2 m2) => ξ (.fl .next env2 m2)
        | x => x
    else ζ
def sY (di : DI) (g : DG) (body : DS) : DS := fun env m => bS (di env m) env fun k m1 => gX k.chk g body k.items env m1
theorem nZ {di : DI} {sl : List Nat} {g : DG} {body : List Stmt} (C : Ctx X Z k) (hi : SI X Z tg iter di) (hg : SG X tg sl g) (hb : Dm X Z body d) (hs : ∀ x, foldedSetIterable iter X.env x = pure x := by intro _; rfl) : SS X Z (.For tg iter body [] pos) (sY di g d) :=
  PS.imp (ps_for C.own C.calm hi hg hb hs) fun D σ H ⟨r, m, env, s, e, h⟩ => by
    unfold sY at h
    refine ⟨r, m, env, s, e, ?_⟩
    cases hx : di env m with
    | none => rw [hx] at h; exact h
    | some y =>
      rw [hx] at h
      cases y with
      | exc C dd m1 => exact fun r1 H1 dv l s1 q => h r1 H1 σ dv l s1 (e.mono l) q
      | ok kk m1 =>
        intro r1 H1 J l1 s1 j
        simp only [Kt] at h
        refine ⟨fun i n σ' H' => i + n = kk.items.length ∧ ∃ r2 m2 env2, Lt X.K r1 H1 r2 H' ∧ Sim X.K r2 m2 H' ∧ EnvR X.K r2 H' env2 σ' ∧ PostS X.K r2 H' (gX kk.chk g d (kk.items.drop i) env2 m2) D Z,
          ⟨kk.items.length, by omega, r1, m1, env, .refl, s1, e.mono l1, PostS.base h l1⟩, ?_⟩
        rintro i n σ' H' ⟨hn, r2, m2, env2, l2, s2, e2, h2⟩
        cases hd : kk.items.drop i with
        | nil =>
          have hi' : kk.items.length ≤ i := List.drop_eq_nil_iff.mp hd
          rw [hd] at h2
          unfold gX at h2
          by_cases hc : kk.chk m2 = true
          · rw [if_pos hc] at h2
            exact .inl ⟨(j i r2 m2 H' l2.lp s2 hc).1 hi', h2 r2 H' σ' .refl s2 e2⟩
          · rw [if_neg hc] at h2
            exact h2.elim
        | cons w ws =>
          have hw : kk.items[i]? = ξ w := by
            have := congrArg List.head? hd
            rw [List.head?_drop] at this
            exact this
          have hlt : i < kk.items.length := (List.getElem?_eq_some_iff.mp hw).1
          have hws : kk.items.drop (i + 1) = ws := by
            rw [← List.tail_drop, hd]
            rfl
          rw [hd] at h2
          unfold gX at h2
          by_cases hc : kk.chk m2 = true
          · rw [if_pos hc] at h2
            obtain ⟨g1, y1⟩ := (j i r2 m2 H' l2.lp s2 hc).2 w hw
            refine .inr ⟨g1, fun σ3 H3 => ∃ r3 m3 env3, Lt X.K r1 H1 r3 H3 ∧ Sim X.K r3 m3 H3 ∧ EnvR X.K r3 H3 env3 σ3 ∧ PostS X.K r3 H3 (gX kk.chk g d ws env3 m3) D Z, fun σ3 H3 q3 => ⟨n - 1, by omega, by omega, by rw [hws]; exact q3⟩, fun x H3 yx => ?_⟩
            obtain ⟨l3, s3, q3⟩ := y1 x H3 yx
            refine ⟨r2, m2, env2, w, s3, e2.mono l3, q3, ?_⟩
            cases hg' : g w env2 m2 with
            | none => rw [hg'] at h2; exact h2
            | some y =>
              obtain ⟨env4, m4⟩ := y
              rw [hg'] at h2
              simp only at h2
              intro r4 H4 σ4 l4 s4 e4 o4
              refine ⟨r4, m4, env4, s4, e4, ?_⟩
              have lb : Lt X.K r2 H' r4 H4 := l3.trans l4
              cases hb' : d env4 m4 with
              | none => rw [hb'] at h2; exact h2
              | some z =>
                rw [hb'] at h2
                cases z with
                | exc C dd en m5 => exact PostS.base h2 lb
                | fl f en m5 =>
                  cases f with
                  | next => exact fun r5 H5 σ5 l5 s5 e5 => ⟨r5, m5, en, (l2.trans lb).trans l5, s5, e5, PostS.base h2 (lb.trans l5)⟩
                  | cont => exact fun r5 H5 σ5 l5 s5 e5 => ⟨r5, m5, en, (l2.trans lb).trans l5, s5, e5, PostS.base h2 (lb.trans l5)⟩
                  | brk => exact fun r5 H5 σ5 l5 s5 e5 => h2 r5 H5 σ5 (lb.trans l5) s5 e5
                  | ret w => exact fun r5 H5 σ5 l5 s5 e5 => h2 r5 H5 σ5 (lb.trans l5) s5 e5
          · rw [if_neg hc] at h2
            exact h2.elim
end
def gk (env : Env) : List Nat → Env
 | [] => env
 | v :: vs => (gk env vs).set v ζ
def Z0 : WX := fun _ _ _ _ => False
section
variable {K: PySem.W.Frag}{r: List Addr}{H: Hp}
theorem EnvR.unset {env : Env} {σ : St} (h : EnvR K r H env σ) (i : Nat) : EnvR K r H (env.set i ζ) (σ.set i ζ) := ⟨by rw [List.length_set, List.length_set]; exact h.1, fun j x e => by
 rw [List.getElem?_set] at e ⊢
 by_cases hij : i = j
 ·subst hij
  rw [if_pos rfl] at e
  split at e <;> cases e
 ·rw [if_neg hij] at e ⊢
  exact h.2 j x e⟩
theorem EnvR.wipe {env : Env} {σ : St} (h : EnvR K r H env σ) : ∀ vs : List Nat, EnvR K r H (gk env vs) (L2.wipe σ vs)
 | [] => h
 | v :: vs => (EnvR.wipe h vs).unset v
theorem nR {σ : St} {i : Nat} : ∀ {vs : List Nat}, (L2.wipe σ vs)[i]? = if i ∈ vs then (σ[i]?).map (fun _ => ζ) else σ[i]?
 | [] => by simp [L2.wipe]
 | v :: vs => by
  unfold L2.wipe
  rw [List.getElem?_set, wipe_length]
  by_cases hv : v = i
  ·subst hv
   rw [if_pos rfl]
   by_cases hl : v < σ.length
   ·rw [if_pos hl, if_pos (by simp), List.getElem?_eq_getElem hl]
    rfl
   ·rw [if_neg hl, if_pos (by simp), List.getElem?_eq_none (by omega)]
    rfl
  ·rw [if_neg hv, nR]
   have hq : (i ∈ v :: vs) ↔ i ∈ vs := by
    rw [List.mem_cons]
    exact ⟨fun z => z.elim (fun y => absurd y.symm hv) id, .inr⟩
   by_cases hi : i ∈ vs
   ·rw [if_pos hi, if_pos (hq.mpr hi)]
   ·rw [if_neg hi, if_neg fun z => hi (hq.mp z)]
theorem Out.wiped {sl vs : List Nat} {σ σ' : St} (o : Out sl (L2.wipe σ vs) σ') (hs : ∀ i ∈ sl, i ∈ vs) : L2.wipe σ' vs = L2.wipe σ vs := by
 apply List.ext_getElem?
 intro i
 rw [nR]
 by_cases hi : i ∈ vs
 ·rw [if_pos hi, nR, if_pos hi]
  have hl : σ'.length = σ.length := by rw [o.1, wipe_length]
  by_cases h : i < σ.length
  ·rw [List.getElem?_eq_getElem h, List.getElem?_eq_getElem (by omega)]
   rfl
  ·rw [List.getElem?_eq_none (by omega), List.getElem?_eq_none (by omega)]
 ·rw [if_neg hi]
  exact o.2 i fun z => hi (hs i z)
theorem jT {p : Addr} {acc : List V} {u : HO} (h : H p = ξ (.lst acc)) : Later K H (upd H p u) := by
 refine ⟨fun a vs q => ?_, fun a vs q => ?_, fun a ob u' q => by rw [upd_ne (ne_of q h fun e => by cases e)]; exact q, fun p' _ t => pe t (fun x e => by rw [h] at e; cases e; exact ⟨fun _ z => (by cases z), fun _ _ z => (by cases z)⟩), fun a ps q => ⟨ps, by rw [upd_ne (ne_of q h fun e => by cases e)]; exact q⟩, fun c q e => by rw [upd_ne (ne_of e h fun z => by cases z)]; exact e⟩
 ·rw [upd_ne (ne_of q h fun e => by cases e)]
  exact q
 ·rcases q with ⟨o, q⟩ | q
  ·exact .inl ⟨o, by rw [upd_ne (ne_of q h fun e => by cases e)]; exact q⟩
  ·exact .inr q
theorem vt {p : Addr} {acc : List V} {u : HO} (h : H p = ξ (.lst acc)) : Le K r H r (upd H p u) := ⟨List.prefix_rfl, (jT h).l0⟩
theorem Lt.hid {r' : List Addr} {H' : Hp} {p : Addr} {acc : List V} {u : HO} (l : Lt K r H r' H') (n : H p = ζ) (h : H' p = ξ (.lst acc)) : Lt K r H r' (upd H' p u) := ⟨l.pre, l.lat.trans (jT h), fun a x e q nt => by
 have hb : a ≠ p := ne_of_none e n
 rw [upd_ne hb]
 exact l.kept a x e q nt, l.fresh⟩
theorem Sim.hid {m : M} {p : Addr} {acc : List V} {u : HO} (s : Sim K r m H) (n : p ∉ r) (h : H p = ξ (.lst acc)) : Sim K r m (upd H p u) := ⟨s.len, s.nd, fun k o e => by
 obtain ⟨a, u', e1, e2, e3⟩ := s.at_ k o e
 have hb : a ≠ p := fun z => n (by rw [← z]; exact List.mem_of_getElem? e1)
 exact ⟨a, u', e1, by rw [upd_ne hb]; exact e2, e3.le (vt h)⟩, fun p hp => (jT (K := K) h).tb _ hp (s.tb p hp), fun p hp => (s.past p hp).trans ⟨List.prefix_rfl, jT h⟩⟩
theorem Sim.notin {m : M} {p : Addr} (s : Sim K r m H) (h : H p = ζ) : p ∉ r := fun z => by
 obtain ⟨n, hn⟩ := List.getElem?_of_mem z
 have hl : n < m.length := by rw [← s.len]; exact (List.getElem?_eq_some_iff.mp hn).1
 obtain ⟨a', u', e1, e2, _⟩ := s.at_ n _ (List.getElem?_eq_getElem hl)
 rw [hn] at e1
 cases e1
 rw [h] at e2
 cases e2
theorem Sim.show {m : M} {p : Addr} {ws : List W} {acc : List V} (s : Sim K r m H) (n : p ∉ r) (h : H p = ξ (.lst acc)) (q : RWs K r H ws acc) : Sim K (r ++ [p]) (m ++ [.lst ws]) H := by
  have le : Le K r H (r ++ [p]) H := ⟨List.prefix_append _ _, Later.refl.l0⟩
  refine ⟨by simp [s.len], ?_, fun k o e => ?_, s.tb, fun p hp => (s.past p hp).trans ⟨List.prefix_append _ _, .refl⟩⟩
  · rw [List.nodup_append]
    refine ⟨s.nd, by simp, fun a ha b hb e => ?_⟩
    simp at hb
    subst hb
    subst e
    exact n ha
  · by_cases hk : k < m.length
    · rw [List.getElem?_append_left hk] at e
      obtain ⟨a, u', e1, e2, e3⟩ := s.at_ k o e
      exact ⟨a, u', nC le.pre e1, e2, e3.le le⟩
    · have hn' : k = m.length := by
        have := (List.getElem?_eq_some_iff.mp e).1
        simp at this
        omega
      subst hn'
      simp at e
      subst e
      exact ⟨p, _, by rw [← s.len]; simp, h, acc, rfl, q.le le⟩
end
def gE (chk : M → Bool) (g : DG) (tt : DT) (elt : DE) (env : Env) : List W → M → Option (List W × M)
  | [], m => if chk m = true then ξ ([], m) else ζ
  | w :: ws, m => if chk m = true then match g w env m with
      | none => ζ
      | some (env1, m1) => match tt env1 m1 with
        | some (.ok true m2) => match elt env1 m2 with
          | some (.ok y m3) => match gE chk g tt elt env ws m3 with
            | some (ys, m4) => ξ (y :: ys, m4)
            | none => ζ
          | _ => ζ
        | some (.ok false m2) => gE chk g tt elt env ws m2
        | _ => ζ
    else ζ
def C3 (di : DI) (g : DG) (tt : DT) (elt : DE) (vs : List Nat) : DE := fun env m => bnd (di env m) fun k m1 => if k.items.length ≤ sizeLine then match gE k.chk g tt elt (gk env vs) k.items m1 with
  | some (ys, m2) => ξ (.ok (.ref m2.length) (m2 ++ [.lst ys]))
  | none => ζ
 else ζ
def vY : DT := fun _ m => ξ (.ok true m)
section
variable {X: Cx}{Z: WX}{tg iter elt: Expr}{ifs: List Expr}{pos: Pos}{K: PySem.W.Frag}
theorem DB {di : DI} {sl vs : List Nat} {g : DG} {tt : DT} {de : DE} (hsl : ∀ i ∈ sl, i ∈ vs) {σ : St} {H : Hp} {Q : VK} (h : tE K Z (C3 di g tt de vs) σ H Q) : tLc (tI K Z di) (tG K sl g) (tT K Z0 tt) (tE K Z0 de) vs σ H Q := by
  obtain ⟨r, m, env, s, e, h⟩ := h
  unfold C3 at h
  refine ⟨r, m, env, s, e, ?_⟩
  cases hx : di env m with
  | none => rw [hx] at h; exact h
  | some y =>
    rw [hx] at h
    cases y with
    | exc C dd m1 => exact fun r1 H1 dv l s1 q => h r1 H1 dv l s1 q
    | ok kk m1 =>
      intro r1 H1 J l1 s1 j D hD
      simp only [vN] at h
      by_cases hz : kk.items.length ≤ sizeLine
      case neg => rw [if_neg hz] at h; exact h.elim
      rw [if_pos hz] at h
      have e1 := (e.mono l1).wipe vs
      have hn1 := s1.notin hD
      -- what is wanted at the end, from any state
      let Fin : List Addr → Hp → List W → Option (List W × M) → Prop := fun r' H' accW x => match x with
        | none => False
        | some (ys, m2) => ∀ r2 H2 acc, Lt K r1 H1 r2 H2 → Sim K r2 m2 H2 → D ∉ r2 → H2 D = ξ (.lst acc) → RWs K r2 H2 (accW ++ ys) acc → Q (.ref D) H2
      have fin0 : Fin r1 H1 [] (gE kk.chk g tt de (gk env vs) kk.items m1) := by
        show match gE kk.chk g tt de (gk env vs) kk.items m1 with
          | none => False
          | some (ys, m2) => _
        cases hy : gE kk.chk g tt de (gk env vs) kk.items m1 with
        | none => rw [hy] at h; exact h
        | some y =>
          obtain ⟨ys, m2⟩ := y
          rw [hy] at h
          intro r2 H2 acc l2 s2 n2 hd2 q2
          rw [List.nil_append] at q2
          refine h (r2 ++ [D]) H2 (.ref D) (l1.trans ⟨l2.pre.trans (List.prefix_append _ _), l2.lat, l2.kept, fun a ha hna => ?_⟩) (s2.show n2 hd2 q2) ⟨D, by rw [← s2.len]; simp, rfl⟩
          rcases List.mem_append.mp ha with z | z
          · exact l2.fresh a z hna
          · simp at z
            rw [z]
            exact hD
      refine ⟨fun i n H' => i + n = kk.items.length ∧ ∃ r2 m2 accW acc, Lt K r1 H1 r2 H' ∧ Sim K r2 m2 H' ∧ D ∉ r2 ∧ H' D = ξ (.lst acc) ∧ RWs K r2 H' accW acc ∧ accW.length ≤ i ∧ EnvR K r2 H' (gk env vs) (L2.wipe σ vs) ∧ Fin r2 H' accW (gE kk.chk g tt de (gk env vs) (kk.items.drop i) m2),
        ⟨kk.items.length, by omega, r1, m1, [], [], dH hD, s1.aside hD, hn1, upd_same, rfl, Nat.le_refl _, e1.mono (dH hD), fin0⟩, ?_⟩
      rintro i n H' ⟨hn, r2, m2, accW, acc, l2, s2, n2, hd2, q2, ha2, e2, h2⟩
      cases hd : kk.items.drop i with
      | nil =>
        have hi' : kk.items.length ≤ i := List.drop_eq_nil_iff.mp hd
        rw [hd] at h2
        unfold gE at h2
        by_cases hc : kk.chk m2 = true
        · rw [if_pos hc] at h2
          exact .inl ⟨(j i r2 m2 H' l2.lp s2 hc).1 hi', h2 r2 H' acc l2 s2 n2 hd2 (by rw [List.append_nil]; exact q2)⟩
        · rw [if_neg hc] at h2
          exact h2.elim
      | cons w ws =>
        have hw : kk.items[i]? = ξ w := by
          have := congrArg List.head? hd
          rw [List.head?_drop] at this
          exact this
        have hlt : i < kk.items.length := (List.getElem?_eq_some_iff.mp hw).1
        have hws : kk.items.drop (i + 1) = ws := by
          rw [← List.tail_drop, hd]
          rfl
        rw [hd] at h2
        unfold gE at h2
        by_cases hc : kk.chk m2 = true
        case neg => rw [if_neg hc] at h2; exact h2.elim
        rw [if_pos hc] at h2
        obtain ⟨g1, y1⟩ := (j i r2 m2 H' l2.lp s2 hc).2 w hw
        refine .inr ⟨g1, fun H3 => ∃ r3 m3 accW3 acc3, Lt K r1 H1 r3 H3 ∧ Sim K r3 m3 H3 ∧ D ∉ r3 ∧ H3 D = ξ (.lst acc3) ∧ RWs K r3 H3 accW3 acc3 ∧ accW3.length ≤ i + 1 ∧ EnvR K r3 H3 (gk env vs) (L2.wipe σ vs) ∧ Fin r3 H3 accW3 (gE kk.chk g tt de (gk env vs) ws m3),
          fun H3 q3 => ⟨n - 1, by omega, by omega, by rw [hws]; exact q3⟩, fun x H3 yx => ?_⟩
        obtain ⟨l3, s3, q3⟩ := y1 x H3 yx
        refine ⟨r2, m2, gk env vs, w, s3, e2.mono l3, q3, ?_⟩
        cases hg' : g w (gk env vs) m2 with
        | none => rw [hg'] at h2; exact h2
        | some y =>
          obtain ⟨env4, m4⟩ := y
          rw [hg'] at h2
          simp only at h2
          intro r4 H4 σ4 l4 s4 e4 o4
          refine ⟨o4.wiped hsl, r4, m4, env4, s4, e4, ?_⟩
          have lb : Lt K r2 H' r4 H4 := l3.trans l4
          cases ht' : tt env4 m4 with
          | none => rw [ht'] at h2; exact h2
          | some z =>
            rw [ht'] at h2
            cases z with
            | exc C dd m5 => exact h2.elim
            | ok bb m5 =>
              intro r5 H5 b5 l5 s5 eb
              subst eb
              have lc : Lt K r2 H' r5 H5 := lb.trans l5
              cases bb with
              | false =>
                refine iteF ⟨r5, m5, accW, acc, l2.trans lc, s5, fun z => ?_, lc.kept D _ hd2 n2 (by intro _ z; cases z), q2.mono lc, by omega, e2.mono lc, h2⟩
                have := lc.fresh D z n2
                rw [hd2] at this
                cases this
              | true =>
                refine iteT ⟨r5, m5, env4, s5, e4.mono l5, ?_⟩
                simp only at h2
                cases he' : de env4 m5 with
                | none => rw [he'] at h2; exact h2
                | some z =>
                  rw [he'] at h2
                  cases z with
                  | exc C dd m6 => exact h2.elim
                  | ok yw m6 =>
                    intro r6 H6 yv l6 s6 q6
                    have ld : Lt K r2 H' r6 H6 := lc.trans l6
                    have hd6 : H6 D = ξ (.lst acc) := ld.kept D _ hd2 n2 (by intro _ z; cases z)
                    have n6 : D ∉ r6 := fun z => by
                      have := ld.fresh D z n2
                      rw [hd2] at this
                      cases this
                    have qq : RWs K r6 H6 (accW ++ [yw]) (acc ++ [yv]) := (q2.mono ld).append (.one q6)
                    refine ⟨acc, hd6, ?_, r6, m6, accW ++ [yw], acc ++ [yv], (l2.trans ld).hid hD hd6, s6.hid n6 hd6, n6, upd_same, qq.le (vt hd6), by simp; omega, (e2.mono ld).le (vt hd6), ?_⟩
                    · rw [← q2.len]
                      omega
                    · simp only at h2
                      show match gE kk.chk g tt de (gk env vs) ws m6 with
                        | none => False
                        | some (ys, m2) => _
                      cases hr : gE kk.chk g tt de (gk env vs) ws m6 with
                      | none => rw [hr] at h2; exact h2
                      | some y =>
                        obtain ⟨ys, m7⟩ := y
                        rw [hr] at h2
                        intro r7 H7 acc7 l7 s7 n7 hd7 q7
                        exact h2 r7 H7 acc7 l7 s7 n7 hd7 (by rw [List.append_assoc] at q7; exact q7)
abbrev STs (X : Cx) (ifs : List Expr) (d : DT) : Prop := PTs X ifs (tT X.K Z0 d)
theorem v7 : STs X [] vY := ⟨fun pins s σ H Q I ⟨r, m, env, s', e, h⟩ => pts_nil.run pins s σ H Q I (h.done s' rfl)⟩
theorem Jk {di : DI} {sl : List Nat} {g : DG} {tt : DT} {de : DE} {scope : Scope} {own : List (Str × Nat)} (hc : X.calm = true) (hN : X.N.Nodup) (hi : SI X Z tg iter di) (ok : BlkOk X.N X.env.scope scope own)
  (hg : ∀ (s : Shared) (H : Hp) (C : Addr) (cl : List (Str × Addr)) (fp : List Addr), SG (X.blk s H scope (compEnvC scope cl C X.env) fp) tg sl g) (ht : ∀ (s : Shared) (H : Hp) (C : Addr) (cl : List (Str × Addr)) (fp : List Addr), STs (X.blk s H scope (compEnvC scope cl C X.env) fp) ifs tt)
  (he : ∀ (s : Shared) (H : Hp) (C : Addr) (cl : List (Str × Addr)) (fp : List Addr), SE (X.blk s H scope (compEnvC scope cl C X.env) fp) Z0 elt de) (hsl : ∀ i ∈ sl, i ∈ own.map (·.2) := by decide) (hs : ∀ x, foldedSetIterable iter X.env x = pure x := by intro _; rfl) :
  SE X Z (.ListComp elt [⟨tg, iter, ifs, 0⟩] scope pos) (C3 di g tt de (own.map (·.2))) := PE.imp (pe_lc hc hN hi ok hg ht he hs) fun _ _ _ h => DB hsl h
theorem yS {i : Nat} {y : Str} {py spos : Pos} {di : DI} {sl : List Nat} {g : DG} {tt : DT} {de : DE} {scope : Scope} {own : List (Str × Nat)} (hc : X.calm = true) (hN : X.N.Nodup)
  (hsw : swapsWith (.ListComp elt [⟨tg, iter, ifs, 0⟩] scope pos) (ξ (.Name y py)) spos.line X.env = pure true) (hi : SI X Z tg iter di) (ok : BlkOk X.N X.env.scope scope own)
  (hg : ∀ (s : Shared) (H : Hp) (C : Addr) (cl : List (Str × Addr)) (fp : List Addr), SG (X.blk s H scope (compEnvC scope cl C X.env) fp) tg sl g) (ht : ∀ (s : Shared) (H : Hp) (C : Addr) (cl : List (Str × Addr)) (fp : List Addr), STs (X.blk s H scope (compEnvC scope cl C X.env) fp) ifs tt)
  (he : ∀ (s : Shared) (H : Hp) (C : Addr) (cl : List (Str × Addr)) (fp : List Addr), SE (X.blk s H scope (compEnvC scope cl C X.env) fp) Z0 elt de) (hy : X.N[i]? = ξ y := by rfl) (hyl : X.env.scope.names.lookup y = ξ .local := by rfl) (hsl : ∀ i ∈ sl, i ∈ own.map (·.2) := by decide) (hs : ∀ x, foldedSetIterable iter X.env x = pure x := by intro _; rfl) :
  SS X Z (.Assign [.Name y py] (.ListComp elt [⟨tg, iter, ifs, 0⟩] scope pos) spos) (dU (C3 di g tt de (own.map (·.2))) (bP i)) := by
 have base := ps_setLc (wi := tI X.K Z di) (g := tG X.K sl g) (tt := tT X.K Z0 tt) (te := tE X.K Z0 de) hc hN hy hyl hsw hi ok hg ht he hs
 refine PS.imp base fun D σ H ⟨r, m, env, s, e, h⟩ => ?_
 have h' : PostS X.K r H (bS (C3 di g tt de (own.map (·.2)) env m) env fun w m1 => HP (bP i w env m1)) D Z := h
 have := tX.stepS (d := C3 di g tt de (own.map (·.2))) (rel := gU X.K) (Q1 := fun x H1 => gName i x σ H1 D.nx) s e h' fun w m1 r1 H1 v l1 s1 e1 q1 h1 => h1 r1 H1 _ .refl s1 (e1.set q1 i)
 exact DB hsl this
end
end SB
end
section
namespace SB
open PySem L2
open PyProof.Rows (envOfC)
variable [Tabs][Past]
abbrev DF := List W → M → Option (R W)
def spD (K : PySem.W.Frag) (D : DF) : Sp := fun vs H Q E => ∃ r m ws, Sim K r m H ∧ RWs K r H ws vs ∧ Post K (gU K) r H (D ws m) Q E
def Kg (x : Option RS) : Option (R W) := match x with
 | some (.fl .next _ m) => ξ (.ok .non m)
 | some (.fl (.ret w) _ m) => ξ (.ok w m)
 | some (.exc C d _ m) => ξ (.exc C d m)
 | _ => ζ
def ju (np n : Nat) (b : DS) : DF := fun ws m => if ws.length = np then Kg (b (ws.map ξ ++ List.replicate (n - np) ζ) m) else ζ
theorem EnvR.start {K : PySem.W.Frag} {r : List Addr} {H : Hp} {ws : List W} {vs : List V} {N : List Str} (q : RWs K r H ws vs) : EnvR K r H (ws.map ξ ++ List.replicate (N.length - ws.length) ζ) (L2.start N vs) := by
 unfold L2.start
 refine ⟨by simp [q.len], fun i w e => ?_⟩
 by_cases hi : i < ws.length
 ·rw [List.getElem?_append_left (by simpa using hi), List.getElem?_map] at e
  cases hw : ws[i]? with
  | none => rw [hw] at e; cases e
  | some x =>
   rw [hw] at e
   cases e
   obtain ⟨v, hv, rv⟩ := q.get hw
   refine ⟨v, ?_, rv⟩
   rw [List.getElem?_append_left (by rw [List.length_map, ← q.len]; exact hi), List.getElem?_map, hv]
   rfl
 ·rw [List.getElem?_append_right (by simpa using hi), List.getElem?_replicate] at e
  split at e <;> cases e
structure RoomG (k : Nat) (A : Around) : Prop where
 rm : Room k A
 gd : Tabs.g = true → A.guards = ξ []
theorem RoomG.deeper {k : Nat} {A : Around} (r : RoomG (k + 1) A) (env : PySem.Env) : RoomG k (A.deeper env) := ⟨r.rm.deeper env, r.gd⟩
theorem RoomG.make {k : Nat} {A : Around} (r : RoomG (k + 1) A) (C : Addr) (us : List Value) (kw : List (Str × Value)) : RoomG k (A.under (.builtin "type.__call__" ⟨.ref C :: us, kw⟩)) :=
 ⟨r.rm.make C us kw, fun hg => by
  have e : (A.under (.builtin "type.__call__" ⟨.ref C :: us, kw⟩)).guards = pushGuards (Code.builtin "type.__call__" ⟨.ref C :: us, kw⟩).guards A.guards := by unfold Around.under; rfl
  rw [e, r.gd hg]
  have e2 : (Code.builtin "type.__call__" ⟨.ref C :: us, kw⟩).guards = [] := by
   unfold Code.guards
   rw [if_neg (by simp [Code.isGuard, guardIds])]
  rw [e2]
  rfl⟩
structure FnG (P : Program) (w : World) (K : PySem.W.Frag) (mg : Str → Option Value) (base : Heap) (CX : CXT) (k : Nat) (f : Addr) (fd : FuncData) (ps : List Str) (sp : Sp) : Prop where
 len : ∀ vs H Q E, sp vs H Q E → vs.length = ps.length
 run : ∀ (A : Around) (outer : List PySem.Env) (s : Shared) (H : Hp) (args : Args) (us : List Value) (vs : List V) (Q : VK) (E : XK), RoomG k A → Env0 P w K mg base A outer s H → BindsTo s fd args (ps.zip us) → Vals vs us → sp vs H Q E →
  codeAny (model P w) A (.call (.ref f) args) (CR CX outer P w H s Q E) s
theorem AA {CX : CXT} {P : Program} {w : World} {K : PySem.W.Frag} {mg : Str → Option Value} {base : Heap} {k : Nat} {g : Addr} {nm ql : Str} {pms : Arguments} {bd : List Stmt} {sc : Scope} {dV kV doc pm cdv ct oc : Value} {an od : Option Addr}
  {osl : Array (Option Value)} {N ps : List Str} {sp : Sp} (lk : K.lookup g = ξ ⟨oc, od, .func (PySem.W.fnOf nm ql pms bd sc dV kV doc pm an cdv ct), osl⟩) (hcd : PySem.W.codeIn K cdv ql = true) (S : FnScope N ps sc)
  (ln : ∀ vs H Q E, sp vs H Q E → vs.length = ps.length)
  (hbd : ∀ (A : Around) (outer : List PySem.Env) (s : Shared) (H : Hp) (vs : List V) (Q : VK) (E : XK), RoomG k (A.deeper (envOfC ql sc s.heap.objs.size g cdv)) → sp vs H Q E →
   ∃ tt, PSs (cxOf CX P w K mg base N ql sc g cdv A outer s H E) bd tt ∧ tt { nx := fun _ H' => Q .non H', rt := Q } (start N vs) H) :
  FnG P w K mg base CX (k + 1) g (PySem.W.fnOf nm ql pms bd sc dV kV doc pm an cdv ct) ps sp := by
 refine ⟨ln, fun A outer s H args us vs Q E hr e0 hbi rv hsp => ?_⟩
 have hll := ln _ _ _ _ hsp
 have kin : K.In s.heap := e0.mod.kin.keeps fun b o e => (e0.bs b o e).1
 have nolim : s.heap.NoLimit := e0.mod.nolimit.keeps fun b o e => (e0.bs b o e).1
 have kinds : ∀ y ∈ ps.zip us, sc.names.lookup y.1 = ξ .local ∨ (sc.names.lookup y.1 = ξ .cell ∧ ((cellsFrom (s.heap.objs.size + 1) sc.names []).lookup y.1).isSome = true) := fun ⟨n, v⟩ hy => by
  rcases S.par n (List.of_mem_zip hy).1 with z | z
  ·exact .inl z
  ·exact .inr ⟨z, PySem.W.cellsFrom_some _ _ _ (.inl z)⟩
 refine codeAny_call_function hr.rm.depth (kin _ _ lk) rfl S.co S.gen rfl (PySem.W.codeRec_of kin hcd) (hbi _ _ _ _ ?_)
 refine wpAny_newFunctionEnv_cells S.kind kinds fun env he s1 ic => ?_
 subst he
 refine ⟨nolim.keeps ic.toInCall.keep, codeAny_func ?_⟩
 obtain ⟨tt, ht, hq⟩ := hbd A outer s H vs Q E (hr.deeper _) hsp
 have I : Inv (cxOf CX P w K mg base N ql sc g cdv A outer s H E) [] (start N vs) H s1 := inv_start S hr.rm.hd e0 hll rv ic
 have done : ∀ {σ' : St} {H' : Hp} {s' : Shared} {v : V} {u : Value}, Inv (cxOf CX P w K mg base N ql sc g cdv A outer s H E) [] σ' H' s' → RelV v u → Q v H' → CE outer P w H s Q u s' :=
  fun {σ' H' s' v u} J rv q => ⟨v, H', J.os, J.bare, J.base, J.hok, rv, q⟩
 refine wpAny_mono (ht.run [] s1 (start N vs) H _ I hq) (fun fl s' hs => ?_) fun e s' hs => hs
 cases fl with
 | next =>
  obtain ⟨σ', H', J, q⟩ := hs
  exact done (v := V.non) (u := Value.none) J rfl q
 | ret u =>
  obtain ⟨v, σ', H', J, rv, q⟩ := hs
  exact done J rv q
 | brk =>
  obtain ⟨_, _, _, z⟩ := hs
  exact z.elim
 | cont =>
  obtain ⟨_, _, _, z⟩ := hs
  exact z.elim
section
variable {P: Program}{w: World}{K: PySem.W.Frag}{mg: Str → Option Value}{base: Heap}{x qual: Str}{params: Arguments}{body: List Stmt}{scope: Scope}{dvs: List V}{kws: List (Str × V)}{f: Addr}{fd: FuncData}
abbrev Ik (E : XK) : WX := fun c d _ H => E c d H
theorem Gv {N : List Str} {cdv : Value} {A : Around} {outer : List PySem.Env} {s : Shared} {H : Hp} {E : XK} {k : Nat} (nd : N.Nodup) (hr : RoomG k (A.deeper (envOfC qual scope s.heap.objs.size f cdv))) :
  Ctx (cxOf (L2.CX P w) P w K mg base N qual scope f cdv A outer s H E) (Ik E) k := ⟨rfl, nd, takes_of rfl rfl rfl rfl, passes_of rfl, hr.rm, hr.gd⟩
theorem Az {N ps : List Str} {k : Nat} {b : DS} (F : FunD K x qual params body scope dvs kws f fd) (S : FnScope N ps scope)
  (hb : ∀ (cdv : Value) (A : Around) (outer : List PySem.Env) (s : Shared) (H : Hp) (E : XK), Ctx (cxOf (L2.CX P w) P w K mg base N qual scope f cdv A outer s H E) (Ik E) k → Dm (cxOf (L2.CX P w) P w K mg base N qual scope f cdv A outer s H E) (Ik E) body b) :
  FnG P w K mg base (L2.CX P w) (k + 1) f fd ps (spD K (ju ps.length N.length b)) := by
 have hlen : ∀ vs H Q E, spD K (ju ps.length N.length b) vs H Q E → vs.length = ps.length := fun vs H Q E ⟨r, m, ws, s, q, h⟩ => by
  unfold ju at h
  by_cases hl : ws.length = ps.length
  ·rw [← q.len]
   exact hl
  ·rw [if_neg hl] at h
   exact h.elim
 obtain ⟨oc, od, dV, kV, doc, pm, an, cdv, ct, osl, rfl, lk, hcd, _, _⟩ := F.ex
 refine AA lk hcd S hlen fun A outer s H vs Q E hr hsp => ⟨_, hb cdv A outer s H E (Gv S.nd hr), ?_⟩
 have hl := hlen vs H Q E hsp
 obtain ⟨r, m, ws, s', q, h⟩ := hsp
 have hw : ws.length = ps.length := by rw [q.len]; exact hl
 unfold ju at h
 rw [if_pos hw, ← hw] at h
 refine ⟨r, m, _, s', EnvR.start q, ?_⟩
 cases hx : b (ws.map ξ ++ List.replicate (N.length - ws.length) ζ) m with
 | none => rw [hx] at h; exact h
 | some y =>
  rw [hx] at h
  cases y with
  | exc C d en m1 => exact fun r1 H1 σ1 dv l1 s1 e1 q1 => h r1 H1 dv l1 s1 q1
  | fl fl en m1 =>
   cases fl with
   | next => exact fun r1 H1 σ1 l1 s1 e1 => h r1 H1 .non l1 s1 rfl
   | ret v => exact fun r1 H1 v1 l1 s1 q1 => h r1 H1 v1 l1 s1 q1
   | brk => exact h.elim
   | cont => exact h.elim
end
section
variable {X: Cx}{Z: WX}{e o: Expr}{es: List Expr}{das: DA}{pos p: Pos}{k j: Nat}{x m: Str}{f C: Addr}{fd: FuncData}{ps: List Str}{D: DF}{ds: List Value}{dvs: List V}{ws0: List W}
def e6 (ws0 : List W) (D : DF) (as : DA) : DE := fun env m => bnd (as env m) fun ws m1 => D (ws ++ ws0) m1
theorem BK {K : PySem.W.Frag} (hw : ∀ r H, RWs K r H ws0 dvs) {σ : St} {H : Hp} {Q : VK} (h : tE K Z (e6 ws0 D das) σ H Q) : tCallSD (spD K D) dvs (WE Z) (tA K Z das) σ H Q := by
 obtain ⟨r, m, env, s, e, h⟩ := h
 exact tX.step s e h fun ws m1 r1 H1 vs l1 s1 e1 q1 h1 => ⟨r1, m1, _, s1, q1.append (hw r1 H1), h1⟩
theorem Ctx.rg (C : Ctx X Z k) (h : j ≤ k) : RoomG j X.A := ⟨C.room.mono h, C.gd⟩
theorem BH {CX : CXT} {sp : Sp} {E : St → XK} {pins : List (Addr × Obj)} {σ : St} {H : Hp} {s : Shared} {Q : VK} {us : List Value} {vs : List V} (F : FnG X.prog X.w X.K X.mg X.base CX k f fd ps sp) (hr : RoomG k X.A) (hb : Binds X.K fd ps ds) (hd : Vals dvs ds) (hx : PassesAt CX X σ (E σ))
  (I : Inv X pins σ H s) (rv : Vals vs us) (h : sp (vs ++ dvs) H Q (E σ)) : wpAny (model X.prog X.w) X.A (call (.ref f) us) (EP X pins σ Q) X.xe s := by
 have rv2 : Vals (vs ++ dvs) (us ++ ds) := rv.append hd
 have hll : (us ++ ds).length = ps.length := by rw [← rv2.length]; exact F.len _ _ _ _ h
 refine wpAny_call (codeAny_mono (F.run X.A X.stack s H ⟨us, []⟩ (us ++ ds) (vs ++ dvs) Q (E σ) hr I.env0 (hb s us I.kIn hll) rv2 h) fun z s' hq => ?_)
 cases z with
 | error e => exact hx pins H s e s' I hq
 | ok fl => cases fl <;> first | exact I.after hq | exact False.elim hq
theorem zt {CX : CXT} {sp : Sp} {E : St → XK} {t : TA} (F : FnG X.prog X.w X.K X.mg X.base CX k f fd ps sp) (hr : RoomG k X.A) (hg : Gl X x) (hm : X.mg x = ξ (.ref f)) (hk : PySem.W.keepIn X.K (.ref f) = true) (hb : Binds X.K fd ps ds) (hd : Vals dvs ds) (hx : ∀ σ, PassesAt CX X σ (E σ))
  (ha : PA X (e :: es) t) (hdb : (x == ("__debug__" : Str)) = false) (he : starEach (e :: es) X.env = (false, eval e X.env) :: starEach es X.env) (hpl : (backTo pos (starEach es X.env)).any (·.1) = false) : PE X (.Call (.Name x p) (e :: es) [] pos) (tCallSD sp dvs E t) := ⟨fun pins s σ H Q I h =>
 wpAny_Call_Name_kw (ld_glob I hg hm (PySem.W.callWith_K (h₀ := X.base) I.ok.mod.kin hk (thn (ha.run pos pins s σ H _ I h) fun us s1 ⟨vs, H1, I1, r, q⟩ => ⟨I1.kIn, BH F hr hb hd (hx σ) I1 r q⟩) he hpl) hdb)⟩
theorem BF (C : Ctx X Z k) (F : FnG X.prog X.w X.K X.mg X.base (L2.CX X.prog X.w) j f fd ps (spD X.K D)) (hg : Gl X x) (hm : X.mg x = ξ (.ref f)) (hk : PySem.W.keepIn X.K (.ref f) = true) (hb : Binds X.K fd ps ds) (hd : Vals dvs ds) (hw : ∀ r H, RWs X.K r H ws0 dvs) (ha : SA X Z (e :: es) das)
  (hjk : j ≤ k := by decide) (hdb : (x == ("__debug__" : Str)) = false := by decide) (he : starEach (e :: es) X.env = (false, eval e X.env) :: starEach es X.env := by rfl) (hpl : (backTo pos (starEach es X.env)).any (·.1) = false := by rfl) :
  SE X Z (.Call (.Name x p) (e :: es) [] pos) (e6 ws0 D das) := PE.imp (zt F (C.rg hjk) hg hm hk hb hd (fun σ => passAt C.tk σ) ha hdb he hpl) fun _ _ _ h => BK hw h
def qE (m : M) (C : Addr) : W → Option (List (Str × W))
 | .ref n => match m[n]? with
  | some (.ins C' fs) => if C' = C then ξ fs else ζ
  | _ => ζ
 | _ => ζ
def eFld (C : Addr) (f : Str) (o : DE) : DE := fun env m => bnd (o env m) fun w m1 => match qE m1 C w with
 | some fs => match fs.lookup f with
  | some v => ξ (.ok v m1)
  | none => ζ
 | none => ζ
theorem RKV.len {κ : Type} {K : PySem.W.Frag} {r : List Addr} {H : Hp} : ∀ {fs : List (κ × W)} {vs : List (κ × V)}, RKV K r H fs vs → fs.length = vs.length
 | [], _, h => by cases (show _ = _ from h); rfl
 | _ :: _, _, h => by
  obtain ⟨v, rest, rfl, _, h2⟩ := h
  simp [RKV.len h2]
section
end
def DY (C : Addr) (mn : Str) (ws0 : List W) (D : DF) (o : DE) (as : DA) : DE := fun env m => bnd (o env m) fun w m1 => match qE m1 C w with
 | some fs => match fs.lookup mn with
  | some _ => ζ
  | none => bnd (as env m1) fun ws m2 => D (w :: (ws ++ ws0)) m2
 | none => ζ
def mkW (C : Addr) (D : DF) (ws : List W) (m : M) : Option (R W) := bnd (D (.ref m.length :: ws) (m ++ [.ins C []])) fun w m2 => match w with
 | .non => ξ (.ok (.ref m.length) m2)
 | _ => ζ
def DZ (C : Addr) (ws0 : List W) (D : DF) (as : DA) : DE := fun env m => bnd (as env m) fun ws m1 => mkW C D (ws ++ ws0) m1
def noX (x : Option (R W)) : Option (R W) := match x with
 | some (.ok w m) => ξ (.ok w m)
 | _ => ζ
def Kh (C : Addr) (D : DF) (o : DE) : DE := fun env m => bnd (o env m) fun w m1 => match qE m1 C w with
 | some _ => noX (D [w] m1)
 | none => ζ
end
end SB
end
section
namespace SB
open PySem L2
variable [Tabs][Past]
section
variable {K: PySem.W.Frag}{X: Cx}
def fI (g : Int → Int → Option W) : F2 := fun a b m => match a, b with
 | .int i, .int j => match g i j with
  | some w => ξ (w, m)
  | none => ζ
 | _, _ => ζ
theorem rV {g : Int → Int → W} {gv : Int → Int → V} (hg : ∀ i j r H, RW K r H (g i j) (gv i j)) : Imp2 K (rI0 gv) (fI fun i j => ξ (g i j)) := by
 intro r m H x y w1 w2 Q E s q1 q2 h
 cases w1 <;> first | exact h.elim | skip
 rename_i i
 cases w2 <;> first | exact h.elim | skip
 rename_i j
 exact ⟨i, j, q1, q2, h.done s (hg i j r H)⟩
theorem wI {g : Int → Int → W} {gv : Int → Int → V} {c : Int → Int → Bool} {C : Int → Int → Prop} (hc : ∀ i j, c i j = true → C i j) (hg : ∀ i j r H, RW K r H (g i j) (gv i j)) : Imp2 K (rI C gv) (fI fun i j => if c i j = true then ξ (g i j) else ζ) := by
 intro r m H x y w1 w2 Q E s q1 q2 h
 cases w1 <;> first | exact h.elim | skip
 rename_i i
 cases w2 <;> first | exact h.elim | skip
 rename_i j
 unfold fI at h
 simp only at h
 by_cases hh : c i j = true
 ·simp only [if_pos hh] at h
  exact ⟨i, j, q1, q2, hc i j hh, h.done s (hg i j r H)⟩
 ·simp only [if_neg hh] at h
  exact h.elim
def Fq : F2 := fI fun i j => ξ (.int (i + j))
def Fo : F2 := fI fun i j => if (sm 1000000000000000000 i || sm 1000000000000000000 j) = true then ξ (.int (i * j)) else ζ
def vn : F2 := fI fun i j => if decide (0 < j) = true then ξ (.int (i % j)) else ζ
def zF : F2 := fI fun i j => if (decide (0 < j) && sm 1073741823 j) = true then ξ (.int (i / j)) else ζ
def vm : F2 := fI fun i j => if (decide (0 ≤ j) && (sm 1000 j && sm (2 ^ 999) i)) = true then ξ (.int (i ^ j.toNat)) else ζ
def oLt : F2 := fI fun i j => ξ (.bl (decide (i < j)))
def oGt : F2 := fI fun i j => ξ (.bl (decide (j < i)))
def oGe : F2 := fI fun i j => ξ (.bl (decide (j ≤ i)))
theorem CH : Imp2 K (rI0 fun i j => .int (i + j)) Fq := rV fun _ _ _ _ => rfl
theorem CF : Imp2 K (rI CMul fun i j => .int (i * j)) Fo := wI (fun i j h => by
 show (-(2 ^ 64) < i ∧ i < 2 ^ 64) ∨ (-(2 ^ 64) < j ∧ j < 2 ^ 64)
 rw [Bool.or_eq_true] at h
 rcases h with h | h <;> have := sR h
 ·exact .inl (by omega)
 ·exact .inr (by omega)) fun _ _ _ _ => rfl
theorem k8 : Imp2 K (rI (fun _ j => 0 < j) fun i j => .int (i % j)) vn := wI (fun _ _ h => by have := of_decide_eq_true h; exact this) fun _ _ _ _ => rfl
theorem rT : Imp2 K (rI CDiv fun i j => .int (i / j)) zF := wI (fun i j h => by
 show 0 < j ∧ j < 1073741824
 rw [Bool.and_eq_true] at h
 have h1 := of_decide_eq_true h.1
 have h2 := sR h.2
 omega) fun _ _ _ _ => rfl
theorem FO : Imp2 K (rI0 fun i j => .bl (decide (i < j))) oLt := rV fun _ _ _ _ => rfl
theorem FP : Imp2 K (rI0 fun i j => .bl (decide (j < i))) oGt := rV fun _ _ _ _ => rfl
theorem FQ : Imp2 K (rI0 fun i j => .bl (decide (j ≤ i))) oGe := rV fun _ _ _ _ => rfl
def Ed (i j : Int) : Prop := 0 ≤ j ∧ j ≤ 1000 ∧ i.natAbs < 2 ^ 1000
theorem kX : OpR X (binaryOp .Pow) (rI Ed fun i j => .int (i ^ j.toNat)) := opI fun i j _ _ _ _ _ hc q => by
 refine PyProof.Rows.pow_int hc.1 ?_ q
 have hb : (Builtin.Int.intBits i : Int) ≤ 1001 := by
  have h1 := hc.2.2
  have : Builtin.Int.intBits i ≤ 1001 := by
   unfold Builtin.Int.intBits
   split
   ·omega
   ·have hz : i.natAbs ≠ 0 := by
     rename_i hne
     intro z
     apply hne
     simp at z ⊢
     omega
    have := (Nat.log2_lt hz).mpr h1
    omega
  omega
 have h2 : (Builtin.Int.intBits i : Int) * j ≤ 1001 * 1000 := Int.mul_le_mul hb hc.2.1 hc.1 (by omega)
 exact Int.le_trans h2 (by decide)
theorem jD : Imp2 K (rI Ed fun i j => .int (i ^ j.toNat)) vm := wI (fun i j h => by
 rw [Bool.and_eq_true, Bool.and_eq_true] at h
 have h1 := of_decide_eq_true h.1
 have h2 := sR h.2.1
 exact ⟨h1, by omega, Nat.lt_of_le_of_lt (sR h.2.2) (Nat.pow_lt_pow_right (by decide) (by decide))⟩) fun _ _ _ _ => rfl
def dR {α β : Type} (f : α → Option β) : List α → Option (List β)
 | [] => ξ []
 | w :: ws => match f w, dR f ws with
  | some d, ξ ds => ξ (d :: ds)
  | _, _ => ζ
def mZ (m : M) : Nat → W → Option PyData
 | 0, _ => ζ
 | _ + 1, .non => ξ .none
 | _ + 1, .bl b => ξ (.bool b)
 | _ + 1, .int i => ξ (.int i)
 | _ + 1, .str x => if PyData.strOk x = true then ξ (.str x) else ζ
 | k + 1, .tup ws => match dR (mZ m k) ws with
  | some ds => ξ (.tuple ds)
  | none => ζ
 | k + 1, .im (.tpl _) ws => match dR (mZ m k) ws with
  | some ds => ξ (.tuple ds)
  | none => ζ
 | k + 1, .ref n => match m[n]? with
  | some (.lst ws) => (match dR (mZ m k) ws with
   | some ds => ξ (.list ds)
   | none => ζ)
  | _ => ζ
 | _ + 1, _ => ζ
theorem dJ : ∀ {ds : List PyData}, (∀ d ∈ ds, d.canLay0 = true) → PyData.canLayAll0 ds = true
 | [], _ => by simp [PyData.canLayAll0]
 | d :: ds, h => by
  simp only [PyData.canLayAll0, Bool.and_eq_true]
  exact ⟨h d (by simp), dJ fun e he => h e (by simp [he])⟩
theorem e7 {k : Nat} : ∀ {ds : List PyData}, (∀ d ∈ ds, d.depth ≤ k) → PyData.depthAll ds ≤ k
 | [], _ => by simp [PyData.depthAll]
 | d :: ds, h => by
  simp only [PyData.depthAll]
  exact Nat.max_le.mpr ⟨h d (by simp), e7 fun e he => h e (by simp [he])⟩
theorem lC {α β : Type} {f : α → Option β} : ∀ {ws : List α} {ds : List β}, dR f ws = ξ ds → ∀ d ∈ ds, ∃ w ∈ ws, f w = ξ d
 | [], _, h, d, hd => by cases h; cases hd
 | w :: ws, _, h, d, hd => by
  unfold dR at h
  cases h1 : f w with
  | none => rw [h1] at h; cases h
  | some x =>
   cases h2 : dR f ws with
   | none => rw [h1, h2] at h; cases h
   | some xs =>
    rw [h1, h2] at h
    cases h
    rcases List.mem_cons.mp hd with rfl | hd
    ·exact ⟨w, by simp, h1⟩
    ·obtain ⟨w', hw, e⟩ := lC h2 d hd
     exact ⟨w', by simp [hw], e⟩
theorem xn {m : M} : ∀ {k : Nat} {w : W} {d : PyData}, mZ m k w = ξ d → d.canLay0 = true ∧ d.depth ≤ k := by
  intro k
  induction k with
  | zero => intro w d h; cases h
  | succ k ih =>
    intro w d h
    cases w with
    | non => cases h; simp [PyData.canLay0, PyData.depth]
    | bl b => cases h; simp [PyData.canLay0, PyData.depth]
    | int i => cases h; simp [PyData.canLay0, PyData.depth]
    | str x =>
      simp only [mZ] at h
      split at h
      · rename_i hx
        cases h
        simp [PyData.canLay0, PyData.depth, hx]
      · cases h
    | tup ws =>
      simp only [mZ] at h
      split at h
      · rename_i ds hds
        cases h
        have q := lC hds
        refine ⟨?_, ?_⟩
        · simp only [PyData.canLay0]
          exact dJ fun d hd => by
            obtain ⟨w', _, e⟩ := q d hd
            exact (ih e).1
        · simp only [PyData.depth]
          exact Nat.succ_le_succ (e7 fun d hd => by
            obtain ⟨w', _, e⟩ := q d hd
            exact (ih e).2)
      · cases h
    | ref n =>
      simp only [mZ] at h
      split at h
      · split at h
        · rename_i ds hds
          cases h
          have q := lC hds
          refine ⟨?_, ?_⟩
          · simp only [PyData.canLay0]
            exact dJ fun d hd => by
              obtain ⟨w', _, e⟩ := q d hd
              exact (ih e).1
          · simp only [PyData.depth]
            exact Nat.succ_le_succ (e7 fun d hd => by
              obtain ⟨w', _, e⟩ := q d hd
              exact (ih e).2)
        · cases h
      · cases h
    | ob a => cases h
    | ty a => cases h
    | scr a => cases h
    | im j ws =>
      cases j with
      | exc C fs => cases h
      | tpl nd =>
        simp only [mZ] at h
        split at h
        · rename_i ds hds
          cases h
          have q := lC hds
          refine ⟨?_, ?_⟩
          · simp only [PyData.canLay0]
            exact dJ fun d hd => by
              obtain ⟨w', _, e⟩ := q d hd
              exact (ih e).1
          · simp only [PyData.depth]
            exact Nat.succ_le_succ (e7 fun d hd => by
              obtain ⟨w', _, e⟩ := q d hd
              exact (ih e).2)
        · cases h
theorem iR {m : M} {k : Nat} {w : W} {d : PyData} (h : mZ m k w = ξ d) (hk : k ≤ 64) : SeqAt.shaped d = true := by
 obtain ⟨h1, h2⟩ := xn h
 unfold SeqAt.shaped
 rw [h1, decide_eq_true (Nat.le_trans h2 hk)]
 rfl
theorem lu {r : List Addr} {H : Hp} {f : W → Option PyData} (hf : ∀ w v d, RW K r H w v → f w = ξ d → Dp K H v d) : ∀ {ws : List W} {vs : List V} {ds : List PyData}, RWs K r H ws vs → dR f ws = ξ ds → DpAll K H vs ds
 | [], _, _, q, h => by cases (show _ = _ from q); cases h; exact .nil
 | w :: ws, _, _, q, h => by
  obtain ⟨v, rest, rfl, q1, q2⟩ := q
  unfold dR at h
  cases h1 : f w with
  | none => rw [h1] at h; cases h
  | some x =>
   cases h2 : dR f ws with
   | none => rw [h1, h2] at h; cases h
   | some xs =>
    rw [h1, h2] at h
    cases h
    exact .cons (hf w v x q1 h1) (lu hf q2 h2)
theorem rq {r : List Addr} {m : M} {H : Hp} (s : Sim K r m H) : ∀ {k : Nat} (w : W) (v : V) (d : PyData), RW K r H w v → mZ m k w = ξ d → Dp K H v d := by
 intro k
 induction k with
 | zero => intro w v d q h; cases h
 | succ k ih =>
  intro w v d q h
  cases w with
  | non => cases h; cases (show _ = _ from q); exact .non
  | bl b => cases h; cases (show _ = _ from q); exact .bl b
  | int i => cases h; cases (show _ = _ from q); exact .int i
  | str x =>
   cases (show _ = _ from q)
   simp only [mZ] at h
   split at h
   ·cases h; exact .str x
   ·cases h
  | tup ws =>
   obtain ⟨a, vs, rfl, ht, rs⟩ := q
   simp only [mZ] at h
   split at h
   ·rename_i ds hds
    cases h
    exact .tup (SqT.of ht) (lu ih rs hds)
   ·cases h
  | ref n =>
   obtain ⟨a, e, rfl⟩ := q
   simp only [mZ] at h
   split at h
   ·rename_i ws hw
    split at h
    ·rename_i ds hds
     cases h
     obtain ⟨a', u, e1, e2, vs, rfl, e3⟩ := s.at_ n _ hw
     rw [e] at e1
     cases e1
     exact .lst (SqL.of e2) (lu ih e3 hds)
    ·cases h
   ·cases h
  | ob a => cases h
  | ty a => cases h
  | scr a => cases h
  | im j ws =>
   cases j with
   | exc C fs => cases h
   | tpl nd =>
    obtain ⟨a, vs, rfl, hi, rs⟩ := q
    have ht := hi.rd
    simp only [mZ] at h
    split at h
    ·rename_i ds hds
     cases h
     exact .tup (.inl ht) (lu ih rs hds)
    ·cases h
def Fp : F2 := fun a b m => match mZ m 60 a, mZ m 60 b with
 | some d, ξ e => ξ (.bl (PyData.eqv d e), m)
 | _, _ => ζ
def xN : F2 := fun a b m => match mZ m 60 a, mZ m 60 b with
 | some d, ξ e => ξ (.bl (!PyData.eqv d e), m)
 | _, _ => ζ
theorem vE : Imp2 K (rEqD K) Fp := by
 intro r m H x y w1 w2 Q E s q1 q2 h
 unfold Fp at h
 cases h1 : mZ m 60 w1 with
 | none => rw [h1] at h; exact h.elim
 | some d =>
  cases h2 : mZ m 60 w2 with
  | none => rw [h1, h2] at h; exact h.elim
  | some e =>
   rw [h1, h2] at h
   exact ⟨d, e, rq s _ _ _ q1 h1, rq s _ _ _ q2 h2, iR h1 (by decide), iR h2 (by decide), h.done s rfl⟩
theorem iW : Imp2 K (rNeD K) xN := by
 intro r m H x y w1 w2 Q E s q1 q2 h
 unfold xN at h
 cases h1 : mZ m 60 w1 with
 | none => rw [h1] at h; exact h.elim
 | some d =>
  cases h2 : mZ m 60 w2 with
  | none => rw [h1, h2] at h; exact h.elim
  | some e =>
   rw [h1, h2] at h
   exact ⟨d, e, rq s _ _ _ q1 h1, rq s _ _ _ q2 h2, iR h1 (by decide), iR h2 (by decide), h.done s rfl⟩
def sG : F2 := fun a b m => match a, b with
 | .tup ws, .int i => match atI ws i with
  | some w => ξ (w, m)
  | none => ζ
 | .im (.tpl _) ws, .int i => match atI ws i with
  | some w => ξ (w, m)
  | none => ζ
 | a, .int i => match dy m a with
  | some ws => (match atI ws i with
   | some w => ξ (w, m)
   | none => ζ)
  | none => ζ
 | _, _ => ζ
theorem RWs.atI {r : List Addr} {H : Hp} {ws : List W} {vs : List V} {i : Int} {w : W} (q : RWs K r H ws vs) (h : L2.atI ws i = ξ w) : ∃ v, L2.atI vs i = ξ v ∧ RW K r H w v := by
 unfold L2.atI at h ⊢
 rw [← q.len]
 cases hx : ixN ws.length i with
 | none => rw [hx] at h; cases h
 | some j =>
  rw [hx] at h
  obtain ⟨v, e, rv⟩ := q.get (show ws[j]? = ξ w from h)
  exact ⟨v, e, rv⟩
theorem fX : Imp2 K (fun x y H Q => rIxL K x y H Q ∨ rIxT K x y H Q) sG := by
 intro r m H x y w1 w2 Q E s q1 q2 h
 cases w2 <;> first | (cases w1 <;> first | exact h.elim | (rename_i k us; cases k <;> exact h.elim)) | skip
 rename_i i
 by_cases ht : ∃ ws, w1 = .tup ws
 ·obtain ⟨ws, rfl⟩ := ht
  obtain ⟨a, vs, rfl, hs, rs⟩ := q1
  unfold sG at h
  simp only at h
  cases hx : L2.atI ws i with
  | none => rw [hx] at h; exact h.elim
  | some w =>
   rw [hx] at h
   obtain ⟨v, e, rv⟩ := rs.atI hx
   exact .inr ⟨a, vs, i, v, rfl, q2, SqT.of hs, e, h.done s rv⟩
 by_cases hm : ∃ nd ws, w1 = .im (.tpl nd) ws
 ·obtain ⟨nd, ws, rfl⟩ := hm
  obtain ⟨a, vs, rfl, hi, rs⟩ := q1
  have hs := hi.rd
  unfold sG at h
  simp only at h
  cases hx : L2.atI ws i with
  | none => rw [hx] at h; exact h.elim
  | some w =>
   rw [hx] at h
   obtain ⟨v, e, rv⟩ := rs.atI hx
   exact .inr ⟨a, vs, i, v, rfl, q2, .inl hs, e, h.done s rv⟩
 ·have h' : Post K (gU K) r H (up (match dy m w1 with
    | some ws => (match L2.atI ws i with
     | some w => ξ (w, m)
     | none => ζ)
    | none => ζ)) Q E := by
   cases w1 <;> first | exact absurd ⟨_, rfl⟩ ht | exact h | (rename_i k us; cases k <;> first | exact absurd ⟨_, _, rfl⟩ hm | exact h)
  cases hl : dy m w1 with
  | none => rw [hl] at h'; exact h'.elim
  | some ws =>
   rw [hl] at h'
   simp only at h'
   obtain ⟨a, vs, rfl, hs, rs⟩ := iK s q1 hl
   cases hx : L2.atI ws i with
   | none => rw [hx] at h'; exact h'.elim
   | some w =>
    rw [hx] at h'
    obtain ⟨v, e, rv⟩ := rs.atI hx
    exact .inl ⟨a, vs, i, v, rfl, q2, hs, e, h'.done s rv⟩
theorem d8 : IxR X (fun x y H Q => rIxL X.K x y H Q ∨ rIxT X.K x y H Q) := IxR.or ix_list ix_tup
def qh : F3 := fun o i v m => match o, i with
 | .ref n, .int k => match m[n]? with
  | some (.lst ws) => (match ixN ws.length k with
   | some j => ξ (m.set n (.lst (ws.set j v)))
   | none => ζ)
  | _ => ζ
 | _, _ => ζ
theorem Sim.mut {r : List Addr} {m : M} {H : Hp} {n : Nat} {a : Addr} {ws ws' : List W} {vs vs' : List V} (s : Sim K r m H) (e0 : m[n]? = ξ (.lst ws)) (ea : r[n]? = ξ a) (h : H a = ξ (.lst vs)) (q0 : RWs K r H ws vs) (q : RWs K r H ws' vs') : Sim K r (m.set n (.lst ws')) (upd H a (.lst vs')) ∧ Lt K r H r (upd H a (.lst vs')) :=
 s.set e0 ea h ⟨vs, rfl, q0⟩ ⟨vs', rfl, q.le ⟨List.prefix_rfl, (qz h (o := .lst ws) ⟨vs, rfl, q0⟩).l0⟩⟩
theorem nF {r : List Addr} {m : M} {H : Hp} {n : Nat} {v : V} {ws : List W} (s : Sim K r m H) (q : RW K r H (.ref n) v) (e : m[n]? = ξ (.lst ws)) : ∃ a vs, v = .ref a ∧ r[n]? = ξ a ∧ H a = ξ (.lst vs) ∧ RWs K r H ws vs := by
 obtain ⟨a, ea, rfl⟩ := q
 obtain ⟨a', u, e1, e2, vs, rfl, e3⟩ := s.at_ n _ e
 rw [ea] at e1
 cases e1
 exact ⟨a, vs, rfl, ea, e2, e3⟩
theorem ui : KA K rSetL qh := by
 intro r m H o i v wo wi wv Q s qo qi qv h
 cases wo <;> first | exact h.elim | skip
 rename_i n
 cases wi <;> first | exact h.elim | skip
 rename_i k
 unfold qh at h
 simp only at h
 cases hm : m[n]? with
 | none => rw [hm] at h; exact h.elim
 | some ob =>
  rw [hm] at h
  cases ob <;> first | exact h.elim | skip
  rename_i ws
  simp only at h
  cases hx : ixN ws.length k with
  | none => rw [hx] at h; exact h.elim
  | some j =>
   rw [hx] at h
   obtain ⟨a, vs, rfl, ea, e2, rs⟩ := nF s qo hm
   obtain ⟨s', l'⟩ := s.mut (ws' := ws.set j wv) (vs' := vs.set j v) hm ea e2 rs (rs.set j qv)
   exact ⟨a, vs, k, j, rfl, qi, e2, by rw [← rs.len]; exact hx, h r _ l' s'⟩
theorem RWs.one_of {r : List Addr} {H : Hp} {w : W} {xs : List V} (q : RWs K r H [w] xs) : ∃ v, xs = [v] ∧ RW K r H w v := by
 obtain ⟨v, rest, rfl, h1, h2⟩ := q
 cases (show rest = [] from h2)
 exact ⟨v, rfl, h1⟩
theorem RWs.two_of {r : List Addr} {H : Hp} {w w' : W} {xs : List V} (q : RWs K r H [w, w'] xs) : ∃ v v', xs = [v, v'] ∧ RW K r H w v ∧ RW K r H w' v' := by
 obtain ⟨v, rest, rfl, h1, v', rest', rfl, h2, h3⟩ := q
 cases (show rest' = [] from h3)
 exact ⟨v, v', rfl, h1, h2⟩
def pZ (m : M) : W → Option (List W)
 | .tup ws => ξ ws
 | .im (.tpl _) ws => ξ ws
 | w => dy m w
theorem y4 {r : List Addr} {m : M} {H : Hp} {w : W} {ws : List W} {v : V} (s : Sim K r m H) (q : RW K r H w v) (h : pZ m w = ξ ws) : ∃ a vs, v = .ref a ∧ (SqL K H a vs ∨ Rd H a (.tup vs)) ∧ RWs K r H ws vs := by
 by_cases ht : ∃ ws, w = .tup ws
 ·obtain ⟨ws', rfl⟩ := ht
  cases h
  obtain ⟨a, vs, rfl, hs, rs⟩ := q
  exact ⟨a, vs, rfl, .inr (Rd.of hs), rs⟩
 by_cases hm : ∃ nd ws, w = .im (.tpl nd) ws
 ·obtain ⟨nd, ws', rfl⟩ := hm
  cases h
  obtain ⟨a, vs, rfl, hi, rs⟩ := q
  exact ⟨a, vs, rfl, .inr hi.rd, rs⟩
 ·have h' : dy m w = ξ ws := by
   cases w <;> first | exact absurd ⟨_, rfl⟩ ht | exact h | skip
   rename_i k us
   cases k
   ·exact absurd ⟨_, _, rfl⟩ hm
   ·exact h
  obtain ⟨a, vs, rfl, hs, rs⟩ := iK s q h'
  exact ⟨a, vs, rfl, .inl hs, rs⟩
def oB : FN := fun ws m => match ws with
 | [.str x] => if x.length ≤ sizeLine then ξ (.int x.length, m) else ζ
 | [w] => match pZ m w with
  | some xs => ξ (.int xs.length, m)
  | none => ζ
 | _ => ζ
theorem nG : pf K (fun xs H Q => ∃ x n, xs = [x] ∧ LenV K x H n ∧ Q (.int n) H) oB := by
 intro r m H xs ws Q E s q h
 match ws, q, h with
 | [], _, h => exact h.elim
 | w1 :: _ :: _, _, h => cases w1 <;> exact h.elim
 | [w], q, h =>
  obtain ⟨v, rfl, qv⟩ := q.one_of
  by_cases ht : ∃ x, w = .str x
  ·obtain ⟨x, rfl⟩ := ht
   unfold oB at h
   simp only at h
   by_cases hl : x.length ≤ sizeLine
   ·rw [if_pos hl] at h
    cases (show v = .str x from qv)
    exact ⟨.str x, x.length, rfl, ⟨hl, rfl⟩, h.done s rfl⟩
   ·rw [if_neg hl] at h
    exact h.elim
  ·have h' : Post K (gU K) r H (up (match pZ m w with
     | some xs => ξ (.int xs.length, m)
     | none => ζ)) Q E := by cases w <;> first | exact absurd ⟨_, rfl⟩ ht | exact h
   cases hx : pZ m w with
   | none => rw [hx] at h'; exact h'.elim
   | some xs =>
    rw [hx] at h'
    obtain ⟨a, vs, rfl, hs, rs⟩ := y4 s qv hx
    refine ⟨.ref a, xs.length, rfl, ?_, h'.done s rfl⟩
    rcases hs with hs | hs
    ·exact .inl ⟨vs, hs, rs.len⟩
    ·exact .inr ⟨vs, .inl hs, rs.len⟩
def zH : FN := fun ws m => match ws with
 | [.int i] => ξ (.int (if i < 0 then -i else i), m)
 | _ => ζ
theorem wH : pf K (fun xs H Q => ∃ i, xs = [.int i] ∧ Q (.int (if i < 0 then -i else i)) H) zH := by
 intro r m H xs ws Q E s q h
 unfold zH at h
 split at h
 ·rename_i i
  obtain ⟨v, rfl, qv⟩ := q.one_of
  cases (show v = .int i from qv)
  exact ⟨i, rfl, h.done s rfl⟩
 ·exact h.elim
def wu : FN := fun ws m => match ws with
 | [.int i, .int j] => ξ (.int (if j > i then j else i), m)
 | _ => ζ
theorem Ae : pf K (fun xs H Q => ∃ i j, xs = [.int i, .int j] ∧ Q (.int (if j > i then j else i)) H) wu := by
 intro r m H xs ws Q E s q h
 unfold wu at h
 split at h
 ·rename_i i j
  obtain ⟨v, v', rfl, q1, q2⟩ := q.two_of
  cases (show v = .int i from q1)
  cases (show v' = .int j from q2)
  exact ⟨i, j, rfl, h.done s rfl⟩
 ·exact h.elim
def wq : FN := fun ws m => match ws with
 | [.int i, .int j] => ξ (.int (if j < i then j else i), m)
 | _ => ζ
theorem Ad : pf K (fun xs H Q => ∃ i j, xs = [.int i, .int j] ∧ Q (.int (if j < i then j else i)) H) wq := by
 intro r m H xs ws Q E s q h
 unfold wq at h
 split at h
 ·rename_i i j
  obtain ⟨v, v', rfl, q1, q2⟩ := q.two_of
  cases (show v = .int i from q1)
  cases (show v' = .int j from q2)
  exact ⟨i, j, rfl, h.done s rfl⟩
 ·exact h.elim
def wz : FN := fun ws m => match ws with
 | [.int i] => ξ (.int i, m)
 | [.bl k] => ξ (.int (if k then 1 else 0), m)
 | _ => ζ
theorem Af : pf K (fun xs H Q => (∃ i, xs = [.int i] ∧ Q (.int i) H) ∨ ∃ k, xs = [.bl k] ∧ Q (.int (if k then 1 else 0)) H) wz := by
 intro r m H xs ws Q E s q h
 unfold wz at h
 split at h
 ·rename_i i
  obtain ⟨v, rfl, qv⟩ := q.one_of
  cases (show v = .int i from qv)
  exact .inl ⟨i, rfl, h.done s rfl⟩
 ·rename_i k
  obtain ⟨v, rfl, qv⟩ := q.one_of
  cases (show v = .bl k from qv)
  exact .inr ⟨k, rfl, h.done s rfl⟩
 ·exact h.elim
theorem tx {r : List Addr} {m : M} {H : Hp} {ws : List W} {vs : List V} {Q : VK} {E : XK} (s : Sim K r m H) (q : RWs K r H ws vs) (h : Post K (gU K) r H (ξ (.ok (.ref m.length) (m ++ [.lst ws]))) Q E) : ∀ p, H p = ζ → Q (.ref p) (upd H p (.lst vs)) := fun p hp => rK s q h hp
def insB (K : PySem.W.Frag) (C : Addr) : Bool := PySem.W.plainGet K C Str.empty && (PySem.W.hasDictIn K C && (PySem.W.plainOver K C && (He.eqO (PySem.W.findIn K (.ref C) "__setattr__") (ξ (ξ (.builtin "object.__setattr__"))) &&
 (He.eqO (PySem.W.findIn K (.ref C) "__class__") (ξ (ξ (.builtin "object.__class__"))) && (He.eqO (PySem.W.specialIn K (.builtin "object.__class__") "__get__") (ξ (ξ (.builtin "getset_descriptor.__get__"))) &&
 (decide (PySem.W.takesIn K (.builtin "object.__class__") = ξ true) && decide (PySem.W.mroIn K C (.type "object") = ξ true)))))))
def clW : W → Option Value
 | .ty n => ξ (.type n)
 | .ob C => ξ (.ref C)
 | _ => ζ
theorem GA {r : List Addr} {H : Hp} {w : W} {v : V} {t : Value} (q : RW K r H w v) (h : clW w = ξ t) : ClsV v t := by
 cases w <;> first | (cases h; done) | skip
 ·cases h; cases (show _ = _ from q); exact .own _
 ·cases h; cases (show _ = _ from q); exact .ty _
abbrev FM := W → List W → M → Option (W × M)
def J1 (T : String) (m : M) : W → Bool
 | .str _ => T == "str"
 | .int _ => T == "int"
 | .ref n => match m[n]? with
  | some (.lst _) => T == "list"
  | some (.dct _) => T == "dict"
  | some (.dtp _) => T == "dict"
  | _ => false
 | _ => false
def eBM (T : String) (f : FM) (o : DE) (as : DA) : DE := fun env m => bnd (o env m) fun w m1 => if J1 T m1 w = true then bnd (as env m1) fun ws m2 => up (f w ws m2) else ζ
def zG : F2 := fun a b m => match a, b with
 | .ref n, .ref k => match m[n]?, m[k]? with
  | some (.lst xs), ξ (.lst ys) => if xs.length + ys.length ≤ sizeLine then ξ (.ref m.length, m ++ [.lst (xs ++ ys)]) else ζ
  | _, _ => ζ
 | _, _ => ζ
theorem CG : Imp2 K rCat zG := by
 intro r m H x y w1 w2 Q E s q1 q2 h
 unfold zG at h
 split at h
 ·rename_i n k
  split at h
  ·rename_i xs ys h1 h2
   split at h
   ·rename_i hl
    obtain ⟨a, vs, rfl, ea, e2, rs⟩ := nF s q1 h1
    obtain ⟨a', vs', rfl, ea', e2', rs'⟩ := nF s q2 h2
    exact ⟨a, a', vs, vs', rfl, rfl, e2, e2', by rw [← rs.len, ← rs'.len]; exact hl, tx s (rs.append rs') h⟩
   ·exact h.elim
  ·exact h.elim
 ·exact h.elim
def tR : F2 := fun a b m => match a, b with
 | .str x, .str y => if x.length + y.length ≤ sizeLine then ξ (.str (x ++ y), m) else ζ
 | _, _ => ζ
theorem Ai : Imp2 K (fun x y H Q => ∃ i j, x = .str i ∧ y = .str j ∧ i.length + j.length ≤ sizeLine ∧ Q (.str (i ++ j)) H) tR := by
 intro r m H x y w1 w2 Q E s q1 q2 h
 unfold tR at h
 split at h
 ·rename_i i j
  split at h
  ·rename_i hl
   exact ⟨i, j, q1, q2, hl, h.done s rfl⟩
  ·exact h.elim
 ·exact h.elim
def zD : F2 := fun a b m => match a, b with
 | .ref n, .int k => match m[n]? with
  | some (.lst xs) => if -(2 ^ 63) ≤ k ∧ k < 2 ^ 63 ∧ xs.length * k.toNat ≤ sizeLine then ξ (.ref m.length, m ++ [.lst (List.replicate k.toNat xs).flatten]) else ζ
  | _ => ζ
 | _, _ => ζ
theorem RWs.rep {r : List Addr} {H : Hp} {ws : List W} {vs : List V} (q : RWs K r H ws vs) : ∀ k : Nat, RWs K r H (List.replicate k ws).flatten (List.replicate k vs).flatten
 | 0 => rfl
 | k + 1 => by
  rw [List.replicate_succ, List.replicate_succ, List.flatten_cons, List.flatten_cons]
  exact q.append (RWs.rep q k)
theorem CD : Imp2 K rRep zD := by
 intro r m H x y w1 w2 Q E s q1 q2 h
 unfold zD at h
 split at h
 ·rename_i n k
  split at h
  ·rename_i xs h1
   split at h
   ·rename_i hl
    obtain ⟨a, vs, rfl, ea, e2, rs⟩ := nF s q1 h1
    exact ⟨a, k, vs, rfl, q2, e2, hl.1, hl.2.1, by rw [← rs.len]; exact hl.2.2, tx s (rs.rep k.toNat) h⟩
   ·exact h.elim
  ·exact h.elim
 ·exact h.elim
end
section
end
theorem Cq {N c : Nat} (h : c = N + 4 ∨ c = N + 2 ∨ c = N + 3 ∨ c = N ∨ c = N + 1) : N ≤ c := by omega
theorem le4 {N c : Nat} (h : c = N + 6 ∨ c = N + 4 ∨ c = N + 5 ∨ c = N ∨ c = N + 1 ∨ c = N + 2 ∨ c = N + 3) : N ≤ c := by omega
structure Fn (P : Program) (w : World) (K : PySem.W.Frag) (mg : Str → Option Value) (base : Heap) (k : Nat) (f : Addr) (ps : List Str) (D : DF) : Prop where
 ex : ∃ fd : FuncData, FnG P w K mg base (L2.CX P w) k f fd ps (spD K D) ∧ Binds K fd ps []
 kp : PySem.W.keepIn K (.ref f) = true
section
variable {P: Program}{w: World}{K: PySem.W.Frag}{mg: Str → Option Value}{base: Heap}{x qual: Str}{params: Arguments}{body: List Stmt}{scope: Scope}{kws: List (Str × V)}{f: Addr}{fd: FuncData}{k: Nat}{N ps: List Str}{b: DS}
theorem mV (F : FunD K x qual params body scope [] kws f fd) (S : FnScope N ps scope)
  (hbi : ∀ (kV doc pm : Value) (an : Option Addr) (cdv ct : Value) (us : List Value), us.length = ps.length → bindArgs (PySem.W.fnOf x qual params body scope .none kV doc pm an cdv ct) ⟨us, []⟩ = pure (ps.zip us))
  (hb : ∀ (cdv : Value) (A : Around) (outer : List PySem.Env) (s : Shared) (H : Hp) (E : XK), Ctx (cxOf (L2.CX P w) P w K mg base N qual scope f cdv A outer s H E) (Ik E) k → Dm (cxOf (L2.CX P w) P w K mg base N qual scope f cdv A outer s H E) (Ik E) body b) :
  Fn P w K mg base (k + 1) f ps (ju ps.length N.length b) := ⟨⟨fd, Az F S hb, F.bindsN hbi⟩, F.kp⟩
end
section
variable {X: Cx}{Z: WX}{a b c e: Expr}{es: List Expr}{das: DA}{pos p: Pos}{k j: Nat}{x m: Str}{f C: Addr}{ps: List Str}{D: DF}
theorem DM {K : PySem.W.Frag} : ∀ (r : List Addr) (H : Hp), RWs K r H [] [] := fun _ _ => rfl
theorem d7 (Cc : Ctx X Z k) (F : Fn X.prog X.w X.K X.mg X.base j f ps D) (hm : X.mg x = ξ (.ref f)) (ha : SA X Z (e :: es) das) (hg : Gl X x := by rfl)
  (hjk : j ≤ k := by decide) (hdb : (x == ("__debug__" : Str)) = false := by decide) (he : starEach (e :: es) X.env = (false, eval e X.env) :: starEach es X.env := by rfl) (hpl : (backTo pos (starEach es X.env)).any (·.1) = false := by rfl) :
  SE X Z (.Call (.Name x p) (e :: es) [] pos) (e6 [] D das) := by
 obtain ⟨⟨fd, F1, b⟩, kp⟩ := F
 exact BF Cc F1 hg hm kp b .nil DM ha hjk hdb he hpl
theorem Ctx.blk {s : Shared} {H : Hp} {scope : Scope} {cenv : PySem.Env} {fp : List Addr} (C : Ctx X Z k) : Ctx (X.blk s H scope cenv fp) Z0 k := ⟨C.calm, C.nd, takes0, PassesOwn.never, C.room, C.gd⟩
theorem dS {x : Str} {id : String} {rr : List V → Hp → VK → Prop} {f : FN} (hc : CallR X (.builtin id) rr) (hi : pf X.K rr f) (hm : X.mg x = ζ) (ha : SA X Z (e :: es) das) (hg : Gl X x := by rfl) (hv : bootBuiltins x = ξ (.builtin id) := by decide +kernel)
  (hn : x ≠ "__name__" := by decide) (hdb : (x == ("__debug__" : Str)) = false := by decide) (he : starEach (e :: es) X.env = (false, eval e X.env) :: starEach es X.env := by rfl) (hpl : (backTo pos (starEach es X.env)).any (·.1) = false := by rfl) :
  SE X Z (.Call (.Name x p) (e :: es) [] pos) (iy f das) := y6 hc hi hg hm hv ha hn hdb he hpl
theorem Jg {x : Str} {T : String} {rr : List V → Hp → VK → Prop} {f : FN} (hc : CallR X (.type T) rr) (hi : pf X.K rr f) (hm : X.mg x = ζ) (ha : SA X Z (e :: es) das) (hg : Gl X x := by rfl) (hv : bootBuiltins x = ξ (.type T) := by decide +kernel)
  (hn : x ≠ "__name__" := by decide) (hdb : (x == ("__debug__" : Str)) = false := by decide) (he : starEach (e :: es) X.env = (false, eval e X.env) :: starEach es X.env := by rfl) (hpl : (backTo pos (starEach es X.env)).any (·.1) = false := by rfl) :
  SE X Z (.Call (.Name x p) (e :: es) [] pos) (iy f das) := xv hc hi hg hm hv ha hn hdb he hpl
theorem pX {x : Str} {T : String} (hm : X.mg x = ζ) (hg : Gl X x := by rfl) (hv : bootBuiltins x = ξ (.type T) := by decide +kernel) (hn : x ≠ "__name__" := by decide) (hd : (x == ("__debug__" : Str)) = false := by decide) : SE X Z (.Name x pos) (eC (.ty T)) :=
 BG (v := .ty T) hg hm hv rfl (fun _ _ => rfl) hn hd
theorem eJ {x : Str} {C : Addr} (hm : X.mg x = ξ (.ref C)) (hg : Gl X x := by rfl) (hd : (x == ("__debug__" : Str)) = false := by decide) : SE X Z (.Name x pos) (eC (.ob C)) :=
 BE (v := .ref C) hg hm rfl (fun _ _ => rfl) hd
def wa (i j l : Nat) (as : DA) : DS := fun env m => bS (as env m) env fun ws m1 => match ws with
 | [x, y, z] => ξ (.fl .next (((env.set i (ξ x)).set j (ξ y)).set l (ξ z)) m1)
 | _ => ζ
theorem By {i j l : Nat} {x y z : Str} {das : DA} {px py pz pt : Pos} {kt k2 pt2} (hc : X.calm = true) (hN : X.N.Nodup) (ha : SA X Z [a, b, c] das) (hi : X.N[i]? = ξ x := by rfl) (hj : X.N[j]? = ξ y := by rfl) (hl : X.N[l]? = ξ z := by rfl) (hij : i ≠ j := by decide) (hil : i ≠ l := by decide) (hjl : j ≠ l := by decide)
  (hx : X.env.scope.names.lookup x = ξ .local := by rfl) (hy : X.env.scope.names.lookup y = ξ .local := by rfl) (hz : X.env.scope.names.lookup z = ξ .local := by rfl)
  (hw : swappedStores [.Tuple [.Name x px, .Name y py, .Name z pz] kt pt] (.Tuple [a, b, c] k2 pt2) X.env = pure (ξ [x, y, z]) := by rfl)
  (hs : swapsWithSole [.Tuple [.Name x px, .Name y py, .Name z pz] kt pt] (.Tuple [a, b, c] k2 pt2) pos.line X.env = pure false := by rfl) :
  SS X Z (.Assign [.Tuple [.Name x px, .Name y py, .Name z pz] kt pt] (.Tuple [a, b, c] k2 pt2) pos) (wa i j l das) := PS.imp (ps_par3 hc hN hi hj hl hij hil hjl hx hy hz ha hw hs) fun D σ H ⟨r, m, env, s, e, h⟩ => by
 refine tX.stepS s e h fun ws m1 r1 H1 vs l1 s1 e1 q1 h1 => ?_
 match ws, q1, h1 with
 | [], _, h1 => exact h1.elim
 | [_], _, h1 => exact h1.elim
 | [_, _], _, h1 => exact h1.elim
 | [w1, w2, w3], q1, h1 =>
  obtain ⟨v1, rest, rfl, q2, v2, rest', rfl, q3, v3, rest'', rfl, q4, rfl⟩ := q1
  exact ⟨v1, v2, v3, rfl, h1 r1 H1 _ .refl s1 (((e1.set q2 i).set q3 j).set q4 l)⟩
 | _ :: _ :: _ :: _ :: _, _, h1 => exact h1.elim
end
end SB
end
section
namespace SB
open PySem L2
open He (ga ma)
instance noTabs : Tabs := ⟨[], true⟩
instance noPast : Past := ⟨[]⟩
def Fl (ex : PySem.W.Frag → Bool) (fn : List He5.DefA) (K : PySem.W.Frag) : He.AlD := (ex K && ((He.Fa.glo "law").ok K && fn.all fun d => d.ok K), fn.map fun d => He5.fnA K (d.at_ K))
def SaysZ (ex : PySem.W.Frag → Bool) (fn : List He5.DefA) (K : PySem.W.Frag) : Prop := Fl ex fn K = (true, fn.map He5.DefA.val)
section
variable {ex: PySem.W.Frag → Bool}{fn: List He5.DefA}{K: PySem.W.Frag}
theorem SaysZ.all (c : SaysZ ex fn K) : ex K = true ∧ (He.Fa.glo "law").ok K = true ∧ (fn.all fun d => d.ok K) = true := by
 have c1 : (ex K && ((He.Fa.glo "law").ok K && fn.all fun d => d.ok K)) = true := congrArg (fun z : He.AlD => z.1) c
 simp only [Bool.and_eq_true] at c1
 exact c1
theorem SaysZ.exs (c : SaysZ ex fn K) : ex K = true := c.all.1
theorem SaysZ.law (c : SaysZ ex fn K) : (He.Fa.glo "law").ok K = true := c.all.2.1
theorem SaysZ.def_ (c : SaysZ ex fn K) (i : Nat) {d : He5.DefA} (h : fn[i]? = ξ d := by rfl) : ∃ fd, FunD K d.name d.qual d.params d.body d.scope (d.dvs K) (d.kws K) (d.at_ K) fd := by
 have e : fn.map (fun d => He5.fnA K (d.at_ K)) = fn.map He5.DefA.val := congrArg (fun z : He.AlD => z.2) c
 have e2 : (fn.map fun d => He5.fnA K (d.at_ K))[i]? = (fn.map He5.DefA.val)[i]? := by rw [e]
 rw [List.getElem?_map, List.getElem?_map, h] at e2
 exact He5.DefA.funD (Option.some.inj e2) (List.all_eq_true.mp c.all.2.2 d (List.mem_of_getElem? h))
end
section
open PySem.Spec PyProof.Rows
theorem lawG {P : Program} {w : World} {K : PySem.W.Frag} {mg mb : Str → Option Value} {CX : CXT} {k : Nat} {fa a : Addr} {fd : FuncData} {x : Str} {sp : Sp} {t₁ : Shared} {vs : List Value} {ns : List Int}
    (KX : K.In t₁.heap) (hns : t₁.heap.Ns mainGlobals mg) (hbn : t₁.heap.Ns builtinsNs mb) (hbb : ∀ x : Str, x ≠ "__name__" → mb x = bootBuiltins x) (hlim : t₁.heap.NoLimit) (hg : t₁.gens = #[])
    (ha : t₁.heap.get? a = ξ { cls := .type "list", data := .seq vs.toArray }) (hi : IntsAre vs ns) (hl : ns.length ≤ sizeLine) (hr : Room k callerA)
    (F : ∀ bs : Heap, K.In bs → bs.Ns mainGlobals mg → FnG P w K mg bs CX k fa fd [x] sp) (hbd : ∀ (s : Shared) (u : Value), BindsTo s fd ⟨[u], []⟩ [(x, u)])
    (hsp : ∀ H : Hp, Only H → SqL K H a (ns.map V.int) → sp [.ref a] H (fun v _ => v = .bl true) fun _ _ _ => False)
    (hCX : ∀ H e s', CX [] H t₁ (fun _ _ _ => False) e s' → False) :
    codeAny (model P w) callerA (.call (.ref fa) ⟨[.ref a], []⟩) (fun z s' => z = .ok (.ret (.bool true)) ∧ OldK t₁.heap s'.heap ∧ s'.os = t₁.os ∧ AllBare s'.gens) t₁ := by
  have rvs := vals_ints hi
  have lnV := hi.length
  have core : ∀ H : Hp, Only H → SqL K H a (ns.map V.int) → HOk P w H t₁.heap → (∀ b, H b ≠ ζ → b = a) → (H a ≠ ζ → K.lookup a = ζ) →
      codeAny (model P w) callerA (.call (.ref fa) ⟨[.ref a], []⟩) (fun z s' => z = .ok (.ret (.bool true)) ∧ OldK t₁.heap s'.heap ∧ s'.os = t₁.os ∧ AllBare s'.gens) t₁ := by
    intro H hO hS hk hA hK
    have isA : ∀ {b : Addr} {u : HO}, H b = ξ u → b = a := fun {b u} q => hA b (by rw [q]; simp)
    have kept : ∀ {b : Addr} {o : Obj}, t₁.heap.get? b = ξ o → H b = ζ → (hidT t₁.heap H).get? b = ξ o := fun e n => hidT_get e n
    have nsK : ∀ {b : Addr} {m : Str → Option Value}, t₁.heap.Ns b m → (hidT t₁.heap H).Ns b m := fun {b m} ⟨o, es, ep, e, d, r⟩ => ⟨o, es, ep, kept e (by
      cases q : H b with
      | none => rfl
      | some u =>
        cases isA q
        rw [ha] at e
        cases e
        cases (show Data.seq vs.toArray _ = Data.dict es ep from d)), d, r⟩
    have inB : K.In (hidT t₁.heap H) := fun b o e => kept (KX b o e) (by
      cases q : H b with
      | none => rfl
      | some u =>
        cases isA q
        rw [hK (by rw [q]; simp)] at e
        cases e)
    have md : Mod K mg (hidT t₁.heap H) := ⟨inB, nsK hns, ⟨mb, nsK hbn, hbb⟩, let ⟨mc, h1, h2⟩ := hlim; ⟨mc, nsK h1, h2⟩⟩
    have en : Env0 P w K mg (hidT t₁.heap H) callerA [] t₁ H := ⟨rfl, md, fun b o e => of_hidT e, Nat.le_of_eq (hidT_size _ _), trivial, fun b hb => absurd (show b ∈ ([] : List Addr) from hb) (by simp), hk, .of_eq hg⟩
    refine codeAny_mono ((F _ inB (nsK hns)).run callerA [] t₁ H ⟨[.ref a], []⟩ [.ref a] [.ref a] _ _ ⟨hr, fun _ => rfl⟩ en (hbd t₁ (.ref a)) (.cons rfl .nil) (hsp H hO hS)) fun z s' h => ?_
    cases z with
    | error e => exact (hCX H e s' h).elim
    | ok fl =>
      cases fl <;> first | exact False.elim h | skip
      rename_i u
      obtain ⟨v, H', os, bare, un, hk', rr, q⟩ := h
      cases (show v = .bl true from q)
      obtain rfl : u = Value.bool true := rr
      refine ⟨rfl, OldK.of_keep fun b o e => ?_, os, bare⟩
      cases qb : H b with
      | none => exact un.keep b o e qb (by intro z; exact absurd (show b ∈ ([] : List Addr) from z) (by simp)) (by simp)
      | some u =>
        rcases hO b with z | ⟨ob, xs, z⟩
        · rw [qb] at z
          cases z
        · obtain ⟨e1, _⟩ := hk b _ z
          obtain ⟨e2, _⟩ := hk' b _ (un.frzs b ob _ z)
          rw [e] at e1
          cases e1
          exact e2
  cases lk : K.lookup a with
  | some o =>
    have e := KX a o lk
    rw [ha] at e
    cases e
    exact core (fun _ => ζ) (fun _ => .inl rfl) (.inr ⟨_, vs.toArray, _, lk, rfl, rfl, rfl, by rw [List.size_toArray, lnV]; exact hl, by simpa using rvs⟩) (fun b u z => nomatch z) (fun b z => absurd rfl z) fun z => absurd rfl z
  | none =>
    refine core (fun b => if b = a then ξ (.frz { cls := .type "list", data := .seq vs.toArray } (.lst (ns.map V.int))) else ζ) (fun b => ?_) (.inl (.inr ⟨{ cls := .type "list", data := .seq vs.toArray }, if_pos rfl⟩)) (fun b u z => ?_) (fun b z => ?_) fun _ => lk
    · by_cases h : b = a
      · exact .inr ⟨_, _, if_pos h⟩
      · exact .inl (if_neg h)
    · by_cases h : b = a
      · cases ((if_pos h).symm.trans z)
        subst h
        exact ⟨ha, by rw [List.length_map]; exact hl, vs, _, rvs, ha⟩
      · cases ((if_neg h).symm.trans z)
    · by_cases h : b = a
      · exact h
      · exact absurd (if_neg h) z
end
theorem walk_z {l : PySem.W.OpenLaw} {n k : Nat} {q : Program} {loose : List Str} {XP : (Str → Option Value) → Heap → Prop} {YP : World → Heap → Prop} {d : DefRec} {x : Str} (hn : l.most = ξ n) (hn2 : n ≤ sizeLine) (hdf : d.params.defaults = []) (hr : Room k callerA)
  (F : ∀ (w : World) (mg : Str → Option Value) (fa : Addr) (h : Heap), YP w h → h.Ns mainGlobals mg → mg d.name = ξ (.ref fa) →
   ∃ (K : PySem.W.Frag) (fd : FuncData) (D : DF), K.In h ∧ (∀ (s : Shared) (u : Value), BindsTo s fd ⟨[u], []⟩ [(x, u)]) ∧ (∀ ns : List Int, ns.length ≤ n → ∃ m, D [.scr ns] [] = ξ (.ok (.bl true) m)) ∧
    ∀ base : Heap, FnG l.prog w K mg base (L2.CX l.prog w) k fa fd [x] (spD K D)) :
  PySem.W.WalkO q loose XP YP l.row.toRowW d [] (fun f vs => PySem.call f vs) := by
 refine Att.attach_call hn hdf fun w s₀ s₁ mg mb fa o pm cd doc a vs ns G Y ho hd hcd hmg hobj hints hlen hg => ?_
 obtain ⟨K, fd, D, KX, hb, hD, hF⟩ := F w mg fa _ Y G.T.g hmg
 refine lawG KX G.T.g G.T.b G.T.builtins G.T.nolimit hg hobj hints (Nat.le_trans hlen hn2) hr (fun base _ _ => hF base) hb (fun H hO hS => ?_) fun H e s' hc => ?_
 ·obtain ⟨m, hm⟩ := hD ns hlen
  refine ⟨[], [], [.scr ns], ⟨rfl, .nil, fun n o e => by simp at e, fun p hp => absurd hp (by simp [Tabs.T]), fun p hp => absurd hp (by simp [Past.P])⟩, ⟨.ref a, [], rfl, ⟨a, rfl, ?_⟩, rfl⟩, ?_⟩
  ·rcases hS with (h | ⟨o, h⟩) | h
   ·rcases hO a with z | ⟨o, xs, z⟩
    ·rw [h] at z; cases z
    ·rw [h] at z; cases z
   ·exact .inl ⟨o, h⟩
   ·exact .inr h
  ·rw [hm]
   exact fun r' H' v _ _ q => q
 ·obtain ⟨_, _, _, _, _, _, _, _, _, _, _, _, z⟩ := hc
  exact z
end SB
end
section
namespace SB
open PySem L2
variable [Tabs][Past]
def WP {α : Type} (x : Option (R α)) (Q : α → M → Prop) : Prop := ∃ a m, x = ξ (.ok a m) ∧ Q a m
def WPS (x : Option RS) (Q : F → Env → M → Prop) : Prop := ∃ f env m, x = ξ (.fl f env m) ∧ Q f env m
section
variable {α β: Type}{x: Option (R α)}{k: α → M → Option (R β)}{Q: β → M → Prop}{env: Env}{m: M}{QS: F → Env → M → Prop}
theorem WP.ok {a : α} {Q : α → M → Prop} (h : Q a m) : WP (ξ (.ok a m)) Q := ⟨a, m, rfl, h⟩
theorem WP.imp {Q Q' : α → M → Prop} (h : WP x Q) (i : ∀ a m, Q a m → Q' a m) : WP x Q' := by
 obtain ⟨a, m', e, q⟩ := h
 exact ⟨a, m', e, i a m' q⟩
theorem WPS.imp {x : Option RS} {Q' : F → Env → M → Prop} (h : WPS x QS) (i : ∀ f e m, QS f e m → Q' f e m) : WPS x Q' := by
 obtain ⟨f, en, m', e, q⟩ := h
 exact ⟨f, en, m', e, i f en m' q⟩
def KG (Q : W → M → Prop) : F → Env → M → Prop := fun f _ m => match f with
 | .next => Q .non m
 | .ret w => Q w m
 | _ => False
@[simp] theorem Ij {Q : W → M → Prop} : KG Q .next env m = Q .non m := rfl
@[simp] theorem KC {Q : W → M → Prop} {w : W} : KG Q (.ret w) env m = Q w m := rfl
@[simp ↓] theorem i' : bnd x k = match x with
  | none => ζ
  | some (.ok a m) => k a m
  | some (.exc C d m) => ξ (.exc C d m) := rfl
@[simp ↓] theorem bS_def {k : α → M → Option RS} : bS x env k = match x with
  | none => ζ
  | some (.ok a m) => k a m
  | some (.exc C d m) => ξ (.exc C d env m) := rfl
@[simp ↓] theorem Jl {a b : DS} : cO a b env m = match a env m with
  | some (.fl .next env' m') => b env' m'
  | x => x := rfl
@[simp ↓] theorem Cd {x : Option (R W)} {k : W → M → Option (Env × M)} : HM x k = match x with
  | some (.ok w m) => k w m
  | _ => ζ := rfl
@[simp] theorem lq {i : Nat} : aA i env m = match env[i]? with
  | some (ξ w) => ξ (.ok w m)
  | _ => ζ := rfl
@[simp] theorem eC_app {w : W} : eC w env m = ξ (.ok w m) := rfl
@[simp] theorem Ly {f : F2} {a b : DE} : dh f a b env m = bnd (a env m) fun x m1 => bnd (b env m1) fun y m2 => up (f x y m2) := rfl
@[simp] theorem Lw {f : F1} {a : DE} : Gn f a env m = bnd (a env m) fun x m1 => up (f x m1) := rfl
@[simp] theorem yb {d : DE} : eL d env m = bnd (d env m) LJ := rfl
@[simp] theorem GH {b : Bool} : LJ (.bl b) m = ξ (.ok b m) := rfl
@[simp] theorem Hw {a b : DT} : Jd a b env m = bnd (a env m) fun x m1 => if x = true then b env m1 else ξ (.ok false m1) := rfl
@[simp] theorem Jc {a b : DT} : xt a b env m = bnd (a env m) fun x m1 => if x = true then ξ (.ok true m1) else b env m1 := rfl
@[simp] theorem Hv {a : DT} : pU a env m = bnd (a env m) fun x m1 => ξ (.ok (!x) m1) := rfl
@[simp] theorem Ih {a b : DE} : AR a b env m = bnd (a env m) fun x m1 => match x with
  | .bl true => b env m1
  | .bl false => ξ (.ok (.bl false) m1)
  | _ => ζ := rfl
@[simp] theorem Ki {a b : DE} : eOrV a b env m = bnd (a env m) fun x m1 => match x with
  | .bl true => ξ (.ok (.bl true) m1)
  | .bl false => b env m1
  | _ => ζ := rfl
@[simp] theorem H9 {a : DE} : AQ a env m = bnd (a env m) fun x m1 => match x with
  | .bl k => ξ (.ok (.bl (!k)) m1)
  | _ => ζ := rfl
@[simp] theorem Lz {c : DT} {a b : DE} : eIf c a b env m = bnd (c env m) fun x m1 => if x = true then a env m1 else b env m1 := rfl
@[simp] theorem Ku : aB env m = ξ (.ok [] m) := rfl
@[simp] theorem jY {a : DE} {as : DA} : aj a as env m = bnd (a env m) fun x m1 => bnd (as env m1) fun xs m2 => ξ (.ok (x :: xs) m2) := rfl
@[simp] theorem AO {as : DA} : iO as env m = bnd (as env m) fun ws m1 => if ws.length ≤ sizeLine then ξ (.ok (.tup ws) m1) else ζ := rfl
@[simp] theorem Kj {as : DA} : cS as env m = bnd (as env m) fun ws m1 => if ws.length ≤ sizeLine then ξ (.ok (.ref m1.length) (m1 ++ [.lst ws])) else ζ := rfl
@[simp] theorem LA {f : FN} {as : DA} : iy f as env m = bnd (as env m) fun ws m1 => up (f ws m1) := rfl
@[simp] theorem yc {D : DF} {as : DA} : e6 [] D as env m = bnd (as env m) fun ws m1 => D ws m1 := by
  unfold e6
  simp
@[simp] theorem Kk {C : Addr} {f : Str} {o : DE} : eFld C f o env m = bnd (o env m) fun w m1 => match qE m1 C w with
  | some fs => match fs.lookup f with
    | some v => ξ (.ok v m1)
    | none => ζ
  | none => ζ := rfl
@[simp] theorem Ie {C : Addr} {mn : Str} {D : DF} {o : DE} {as : DA} : DY C mn [] D o as env m = bnd (o env m) fun w m1 => match qE m1 C w with
  | some fs => match fs.lookup mn with
    | some _ => ζ
    | none => bnd (as env m1) fun ws m2 => D (w :: ws) m2
  | none => ζ := by
  unfold DY
  simp only [List.append_nil] <;> rfl
@[simp] theorem Ig {C : Addr} {D : DF} {as : DA} : DZ C [] D as env m = bnd (as env m) fun ws m1 => mkW C D ws m1 := by
  unfold DZ
  simp
@[simp] theorem H8 {C : Addr} {D : DF} {o : DE} : Kh C D o env m = bnd (o env m) fun w m1 => match qE m1 C w with
  | some _ => noX (D [w] m1)
  | none => ζ := rfl
@[simp] theorem LC {T : String} {f : FM} {o : DE} {as : DA} : eBM T f o as env m = bnd (o env m) fun w m1 => if J1 T m1 w = true then bnd (as env m1) fun ws m2 => up (f w ws m2) else ζ := rfl
@[simp] theorem Hz : hM env m = ξ (.fl .next env m) := rfl
@[simp] theorem K0 {f : F} : sFl f env m = ξ (.fl f env m) := rfl
@[simp] theorem HA {a : DE} : Jo a env m = bS (a env m) env fun _ m1 => ξ (.fl .next env m1) := rfl
@[simp] theorem Jm {a : DE} : hH a env m = bS (a env m) env fun w m1 => ξ (.fl (.ret w) env m1) := rfl
@[simp] theorem KZ {c : DT} {a b : DS} : wc c a b env m = bS (c env m) env fun x m1 => if x = true then a env m1 else b env m1 := rfl
@[simp] theorem Jp {a : DE} {g : DG} : dU a g env m = bS (a env m) env fun w m1 => HP (g w env m1) := rfl
@[simp] theorem Ii {i : Nat} {w : W} : bP i w env m = ξ (env.set i (ξ w), m) := rfl
@[simp] theorem JN {p : Env × M} : HP (ξ p) = ξ (.fl .next p.1 p.2) := rfl
@[simp] theorem JO : HP ζ = ζ := rfl
@[simp] theorem Jn {i j : Nat} {as : DA} : sPar i j as env m = bS (as env m) env fun ws m1 => match ws with
  | [x, y] => ξ (.fl .next ((env.set i (ξ x)).set j (ξ y)) m1)
  | _ => ζ := rfl
@[simp] theorem Hy {i j l : Nat} {as : DA} : wa i j l as env m = bS (as env m) env fun ws m1 => match ws with
  | [x, y, z] => ξ (.fl .next (((env.set i (ξ x)).set j (ξ y)).set l (ξ z)) m1)
  | _ => ζ := rfl
@[simp] theorem AZ {f : F3} {o i : DE} {w : W} : yd f o i w env m = HM (o env m) fun wo m1 => HM (i env m1) fun wi m2 => (f wo wi w m2).map fun m3 => (env, m3) := rfl
@[simp] theorem fI_int {g : Int → Int → Option W} {i j : Int} : fI g (.int i) (.int j) m = match g i j with
  | some w => ξ (w, m)
  | none => ζ := rfl
end
section
end
section
end
section
end
section
end
def we (d : PyData) : Bool := d.showable && (!d.hasDict && (Nat.ble d.depth 60 && Nat.ble d.shown.length sizeLine))
section
end
end SB
end
section
namespace SB
open PySem L2
open He (ga ma)
open ClX (CRead CVal pe_cval)
variable [Tabs][Past]
section
end
end SB
end
section
namespace SB
open PySem L2
variable [Tabs][Past]
section
variable {K: PySem.W.Frag}{X: Cx}
theorem Imp2.or {r1 r2 : R2} {f1 f2 : F2} {c : W → W → M → Bool} (h1 : Imp2 K r1 f1) (h2 : Imp2 K r2 f2) : Imp2 K (fun x y H Q => r1 x y H Q ∨ r2 x y H Q) (fun a b m => if c a b m = true then f1 a b m else f2 a b m) := by
 intro r m H x y w1 w2 Q E s q1 q2 h
 simp only at h
 by_cases hc : c w1 w2 m = true
 ·rw [if_pos hc] at h
  exact .inl (h1 r m H x y w1 w2 Q E s q1 q2 h)
 ·rw [if_neg hc] at h
  exact .inr (h2 r m H x y w1 w2 Q E s q1 q2 h)
def tQ : F2 := fun a b m => match a, b with
 | .tup xs, .tup ys => if xs.length + ys.length ≤ sizeLine then ξ (.tup (xs ++ ys), m) else ζ
 | _, _ => ζ
theorem Ah : Imp2 K (rCatA K) tQ := by
 intro r m H x y w1 w2 Q E s q1 q2 h
 unfold tQ at h
 split at h
 ·rename_i xs ys
  split at h
  ·rename_i hl
   obtain ⟨a, vs, rfl, hs, rs⟩ := q1
   obtain ⟨b, us, rfl, hs', rs'⟩ := q2
   refine ⟨a, b, vs, us, rfl, rfl, SqT.of hs, SqT.of hs', by rw [← rs.len, ← rs'.len]; exact hl, fun e => ?_, fun e e' => ?_, fun e e' p hp => ?_⟩
   ·subst e
    have : xs = [] := List.length_eq_zero_iff.mp (by rw [rs.len]; rfl)
    subst this
    exact h.done s ⟨b, us, rfl, hs', rs'⟩
   ·subst e'
    have : ys = [] := List.length_eq_zero_iff.mp (by rw [rs'.len]; rfl)
    subst this
    rw [List.append_nil] at h
    exact h.done s ⟨a, vs, rfl, hs, rs⟩
   ·exact wA s (rs.append rs') h hp
  ·exact h.elim
 ·exact h.elim
def J2 : W → Bool
 | .int _ => true
 | _ => false
def isS : W → Bool
 | .str _ => true
 | _ => false
def isT : W → Bool
 | .tup _ => true
 | _ => false
def dP : F2 := fun a b m => if J2 a = true then Fq a b m else if isS a = true then tR a b m else if isT a = true then tQ a b m else zG a b m
abbrev DJ (K : PySem.W.Frag) : R2 := fun x y H Q => (rI0 fun i j => .int (i + j)) x y H Q ∨ (fun x y H Q => (fun x y H Q => ∃ i j, x = .str i ∧ y = .str j ∧ i.length + j.length ≤ sizeLine ∧ Q (.str (i ++ j)) H) x y H Q ∨ (fun x y H Q => rCatA K x y H Q ∨ rCat x y H Q) x y H Q) x y H Q
theorem bV : OpR X (binaryOp .Add) (DJ X.K) := op_add.or (op_add_str.or (op_catA.or op_cat))
theorem bB : Imp2 K (DJ K) dP := Imp2.or (c := fun a _ _ => J2 a) CH (Imp2.or (c := fun a _ _ => isS a) Ai (Imp2.or (c := fun a _ _ => isT a) Ah CG))
def mM : F2 := fun a b m => if J2 a = true then Fo a b m else zD a b m
abbrev DH : R2 := fun x y H Q => (rI CMul fun i j => .int (i * j)) x y H Q ∨ rRep x y H Q
theorem jR : OpR X (binaryOp .Mult) DH := op_mul.or op_rep
theorem iL : Imp2 K DH mM := Imp2.or (c := fun a _ _ => J2 a) CF CD
def zE : F1 := fun a m => match a with
 | .int i => ξ (.int (-i), m)
 | _ => ζ
theorem rS : GW K (rU fun i => .int (-i)) zE := by
 intro r m H x w Q E s q h
 cases w <;> first | exact h.elim | skip
 rename_i i
 exact ⟨i, q, h.done s rfl⟩
theorem PO.imp {e : Option Expr} {t u : TO} (h : PO X e t) (i : ∀ σ H Q, u σ H Q → t σ H Q) : PO X e u := ⟨fun pins s σ H Q I q => h.run pins s σ H Q I (i σ H Q q)⟩
def A0 {α : Type} (xs : List α) (lo hi : Option Int) : List α := (xs.drop (HT.sIx xs.length 0 lo)).take (HT.sIx xs.length xs.length hi - HT.sIx xs.length 0 lo)
end
end SB
namespace SB
open PySem L2
variable [Tabs][Past]
section
variable {X: Cx}{Z: WX}{a tg: Expr}{da: DE}
theorem pW {d1 d2 : DI} (cc : Env → M → Bool) (h1 : SI X Z tg a d1) (h2 : SI X Z tg a d2) : SI X Z tg a (fun env m => if cc env m = true then d1 env m else d2 env m) := ⟨fun pins s σ H Q I ⟨r, m, env, s', e', h⟩ => by
 by_cases hc : cc env m = true
 ·simp only [if_pos hc] at h
  exact h1.run pins s σ H Q I ⟨r, m, env, s', e', h⟩
 ·simp only [if_neg hc] at h
  exact h2.run pins s σ H Q I ⟨r, m, env, s', e', h⟩⟩
def xS : Option (R W) → Bool
 | some (.ok (.tup _) _) => true
 | some (.ok (.im (.tpl _) _) _) => true
 | _ => false
def qF (a : DE) : DI := fun env m => if xS (a env m) = true then Aj a env m else FT a env m
theorem uX (ha : SE X Z a da) : SI X Z tg a (qF da) := pW (fun env m => xS (da env m)) (Ex ha) (Bz ha)
end
end SB
namespace SB
open PySem L2
variable [Tabs][Past]
section
end
end SB
end
section
namespace HT
open PySem PySem.Spec PyProof.Rows
section
end
end HT
namespace SB
open PySem PySem.Spec PyProof.Rows L2
variable [Tabs][Past]
section
end
end SB
end
section
namespace SB
open PySem PySem.Spec PyProof.Rows L2
variable [Tabs][Past]
section
variable {κ: Type}[DecidableEq κ]
def xc (kvs : List (κ × W)) (k : κ) : Option W := (kvs.find? fun kv => decide (kv.1 = k)).map (·.2)
def Jv (K : PySem.W.Frag) (r : List Addr) (H : Hp) : Option W → Option V → Prop
 | some w, ξ v => RW K r H w v
 | none, ζ => True
 | _, _ => False
theorem RKV.val {K : PySem.W.Frag} {r : List Addr} {H : Hp} (k : κ) : ∀ {kvs : List (κ × W)} {vs : List (κ × V)}, RKV K r H kvs vs → Jv K r H (xc kvs k) (valV vs k)
 | [], _, q => by cases q; exact True.intro
 | p :: ps, _, q => by
  obtain ⟨v, rest, rfl, q1, q2⟩ := q
  by_cases e : p.1 = k
  ·have e1 : xc (p :: ps) k = ξ p.2 := by simp [xc, List.find?_cons, e]
   rw [e1, valV_pos (p := (p.1, v)) e]
   exact q1
  ·have e1 : xc (p :: ps) k = xc ps k := by simp [xc, List.find?_cons, e]
   rw [e1, valV_neg (p := (p.1, v)) e]
   exact RKV.val k q2
end
section
end
section
end
section
end
end SB
end
section
namespace SB
open PySem PySem.Spec L2
open PyProof.Rows hiding St
variable [Tabs][Past]
section
abbrev ActT := Shared → (Shared → Prop) → (Value → Shared → Prop) → Prop
end
abbrev TN := St → Hp → (Hp → Prop) → Prop
structure PAct (X : Cx) (act : ActT) (us : List Nat) (inner : TN) : Prop where
 run : ∀ (pins : List (Addr × Obj)) (s : Shared) (σ : St) (H : Hp) (N : Hp → Prop) (K : Shared → Prop) (E : Value → Shared → Prop), Inv X pins σ H s → inner σ H N → (∀ s' σ' H', Inv X pins σ' H' s' → wipe σ' us = wipe σ us → N H' → K s') → act s K E
section
end
section
variable {K: PySem.W.Frag}{r: List Addr}{H: Hp}{p: Addr}{u u0: HO}
def opn : HO → Prop
 | .tup _ => False
 | .frz _ _ => False
 | .tbl _ => False
 | .ext p => ∀ c q, HO.ext p ≠ LamX.CodeO c q
 | _ => True
theorem Cb (h : opn u0) : ∀ ps, u0 ≠ .tbl ps := fun ps z => by rw [z] at h; exact h
def isAcc : O → Bool
 | .lst _ => true
 | .dct _ => true
 | .dtp _ => true
 | _ => false
theorem xT {o : O} (ha : isAcc o = true) (q : RO K r H o u) : opn u := by
 cases o <;> first | cases ha | skip
 all_goals obtain ⟨vs, rfl, _⟩ := q; trivial
end
section
variable {K: PySem.W.Frag}{D: Addr}
structure At (K : PySem.W.Frag) (D : Addr) (r0 : List Addr) (H0 : Hp) (r : List Addr) (m : M) (H : Hp) (o : O) (u : HO) : Prop where
 lt : Lt K r0 H0 r H
 sim : Sim K r m H
 nin : D ∉ r
 at_ : H D = ξ u
 ro : RO K r H o u
 acc : isAcc o = true
theorem At.go {r0 r r' : List Addr} {H0 H H' : Hp} {m m' : M} {o : O} {u : HO} (a : At K D r0 H0 r m H o u) (l : Lt K r H r' H') (s : Sim K r' m' H') : At K D r0 H0 r' m' H' o u :=
 have hn : D ∉ r' := fun z => by
  have := l.fresh D z a.nin
  rw [a.at_] at this
  cases this
 ⟨a.lt.trans l, s, hn, l.kept D _ a.at_ a.nin (Cb (xT a.acc a.ro)), a.ro.mono l, a.acc⟩
end
section
variable {X: Cx}
theorem PAct.imp {act : ActT} {us : List Nat} {t t' : TN} (h : PAct X act us t) (i : ∀ σ H N, t' σ H N → t σ H N) : PAct X act us t' := ⟨fun pins s σ H N K E I q => h.run pins s σ H N K E I (i σ H N q)⟩
section
end
end
section
variable {X: Cx}{Z: WX}{k: Nat}
variable {tg iter: Expr}{scope: Scope}{own: List (Str × Nat)}{di: DI}
section
variable (C: Ctx X Z k)(hi: SI X Z tg iter di)(ok: BlkOk X.N X.env.scope scope own)
include C hi ok
end
end
section
variable {κ: Type}[DecidableEq κ]
end
section
variable {m: M}
def dK? (m : M) (n : Nat) : Option (List (Key × W)) := match m[n]? with
 | some (.dct k) => ξ k
 | some (.lcd k) => ξ k
 | _ => ζ
end
end SB
end
section
namespace SB
open PySem PySem.Spec L2
open AutoSeq1 (wpAny_loadPart')
variable [Tabs][Past]
set_option maxHeartbeats 1000000 in
theorem tY (l : Addr) (items : Array Value) (n : Nat) (dct : Option Addr) (sl : Array (Option Value)) :
  Meets (Builtin.«enumerate.__new__» ⟨[.type "enumerate", .ref l], []⟩) (fun _ R s => s.heap.get? l = ξ { cls := .type "tuple", dict := dct, data := .seq items n, slots := sl } ∧
   R (.ok (.ret (.ref (s.heap.push { cls := .type "tuple_iterator", data := .fields #[.ref l, .int 0 0] }).objs.size)))
    { s with heap := (s.heap.push { cls := .type "tuple_iterator", data := .fields #[.ref l, .int 0 0] }).push { cls := .type "enumerate", data := .fields #[.none, .bool false, .ref s.heap.objs.size, rawInt 0, .none, .none] } }) :=
 .of_wp fun prog w A R s h => by
  obtain ⟨hp, g, d, tk, os⟩ := s; obtain ⟨hl, h⟩ := h
  have hsub := sub_enumerate
  have hT : Heap.IsTuple (Shared.heap ⟨hp, g, d, tk, os⟩) l items := ⟨_, hl, rfl, n, rfl⟩
  wp_walk using wpAny_loadPart' hl
  refine wpAny_stack_any fun st => wpAny_pure ?_
  split
  ·rename_i c _ _ _ _ _
   cases (c == Value.type "enumerate")
   ·wp_walk using wpAny_loadPart' hl, wpAny_pyIter_tuple hT
    exact ⟨_, rfl, h⟩
   ·wp_walk using wpAny_loadPart' hl, wpAny_pyIter_tuple hT
    exact ⟨_, rfl, h⟩
  ·wp_walk using wpAny_loadPart' hl, wpAny_pyIter_tuple hT
   exact ⟨_, rfl, h⟩
section
variable {prog: Program}{w: World}{A: Around}{E: Value → Shared → Prop}{s: Shared}
theorem vM {l : Addr} {items : Array Value} {Q : Value → Shared → Prop} (hT : s.heap.IsTuple l items)
  (h : ∀ h', IsEnum h' (s.heap.objs.size + 1) s.heap.objs.size 0 .none → h'.IsTupleIter s.heap.objs.size l 0 → h'.objs.size = s.heap.objs.size + 2 → (∀ b o, s.heap.get? b = ξ o → h'.get? b = ξ o) → Q (.ref (s.heap.objs.size + 1)) { s with heap := h' }) :
  wpAny (model prog w) A (call (.type "enumerate") [.ref l]) Q E s := by
 obtain ⟨⟨c, dct, dt, sl⟩, hl, hc, n, hd⟩ := hT
 have hc : c = .type "tuple" := hc
 have hd : dt = .seq items n := hd
 subst hc hd
 refine callType_new F.called_enumerate (by decide) (F.typeCall_enumerate_1 _) (F.newCall_enumerate_1 _) (fun obj => F.args_object_init_2 obj _) F.entry_enumerate_new (tY l items n dct sl) ⟨hl, ?_⟩
 generalize hi : ({ cls := .type "tuple_iterator", data := .fields #[.ref l, .int 0 0] } : Obj) = oi
 have hfi : oi.isFreed = false := by subst hi; rfl
 have hz : (s.heap.push oi).objs.size = s.heap.objs.size + 1 := Heap.size_push ..
 show _ ∧ _
 rw [hz]
 have he : IsEnum ((s.heap.push oi).push { cls := .type "enumerate", data := .fields #[.none, .bool false, .ref s.heap.objs.size, rawInt 0, .none, .none] }) (s.heap.objs.size + 1) s.heap.objs.size 0 .none := by
  have := Heap.get?_push_size (s.heap.push oi) (o := { cls := .type "enumerate", data := .fields #[.none, .bool false, .ref s.heap.objs.size, rawInt 0, .none, .none] }) rfl
  rw [hz] at this; exact this
 have hit : Heap.IsTupleIter ((s.heap.push oi).push { cls := .type "enumerate", data := .fields #[.none, .bool false, .ref s.heap.objs.size, rawInt 0, .none, .none] }) s.heap.objs.size l 0 := by
  refine ⟨oi, Heap.get?_push_of_some _ (Heap.get?_push_size _ hfi), ?_, ?_⟩ <;> (subst hi; rfl)
 exact ⟨⟨_, he, rfl⟩, h _ he hit (by rw [Heap.size_push, hz]) fun b o x => Heap.get?_push_of_some _ (Heap.get?_push_of_some _ x)⟩
end
def GP (K : PySem.W.Frag) (a : Addr) : It :=
 ⟨fun i H => ∃ (xs : List V) (x : V), SqT K H a xs ∧ xs[i]? = ξ x, fun i H v H' => ∃ T x, v = .ref T ∧ H T = ζ ∧ H' = upd H T (.tup [.int (i : Nat), x]) ∧ ∀ xs, SqT K H a xs → xs[i]? = ξ x, fun i H => ∃ xs : List V, SqT K H a xs ∧ xs.length ≤ i⟩
theorem uP {P : Program} {w : World} {K : PySem.W.Frag} {elts : List Expr} {kk : Nat} {tpos : Pos} (a e it : Addr) :
    Turn P w K (.Tuple elts kk tpos) (GP K a) [e, it] e (fun i h => (∃ old, IsEnum h e it ((i : Nat) : Int) old) ∧ h.IsTupleIter it a i ∧ e ≠ it) where
  mem := by simp
  obj := fun i h st b hb => by
    obtain ⟨⟨old, he⟩, ⟨o, ho, hc, hd⟩, _⟩ := st
    have e' : b = e ∨ b = it := by simpa using hb
    rcases e' with z | z
    · rw [z]; exact ⟨_, he, fun v q => nomatch q⟩
    · rw [z]; exact ⟨o, ho, fun v q => by rw [hd] at q; cases q⟩
  keep := fun i h h' st k => by
    obtain ⟨⟨old, he⟩, hi, hne⟩ := st
    exact ⟨⟨old, k e (by simp) _ he⟩, hi.at fun o q => k it (by simp) o q, hne⟩
  item := by
    intro X hP hw hK hc i pins s σ H E I hf st hg
    subst hP hw hK
    obtain ⟨⟨old, he⟩, hit, hne⟩ := st
    obtain ⟨xs, x, hq, hx⟩ := hg
    obtain ⟨its, rv, p, hz⟩ := I.tuple hq
    obtain ⟨u, hu, ru⟩ := rv.get hx
    have hel : e < s.heap.objs.size := Heap.lt_size he
    have hil : it < s.heap.objs.size := by obtain ⟨_, q, _⟩ := hit; exact Heap.lt_size q
    have hT : s.heap.IsTuple a its.toArray := p
    have hai : a ≠ it := fun z => by
      obtain ⟨o1, h1, c1, _⟩ := hT
      obtain ⟨o2, h2, c2, _⟩ := hit
      rw [z, h2] at h1
      cases h1
      rw [c1] at c2
      exact absurd c2 (by decide)
    have hae : e ≠ a := fun z => by
      obtain ⟨o1, h1, c1, _⟩ := hT
      have h2 : s.heap.get? e = _ := he
      rw [z, h1] at h2
      have h3 := congrArg (fun o => o.map (·.cls)) h2
      simp only [Option.map_some, c1] at h3
      exact absurd h3 (by decide)
    have hlt : i < its.toArray.size := by
      have := (List.getElem?_eq_some_iff.mp hu).1
      simpa using this
    refine wpAny_pyNext_enum_itemD (Draws.tuple (show X.A.in1.handled = ζ from I.ok.hd hc) it a hai its.toArray) he ⟨hit, hT⟩ hlt hne (by simp; exact ⟨hne, hae⟩) fun u' h' tk hP ho hit' hT' hsz hk => ?_
    have hu' : u' = u := by
      have h1 : its[i]? = ξ u' := by simpa using hP
      rw [hu] at h1
      exact (Option.some.inj h1).symm
    subst hu'
    refine ⟨_, rfl, wpAny_letOwnedTupleGo_enum (s := { s with heap := h', toks := tk + 1 }) ho fun h'' he' sb => ?_⟩
    have hT2 : h''.get? s.heap.objs.size = ξ { cls := .type "tuple", data := .seq #[.int i tk, u'] } := (sb.2 _ (Nat.ne_of_gt hel)).trans hT'
    have new : ObjOk X.prog X.w (upd H s.heap.objs.size (.tup [.int (i : Nat), x])) h'' s.heap.objs.size (.tup [.int (i : Nat), x]) :=
      ⟨by show 2 ≤ sizeLine; decide, [.int i tk, u'], .cons ⟨_, rfl⟩ (.cons ru .nil), ⟨_, hT2, rfl, _, rfl⟩⟩
    have I1 : Inv X pins σ (upd H s.heap.objs.size (.tup [.int (i : Nat), x])) { s with heap := h'', toks := tk + 1 } :=
      I.turnedNew (ch := [e, it]) (fun b ob hb q => (sb.2 b (fun z => hb (by simp [z]))).trans (hk b ob (fun z => hb (by simp [z])) (fun z => hb (by simp [z])) q)) hf (Nat.le_refl _) new
    refine ⟨.ref s.heap.objs.size, _, I1, rfl, ⟨_, x, rfl, I.hok.fresh (Nat.le_refl _), rfl, fun ys hy => by rw [I.tuple_inj hy hq]; exact hx⟩, ⟨⟨u', ?_⟩, hit'.1.at fun o q => (sb.2 it (Ne.symm hne)).trans q, hne⟩, fun b hb => ?_⟩
    · have e1 : ((i + 1 : Nat) : Int) = (i : Int) + 1 := by omega
      rw [e1]; exact he'
    · have hb' : b < s.heap.objs.size := by
        have e' : b = e ∨ b = it := by simpa using hb
        rcases e' with z | z
        · rw [z]; exact hel
        · rw [z]; exact hil
      rw [upd_ne (Nat.ne_of_lt hb')]
      exact (hf b hb).1
  done := by
    intro X hP hw hK hc i pins s σ H E I hf st hg
    subst hP hw hK
    obtain ⟨⟨old, he⟩, hit, hne⟩ := st
    obtain ⟨xs, hq, hx⟩ := hg
    obtain ⟨its, rv, p, hz⟩ := I.tuple hq
    obtain ⟨f0, f1, f2, f3, f4, f5⟩ := hf it (by simp)
    have hl := rv.length
    have hT : s.TypeIs (.ref e) "enumerate" := ⟨_, he, rfl⟩
    unfold pyNext
    refine wpAny_bind (wpAny_attempt (wpAny_callSpecial?_slot (name := Str.ofString "__next__") hT F.slot_enumerate_next (wpAny_call_entry F.slot_enumerate_next hT F.entry_enumerate_next ?_ (F.args_enumerate_next_1 _))))
    show wpAny _ _ (field (.ref e) 2 >>= _) _ _ _
    refine wpAny_bind (wpAny_field he rfl (x := .ref it) rfl ?_)
    refine wpAny_bind (wpAny_nextOf_tuple_end (show X.A.in1.handled = ζ from I.ok.hd hc) hit (show s.heap.IsTuple a its.toArray from p) (by simp; omega) fun h' x he' hx' => ?_)
    obtain ⟨o, ho, hc'⟩ := hx'
    refine wpAny_bind (wpAny_isInstance (T := "StopIteration") (b := true) ⟨o, ho, hc'⟩ isSubtype_stop ?_)
    exact wpAny_pure ⟨rfl, I.turned (t' := s.toks) (fun b o hb q => he' b o hb q) f0 f1 f3 f4 f5⟩
  self := fun A i s Q E st h => let ⟨⟨_, he⟩, _⟩ := st; wpAny_pyIter_enum he h
def FU (K : PySem.W.Frag) (ta : TA) : TI := fun σ H R => ta σ H fun vs H1 => ∃ a xs, vs = [.ref a] ∧ SqT K H1 a xs ∧ R (GP K a) H1
theorem zr {X : Cx} {e : Expr} {ta : TA} {p pos tpos : Pos} {elts : List Expr} {kk : Nat} (hg : Gl X "enumerate") (hm : X.mg "enumerate" = ζ) (ha : PA X [e] ta) (hs : starEach [e] X.env = [(false, eval e X.env)] := by rfl) :
  PI X (.Tuple elts kk tpos) (.Call (.Name "enumerate" p) [e] [] pos) (FU X.K ta) := by
 refine ⟨fun pins s σ H R I h => ?_⟩
 refine PyProof.Rows.Call_ (ld_blt I hg hm PyProof.Rows.boot_enumerate (PyProof.Rows.callWith_type1 (wpAny_mono (ha.run pos pins s σ H _ I h) (fun us s1 ⟨vs, H1, I1, r1, q1⟩ => ?_) fun _ _ z => z) hs rfl))
 obtain ⟨a, xs, ex, hq, q⟩ := q1
 subst ex
 cases r1 with
 | cons r rr =>
  cases rr
  cases r
  obtain ⟨its, rv, p', hz⟩ := I1.tuple hq
  refine vM (show s1.heap.IsTuple a its.toArray from p') fun h' he hit hsz hk => wpAny_pyIter_enum he ?_
  have I2 : Inv X pins σ H1 { s1 with heap := h' } := I1.kept (t' := s1.toks) hk
  refine ⟨s1.heap.objs.size + 1, [s1.heap.objs.size + 1, s1.heap.objs.size], _, _, H1, rfl, I2, uP a (s1.heap.objs.size + 1) s1.heap.objs.size, ⟨⟨.none, he⟩, hit, Nat.succ_ne_self _⟩, fun b hb => ?_, q⟩
  have e' : b = s1.heap.objs.size + 1 ∨ b = s1.heap.objs.size := by simpa using hb
  have hle : s1.heap.objs.size ≤ b := by
   rcases e' with z | z
   ·rw [z]; exact Nat.le_add_right _ _
   ·rw [z]; exact Nat.le_refl _
  exact I1.fpOk hle (I1.hok.fresh hle)
def iN : Nat → List W → List W
 | _, [] => []
 | i, w :: ws => .tup [.int (i : Nat), w] :: iN (i + 1) ws
theorem mx : ∀ {i : Nat} {ws : List W}, (iN i ws).length = ws.length
 | _, [] => rfl
 | i, w :: ws => by simp [iN, mx]
theorem my : ∀ {i j : Nat} {ws : List W}, (iN i ws)[j]? = (ws[j]?).map fun w => W.tup [.int ((i + j : Nat) : Int), w]
 | _, _, [] => by simp [iN]
 | i, 0, w :: ws => by simp [iN]
 | i, j + 1, w :: ws => by
  have := my (i := i + 1) (j := j) (ws := ws)
  simp only [iN, List.getElem?_cons_succ, this]
  have e : i + 1 + j = i + (j + 1) := by omega
  rw [e]
def FW (as : DA) : DI := fun env m => bnd (as env m) fun ws m1 => match ws with
 | [w] => (match dy m1 w with
  | some xs => ξ (.ok ⟨iN 0 xs, fun m => isLst m w xs⟩ m1)
  | none => ζ)
 | _ => ζ
def FV (as : DA) : DI := fun env m => bnd (as env m) fun ws m1 => match ws with
 | [.tup xs] => ξ (.ok ⟨iN 0 xs, fun _ => true⟩ m1)
 | [.im (.tpl _) xs] => ξ (.ok ⟨iN 0 xs, fun _ => true⟩ m1)
 | _ => ζ
section
variable {X: Cx}{Z: WX}{e: Expr}{das: DA}{p pos tpos: Pos}{elts: List Expr}{kk: Nat}{K: PySem.W.Frag}{r: List Addr}{H: Hp}
theorem FI {w : W} {ws : List W} {a : Addr} (q : RW K r H w (.ref a)) : JR K r H (Ite K a) ⟨iN 0 ws, fun m => isLst m w ws⟩ := by
 intro i r' m H' l s hc
 obtain ⟨a', vs, e, hs, rs⟩ := iK s (q.le l.le) (isLst_self.mp hc)
 cases e
 refine ⟨fun hi => ⟨vs, hs, by rw [← rs.len]; rw [mx] at hi; exact hi⟩, fun w' hw => ?_⟩
 rw [my] at hw
 obtain ⟨w0, h0, rfl⟩ : ∃ w0, ws[i]? = ξ w0 ∧ W.tup [.int ((0 + i : Nat) : Int), w0] = w' := by simpa using hw
 obtain ⟨v, hv, rv⟩ := rs.get h0
 refine ⟨⟨vs, v, hs, hv⟩, fun x H2 ⟨T, x', ex, hT, e2, f⟩ => ?_⟩
 subst e2
 subst ex
 have e3 := f vs hs
 rw [hv] at e3
 cases e3
 have lt : Lt K r' H' r' (upd H' T (.tup [.int (i : Nat), v])) := dH hT
 exact ⟨lt, s.aside hT, T, _, rfl, upd_same, _, _, rfl, by rw [Nat.zero_add]; rfl, _, _, rfl, rv.mono lt, rfl⟩
theorem zX {ws : List W} {vs : List V} {a : Addr} (ht : Rd H a (.tup vs)) (q : RWs K r H ws vs) : JR K r H (GP K a) ⟨iN 0 ws, fun _ => true⟩ := by
 intro i r' m H' l s hc
 have ht' : SqT K H' a vs := .inl (ht.elim (fun h => .inl (l.lat.tup _ _ h)) fun ⟨o, h⟩ => .inr ⟨o, l.lat.lk _ _ _ h⟩)
 have rs := q.le l.le
 refine ⟨fun hi => ⟨vs, ht', by rw [← rs.len]; rw [mx] at hi; exact hi⟩, fun w' hw => ?_⟩
 rw [my] at hw
 obtain ⟨w0, h0, rfl⟩ : ∃ w0, ws[i]? = ξ w0 ∧ W.tup [.int ((0 + i : Nat) : Int), w0] = w' := by simpa using hw
 obtain ⟨v, hv, rv⟩ := rs.get h0
 refine ⟨⟨vs, v, ht', hv⟩, fun x H2 ⟨T, x', ex, hT, e2, f⟩ => ?_⟩
 subst e2
 subst ex
 have e3 := f vs ht'
 rw [hv] at e3
 cases e3
 have lt : Lt K r' H' r' (upd H' T (.tup [.int (i : Nat), v])) := dH hT
 exact ⟨lt, s.aside hT, T, _, rfl, upd_same, _, _, rfl, by rw [Nat.zero_add]; rfl, _, _, rfl, rv.mono lt, rfl⟩
theorem Ez (hg : Gl X "enumerate") (hm : X.mg "enumerate" = ζ) (ha : SA X Z [e] das) (hs : starEach [e] X.env = [(false, eval e X.env)] := by rfl) : SI X Z (.Tuple elts kk tpos) (.Call (.Name "enumerate" p) [e] [] pos) (FW das) := PI.imp (pi_enum hg hm ha hs) fun σ H R ⟨r, m, env, s, e, h⟩ => by
 refine tI.step s e h (fun ws m1 r1 H1 vs l1 s1 e1 q1 h1 hS => ?_) (by intro w m1 C dd m2; split <;> (try split) <;> simp)
 split at hS
 ·rename_i w
  obtain ⟨v, rest, rfl, qw, q3⟩ := q1
  cases (show _ = _ from q3)
  cases hx : dy m1 w with
  | none => simp [hx] at hS
  | some xs =>
   obtain ⟨a, vs, rfl, hs, rs⟩ := iK s1 qw hx
   exact ⟨a, vs, rfl, hs, h1 _ _ (by simp only [hx]; rfl) r1 H1 _ .refl s1 (FI qw)⟩
 ·simp at hS
theorem Ey (hg : Gl X "enumerate") (hm : X.mg "enumerate" = ζ) (ha : SA X Z [e] das) (hs : starEach [e] X.env = [(false, eval e X.env)] := by rfl) : SI X Z (.Tuple elts kk tpos) (.Call (.Name "enumerate" p) [e] [] pos) (FV das) := PI.imp (zr hg hm ha hs) fun σ H R ⟨r, m, env, s, e, h⟩ => by
 refine tI.step s e h (fun ws m1 r1 H1 vs l1 s1 e1 q1 h1 hS => ?_) (by intro w m1 C dd m2; split <;> simp)
 split at hS
 ·rename_i xs
  obtain ⟨v, rest, rfl, qw, q3⟩ := q1
  cases (show _ = _ from q3)
  obtain ⟨a, vs, rfl, ht, rs⟩ := qw
  exact ⟨a, vs, rfl, SqT.of ht, h1 _ _ rfl r1 H1 _ .refl s1 (zX (.inl ht) rs)⟩
 ·rename_i nd xs
  obtain ⟨v, rest, rfl, qw, q3⟩ := q1
  cases (show _ = _ from q3)
  obtain ⟨a, vs, rfl, hi, rs⟩ := qw
  exact ⟨a, vs, rfl, .inl hi.rd, h1 _ _ rfl r1 H1 _ .refl s1 (zX hi.rd rs)⟩
 ·simp at hS
def Aa : Option (R (List W)) → Bool
 | some (.ok [.tup _] _) => true
 | some (.ok [.im (.tpl _) _] _) => true
 | _ => false
def CI (as : DA) : DI := fun env m => if Aa (as env m) = true then FV as env m else FW as env m
theorem Jf (hg : Gl X "enumerate") (hm : X.mg "enumerate" = ζ) (ha : SA X Z [e] das) (hs : starEach [e] X.env = [(false, eval e X.env)] := by rfl) : SI X Z (.Tuple elts kk tpos) (.Call (.Name "enumerate" p) [e] [] pos) (CI das) :=
 pW (fun env m => Aa (das env m)) (Ey hg hm ha hs) (Ez hg hm ha hs)
end
end SB
end
section
namespace SB
open PySem L2
open PyProof.Rows (seqObj ksk_tree ksk_rest ksk_end ksk_tail arrOf failedOf SortSt SortedTo IntsAre get?_update_seq listUpdate_at listItems_at seqEpoch_at ksk_fold ksk_snoc ksk_out KskOut collect_list)
variable [Tabs][Past]
section
end
end SB
end
section
namespace SB
open PySem PySem.Spec L2
variable [Tabs][Past]
section
variable {α: Type}
def pL (x : Int × α) : List (Int × α) → List (Int × α)
 | [] => [x]
 | y :: ys => if x.1 ≤ y.1 then x :: y :: ys else y :: pL x ys
def iV : List (Int × α) → List (Int × α)
 | [] => []
 | x :: xs => pL x (iV xs)
theorem jU (x : Int × α) : ∀ l, (pL x l).Perm (x :: l)
 | [] => .refl _
 | y :: ys => by
  unfold pL
  split
  ·exact .refl _
  ·exact ((jU x ys).cons y).trans (.swap x y ys)
theorem hW : ∀ l : List (Int × α), (iV l).Perm l
 | [] => .refl _
 | x :: xs => (jU x _).trans ((hW xs).cons x)
theorem gp (x : Int × α) : ∀ l, l.Pairwise (fun p q => p.1 ≤ q.1) → (pL x l).Pairwise (fun p q => p.1 ≤ q.1)
 | [], _ => by simp [pL]
 | y :: ys, h => by
  unfold pL
  have h' := List.pairwise_cons.mp h
  split
  ·rename_i hxy
   refine List.pairwise_cons.mpr ⟨fun z hz => ?_, h⟩
   rcases List.mem_cons.mp hz with rfl | hz
   ·exact hxy
   ·exact Int.le_trans hxy (h'.1 z hz)
  ·rename_i hxy
   refine List.pairwise_cons.mpr ⟨fun z hz => ?_, gp x ys h'.2⟩
   rcases List.mem_cons.mp ((jU x ys).subset hz) with rfl | hz
   ·omega
   ·exact h'.1 z hz
theorem eK : ∀ l : List (Int × α), (iV l).Pairwise (fun p q => p.1 ≤ q.1)
 | [] => .nil
 | x :: xs => gp x _ (eK xs)
end
def jB (ns : List Int) : List Int := (iV (ns.map fun n => (n, ()))).map (·.1)
theorem mP (ns : List Int) : (jB ns).Perm ns := by
 have := (hW (ns.map fun n => (n, ()))).map (·.1)
 simpa [jB, Function.comp_def] using this
theorem pJ (ns : List Int) : (jB ns).Pairwise (· ≤ ·) := List.Pairwise.map _ (fun a b h => h) (eK (ns.map fun n => (n, ())))
section
variable {m: M}
def J3 (m : M) : W → Option (List (Key × W))
 | .ref n => dK? m n
 | _ => ζ
end
section
end
section
end
section
end
section
end
section
end
section
end
end SB
end
section
namespace L2
open PySem PySem.Spec PyProof.Rows
section
end
section
end
section
end
section
end
end L2
namespace SB
open PySem PySem.Spec L2
open PyProof.Rows hiding St
variable [Tabs][Past]
section
end
end SB
end
section
namespace L2
open PySem PySem.Spec PyProof.Rows
section
end
end L2
end
section
namespace SB
open PySem PySem.Spec L2
open PyProof.Rows hiding St
variable [Tabs][Past]
def z5 (ks : List (List Int)) : List (List Int) := (iV (ks.map fun k => (TS.code 64 k, k))).map (·.2)
def okU (ks : List (List Int)) : Bool := match ks with
 | [] => true
 | k :: _ => ks.all fun l => l.length == k.length && l.all fun i => decide (0 ≤ i) && decide (i < 64)
def Gu : List (List Int) → List (List Int)
 | [] => []
 | k :: ks => if k ∈ ks then Gu ks else k :: Gu ks
def setT (ks : List (List Int)) : List (List Int) := z5 (Gu ks)
section
def EB (ks : List (List Int)) : Bool := okU ks && (decide (ks.length ≤ 1) || !(ks.head? == ξ []))
end
section
end
section
end
def spIni (K : PySem.W.Frag) (C : Addr) (fs : List Str) : Sp := fun vs H Q _ => ∃ (a : Addr) (ws : List V), vs = .ref a :: ws ∧ ws.length = fs.length ∧ H a = ξ (exo a C ζ) ∧
 ∀ (dx : Addr) (H' : Hp), H dx = ζ → dx ≠ a → H' a = ξ (exo a C (ξ dx)) → H' dx = ξ (exd dx (fs.zip ws).reverse) → (∀ b, b ≠ a → b ≠ dx → H' b = H b) → Q .non H'
theorem yk : ∀ {fs : List Str} {ws pre : List V}, ∀ p ∈ (fs.zip (List.range' pre.length fs.length)).zip ws, (pre ++ ws)[p.1.2]? = ξ p.2
 | [], _, _, p, h => by simp at h
 | _ :: _, [], _, p, h => by simp at h
 | f :: fs, w :: ws, pre, p, h => by
  rw [List.length_cons, List.range'_succ, List.zip_cons_cons, List.zip_cons_cons] at h
  rcases List.mem_cons.mp h with rfl | h
  ·simp
  ·have := yk (fs := fs) (ws := ws) (pre := pre ++ [w]) p (by simpa using h)
   simpa using this
section
end
section
end
theorem RKV.zip {K : PySem.W.Frag} {r : List Addr} {H : Hp} : ∀ {fs : List Str} {ws : List W} {vs : List V}, RWs K r H ws vs → RKV K r H (fs.zip ws) (fs.zip vs)
 | [], ws, vs, _ => by simp [RKV]
 | f :: fs, [], vs, q => by cases (show vs = [] from q); simp [RKV]
 | f :: fs, w :: ws, vs, q => by
  obtain ⟨v, rest, rfl, q1, q2⟩ := q
  exact ⟨v, fs.zip rest, rfl, q1, RKV.zip q2⟩
section
end
def exW : Option Nat → Option W
 | some n => ξ (.ref n)
 | none => ζ
def tXx {α β : Type} (K : PySem.W.Frag) (rel : Rel α β) (a : Addr) (d : Option Addr) (i : Nat) (de : Env → M → Option (R α)) : St → Hp → (β → Hp → Prop) → Prop := fun σ H Q => ∃ r m env dn, Sim K r m H ∧ (EnvR K r H (env.set i ζ) σ ∧ env[i]? = ξ (exW dn)) ∧ XR r dn d ∧ σ[i]? = ξ (ξ (.ref a)) ∧ Post K rel r H (de env m) Q (fun _ _ _ => False)
abbrev Be (X : Cx) (a : Addr) (d : Option Addr) (i : Nat) (e : Expr) (de : DE) : Prop := PE X e (tXx X.K (gU X.K) a d i de)
abbrev SAx (X : Cx) (a : Addr) (d : Option Addr) (i : Nat) (es : List Expr) (de : DA) : Prop := PA X es (tXx X.K (xB X.K) a d i de)
abbrev STx (X : Cx) (a : Addr) (d : Option Addr) (i : Nat) (e : Expr) (de : DT) : Prop := PT X e (tXx X.K EG a d i de)
theorem XR.pre {r r' : List Addr} {dn : Option Nat} {d : Option Addr} (h : XR r dn d) (p : r <+: r') : XR r' dn d := by
 cases dn with
 | none => exact h
 | some n =>
  obtain ⟨a, e, q⟩ := h
  exact ⟨a, nC p e, q⟩
theorem tXx.step {α β γ δ : Type} {K : PySem.W.Frag} {rel : Rel α β} {rel' : Rel γ δ} {a : Addr} {d : Option Addr} {i : Nat} {de : Env → M → Option (R α)} {k : α → M → Option (R γ)} {r : List Addr} {m : M} {env : Env} {dn : Option Nat} {σ : St} {H : Hp} {Q : δ → Hp → Prop} {Q1 : β → Hp → Prop}
  (s : Sim K r m H) (e : EnvR K r H (env.set i ζ) σ ∧ env[i]? = ξ (exW dn)) (x : XR r dn d) (hs : σ[i]? = ξ (ξ (.ref a))) (h : Post K rel' r H (SB.bnd (de env m) k) Q (fun _ _ _ => False))
  (hk : ∀ y m1 r1 H1 v, Lt K r H r1 H1 → Sim K r1 m1 H1 → (EnvR K r1 H1 (env.set i ζ) σ ∧ env[i]? = ξ (exW dn)) → XR r1 dn d → rel r1 H1 y v → Post K rel' r1 H1 (k y m1) Q (fun _ _ _ => False) → Q1 v H1) : tXx K rel a d i de σ H Q1 :=
 ⟨r, m, env, dn, s, e, x, hs, h.bnd fun y m1 r1 H1 v l s1 q p => hk y m1 r1 H1 v l s1 ⟨e.1.mono l, e.2⟩ (x.pre l.pre) q p⟩
section
variable {X: Cx}{a: Addr}{d: Option Addr}{i: Nat}{e f: Expr}{es: List Expr}{de df: DE}{das: DA}{pos p: Pos}
theorem EJ {K : PySem.W.Frag} {rr : R2} {g : F2} (hi : Imp2 K rr g) {σ : St} {H : Hp} {Q : VK} (h : tXx K (gU K) a d i (dh g de df) σ H Q) : tOp rr (tXx K (gU K) a d i de) (tXx K (gU K) a d i df) σ H Q := by
 obtain ⟨r, m, env, dn, s, e, x, hs, h⟩ := h
 refine tXx.step (de := de) (rel := gU K) s e x hs h fun w m1 r1 H1 v l1 s1 e1 x1 q1 h1 => ?_
 refine tXx.step (de := df) (rel := gU K) s1 e1 x1 hs h1 fun w2 m2 r2 H2 v2 l2 s2 e2 x2 q2 h2 => ?_
 exact hi r2 m2 H2 v v2 w w2 Q _ s2 (q1.mono l2) q2 h2
theorem cN {op : Operator} {rr : R2} {g : F2} (ho : OpR X (binaryOp op) rr) (hi : Imp2 X.K rr g) (ha : Be X a d i e de) (hb : Be X a d i f df) : Be X a d i (.BinOp e op f pos) (dh g de df) := PE.imp (pe_op ho ha hb) fun _ _ _ h => EJ hi h
theorem eI {x1} (h : SAx X a d i es das) : Be X a d i (.Tuple es x1 pos) (iO das) := PE.imp (pe_tup h) fun σ H Q ⟨r, m, env, dn, s, e, x, hs, h⟩ => by
 refine tXx.step (de := das) (rel := xB X.K) s e x hs h fun ws m1 r1 H1 vs l1 s1 e1 x1 q1 h1 => ?_
 by_cases hl : ws.length ≤ sizeLine
 ·rw [if_pos hl] at h1
  refine ⟨by rw [← RWs.len q1]; exact hl, fun p hp => ?_⟩
  have l2 : Lt X.K r1 H1 r1 (upd H1 p (.tup vs)) := dH hp
  exact h1.done' l2 (s1.aside hp) ⟨p, vs, rfl, upd_same, q1.mono l2⟩
 ·rw [if_neg hl] at h1
  exact h1.elim
theorem aW (h : SAx X a d i es das) : Be X a d i (.List es pos) (cS das) := PE.imp (pe_lst h) fun σ H Q ⟨r, m, env, dn, s, e, x, hs, h⟩ => by
 refine tXx.step (de := das) (rel := xB X.K) s e x hs h fun ws m1 r1 H1 vs l1 s1 e1 x1 q1 h1 => ?_
 by_cases hl : ws.length ≤ sizeLine
 ·rw [if_pos hl] at h1
  exact ⟨by rw [← RWs.len q1]; exact hl, fun p hp => rK s1 q1 h1 hp⟩
 ·rw [if_neg hl] at h1
  exact h1.elim
theorem RKV.look {κ : Type} [BEq κ] {K : PySem.W.Frag} {r : List Addr} {H : Hp} {f : κ} {w : W} : ∀ {fs : List (κ × W)} {vs : List (κ × V)}, RKV K r H fs vs → fs.lookup f = ξ w → ∃ v, vs.lookup f = ξ v ∧ RW K r H w v
 | [], _, _, h => by cases h
 | (g, y) :: fs, _, q, h => by
  obtain ⟨v, rest, rfl, q1, q2⟩ := q
  rw [List.lookup_cons] at h ⊢
  cases hb : f == g with
  | true =>
   rw [hb] at h
   cases h
   exact ⟨v, by simp [hb], q1⟩
  | false =>
   rw [hb] at h
   obtain ⟨v', e, q'⟩ := RKV.look q2 h
   exact ⟨v', by simp [hb, e], q'⟩
theorem bE (h : Be X a d i e de) (he : ∀ whole, isTrue e X.env whole = (do let v ← whole; standAt e.pos; holding [v] (truthy v)) := by intro _; rfl) : STx X a d i e (eL de) := PT.imp (pt_val h he) fun σ H Q ⟨r, m, env, dn, s, e, x, hs, h⟩ => by
 refine tXx.step (de := de) (rel := gU X.K) s e x hs h fun w m1 r1 H1 v l1 s1 e1 x1 q1 h1 => ?_
 cases w <;> first | exact h1.elim | skip
 rename_i b
 exact ⟨b, q1, h1.done s1 rfl⟩
theorem fg (h : Be X a d i e de) : Be X a d i (.UnaryOp .Not e pos) (AQ de) := PE.imp (pe_not h) fun σ H Q ⟨r, m, env, dn, s, e, x, hs, h⟩ => by
 refine tXx.step (de := de) (rel := gU X.K) s e x hs h fun w m1 r1 H1 v l1 s1 e1 x1 q1 h1 => ?_
 cases w <;> first | exact h1.elim | skip
 rename_i b
 exact ⟨b, q1, h1.done s1 rfl⟩
theorem fj {rest : List Expr} (he : Be X a d i e de) (hf : Be X a d i (.BoolOp .And (f :: rest) pos) df) : Be X a d i (.BoolOp .And (e :: f :: rest) pos) (AR de df) := PE.imp (pe_and he hf) fun σ H Q ⟨r, m, env, dn, s, e, x, hs, h⟩ => by
 refine tXx.step (de := de) (rel := gU X.K) s e x hs h fun w m1 r1 H1 v l1 s1 e1 x1 q1 h1 => ?_
 cases w <;> first | exact h1.elim | skip
 rename_i k
 refine ⟨k, q1, ?_⟩
 cases k with
 | true => exact iteT ⟨r1, m1, env, dn, s1, e1, x1, hs, h1⟩
 | false => exact iteF (h1.done s1 rfl)
end
end SB
end
section
namespace L2
open PySem PySem.Spec PyProof.Rows PySem.W
section
end
end L2
end
section
namespace SB
open PySem PySem.Spec L2
open PyProof.Rows hiding St
variable [Tabs][Past]
section
end
theorem AI {K : PySem.W.Frag} {D : Addr} (q : AJ K D = true) : ExcC K D := by
 unfold AJ at q
 simp only [Bool.and_eq_true, decide_eq_true_eq] at q
 obtain ⟨h1, h2, h3, h4, h5, h6, h7, h8⟩ := q
 exact ⟨h1, h2, h3, h4, h5, h6, h7, h8⟩
theorem Ke {K : PySem.W.Frag} {D : Addr} (h : ExcC K D) : XfC K D := ⟨h.hg, h.hk, h.hs, h.hd⟩
structure Ini (K : PySem.W.Frag) (C fI : Addr) (fs : List Str) : Prop where
 i : PySem.W.findIn K (.ref C) "__init__" = ξ (ξ (.ref fI))
 t : PySem.W.typeIn K (.ref fI) = ξ (.type "function")
 n : ∀ f ∈ fs, PySem.W.findIn K (.ref C) f = ξ ζ
theorem d9 {K : PySem.W.Frag} {C fI : Addr} {fs : List Str} (q : kr K C fI fs = true) : Ini K C fI fs := by
 unfold kr at q
 simp only [Bool.and_eq_true, decide_eq_true_eq, List.all_eq_true] at q
 exact ⟨q.1, q.2.1, q.2.2⟩
section
end
section
end
end SB
end
section
namespace L2
open PySem PySem.Spec PyProof.Rows
section
end
end L2
namespace SB
open PySem PySem.Spec L2
open PyProof.Rows hiding St
variable [Tabs][Past]
end SB
end
section
namespace SB
open PySem PySem.Spec L2
open PyProof.Rows (envOfC)
variable [Tabs][Past]
def FnRG (P : Program) (w : World) (K : PySem.W.Frag) (mg : Str → Option Value) (base : Heap) (k : Nat) (f : Addr) (sp : Sp) : Prop :=
 ∀ (A : Around) (outer : List PySem.Env) (s : Shared) (H : Hp) (us : List Value) (vs : List V) (Q : VK) (E : XK), RoomG k A → Env0 P w K mg base A outer s H → Vals vs us → sp vs H Q E →
  codeAny (model P w) A (.call (.ref f) ⟨us, []⟩) (CR (L2.CX P w) outer P w H s Q E) s
structure FnP (P : Program) (w : World) (K : PySem.W.Frag) (mg : Str → Option Value) (base : Heap) (k : Nat) (f : Addr) (D : DF) : Prop where
 run : FnRG P w K mg base k f (spD K D)
 kp : PySem.W.keepIn K (.ref f) = true
section
variable {P: Program}{w: World}{K: PySem.W.Frag}{mg: Str → Option Value}{base: Heap}{dvs: List V}{f: Addr}{fd: FuncData}{k: Nat}{ps: List Str}{b: DS}{D: DF}{ws0: List W}{ds: List Value}
theorem FnG.pd (F : FnG P w K mg base (L2.CX P w) k f fd ps (spD K D)) (hb : Binds K fd ps ds) (hd : Vals dvs ds) (hw : ∀ r H, RWs K r H ws0 dvs) : FnRG P w K mg base k f (spD K fun ws m => D (ws ++ ws0) m) := by
 intro A outer s H us vs Q E hr e0 rv hsp
 obtain ⟨r, m, ws, s', q, h⟩ := hsp
 have h2 : spD K D (vs ++ dvs) H Q E := ⟨r, m, ws ++ ws0, s', q.append (hw r H), h⟩
 have rv2 : Vals (vs ++ dvs) (us ++ ds) := rv.append hd
 have hl : (us ++ ds).length = ps.length := by rw [← rv2.length]; exact F.len _ _ _ _ h2
 have kin : K.In s.heap := e0.mod.kin.keeps fun b o e => (e0.bs b o e).1
 exact F.run A outer s H ⟨us, []⟩ (us ++ ds) (vs ++ dvs) Q E hr e0 (hb s us kin hl) rv2 h2
theorem Fn.p (F : Fn P w K mg base k f ps D) : FnP P w K mg base k f D := by
 obtain ⟨⟨fd, F1, b⟩, kp⟩ := F
 refine ⟨?_, kp⟩
 have z := FnG.pd F1 b .nil (ws0 := []) DM
 have e : (fun ws m => D (ws ++ []) m) = D := by
  funext ws m
  rw [List.append_nil]
 rw [e] at z
 exact z
end
section
variable {X: Cx}{Z: WX}{a e: Expr}{da: DE}{pos: Pos}{k: Nat}{m: Str}{f: Addr}{D: DF}
structure FnK (P : Program) (w : World) (K : PySem.W.Frag) (mg : Str → Option Value) (base : Heap) (k : Nat) (f : Addr) (n : Nat) (ks : List Str) (D : DF) : Prop where
 ex : ∃ (fd : FuncData) (ps : List Str), FnG P w K mg base (L2.CX P w) k f fd ps (spD K D) ∧ KBn K fd ps n ks (fun us ws => us ++ ws) (fun vs zs => vs ++ zs)
theorem cR {kw : List Keyword} {nm : Option Str} {kpos : Pos} {dks : DA} (he : SE X Z e da) (hk : PK X kw (tA X.K Z dks)) : PK X (⟨nm, e, kpos⟩ :: kw) (tA X.K Z (aj da dks)) := by
 refine ⟨fun pos pins s σ H Q I h => (pk_cons he hk).run pos pins s σ H Q I ?_⟩
 obtain ⟨r, m, env, s, e, h⟩ := h
 refine tX.step s e h fun w m1 r1 H1 v l1 s1 e1 q1 h1 => ?_
 exact tX.step s1 e1 h1 fun ws m2 r2 H2 vs l2 s2 e2 q2 h2 => h2.done s2 ⟨v, vs, rfl, q1.mono l2, q2⟩
theorem fW : PK X [] (tA X.K Z aB) := ⟨fun pos pins s σ H Q I ⟨r, m, env, s', e, h⟩ => pk_nil.run pos pins s σ H Q I (Post.done (rel := xB X.K) (a := []) (v := []) h s' rfl)⟩
end
end SB
end
section
namespace SB
open PySem PySem.Spec L2
open PyProof.Rows hiding St
variable [Tabs][Past]
section
end
open He (ga ma)
end SB
end
section
namespace SZ
open PySem PySem.Spec PyProof.Rows PySem.W
abbrev GU (h : Heap) (z TI TO T : Addr) (f : Bool) : Prop := h.get? z = ξ { cls := .type "zip", dict := ζ, data := .fields #[rawInt T, .bool f, .bool true, .ref TI, .ref TO], slots := #[] }
section
variable {prog: Program}{w: World}{A: Around}{E: Value → Shared → Prop}{s: Shared}{z TI TO T: Addr}{x1 x2: Sr}{f: Bool}{oT: Obj}
theorem B7 {Q : Bool → Shared → Prop} (hz : GU s.heap z TI TO T f) (hT : s.heap.get? T = ξ oT)
  (k : ∀ h', GU h' z TI TO T true → Heap.SameBut z s.heap h' → Q false { s with heap := h' }) : wpAny (model prog w) A (Builtin.SmallTypes.ownedTupleIsFree (.ref z)) Q E s := by
 unfold Builtin.SmallTypes.ownedTupleIsFree
 refine wpAny_bind (wpAny_field hz rfl (x := rawInt T) rfl ?_)
 show wpAny _ _ (loadIfAlive ((T : Int).toNat) >>= _) _ _ _
 rw [Int.toNat_natCast]
 refine wpAny_bind (kdx_alive hT ?_)
 simp only [Option.isNone_some, Bool.false_eq_true, if_false]
 refine wpAny_bind (wpAny_field hz rfl (x := .bool f) rfl ?_)
 cases f
 ·rw [if_pos (by rfl)]
  exact wpAny_bind (wpAny_setField_rec hz (by simp) fun g hg hs => wpAny_pure (k g hg hs))
 ·rw [if_neg (by decide)]
  exact wpAny_pure (k s.heap hz (Heap.SameBut.refl _ _))
theorem ya {i : Nat} {xs ys : Array Value} {Q : Fin → Shared → Prop} (hh : A.handled = ζ) (D : Sep z TI TO [x1, x2]) (hz : GU s.heap z TI TO T f) (hT : s.heap.get? T = ξ oT) (hTI : IsT s.heap TI [.ref x1.it, .ref x2.it])
  (p1 : SrAt s.heap x1 i) (p2 : SrAt s.heap x2 i) (o1 : SrOk s.heap x1 xs) (o2 : SrOk s.heap x2 ys) (ha : xs[i]? = ζ) (hb : ys[i]? = ζ)
  (hE : ∀ h' e, (∀ c o, c ≠ z → c ≠ x1.it → c ≠ x2.it → s.heap.get? c = ξ o → h'.get? c = ξ o) → (∃ o, h'.get? e = ξ o ∧ o.cls = .type "StopIteration") → E (.ref e) { s with heap := h' }) :
  wpAny (model prog w) A (Builtin.«zip.__next__» ⟨[.ref z], []⟩) Q E s := by
 have m1 : x1 ∈ [x1, x2] := by simp
 have m2 : x2 ∈ [x1, x2] := by simp
 have n12 : x1.it ≠ x2.it := D.ii (j := 0) (k := 1) rfl rfl (by decide)
 have a1z : x1.a ≠ z := fun q => D.src x1 m1 (by rw [q]; simp [wr])
 have a2z : x2.a ≠ z := fun q => D.src x2 m2 (by rw [q]; simp [wr])
 have a21 : x2.a ≠ x1.it := fun q => D.src x2 m2 (by rw [q]; simp [wr])
 have stop : ∀ h', (∀ c o, c ≠ z → c ≠ x1.it → c ≠ x2.it → s.heap.get? c = ξ o → h'.get? c = ξ o) → ∀ {α : Type} {Q' : α → Shared → Prop}, wpAny (model prog w) A (Builtin.SmallTypes.stopIteration) Q' E { s with heap := h' } := fun h' k α Q' => by
  unfold Builtin.SmallTypes.stopIteration
  show wpAny _ _ (newExc (.type "StopIteration") [] >>= _) _ _ _
  refine wpAny_bind ?_
  simp only [newExc, newTuple]
  refine wpAny_bind (wpAny_newObj_type ?_ (by size_fits))
  refine wpAny_bind (m := firstArgMember _ _) (wpAny_of_eq (a := Value.none) (by first | rfl | (simp only [firstArgMember]; rfl)) ?_)
  refine wpAny_newObj_type ?_ (by size_fits)
  simp only [raiseNew]
  refine wpAny_bind (wpAny_handled ?_)
  rw [hh]
  exact wpAny_throw (hE _ _ (fun c o c1 c2 c3 e => Heap.get?_push_of_some _ (Heap.get?_push_of_some _ (k c o c1 c2 c3 e))) ⟨_, Heap.get?_push_size _ rfl, rfl⟩)
 show wpAny _ _ (field (.ref z) 2 >>= _) _ _ _
 refine wpAny_bind (wpAny_field hz rfl (x := .bool true) rfl ?_)
 show wpAny _ _ (field (.ref z) 3 >>= _) _ _ _
 refine wpAny_bind (wpAny_field hz rfl (x := .ref TI) rfl ?_)
 refine wpAny_bind (wpAny_seqItems hTI rfl ?_)
 show wpAny _ _ (Builtin.SmallTypes.ownedTupleIsFree (.ref z) >>= _) _ _ _
 refine wpAny_bind (B7 hz hT fun g1 hg1 sb1 => ?_)
 simp only [Bool.false_eq_true, if_false]
 refine wpAny_bind ?_
 rw [← Array.forIn_toList]
 simp only [List.forIn_cons, List.forIn_nil]
 refine wpAny_bind (wpAny_bind (wpAny_holding ?_))
 show wpAny _ _ (Builtin.SmallTypes.nextOrEnd (.ref x1.it)) _ _ _
 refine tV (s := { s with heap := g1 }) hh (p1.keep fun o q => sb1.extBut _ _ (D.iz m1) q) (o1.keep fun o q => sb1.extBut _ _ a1z q) ha fun g2 eb2 => ?_
 refine wpAny_bind ?_
 show wpAny _ _ (forIn (([Value.ref x2.it]).zipIdx 1) _ _ >>= _) _ _ _
 refine wpAny_bind ?_
 simp only [List.zipIdx_cons, List.zipIdx_nil, List.forIn_cons, List.forIn_nil]
 refine wpAny_bind (wpAny_bind (tV (s := { s with heap := g2 }) hh (p2.keep fun o q => eb2 _ _ n12.symm (sb1.extBut _ _ (D.iz m2) q)) (o2.keep fun o q => eb2 _ _ a21 (sb1.extBut _ _ a2z q)) hb fun g3 eb3 => ?_))
 exact wpAny_pure (wpAny_pure (wpAny_bind (wpAny_rule (stop g3 fun c o c1 c2 c3 e => eb3 _ _ c3 (eb2 _ _ c2 (sb1.extBut _ _ c1 e))))))
theorem SrAt.lt {h : Heap} {x : Sr} {i : Nat} (q : SrAt h x i) : x.it < h.objs.size := by
 obtain ⟨o, e, _⟩ := q.obj
 exact Heap.lt_size e
end
end SZ
end
section
namespace SB
open PySem PySem.Spec L2
open PyProof.Rows hiding St
variable [Tabs][Past]
section
end
end SB
end
section
namespace SB
open PySem PySem.Spec L2
open PyProof.Rows (envOfC)
variable [Tabs][Past]
structure FnKw (P : Program) (w : World) (K : PySem.W.Frag) (mg : Str → Option Value) (base : Heap) (k : Nat) (f : Addr) (n : Nat) (kw : Str) (b : Bool) (D : DF) : Prop where
 ex : ∃ (fd : FuncData) (ps : List Str), FnG P w K mg base (L2.CX P w) k f fd ps (spD K D) ∧ KBn K fd ps n [kw] (fun us ws => us ++ ws) (fun vs zs => vs ++ zs) ∧ ∃ ds, Vals [V.bl b] ds ∧ Binds K fd ps ds
section
end
section
variable {X: Cx}{j n: Nat}{kw: Str}{f: Addr}{D: DF}{b: Bool}
theorem FnKw.kk (F : FnKw X.prog X.w X.K X.mg X.base j f n kw b D) : FnK X.prog X.w X.K X.mg X.base j f n [kw] D := by
 obtain ⟨fd, ps, h1, h2, _⟩ := F.ex
 exact ⟨fd, ps, h1, h2⟩
end
end SB
end
section
namespace SB
open PySem PySem.Spec L2
variable [Tabs][Past]
end SB
end
section
namespace SB
open PySem PySem.Spec PyProof.Rows L2
section
variable [Tabs][Past]
end
end SB
end
section
namespace SB
open PySem PySem.Spec L2
open PyProof.Rows hiding St
variable [Tabs][Past]
section
end
end SB
end
section
namespace SB
open PySem PySem.Spec PyProof.Rows L2
variable [Tabs][Past]
section
end
end SB
end
section
namespace L2
open PySem PySem.Spec PyProof.Rows
section
end
section
end
end L2
namespace SB
open PySem PySem.Spec L2
open PyProof.Rows hiding St
variable [Tabs][Past]
def nk (x : Int) : List Int → List Int
 | [] => [x]
 | y :: ys => if x < y then x :: y :: ys else if x = y then y :: ys else y :: nk x ys
def xu (is : List Int) : List Int := is.foldr nk []
theorem insU_mem {x z : Int} : ∀ {l : List Int}, z ∈ nk x l ↔ z = x ∨ z ∈ l
 | [] => by simp [nk]
 | y :: ys => by
  unfold nk
  split
  ·simp
  ·split
   ·rename_i h
    subst h
    simp
   ·rw [List.mem_cons, insU_mem, List.mem_cons]
    constructor
    ·rintro (h | h | h)
     ·exact .inr (.inl h)
     ·exact .inl h
     ·exact .inr (.inr h)
    ·rintro (h | h | h)
     ·exact .inr (.inl h)
     ·exact .inl h
     ·exact .inr (.inr h)
theorem mQ {x : Int} : ∀ {l : List Int}, l.Pairwise (· < ·) → (nk x l).Pairwise (· < ·)
 | [], _ => by simp [nk]
 | y :: ys, h => by
  obtain ⟨h1, h2⟩ := List.pairwise_cons.mp h
  unfold nk
  split
  ·rename_i c
   refine List.pairwise_cons.mpr ⟨fun z hz => ?_, h⟩
   rcases List.mem_cons.mp hz with rfl | hz
   ·exact c
   ·have := h1 z hz
    omega
  ·split
   ·exact h
   ·refine List.pairwise_cons.mpr ⟨fun z hz => ?_, mQ h2⟩
    rcases insU_mem.mp hz with rfl | hz
    ·omega
    ·exact h1 z hz
theorem sW {z : Int} : ∀ {is : List Int}, z ∈ xu is ↔ z ∈ is
 | [] => by simp [xu]
 | i :: is => by
  show z ∈ nk i (xu is) ↔ _
  rw [insU_mem, sW, List.mem_cons]
theorem mK : ∀ {is : List Int}, (xu is).Pairwise (· < ·)
 | [] => .nil
 | i :: is => mQ (mK (is := is))
section
end
end SB
end
section
namespace TupW
open PySem PySem.SeqAt GQ
section
end
end TupW
end
section
namespace GQ
open PySem PySem.SeqAt
open AutoSeq1 (wpAny_loadPart')
open MeetsSeq MeetsSeq2 MeetsSeq3 SeqRoads2
section
end
section
end
end GQ
namespace SB
open PySem L2
variable [Tabs][Past]
section
end
section
end
end SB
end
section
namespace SB
open PySem PySem.Spec L2
open PyProof.Rows hiding St
variable [Tabs][Past]
section
end
section
end
end SB
end
section
namespace L2
open PySem PySem.Spec PyProof.Rows
section
end
end L2
namespace SB
open PySem PySem.Spec L2
open PyProof.Rows hiding St
variable [Tabs][Past]
section
end
section
end
end SB
end
section
namespace SB
open PySem PySem.Spec L2
open PyProof.Rows hiding St
variable [Tabs][Past]
section
end
end SB
end
section
namespace TupW
open PySem PySem.SeqAt GQ
section
end
end TupW
namespace SB
open PySem L2
variable [Tabs][Past]
section
end
section
end
end SB
end
section
namespace TupW
open PySem PySem.SeqAt GQ
open MeetsSeq MeetsSeq2 MeetsSeq3 SeqRoads2
section
end
section
end
end TupW
end
section
namespace SB
open PySem L2 TupW
variable [Tabs][Past]
section
end
section
end
end SB
end
section
namespace SB
open PySem PySem.Spec L2
open PyProof.Rows hiding St
structure Down (X : Cx) (pins : List (Addr × Obj)) (σ : L2.St) (H : Hp) (cls : Value) (d : Option Addr) (a : Addr) (B : Heap) (sI sh : Shared) : Prop where
 inv : Inv X pins σ H sI
 nb : ∀ b o, sI.heap.get? b = ξ o → b ∉ frs X.stack → B.get? b = ξ o
 up : sI.heap.UpToSlots sh.heap
 fly : HandSPX.FlyingZ B (X.env :: X.outer) a (Zc cls d) sh.heap
 new : H a = ζ
 os : sh.os = sI.os
 ag : AllBare sh.gens
section
variable {X: Cx}{pins: List (Addr × Obj)}{σ: L2.St}{H: Hp}{cls: Value}{d: Option Addr}{a: Addr}{B: Heap}{sI sh: Shared}
theorem Down.here (q : Down X pins σ H cls d a B sI sh) : Inv X pins σ H sh := q.inv.landed q.nb q.fly.1 q.up q.os q.ag
theorem Down.off (q : Down X pins σ H cls d a B sI sh) {oe : Obj} {vs : Array Value} (e : sh.heap.get? a = ξ oe) (dd : oe.data = .fields vs) : a ∉ frs (X.env :: X.outer) := fun hm => by
 obtain ⟨_, o2, e2, no⟩ := q.fly.2.2.1.mem hm
 cases e.symm.trans e2
 exact no _ dd
theorem Down.held (q : Down X pins σ H cls d a B sI sh) (hf : X.env.frame = ξ X.env.locals) : ∃ oe vs, sh.heap.get? a = ξ oe ∧ Zc cls d oe ∧ oe.data = .fields vs ∧ Inv (X.suite a ((a, oe) :: (X.pn ++ pins))) [] σ H sh := by
 obtain ⟨oe, vs, e, z, dd⟩ := q.fly.there
 have no := q.off e dd
 exact ⟨oe, vs, e, z, dd, q.here.suite e dd q.new (fun z => no (List.mem_filterMap.mpr ⟨_, .head _, by rw [hf, z]⟩)) fun hm => by
  obtain ⟨en, h1, h2⟩ := List.mem_filterMap.mp hm
  exact no (List.mem_filterMap.mpr ⟨en, .tail _ h1, h2⟩)⟩
theorem Down.on (q : Down X pins σ H cls d a B sI sh) {h : Heap} (f : HandSPX.FlyingZ B (X.env :: X.outer) a (Zc cls d) h) (u : sh.heap.UpToSlots h) : Down X pins σ H cls d a B sI { sh with heap := h } := ⟨q.inv, q.nb, q.up.trans u, f, q.new, q.os, q.ag⟩
theorem Down.out (q : Down X pins σ H cls d a B sI sh) {W : WX} {D : Ends} (hs : X.stack = X.env :: X.outer) (hf : X.env.frame = ξ X.env.locals) (tk : Takes X W) (w : W cls d σ H) : wpAny (model X.prog X.w) X.A (handleBy (.ref a) X.env []) (SP X pins D) X.xe sh := by
 have go : wpAny (model X.prog X.w) X.A (setFlight (.ref a) X.env.frame) (fun _ s4 => wpAny (model X.prog X.w) X.A (throw (.ref a) : Sem Flow) (SP X pins D) X.xe s4) X.xe sh := by
  rw [hf]
  exact HandSPX.setFlight_upZ q.fly fun h hh u => wpAny_throw (tk _ _ ⟨a, B, sI, pins, σ, H, cls, d, rfl, q.inv, q.nb, q.up.trans u, .inr (.inr (hs ▸ hh)), q.new, q.os, q.ag, w⟩)
 obtain ⟨oe, vs, tb, _, _, e, _, dd, e1, _⟩ := q.fly.2.2.2
 refine wpAny_handleBy_nil ?_
 unfold PySem.passOn
 refine wpAny_bind (wpAny_field e dd e1 ?_)
 have nn : ¬ ((Value.ref tb == Value.none) = true) := by simp
 rw [if_neg nn]
 first
  | exact wpAny_bind (wpAny_pure (wpAny_bind go))
  | exact wpAny_bind go
theorem Down.test (q : Down X pins σ H cls d a B sI sh) (hf : X.env.frame = ξ X.env.locals) {x : Str} {c : Value} {np : Pos} {b : Bool} {Q : Bool → Shared → Prop} {E E' : Value → Shared → Prop} (hc : Names X x c) (hb : PySem.W.exmOne X.K cls c = ξ b) (h : Q b sh) :
  wpAny (model X.prog X.w) (X.A.mark (ξ (.ref a))) (eval (.Name x np) X.env) (fun v s1 => wpAny (model X.prog X.w) (X.A.mark (ξ (.ref a))) (excMatches (.ref a) v) Q E' s1) E sh := by
 obtain ⟨oe, vs, e, z, dd, S⟩ := q.held hf
 have ty : PySem.W.Looks (model X.prog X.w) sh.heap (typeOf (.ref a)) cls := fun _ _ _ _ k r => wpAny_typeOf_ref (k _ _ e) (by rw [z.1]; exact r)
 have m := (PySem.W.exm_one (M := model X.prog X.w) q.here.kIn ty hb).here (Q := Q) (E := E') (A := X.A.mark (ξ (.ref a))) h
 obtain ⟨g, nd, k | ⟨k1, k2, k3⟩⟩ := hc
 ·exact ld_glob (X := X.suite a ((a, oe) :: (X.pn ++ pins))) S g k m nd
 ·exact ld_blt (X := X.suite a ((a, oe) :: (X.pn ++ pins))) S g k1 k2 m k3 nd
end
def SkipT (X : Cx) (t : Expr) (p : Value → Prop) : Prop := ∀ {pins : List (Addr × Obj)} {σ : L2.St} {H : Hp} {cls : Value} {d : Option Addr} {a : Addr} {B : Heap} {sI sh : Shared}, Down X pins σ H cls d a B sI sh → X.env.frame = ξ X.env.locals → p cls → ∀ {Q : Bool → Shared → Prop} {E E' : Value → Shared → Prop}, (∀ sh', Down X pins σ H cls d a B sI sh' → Q false sh') →
  wpAny (model X.prog X.w) (X.A.mark (ξ (.ref a))) (eval t X.env) (fun v s1 => wpAny (model X.prog X.w) (X.A.mark (ξ (.ref a))) (excMatches (.ref a) v) Q E' s1) E sh
inductive Hds (X : Cx) : List ExceptHandler → (WX → Ends → WX) → Prop
 | nil : Hds X [] fun W _ => W
 | as {x n : Str} {c : Value} {i : Nat} {ts : Addr → Value → Option Addr → TS} {b : Stmt} {bs : List Stmt} {np pos : Pos} {hds : List ExceptHandler} {f : WX → Ends → WX} (hc : Names X x c) (hi : X.N[i]? = ξ n) (hl : X.env.kindOf n = ξ .local)
   (hb : ∀ (a : Addr) (oe : Obj) (cls : Value) (d : Option Addr) (pn : List (Addr × Obj)), Zc cls d oe → (∃ vs, oe.data = .fields vs) → PSs (X.suite a ((a, oe) :: pn)) (b :: bs) (ts a cls d)) (r : Hds X hds f) :
   Hds X (.ExceptHandler (ξ (.Name x np)) (ξ n) (b :: bs) pos :: hds) fun W D => wAs X.K c i ts (f W D) D
 | skip {t : Expr} {p : Value → Prop} {b : Stmt} {bs : List Stmt} {pos : Pos} {hds : List ExceptHandler} {f : WX → Ends → WX} (ht : SkipT X t p) (r : Hds X hds f) :
   Hds X (.ExceptHandler (ξ t) ζ (b :: bs) pos :: hds) fun W D cls d σ H => p cls ∧ f W D cls d σ H
 | bare {x : Str} {c : Value} {ts : Addr → Value → Option Addr → TS} {b : Stmt} {bs : List Stmt} {np pos : Pos} {hds : List ExceptHandler} {f : WX → Ends → WX} (hc : Names X x c)
   (hb : ∀ (a : Addr) (oe : Obj) (cls : Value) (d : Option Addr) (pn : List (Addr × Obj)), Zc cls d oe → (∃ vs, oe.data = .fields vs) → PSs (X.suite a ((a, oe) :: pn)) (b :: bs) (ts a cls d)) (r : Hds X hds f) :
   Hds X (.ExceptHandler (ξ (.Name x np)) ζ (b :: bs) pos :: hds) fun W D cls d σ H => ∃ k, PySem.W.exmOne X.K cls c = ξ k ∧ (k = true → ∀ a, H a = ζ → ts a cls d D σ H) ∧ (k = false → f W D cls d σ H)
section
variable {X: Cx}{pins: List (Addr × Obj)}
theorem Hds.go (hs : X.stack = X.env :: X.outer) (hf : X.env.frame = ξ X.env.locals) (hN : X.N.Nodup) {W : WX} {D : Ends} (tk : Takes X W) : ∀ {hds : List ExceptHandler} {f : WX → Ends → WX}, Hds X hds f → ∀ {σ : L2.St} {H : Hp} {cls : Value} {d : Option Addr} {a : Addr} {B : Heap} {sI sh : Shared}, Down X pins σ H cls d a B sI sh → f W D cls d σ H → wpAny (model X.prog X.w) X.A (handleBy (.ref a) X.env hds) (SP X pins D) X.xe sh := by
 intro hds f k
 induction k with
 | nil => exact fun q w => q.out hs hf tk w
 | @as x n c i ts b bs np pos hds f hc hi hl hb r ih =>
  intro σ H cls d a B sI sh q w
  obtain ⟨t, e, yes, no⟩ := w
  refine wpAny_handleBy_cons (codeAny_handlers_test (q.test hf hc e ?_)) (fun z => nomatch z)
  cases t with
  | false => exact ih q (no rfl)
  | true =>
   refine codeAny_handlers_suite_as (HandSPX.lands_againZ q.fly fun h fl u => ?_)
   obtain ⟨oe, vs, _, z, dd, S⟩ := (q.on fl u).held hf
   refine store_ok (X := X.suite a ((a, oe) :: (X.pn ++ pins))) (v := .ref a) S hN hi (.inl hl) rfl (fun s5 S5 => ?_) (.inr hl)
   refine wpAny_mono ((hb a oe cls d (X.pn ++ pins) z ⟨_, dd⟩).run [] s5 _ H _ S5 (yes rfl a q.new)) (fun fl s6 r6 => ?_) fun _ _ z => z.elim
   have gone : ∀ {σ6 : L2.St} {H6 : Hp} {Q : Shared → Prop}, Inv (X.suite a ((a, oe) :: (X.pn ++ pins))) [] σ6 H6 s6 → (∀ s7, Inv X pins (σ6.set i ζ) H6 s7 → Q s7) → wpAny (model X.prog X.w) X.A (do bindName X.env n .none; unbindBehindTheSuite X.env n pos) (fun _ s7 => Q s7) X.xe s6 :=
    fun S6 g => gone_ok (S6.unsuite q.inv.ok) hN hi hl g
   cases fl <;> first
    | (obtain ⟨σ6, H6, S6, q6⟩ := r6; exact gone S6 fun s7 J => ⟨_, _, J, q6⟩)
    | (obtain ⟨v6, σ6, H6, S6, rv, q6⟩ := r6; exact gone S6 fun s7 J => ⟨_, _, _, J, rv, q6⟩)
 | @skip t p b bs pos hds f ht r ih =>
  intro σ H cls d a B sI sh q w
  exact wpAny_handleBy_cons (codeAny_handlers_test (ht q hf w.1 fun sh' q' => ih q' w.2)) (fun z => nomatch z)
 | @bare x c ts b bs np pos hds f hc hb r ih =>
  intro σ H cls d a B sI sh q w
  obtain ⟨t, e, yes, no⟩ := w
  refine wpAny_handleBy_cons (codeAny_handlers_test (q.test hf hc e ?_)) (fun z => nomatch z)
  cases t with
  | false => exact ih q (no rfl)
  | true =>
   refine codeAny_handlers_suite (HandSPX.lands_againZ q.fly fun h fl u => ?_)
   obtain ⟨oe, vs, _, z, dd, S⟩ := (q.on fl u).held hf
   refine wpAny_mono ((hb a oe cls d (X.pn ++ pins) z ⟨_, dd⟩).run [] _ _ H _ S (yes rfl a q.new)) (fun fl s6 r6 => ?_) fun _ _ z => z.elim
   cases fl <;> first
    | (obtain ⟨σ6, H6, S6, q6⟩ := r6; exact ⟨_, _, S6.unsuite q.inv.ok, q6⟩)
    | (obtain ⟨v6, σ6, H6, S6, rv, q6⟩ := r6; exact ⟨_, _, _, S6.unsuite q.inv.ok, rv, q6⟩)
end
variable [Tabs][Past]
section
end
end SB
end
section
namespace SB
open PySem L2
variable [Tabs][Past]
section
end
end SB
end
section
namespace L2
open PySem PySem.Spec PyProof.Rows
structure OexG (K : PySem.W.Frag) (C : Addr) : Prop where
 base : ∃ (B B2 newId initId : String) (tl bmB : List Value), PySem.StoreFacts B tl "object.__setattr__" "object" ∧ PySem.ExcBaseFacts B2 newId initId bmB ∧ (tl.contains (.type B2) && (!tl.contains (.type "AttributeError") && !tl.contains (.type "NameError"))) = true ∧ PySem.W.excOver K C tl = true ∧ PySem.W.excInitIn K C tl newId = true
 dic : PySem.W.hasDictIn K C = true
 sa : PySem.W.findIn K (.ref C) "__setattr__" = ξ (ξ (.builtin "object.__setattr__"))
 exC : PySem.W.subIn K (.ref C) (.type "BaseException") = ξ true
 tyC : PySem.W.typeIn K (.ref C) = ξ (.type "type")
 kC : PySem.W.keepIn K (.ref C) = true
def Io (C t1 : Addr) (d : Option Addr) : Obj := { cls := .ref C, dict := d, data := .fields #[.ref t1, .none, .none, .none, .bool false, .none] }
section
variable {prog: Program}{w: World}{A: Around}{E: Value → Shared → Prop}{K: PySem.W.Frag}{B: String}{tl: List Value}{st: Shared}
theorem nW {C : Addr} {f : Str} (no : PySem.W.findIn K (.ref C) f = ξ ζ) : PySem.W.takerIn K C f = ξ ζ := by
 unfold PySem.W.takerIn
 rw [no]
 rfl
theorem qQ {α : Type} {o : Option α} {p : α → Bool} (q : o.any p = true) : ∃ x, o = ξ x ∧ p x = true := by
 cases o with
 | none => cases q
 | some x => exact ⟨x, rfl, q⟩
theorem xH {z C t1 : Addr} {f : Str} {u : Value} {Q : Unit → Shared → Prop} (SF : PySem.StoreFacts B tl "object.__setattr__" "object") (kin : K.In st.heap) (gz : st.heap.get? z = ξ (Io C t1 ζ)) (ov : PySem.W.excOver K C tl = true) (dic : PySem.W.hasDictIn K C = true)
  (sa : PySem.W.findIn K (.ref C) "__setattr__" = ξ (ξ (.builtin "object.__setattr__"))) (no : PySem.W.findIn K (.ref C) f = ξ ζ)
  (go : ∀ (h3 : Heap) (tk3 : Nat), h3.Ns1 st.heap.objs.size (fun y => if y = f then ξ u else ζ) → Heap.SameBut st.heap.objs.size ((st.heap.push { cls := .type "dict", data := .dict #[] }).update z fun o => { o with dict := ξ st.heap.objs.size }) h3 → Q () { st with heap := h3, toks := tk3 }) :
  wpAny (model prog w) A (setAttr (.ref z) f u) Q E st := by
 obtain ⟨heap, gens, drawn, toks, os⟩ := st
 refine PySem.W.set_plain kin (ox := Io C t1 ζ) (od := ζ) ⟨gz, rfl, rfl, trivial⟩ sa ?_
 refine PySem.W.osa_openX (od := ζ) SF kin ⟨gz, rfl, rfl, trivial⟩ ov (nW no) fun bb => ?_
 obtain ⟨cls, gc, hasd⟩ := qQ dic
 refine wpAny_bind (wpAny_pure (wpAny_bind (PySem.W.instanceDict_exc (t := t1) (c2 := .none) gz (PySem.W.looks_clsIn kin gc) hasd ?_)))
 have ne : z ≠ heap.objs.size := Nat.ne_of_lt (Heap.lt_size gz)
 refine PySem.HandSPX.store_in_new (hp := (heap.push { cls := .type "dict", data := .dict #[] }).update z fun o => { o with dict := ξ heap.objs.size }) ?_ fun h3 tk3 n3 s3 => ?_
 ·exact ⟨_, #[], _, (Heap.get?_update_ne _ _ _ _ ne.symm).trans (Heap.get?_push_at rfl rfl), rfl, fun en hen => absurd hen (by simp), fun _ => rfl⟩
 ·exact go h3 _ n3 s3
theorem zo {z C t1 dd : Addr} {f : Str} {u : Value} {Q : Unit → Shared → Prop} {m0 : Str → Option Value} {ks : List Str} (SF : PySem.StoreFacts B tl "object.__setattr__" "object") (kin : K.In st.heap) (gz : st.heap.get? z = ξ (Io C t1 (ξ dd))) (nd : st.heap.Ns1 dd m0) (wi : Within m0 ks) (few : ks.length ≤ 1000)
  (ov : PySem.W.excOver K C tl = true) (dic : PySem.W.hasDictIn K C = true) (sa : PySem.W.findIn K (.ref C) "__setattr__" = ξ (ξ (.builtin "object.__setattr__"))) (no : PySem.W.findIn K (.ref C) f = ξ ζ)
  (go : ∀ (h3 : Heap) (tk3 : Nat), h3.Ns1 dd (fun y => if y = f then ξ u else m0 y) → Heap.SameBut dd st.heap h3 → Q () { st with heap := h3, toks := tk3 }) :
  wpAny (model prog w) A (setAttr (.ref z) f u) Q E st := by
 obtain ⟨heap, gens, drawn, toks, os⟩ := st
 obtain ⟨oD, _, _, gD, _, _⟩ := nd.count wi
 refine PySem.W.set_plain kin (ox := Io C t1 (ξ dd)) (od := ξ oD) ⟨gz, rfl, rfl, gD⟩ sa ?_
 refine PySem.W.osa_openX (od := ξ oD) SF kin ⟨gz, rfl, rfl, gD⟩ ov (nW no) fun bb => ?_
 obtain ⟨cls, gc, hasd⟩ := qQ dic
 refine wpAny_bind (wpAny_pure (wpAny_bind (wpAny_bind (wpAny_loadPart gz (wpAny_bind ((PySem.W.looks_clsIn kin gc).at ?_))))))
 rw [hasd]
 refine wpAny_pure (a := ξ dd) ?_
 exact PySem.OEX.store_in_old nd wi few fun h3 tk3 n3 s3 => go h3 _ n3 s3
end
section
variable {X: Cx}{pins: List (Addr × Obj)}{σ: St}{H: Hp}{st: Shared}{z C dd: Addr}{f: Str}{y: V}{u: Value}{fs: List (Str × V)}{Q: Unit → Shared → Prop}{E: Value → Shared → Prop}{A: Around}
theorem CU (T : OexG X.K C) (I : Inv X pins σ H st) (hz : H z = ξ (exo z C ζ)) (no : PySem.W.findIn X.K (.ref C) f = ξ ζ) (ru : RelV y u)
    (go : ∀ dd s3, H dd = ζ → dd ≠ z → Inv X pins σ (upd (upd H dd (exd dd [(f, y)])) z (exo z C (ξ dd))) s3 → Q () s3) : wpAny (model X.prog X.w) A (setAttr (.ref z) f u) Q E st := by
  obtain ⟨B, B2, nid, iid, tl, bmB, SF, _, _, ov, _⟩ := T.base
  obtain ⟨t1, gz⟩ := exo_at I.hok hz
  refine xH SF I.kIn gz ov T.dic T.sa no fun h3 tk3 n3 s3 => ?_
  have fresh : H st.heap.objs.size = ζ := I.hok.fresh (Nat.le_refl _)
  have ne : st.heap.objs.size ≠ z := fun q => by rw [q, hz] at fresh; cases fresh
  have Ia : Inv X pins σ (upd H st.heap.objs.size (exd st.heap.objs.size [])) { st with heap := st.heap.push { cls := .type "dict", data := .dict #[] } } :=
    I.laid (t' := st.toks) (fun c o e => Heap.get?_push_of_some _ e) (Nat.le_refl _) (exd_ok (mA := fun _ => ζ) (Heap.Ns1.of_empty ⟨_, #[], _, Heap.get?_push_at rfl rfl, rfl, fun en hen => absurd hen (by simp), fun _ => rfl⟩) fun _ => True.intro)
  have gz2 : (st.heap.push { cls := .type "dict", data := .dict #[] }).get? z = ξ (Io C t1 ζ) := Heap.get?_push_of_some _ gz
  have hz2 : upd H st.heap.objs.size (exd st.heap.objs.size []) z = ξ (exo z C ζ) := by rw [upd_ne ne.symm]; exact hz
  have Ib : Inv X pins σ (upd (upd H st.heap.objs.size (exd st.heap.objs.size [])) z (exo z C (ξ st.heap.objs.size))) { st with heap := (st.heap.push { cls := .type "dict", data := .dict #[] }).update z fun o => { o with dict := ξ st.heap.objs.size } } :=
    Ia.write (t' := st.toks) (x := z) (e := z) (by rw [hz2]; exact True.intro) (.inl rfl) (fun c o q e => (Heap.get?_update_ne _ _ _ _ q).trans e) ⟨_, Heap.get?_update_self _ gz2 rfl⟩ (exo_ok (t1 := t1) (Heap.get?_update_self _ gz2 rfl))
  have hd2 : upd (upd H st.heap.objs.size (exd st.heap.objs.size [])) z (exo z C (ξ st.heap.objs.size)) st.heap.objs.size = ξ (exd st.heap.objs.size []) := by rw [upd_ne ne, upd_same]
  have Ic := Ib.write (t' := tk3) (h' := h3) (x := st.heap.objs.size) (e := st.heap.objs.size) (o := exd st.heap.objs.size [(f, y)]) (by rw [hd2]; exact True.intro) (.inl rfl) (fun c o q e => (s3.2 c q).trans e) (by obtain ⟨o, _, _, e, _⟩ := n3; exact ⟨o, e⟩) (exd_ok n3 (relO_put (fs := []) (mA := fun _ => ζ) ru fun _ => True.intro))
  have eqH : upd (upd (upd H st.heap.objs.size (exd st.heap.objs.size [])) z (exo z C (ξ st.heap.objs.size))) st.heap.objs.size (exd st.heap.objs.size [(f, y)]) = upd (upd H st.heap.objs.size (exd st.heap.objs.size [(f, y)])) z (exo z C (ξ st.heap.objs.size)) := by
    funext c
    by_cases c1 : c = z
    · subst c1
      rw [upd_ne ne.symm, upd_same, upd_same]
    · by_cases c2 : c = st.heap.objs.size
      · subst c2
        rw [upd_same, upd_ne c1, upd_same]
      · rw [upd_ne c2, upd_ne c1, upd_ne c2, upd_ne c1, upd_ne c2]
  rw [eqH] at Ic
  exact go _ _ fresh ne Ic
theorem AF (T : OexG X.K C) (I : Inv X pins σ H st) (hz : H z = ξ (exo z C (ξ dd))) (hd : H dd = ξ (exd dd fs)) (few : fs.length ≤ 900) (no : PySem.W.findIn X.K (.ref C) f = ξ ζ) (ru : RelV y u)
  (go : ∀ s3, Inv X pins σ (upd H dd (exd dd ((f, y) :: fs))) s3 → Q () s3) : wpAny (model X.prog X.w) A (setAttr (.ref z) f u) Q E st := by
 obtain ⟨B, B2, nid, iid, tl, bmB, SF, _, _, ov, _⟩ := T.base
 obtain ⟨t1, gz⟩ := exo_at I.hok hz
 obtain ⟨mA, nd, rel⟩ := exd_at I.hok hd
 refine zo SF I.kIn gz nd (within_of rel) (by rw [List.length_map]; omega) ov T.dic T.sa no fun h3 tk3 n3 s3 => go _ ?_
 exact I.write (t' := tk3) (h' := h3) (x := dd) (e := dd) (o := exd dd ((f, y) :: fs)) (by rw [hd]; exact True.intro) (.inl rfl) (fun c o q e => (s3.2 c q).trans e) (by obtain ⟨o, _, _, e, _⟩ := n3; exact ⟨o, e⟩) (exd_ok n3 (relO_put ru rel))
end
def yL (K : PySem.W.Frag) (f : Str) (to te : TE) : TS := fun D σ H => te σ H fun y H1 => to σ H1 fun x H2 => ∃ z C : Addr, x = .ref z ∧ OexG K C ∧ PySem.W.findIn K (.ref C) f = ξ ζ ∧
  ((H2 z = ξ (exo z C ζ) ∧ ∀ dd, H2 dd = ζ → dd ≠ z → D.nx σ (upd (upd H2 dd (exd dd [(f, y)])) z (exo z C (ξ dd)))) ∨
    ∃ (dd : Addr) (fs : List (Str × V)), H2 z = ξ (exo z C (ξ dd)) ∧ H2 dd = ξ (exd dd fs) ∧ fs.length ≤ 900 ∧ D.nx σ (upd H2 dd (exd dd ((f, y) :: fs))))
theorem BU {X : Cx} {o e : Expr} {to te : TE} {f : Str} {p' pos : Pos} (ho : PE X o to) (he : PE X e te) (hs : swapsWith e (ξ (.Attribute o f p')) pos.line X.env = pure false := by rfl) : PS X (.Assign [.Attribute o f p'] e pos) (yL X.K f to te) := by
 refine ⟨fun pins st σ H D I h => ?_⟩
 refine plainObj_wpAny_Assign_Attribute (thn (he.run pins st σ H _ I h) fun v s1 ⟨y, H1, I1, r1, q1⟩ => thn (ho.run pins s1 σ H1 _ I1 q1) fun vo s2 ⟨xo, H2, I2, r2, z, C, ex, T, no, q⟩ => ?_) hs
 subst ex
 obtain rfl : vo = Value.ref z := r2
 rcases q with ⟨hz, q⟩ | ⟨dd, fs, hz, hd, few, q⟩
 ·exact CU T I2 hz no r1 fun dd s3 n ne J => ⟨σ, _, J, q dd n ne⟩
 ·exact AF T I2 hz hd few no r1 fun s3 J => ⟨σ, _, J, q⟩
structure RowOf (B2 newId initId : String) (bmB bm : List Value) : Prop where
 F : PySem.ExcBaseFacts B2 newId initId bmB
 b : bm.contains (.type B2) = true
 a : bm.contains (.type "AttributeError") = false
 n : bm.contains (.type "NameError") = false
theorem RowOf.of {B2 newId initId : String} {bmB tl bm : List Value} (F : PySem.ExcBaseFacts B2 newId initId bmB) (h : (tl.contains (.type B2) && (!tl.contains (.type "AttributeError") && !tl.contains (.type "NameError"))) = true) (e : ∀ X : String, bm.contains (.type X) = tl.contains (.type X)) : RowOf B2 newId initId bmB bm := by
 simp only [Bool.and_eq_true, Bool.not_eq_true'] at h
 exact ⟨F, (e _).trans h.1, (e _).trans h.2.1, (e _).trans h.2.2⟩
section
variable {C: Addr}{bm: List Value}
theorem nA {X : String} {b : Bool} (h : bm.contains (.type X) = b) : (Value.ref C :: bm).contains (.type X) = b := by
 rw [List.contains_cons, h]
 cases b <;> rfl
end
end L2
end
section
namespace SB
open PySem PySem.Spec L2
open PyProof.Rows hiding St
variable [Tabs][Past]
def pV (K : PySem.W.Frag) : List (Str × Nat) → TS
 | [] => tNext
 | (f, i) :: r => tSeq (yL K f (tVar 0) (tVar i)) (pV K r)
theorem uh {K : PySem.W.Frag} {C a dx : Addr} {D : Ends} {σ : St} (T : OexG K C) (hs : σ[0]? = ξ (ξ (.ref a))) (ne : dx ≠ a) : ∀ {fis : List (Str × Nat)} {ws : List V} {acc : List (Str × V)} {H H0 : Hp},
  (∀ p ∈ fis.zip ws, σ[p.1.2]? = ξ (ξ p.2)) → fis.length = ws.length → (∀ p ∈ fis, PySem.W.findIn K (.ref C) p.1 = ξ ζ) → acc.length + fis.length ≤ 900 → H a = ξ (exo a C (ξ dx)) → H dx = ξ (exd dx acc) → (∀ b, b ≠ a → b ≠ dx → H b = H0 b) →
  (∀ H', H' a = ξ (exo a C (ξ dx)) → H' dx = ξ (exd dx (((fis.map (·.1)).zip ws).reverse ++ acc)) → (∀ b, b ≠ a → b ≠ dx → H' b = H0 b) → D.nx σ H') → pV K fis D σ H
 | [], [], acc, H, H0, _, _, _, _, ha, hd, hk, q => q H ha (by simpa using hd) hk
 | [], _ :: _, _, _, _, _, hl, _, _, _, _, _, _ => by cases hl
 | _ :: _, [], _, _, _, _, hl, _, _, _, _, _, _ => by cases hl
 | (f, i) :: fis, y :: ws, acc, H, H0, hv, hl, hf, hz, ha, hd, hk, q => by
  refine ⟨y, hv ((f, i), y) (by simp), _, hs, a, C, rfl, T, hf (f, i) (by simp), .inr ⟨dx, acc, ha, hd, by simp at hz; omega, ?_⟩⟩
  refine uh T hs ne (H0 := H0) (ws := ws) (fun p hp => hv p (by simp [hp])) (by simpa using hl) (fun p hp => hf p (by simp [hp])) (by simp at hz ⊢; omega) (by rw [upd_ne ne.symm]; exact ha) upd_same (fun b h1 h2 => by rw [upd_ne h2]; exact hk b h1 h2) fun H' a1 a2 a3 => q H' a1 ?_ a3
  rw [a2]
  simp
theorem CC {K : PySem.W.Frag} {C : Addr} {fs : List Str} {vs : List V} {H : Hp} {Q : VK} {E : XK} {N : List Str} {f0 : Str} {fs' : List Str} (hfs : fs = f0 :: fs') (T : OexG K C) (hf : ∀ f ∈ fs, PySem.W.findIn K (.ref C) f = ξ ζ) (hz : fs.length ≤ 900) (h : spIni K C fs vs H Q E) :
  pV K (fs.zip (List.range' 1 fs.length)) { nx := fun _ H' => Q .non H', rt := Q } (start N vs) H := by
 obtain ⟨a, ws, rfl, hl, ha, q⟩ := h
 subst hfs
 cases ws with
 | nil => cases hl
 | cons y ws =>
  have hst : ∀ (i : Nat) (v : V), ([V.ref a, y] ++ ws)[i]? = ξ v → (start N (V.ref a :: y :: ws))[i]? = ξ (ξ v) := fun i v e => by
   have hi := (List.getElem?_eq_some_iff.mp e).1
   unfold L2.start
   rw [List.getElem?_append_left (by simpa using hi), List.getElem?_map]
   have e' : (V.ref a :: y :: ws)[i]? = ξ v := e
   rw [e']
   rfl
  have h0 : (start N (V.ref a :: y :: ws))[0]? = ξ (ξ (.ref a)) := hst 0 _ rfl
  rw [List.length_cons, List.range'_succ, List.zip_cons_cons]
  have hl' : ws.length = fs'.length := by simpa using hl
  refine ⟨y, hst 1 _ rfl, _, h0, a, C, rfl, T, hf f0 (by simp), .inl ⟨ha, fun dx hn ne => ?_⟩⟩
  refine uh T h0 ne (H0 := H) (ws := ws) (acc := [(f0, y)]) (fun p hp => hst _ _ (yk (pre := [V.ref a, y]) p (by simpa using hp))) (by simp [hl']) (fun p hp => hf p.1 (by simp [(List.of_mem_zip hp).1])) (by simp at hz ⊢; omega) upd_same (by rw [upd_ne ne]; exact upd_same) (fun b h1 h2 => by rw [upd_ne h1, upd_ne h2]) fun H' a1 a2 a3 => q dx H' hn ne a1 ?_ a3
  rw [a2, List.map_fst_zip (by simp)]
  simp
section
variable {P: Program}{w: World}{K: PySem.W.Frag}{mg: Str → Option Value}{base: Heap}{x qual: Str}{params: Arguments}{body: List Stmt}{scope: Scope}{dvs: List V}{kws: List (Str × V)}{f C: Addr}{fd: FuncData}
theorem wR {N ps : List Str} {fs : List Str} {f0 : Str} {fs' : List Str} (F : FunD K x qual params body scope dvs kws f fd) (S : FnScope N ps scope) (hfs : fs = f0 :: fs') (hps : ps.length = fs.length + 1) (T : OexG K C) (hf : ∀ f ∈ fs, PySem.W.findIn K (.ref C) f = ξ ζ) (hz : fs.length ≤ 900)
  (hb : ∀ X : Cx, X.K = K → X.N = N → X.env.scope = scope → PSs X body (pV K (fs.zip (List.range' 1 fs.length)))) : FnG P w K mg base (L2.CX P w) 1 f fd ps (spIni K C fs) := by
 obtain ⟨oc, od, dV, kV, doc, pm, an, cdv, ct, osl, rfl, lk, hcd, _, _⟩ := F.ex
 exact AA lk hcd S (fun vs H Q E ⟨a, ws, e, hl, _⟩ => by rw [e, hps]; simp [hl]) fun A outer s H vs Q E hr hsp => ⟨_, hb _ rfl rfl rfl, CC hfs T hf hz hsp⟩
end
section
end
section
end
theorem aM {X : Cx} {K : PySem.W.Frag} {N : List Str} {scope : Scope} {s0 f x : Str} {p p' px pos : Pos} (i : Nat) (hK : X.K = K) (hN : X.N = N) (hS : X.env.scope = scope) (h0 : N[0]? = ξ s0 := by rfl) (hi : N[i]? = ξ x := by rfl) (v0 : Vis scope s0 := by exact Or.inl rfl) (vi : Vis scope x := by exact Or.inl rfl)
  (d0 : (s0 == ("__debug__" : Str)) = false := by decide) (c0 : (s0 == ("__classdict__" : Str)) = false := by decide) (d1 : (x == ("__debug__" : Str)) = false := by decide) (c1 : (x == ("__classdict__" : Str)) = false := by decide) :
  PS X (.Assign [.Attribute (.Name s0 p) f p'] (.Name x px) pos) (yL K f (tVar 0) (tVar i)) := by
 subst hK
 exact BU (pe_var (by rw [hN]; exact h0) (by rw [hS]; exact v0) d0 c0) (pe_var (by rw [hN]; exact hi) (by rw [hS]; exact vi) d1 c1)
structure FnXG (P : Program) (w : World) (K : PySem.W.Frag) (mg : Str → Option Value) (base : Heap) (C : Addr) (fs : List Str) : Prop where
 T : OexG K C
 ini : ∃ (fI : Addr) (fd : FuncData) (ps : List Str), PySem.W.findIn K (.ref C) "__init__" = ξ (ξ (.ref fI)) ∧ PySem.W.typeIn K (.ref fI) = ξ (.type "function") ∧ FnG P w K mg base (L2.CX P w) 1 fI fd ps (spIni K C fs) ∧ Binds K fd ps []
theorem zB {K : PySem.W.Frag} {C : Addr} (q : zC K C = true) : OexG K C := by
 unfold zC ka at q
 simp only [Bool.and_eq_true, decide_eq_true_eq] at q
 obtain ⟨⟨h1, h2⟩, h3, h4, h5, h6, h7⟩ := q
 exact ⟨⟨"IndexError", "IndexError", "IndexError.__new__", "IndexError.__init__", FR, FR, PySem.F.store_IndexError, PySem.F.excBase_IndexError, by decide +kernel, h1, h2⟩, h3, h4, h5, h6, h7⟩
section
variable {P: Program}{w: World}{K: PySem.W.Frag}{mg: Str → Option Value}{base: Heap}{x qual: Str}{params: Arguments}{body: List Stmt}{scope: Scope}{kws: List (Str × V)}{f C: Addr}{fd: FuncData}{N ps fs fs': List Str}{f0: Str}
theorem ee (T : OexG K C) (I : Ini K C f fs) (F : FunD K x qual params body scope [] kws f fd) (S : FnScope N ps scope) (hfs : fs = f0 :: fs') (hps : ps.length = fs.length + 1) (hz : fs.length ≤ 900)
  (hbi : ∀ (kV doc pm : Value) (an : Option Addr) (cdv ct : Value) (us : List Value), us.length = ps.length → bindArgs (PySem.W.fnOf x qual params body scope .none kV doc pm an cdv ct) ⟨us, []⟩ = pure (ps.zip us))
  (hb : ∀ X : Cx, X.K = K → X.N = N → X.env.scope = scope → PSs X body (pV K (fs.zip (List.range' 1 fs.length)))) : FnXG P w K mg base C fs :=
 ⟨T, f, fd, ps, I.i, I.t, wR F S hfs hps T I.n hz hb, F.bindsN hbi⟩
end
section
end
section
end
section
end
section
end
section
end
section
variable {H: Hp}{r: List Addr}{m: M}
@[reducible] def Past.and (p : Past) (r : List Addr) (H : Hp) : Past := ⟨(r, H) :: p.P⟩
theorem Sim.less {K : PySem.W.Frag} {r0 : List Addr} {H0 : Hp} (S : @Sim _ (Past.and ‹Past› r0 H0) K r m H) : Sim K r m H ∧ Lp K r0 H0 r H := by
 obtain ⟨s1, s2, s3, s4, s5⟩ := S
 exact ⟨⟨s1, s2, s3, s4, fun p hp => s5 p (.tail _ hp)⟩, s5 (r0, H0) (.head _)⟩
end
end SB
end
section
namespace SB
open PySem hiding Env
open L2
section
end
end SB
end
section
namespace SB
open PySem PySem.Spec L2
open PyProof.Rows hiding St
section
end
variable [Tabs][Past]
section
end
section
end
end SB
end
section
namespace SB
open PySem L2
variable [Tabs][Past]
end SB
end
section
namespace SB
open PySem PySem.Spec L2
open PyProof.Rows hiding St
def isN8 : W → Bool
 | .int _ => true
 | _ => false
variable [Tabs][Past]
theorem RKV.same {κ : Type} {K : PySem.W.Frag} {r r' : List Addr} {H H' : Hp} : ∀ {ps qs : List (κ × W)} {vs : List (κ × V)}, RKV K r H ps vs → RKV K r' H' qs vs → (∀ p ∈ ps, isN8 p.2 = true) → qs = ps
 | [], [], _, _, _, _ => rfl
 | [], q :: qs, _, h, h', _ => by
  cases (show _ = _ from h)
  obtain ⟨_, _, z, _⟩ := h'
  cases z
 | p :: ps, [], _, h, h', _ => by
  cases (show _ = _ from h')
  obtain ⟨_, _, z, _⟩ := h
  cases z
 | p :: ps, q :: qs, _, h, h', hi => by
  obtain ⟨v, rest, rfl, h1, h2⟩ := h
  obtain ⟨v', rest', e, h3, h4⟩ := h'
  injection e with e1 e2
  injection e1 with e3 e4
  subst e2
  obtain ⟨k, w⟩ := p
  obtain ⟨k', w'⟩ := q
  have hw := hi _ (.head _)
  cases w <;> first | (cases hw; done) | skip
  cases (show v = _ from h1)
  subst e4
  cases w' <;> first | (cases (show _ = _ from h3); done) | skip
  ·cases (show _ = _ from h3)
   rw [RKV.same h2 h4 fun p hp => hi p (.tail _ hp)]
   exact congrArg (· :: ps) (Prod.ext e3.symm rfl)
  all_goals (first | (obtain ⟨_, _, z, _⟩ := h3; cases z; done) | (obtain ⟨_, _, z⟩ := h3; cases z; done) | (obtain ⟨_, z, _⟩ := h3; cases z))
section
end
section
end
section
end
section
end
end SB
end
section
namespace SB
open PySem hiding Env
open L2
section
end
end SB
end
section
namespace TupW
open PySem PySem.SeqAt GQ
section
end
section
end
end TupW
namespace SB
open PySem L2
variable [Tabs][Past]
section
end
section
end
end SB
end
section
namespace SB
open PySem PySem.Spec L2
open PyProof.Rows hiding St
variable [Tabs][Past]
end SB
end
section
namespace SB
open PySem L2
open PyProof.Rows (envOfC)
variable [Tabs][Past]
section
end
end SB
end
section
namespace SB
open PySem L2
variable [Tabs][Past]
section
end
end SB
end
section
namespace SB
open PySem PySem.Spec L2
open PyProof.Rows hiding St
section
variable {X: Cx}{pins: List (Addr × Obj)}{σ: L2.St}{H: Hp}{cls: Value}{d: Option Addr}{a: Addr}{B: Heap}{sI sh: Shared}
theorem Down.name (q : Down X pins σ H cls d a B sI sh) (hf : X.env.frame = ξ X.env.locals) {x : Str} {c : Value} {np : Pos} {Q : Value → Shared → Prop} {E : Value → Shared → Prop} (hc : Names X x c) (h : Q c sh) :
  wpAny (model X.prog X.w) (X.A.mark (ξ (.ref a))) (eval (.Name x np) X.env) Q E sh := by
 obtain ⟨oe, vs, e, z, dd, S⟩ := q.held hf
 obtain ⟨g, nd, k | ⟨k1, k2, k3⟩⟩ := hc
 ·exact ld_glob (X := X.suite a ((a, oe) :: (X.pn ++ pins))) S g k h nd
 ·exact ld_blt (X := X.suite a ((a, oe) :: (X.pn ++ pins))) S g k1 k2 h k3 nd
end
variable [Tabs][Past]
end SB
end
section
namespace SB
open PySem hiding Env
open L2
end SB
end
section
namespace SB
open PySem PySem.Spec L2
open PyProof.Rows hiding St
abbrev OexL (K : PySem.W.Frag) (C : Addr) : Prop := OexG K C
theorem tO {K : PySem.W.Frag} {C : Addr} (q : wm K C = true) : OexL K C := by
 unfold wm ka at q
 simp only [Bool.and_eq_true, decide_eq_true_eq] at q
 obtain ⟨⟨h1, h2⟩, h3, h4, h5, h6, h7⟩ := q
 exact ⟨⟨"LookupError", "LookupError", "LookupError.__new__", "LookupError.__init__", xP, xP, PySem.F.store_LookupError, PySem.F.excBase_LookupError, by decide +kernel, h1, h2⟩, h3, h4, h5, h6, h7⟩
variable [Tabs][Past]
section
end
end SB
end
section
namespace SB
open PySem PySem.Spec L2
open PyProof.Rows (envOfC)
variable [Tabs][Past]
def pickL {α : Type} (p : List Nat) (ws : List α) : List α := p.filterMap fun i => ws[i]?
section
variable {K: PySem.W.Frag}{r: List Addr}{H: Hp}
theorem RWs.pickL : ∀ (p : List Nat) {ws : List W} {vs : List V}, RWs K r H ws vs → RWs K r H (pickL p ws) (SB.pickL p vs)
 | [], _, _, _ => rfl
 | i :: p, ws, vs, q => by
  have ih := RWs.pickL p q
  unfold SB.pickL at ih ⊢
  cases hw : ws[i]? with
  | none =>
   have hv : vs[i]? = ζ := by
    rw [List.getElem?_eq_none_iff] at hw ⊢
    rw [← q.len]; exact hw
   rw [List.filterMap_cons_none hw, List.filterMap_cons_none hv]
   exact ih
  | some w =>
   obtain ⟨v, hv, rw1⟩ := q.get hw
   rw [List.filterMap_cons_some hw, List.filterMap_cons_some hv]
   exact ⟨v, _, rfl, rw1, ih⟩
theorem nU : ∀ (p : List Nat) {vs : List V} {us : List Value}, Vals vs us → Vals (pickL p vs) (pickL p us)
 | [], _, _, _ => .nil
 | i :: p, vs, us, q => by
  have ih := nU p q
  unfold pickL at ih ⊢
  cases hv : vs[i]? with
  | none =>
   have hu : us[i]? = ζ := by
    rw [List.getElem?_eq_none_iff] at hv ⊢
    rw [← q.length]; exact hv
   rw [List.filterMap_cons_none hv, List.filterMap_cons_none hu]
   exact ih
  | some v =>
   obtain ⟨u, hu, rv⟩ := q.get hv
   rw [List.filterMap_cons_some hv, List.filterMap_cons_some hu]
   exact .cons rv ih
end
section
end
section
end
theorem GS.imp {X : Cx} {st : Stmt} {t u : TGn} (h : GS X st t) (i : ∀ D ys σ H, u D ys σ H → t D ys σ H) : GS X st u :=
 ⟨fun A S ip R n ys s₀ c fs K J gd lv s σ H D g hn k hI ht => h.run A S ip R n ys s₀ c fs K J gd lv s σ H D g hn k hI (i D ys σ H ht)⟩
theorem GSs.imp {X : Cx} {st : List Stmt} {t u : TGn} (h : GSs X st t) (i : ∀ D ys σ H, u D ys σ H → t D ys σ H) : GSs X st u :=
 ⟨fun A S ip R n ys s₀ c fs K J gd lv s σ H D g hn k hI ht => h.run A S ip R n ys s₀ c fs K J gd lv s σ H D g hn k hI (i D ys σ H ht)⟩
section
end
section
end
section
end
section
end
end SB
end
section
namespace SB
open PySem PySem.Spec L2
open PyProof.Rows hiding St
variable [Tabs][Past]
section
end
section
end
section
end
section
end
end SB
end
section
namespace SB
open PySem hiding Env
open L2
section
end
section
end
end SB
end
section
namespace SB
open PySem L2
variable [Tabs][Past]
section
end
end SB
end
section
namespace SZ
open PySem
section
end
end SZ
end
section
namespace SB
open PySem PySem.Spec L2
variable [Tabs][Past]
end SB
end
section
namespace SB
open PySem L2
variable [Tabs][Past]
section
end
section
end
end SB
end
section
namespace SB
open PySem PySem.Spec L2
open PyProof.Rows (envOfC)
open NdefX (NScope NF ncx CellsAt startF inv_startN)
variable [Tabs][Past]
section
open PySem.W
end
section
end
section
end
section
end
section
end
end SB
end
section
namespace SB
open PySem PySem.Spec L2
variable [Tabs][Past]
section
end
end SB
end
section
namespace SB
open PySem hiding Env
open L2
variable [Tabs][Past]
end SB
end
section
namespace SB
open PySem hiding Env
open L2
end SB
end
section
namespace SB
open PySem PySem.Spec L2
section
end
end SB
end
section
namespace SB
open PySem L2
variable [Tabs][Past]
section
end
section
end
open He (ga ma)
end SB
end
section
namespace SB
open PySem L2
variable [Tabs][Past]
section
end
end SB
end
section
namespace SB
open PySem PySem.Spec L2
open PyProof.Rows hiding St
theorem BR : PySem.StoreFacts "KeyError" FA "object.__setattr__" "object" := by
 refine ⟨by kernel_rfl, ?_, PySem.F.store_object.entry, by decide +kernel, by decide +kernel, by decide +kernel, PySem.F.store_object.args, fun _ => by kernel_rfl⟩
 exact .of (owner := "object") (n := "__setattr__") (by rw [typeLookup_type, builtinLookup_eq_fast]; kernel_rfl) (by decide +kernel) (by decide +kernel) (by decide +kernel) (.inl (by decide +kernel)) (by rw [isSubtype_type]; kernel_rfl)
abbrev OexK (K : PySem.W.Frag) (C : Addr) : Prop := OexG K C
abbrev OexO (K : PySem.W.Frag) (C : Addr) : Prop := OexG K C
theorem oA {K : PySem.W.Frag} {C : Addr} (q : tP K C = true) : OexK K C := by
 unfold tP ka qd at q
 simp only [Bool.and_eq_true, decide_eq_true_eq] at q
 obtain ⟨⟨h3, h4, h7, h5, h6⟩, h1, h2⟩ := q
 exact ⟨⟨"KeyError", "LookupError", "LookupError.__new__", "LookupError.__init__", FA, xP, BR, PySem.F.excBase_LookupError, by decide +kernel, h1, h2⟩, h3, h4, h5, h6, h7⟩
theorem zy {K : PySem.W.Frag} {C : Addr} (q : zA K C = true) : OexO K C := by
 unfold zA ka qd at q
 simp only [Bool.and_eq_true, decide_eq_true_eq] at q
 obtain ⟨⟨h3, h4, h7, h5, h6⟩, h1, h2⟩ := q
 exact ⟨⟨"OverflowError", "OverflowError", "OverflowError.__new__", "OverflowError.__init__", Fd, Fd, PySem.F.store_OverflowError, PySem.F.excBase_OverflowError, by decide +kernel, h1, h2⟩, h3, h4, h5, h6, h7⟩
variable [Tabs][Past]
section
end
section
end
section
end
section
end
end SB
end
section
namespace SB
open PySem PySem.Spec L2
open PyProof.Rows (envOfC)
open NdefX (NScope NF ncx CellsAt startF inv_startN)
variable [Tabs][Past]
section
end
section
end
end SB
end
section
namespace L2
open PySem PySem.Spec PyProof.Rows
section
variable {M: Model}{prog: Program}{w: World}{A: Around}{E: Value → Shared → Prop}{R: Result → Shared → Prop}{hp: Heap}{gn: Array GenState}{dr: Drawn}{tk: Nat}{os: OsState}
variable {nm qn: Str}{C N: Addr}{bs bm bmB: List Value}{hdct: Bool}{sn: List Str}{sub: List Value}{ab: Bool}{col: Option Bool}{dd: Option Addr}{k0 k1 k2 k3 k5: Option Value}{B2 newId initId: String}{us: List Value}{kz: List (Str × Value)}{fI: Addr}
theorem y9 (T : RowOf B2 newId initId bmB bm) (hC : hp.get? C = ξ (excClassObj nm qn C N bs bm hdct sn sub ab col dd k0 k1 k2 k3 k5 newId)) (hus : us.length ≤ sizeLine)
  (go : R (.ok (.ret (.ref (hp.objs.size + 1)))) ⟨(hp.push (PySem.W.kdv_tup us)).push (PySem.HandSPX.excO C hp.objs.size), gn, dr, tk, os⟩) : codeAny (model prog w) A (.builtin newId ⟨.ref C :: us, kz⟩) R ⟨hp, gn, dr, tk, os⟩ := by
 have e0 := T.F.ends
 have hB := nA (C := C) T.b
 have hA := nA (C := C) T.a
 have hN := nA (C := C) T.n
 apply codeAny_builtinAt T.F.entry
 unfold Builtin.«BaseException.__new__»
 apply PySem.wpAt_bind
 show PySem.wpAt _ _ _ (stack >>= _) _ _ _
 apply PySem.wpAt_bind
 refine PySem.wpAt_stack fun p0 p1 => PySem.wpAt_of_wpAny ?_
 wp_walk
 apply PySem.wpAt_of_wpAny
 rw [T.F.owner]
 repeat (first | with_reducible refine wpAny_madeHere_exc T.F.canon hC ?_ | with_reducible refine wpAny_loadPart_at hC ?_ | (with_reducible refine wpAny_isSubtype_exc hC ?_; first | rw [hB] | rw [hA] | rw [hN]) | wp_step)
 show R _ _
 rw [Heap.size_push]
 exact go
theorem uZ (T : RowOf B2 newId initId bmB bm) {Q : Unit → Shared → Prop} (hC : hp.get? C = ξ (excClassObj nm qn C N bs bm hdct sn sub ab col dd k0 k1 k2 k3 k5 newId)) (go : Q () ⟨hp, gn, dr, tk, os⟩) : wpAny M A (checkBuiltinCall newId ⟨.ref C :: us, kz⟩) Q E ⟨hp, gn, dr, tk, os⟩ := by
 have e0 := T.F.noStar
 have hB := nA (C := C) T.b
 simp only [checkBuiltinCall, T.F.newRow, T.F.newKind, T.F.newSplit]
 repeat (first | with_reducible refine wpAny_loadPart_at hC ?_ | (refine wpAny_isSubtype_exc hC ?_; rw [hB]) | refine wpAny_madeBy_exc hC ?_ | refine wpAny_staticBase_exc hC ?_ | simp only [Bool.false_eq_true, bne_self_eq_false, if_false] | wp_step)
 exact go
theorem xA (T : RowOf B2 newId initId bmB bm) {Q : Fin → Shared → Prop} (hC : hp.get? C = ξ (excClassObj nm qn C N bs bm hdct sn sub ab col dd k0 k1 k2 k3 k5 newId)) (hi : PySem.W.Looks (model prog w) hp (typeLookup (.ref C) "__init__") (ξ (.ref fI)))
  (hb : ∀ self, PySem.W.Looks (model prog w) hp (bindSpecial (.ref fI) self) (.ref fI, [self])) (hus : us.length ≤ sizeLine)
  (go : codeAny (model prog w) A (.call (.ref fI) ⟨.ref (hp.objs.size + 1) :: us, kz⟩) (fun r s1 => match r with
   | .ok (.ret v) => v = .none ∧ Q (.done (.ret (.ref (hp.objs.size + 1)))) s1
   | .ok _ => False
   | .error e => E e s1) ⟨(hp.push (PySem.W.kdv_tup us)).push (PySem.HandSPX.excO C hp.objs.size), gn, dr, tk, os⟩) :
  wpAny (model prog w) A (Builtin.«type.__call__» ⟨.ref C :: us, kz⟩) Q E ⟨hp, gn, dr, tk, os⟩ := by
 have up : ∀ b o, hp.get? b = ξ o → ((hp.push (PySem.W.kdv_tup us)).push (PySem.HandSPX.excO C hp.objs.size)).get? b = ξ o := fun b o e => Heap.get?_push_of_some _ (Heap.get?_push_of_some _ e)
 have hC1 := up _ _ hC
 have i1 := hi.keeps up
 have b1 := (hb (.ref (hp.objs.size + 1))).keeps up
 have own : (Value.ref C :: bm).contains (.ref C) = true := by simp
 have hx : ((hp.push (PySem.W.kdv_tup us)).push (PySem.HandSPX.excO C hp.objs.size)).get? (hp.objs.size + 1) = ξ (PySem.HandSPX.excO C hp.objs.size) := by heap_get
 repeat (first | with_reducible refine wpAny_madeBy_exc hC ?_ | with_reducible refine wpAny_loadPart_at hC ?_ | wp_step)
 refine codeAny_call_builtin_code (Code.quiet_builtin _ T.F.quiet) (uZ T hC (y9 T hC hus ?_))
 show wpAny _ _ _ _ _ _
 unfold isInstance
 repeat (first | with_reducible refine wpAny_loadPart_at hx ?_ | (with_reducible refine wpAny_isSubtype_exc hC1 ?_; rw [own]) | wp_step)
 refine i1.at (wpAny_holding (wpAny_bind (b1.at (wpAny_bind (wpAny_call (codeAny_mono go fun r s1 z => ?_))))))
 rcases r with e | (v | _ | _ | _) <;> first | exact z | exact z.elim | skip
 obtain ⟨rfl, z⟩ := z
 first
  | exact wpAny_pure (wpAny_pure z)
  | (wp_walk; exact z)
theorem call_rowK (T : RowOf B2 newId initId bmB bm) (hC : hp.get? C = ξ (excClassObj nm qn C N bs bm hdct sn sub ab col dd k0 k1 k2 k3 k5 newId)) (hi : PySem.W.Looks (model prog w) hp (typeLookup (.ref C) "__init__") (ξ (.ref fI)))
  (hb : ∀ self, PySem.W.Looks (model prog w) hp (bindSpecial (.ref fI) self) (.ref fI, [self])) (hus : us.length ≤ sizeLine)
  (go : codeAny (model prog w) (A.under (.builtin "type.__call__" ⟨.ref C :: us, kz⟩)) (.call (.ref fI) ⟨.ref (hp.objs.size + 1) :: us, kz⟩) (PySem.W.InitBack (hp.objs.size + 1) R) ⟨(hp.push (PySem.W.kdv_tup us)).push (PySem.HandSPX.excO C hp.objs.size), gn, dr, tk, os⟩) :
  codeAny (model prog w) A (.call (.ref C) ⟨us, kz⟩) R ⟨hp, gn, dr, tk, os⟩ := by
 have t1 := tc_lookup
 have t2 := tc_bind (.ref C)
 have ty : (⟨hp, gn, dr, tk, os⟩ : Shared).TypeIs (.ref C) "type" := ⟨_, hC, rfl⟩
 refine codeAny_of_tree (show wpAny _ _ (callAny (.ref C) _) _ _ _ from ?_)
 repeat (any_goals (first | assumption | with_reducible refine wpAny_loadPart_at hC ?_ | wp_step))
 refine ⟨rfl, codeAny_call_builtin_at (Code.quiet_builtin _ (by decide +kernel)) entry_typeCall (wpAny_check_type_call_sub hC (xA T hC hi hb hus (codeAny_mono go fun r s1 z => ?_)))⟩
 rcases r with e | (v | _ | _ | _) <;> exact z
end
section
variable {X: Cx}
theorem AH {pins : List (Addr × Obj)} {σ : St} {H1 H2 : Hp} {hp hp2 h2 : Heap} {g1 g2 : Array GenState} {d1 d2 : Drawn} {t1 t2 : Nat} {os1 os2 : OsState} {a C d : Addr} {fs gs : List (Str × V)} (I1 : Inv X pins σ H1 ⟨hp, g1, d1, t1, os1⟩)
    (ha : hp.objs.size ≤ a) (up0 : ∀ b o, hp.get? b = ξ o → hp2.get? b = ξ o) (un : Un (frs X.stack) [] (upd H1 a (exo a C ζ)) H2 hp2 h2) (hok : HOk X.prog X.w H2 h2) (ho : os2 = os1) (hb : AllBare g2)
    (ea : H2 a = ξ (exo a C (ξ d))) (ed : H2 d = ξ (exd d fs)) (hd1 : H1 d = ζ) (hg : ∀ f, gs.lookup f = fs.lookup f) :
    d ≠ a ∧ ∃ (oe od : Obj), (∃ ys, oe.data = .fields ys) ∧ oe.cls = .ref C ∧ oe.dict = ξ d ∧ Inv X pins σ (upd (upd (del H2 a) d (.frz od (.xd gs))) a (.frz oe (exo a C (ξ d)))) ⟨h2, g2, d2, t2, os2⟩ := by
  obtain ⟨t0, hoe⟩ := exo_at hok ea
  obtain ⟨mA, hns, rel⟩ := exd_at hok ed
  have na : H1 a = ζ := I1.hok.fresh ha
  have hda : d ≠ a := fun z => by
    obtain ⟨o, es, ep, e1, e2, _⟩ := hns
    rw [z, hoe] at e1
    cases Option.some.inj e1
    cases e2
  obtain ⟨od, es, ep, hod, hrest⟩ := hns
  have old : ∀ {b : Addr} {o : Obj}, hp.get? b = ξ o → b ≠ a := fun {b o} z => Nat.ne_of_lt (Nat.lt_of_lt_of_le (Heap.lt_size z) ha)
  have lift : ∀ {b : Addr}, b ≠ a → H1 b = ζ → upd H1 a (exo a C ζ) b = ζ := fun {b} hb n => (upd_ne hb).trans n
  have notd : ∀ {b : Addr} {o : Obj}, hp.get? b = ξ o → H1 b = ζ → b ≠ d := fun {b o} z n e => by
    have y := un.free b o (up0 b o z) (lift (old z) n) (by simp)
    rw [e, ed] at y
    cases y
  have oth : ∀ {b : Addr}, b ≠ a → b ≠ d → ∀ {x y : HO}, upd (upd (del H2 a) d x) a y b = H2 b := fun {b} h1 h2 {x y} => by rw [upd_ne h1, upd_ne h2, del_ne h1]
  generalize hoeq : ({ cls := .ref C, dict := ξ d, data := .fields #[.ref t0, .none, .none, .none, .bool false, .none] } : Obj) = oe at hoe
  have U : Un (frs X.stack) [] H1 (upd (upd (del H2 a) d (.frz od (.xd gs))) a (.frz oe (exo a C (ξ d)))) hp h2 := {
    keep := fun b o z n hf hx => un.keep b o (up0 b o z) (lift (old z) n) hf hx
    slot := fun b o z n hf hx => un.slot b o (up0 b o z) (lift (old z) n) hf hx
    free := fun b o z n hx => (oth (old z) (notd z n)).trans (un.free b o (up0 b o z) (lift (old z) n) hx)
    there := fun b o z hx => un.there b o (up0 b o z) hx
    tups := fun b xs z => (oth (ne_of_none z na) (ne_of_none z hd1)).trans (un.tups b xs ((upd_ne (ne_of_none z na)).trans z))
    frzs := fun b o v z => (oth (ne_of_none z na) (ne_of_none z hd1)).trans (un.frzs b o v ((upd_ne (ne_of_none z na)).trans z))
    tbls := fun b ps z => by
      obtain ⟨more, q⟩ := un.tbls b ps ((upd_ne (ne_of_none z na)).trans z)
      exact ⟨more, (oth (ne_of_none z na) (ne_of_none z hd1)).trans q⟩ }
  have hok3 : HOk X.prog X.w (upd (upd (del H2 a) d (.frz od (.xd gs))) a (.frz oe (exo a C (ξ d)))) h2 := fun b o z => by
    by_cases hba : b = a
    · subst hba
      rw [upd_same] at z
      cases z
      subst hoeq
      exact ⟨hoe, exo_ok hoe⟩
    · by_cases hbd : b = d
      · subst hbd
        rw [upd_ne hba, upd_same] at z
        cases z
        exact ⟨hod, mA, ⟨od, es, ep, hod, hrest⟩, fun f => by rw [hg f]; exact rel f⟩
      · rw [oth hba hbd] at z
        refine (hok b o z).stay (fun c v _ y => y) (fun c hc => ?_) (fun c xs hc => ?_)
        · exact (oth (at_ne ea hc exo_own) (at_ne ed hc exd_own)).trans hc
        · exact (oth (at_ne ea hc exo_tup) (at_ne ed hc exd_tup)).trans hc
  refine ⟨hda, oe, od, ?_, ?_, ?_, I1.call' (ch := []) ho U hok3 hb (fun b z => absurd z (by simp))⟩
  · subst hoeq; exact ⟨_, rfl⟩
  · subst hoeq; rfl
  · subst hoeq; rfl
end
end L2
end
section
namespace SB
open PySem PySem.Spec L2
open PyProof.Rows hiding St
variable [Tabs][Past]
theorem t7 {β : Type} {g : Str} : ∀ {fs : List Str} {vs : List β}, fs.Nodup → (fs.zip vs).lookup g = ((fs.zip vs).reverse).lookup g
 | [], _, _ => rfl
 | _ :: _, [], _ => rfl
 | f :: fs, v :: vs, h => by
  obtain ⟨h1, h2⟩ := List.nodup_cons.mp h
  have ih := t7 (g := g) (vs := vs) h2
  rw [List.zip_cons_cons, List.reverse_cons, List.lookup_append, List.lookup_cons, ← ih]
  cases hb : g == f with
  | true =>
   have e := eq_of_beq hb
   subst e
   have hn : (fs.zip vs).lookup g = ζ := by
    rw [List.lookup_eq_none_iff]
    rintro ⟨a, b⟩ hp
    have ha : a ∈ fs := (List.of_mem_zip hp).1
    rw [bne_iff_ne]
    rintro rfl
    exact h1 ha
   rw [hn]
   simp
  | false =>
   have hz : List.lookup g [(f, v)] = ζ := by simp [List.lookup, hb]
   rw [hz]
   cases (fs.zip vs).lookup g <;> rfl
def w8 (H1 : Hp) (C : Addr) (fs : List Str) (vs : List V) (Q : VK) : Prop := ∀ (a d : Addr) (oe od : Obj), d ≠ a → H1 a = ζ → H1 d = ζ → (∃ ys, oe.data = .fields ys) → oe.cls = .ref C → oe.dict = ξ d → Q (.ref a) (upd (upd H1 d (.frz od (.xd (fs.zip vs)))) a (.frz oe (exo a C (ξ d))))
section
variable {X: Cx}{e: Expr}{es: List Expr}{p pos: Pos}{x: Str}{C fI: Addr}{j: Nat}{fd: FuncData}{ps fs: List Str}{ta: TA}
theorem uz (T : OexG X.K C) (iC : PySem.W.findIn X.K (.ref C) "__init__" = ξ (ξ (.ref fI))) (tI : PySem.W.typeIn X.K (.ref fI) = ξ (.type "function")) (F1 : FnG X.prog X.w X.K X.mg X.base (L2.CX X.prog X.w) j fI fd ps (spIni X.K C fs)) (hr : RoomG (j + 1) X.A) (hx : Passes (L2.CX X.prog X.w) X (fun _ _ _ => False)) (hnd : fs.Nodup)
  {pins : List (Addr × Obj)} {σ : St} {H1 : Hp} {s1 : Shared} {us us2 : List Value} {kz : List (Str × Value)} {vs : List V} {Q : VK} (I1 : Inv X pins σ H1 s1) (hb : ∀ (s : Shared) (v : Value), X.K.In s.heap → BindsTo s fd ⟨v :: us, kz⟩ (ps.zip (v :: us2))) (rv : Vals vs us2) (hl : vs.length = fs.length) (hu : us.length ≤ sizeLine) (q : w8 H1 C fs vs Q) :
  wpAny (model X.prog X.w) X.A (call (.ref C) us kz) (EP X pins σ Q) X.xe s1 := by
 obtain ⟨bn, bn2, nid, iid, tl, bmB, _, FB, hin, _, exI⟩ := T.base
 obtain ⟨hp, g, dr, tk, os⟩ := s1
 have hsz : hp.objs.size ≤ hp.objs.size + 1 := Nat.le_succ _
 have hn : H1 (hp.objs.size + 1) = ζ := I1.hok.fresh hsz
 have kk : ∀ b o, hp.get? b = ξ o → ((hp.push (PySem.W.kdv_tup us)).push (PySem.HandSPX.excO C hp.objs.size)).get? b = ξ o := fun b o e => Heap.get?_push_of_some _ (Heap.get?_push_of_some _ e)
 have hget : ((hp.push (PySem.W.kdv_tup us)).push (PySem.HandSPX.excO C hp.objs.size)).get? (hp.objs.size + 1) = ξ (PySem.HandSPX.excO C hp.objs.size) := by heap_get
 generalize hA : hp.objs.size + 1 = a at *
 have I2 : Inv X pins σ (upd H1 a (exo a C ζ)) ⟨(hp.push (PySem.W.kdv_tup us)).push (PySem.HandSPX.excO C hp.objs.size), g, dr, tk, os⟩ :=
  I1.laid (t' := tk) (a := a) (o := exo a C ζ) (h' := (hp.push (PySem.W.kdv_tup us)).push (PySem.HandSPX.excO C hp.objs.size)) kk hsz (exo_ok hget)
 have hq : spIni X.K C fs (.ref a :: vs) (upd H1 a (exo a C ζ)) (fun v H2 => v = .non ∧ ∃ d : Addr, H2 a = ξ (exo a C (ξ d)) ∧ H2 d = ξ (exd d (fs.zip vs).reverse) ∧ H1 d = ζ ∧ ∀ b, b ≠ a → b ≠ d → H2 b = H1 b) (fun _ _ _ => False) :=
  ⟨a, vs, rfl, hl, upd_same, fun dx H' h1 ne h2 h3 h4 => ⟨rfl, dx, h2, h3, by rw [upd_ne ne] at h1; exact h1, fun b hb1 hb2 => (h4 b hb1 hb2).trans (upd_ne hb1)⟩⟩
 have r2 : Vals (V.ref a :: vs) (Value.ref a :: us2) := .cons rfl rv
 have hb2 := hb ⟨(hp.push (PySem.W.kdv_tup us)).push (PySem.HandSPX.excO C hp.objs.size), g, dr, tk, os⟩ (.ref a) I2.kIn
 obtain ⟨nm, N, qn, bs, bm, hdct, sn, sub, ab, col, dd, k0, k1, k2, k3, k5, hC, hT⟩ := PySem.W.excInit_of I1.kIn exI
 subst hA
 refine wpAny_call (L2.call_rowK (RowOf.of FB hin hT) hC (PySem.W.looks_findIn I1.kIn iC) (fun self => PySem.W.bind_fn I1.kIn self tI) hu
  (codeAny_mono (F1.run _ X.stack _ _ ⟨Value.ref (hp.objs.size + 1) :: us, kz⟩ (Value.ref (hp.objs.size + 1) :: us2) _ _ (fun _ _ _ => False) (hr.make C us kz) (I2.env0.make C us kz) hb2 r2 hq) fun r s' hq' => ?_))
 cases r with
 | error er => exact hx pins σ _ _ er s' I2 hq'
 | ok fl =>
  cases fl <;> first | exact False.elim hq' | skip
  obtain ⟨v, H2, os2, bare2, un2, hok2, rv2, ev, d, ea, ed, hd1, oth⟩ := hq'
  subst ev
  obtain ⟨h2, g2, d2, t2, os'⟩ := s'
  obtain ⟨hda, oe, od, f1, f2, f3, J⟩ := AH (d2 := d2) (t2 := t2) (gs := fs.zip vs) I1 hsz kk un2 hok2 os2 bare2 ea ed hd1 (fun f => t7 hnd)
  refine ⟨rv2, .ref _, _, J, rfl, ?_⟩
  have e : upd (upd (L2.del H2 (hp.objs.size + 1)) d (.frz od (.xd (fs.zip vs)))) (hp.objs.size + 1) (.frz oe (exo (hp.objs.size + 1) C (ξ d))) = upd (upd H1 d (.frz od (.xd (fs.zip vs)))) (hp.objs.size + 1) (.frz oe (exo (hp.objs.size + 1) C (ξ d))) := by
   funext b
   by_cases hb : b = hp.objs.size + 1
   ·subst hb
    rw [upd_same, upd_same]
   ·rw [upd_ne hb, upd_ne hb]
    by_cases hb2 : b = d
    ·subst hb2
     rw [upd_same, upd_same]
    ·rw [upd_ne hb2, upd_ne hb2, L2.del_ne hb, oth b hb hb2]
  rw [e]
  exact q _ d oe od hda hn hd1 f1 f2 f3
theorem B5 (T : OexG X.K C) (iC : PySem.W.findIn X.K (.ref C) "__init__" = ξ (ξ (.ref fI))) (tI : PySem.W.typeIn X.K (.ref fI) = ξ (.type "function")) (F1 : FnG X.prog X.w X.K X.mg X.base (L2.CX X.prog X.w) j fI fd ps (spIni X.K C fs)) (hr : RoomG (j + 1) X.A) (hb : Binds X.K fd ps []) (hnd : fs.Nodup)
  (hx : Passes (L2.CX X.prog X.w) X (fun _ _ _ => False)) (hg : Gl X x) (hm : X.mg x = ξ (.ref C)) (ha : PA X (e :: es) ta)
  (hdb : (x == ("__debug__" : Str)) = false) (he : starEach (e :: es) X.env = (false, eval e X.env) :: starEach es X.env) (hpl : (backTo pos (starEach es X.env)).any (·.1) = false) :
  PE X (.Call (.Name x p) (e :: es) [] pos) (fun σ H Q => ta σ H fun vs H1 => vs.length = fs.length ∧ vs.length ≤ 1000 ∧ w8 H1 C fs vs Q) := by
 refine ⟨fun pins s σ H Q I h => ?_⟩
 refine wpAny_Call_Name_kw (ld_glob I hg hm ?_ hdb)
 refine PySem.W.callWith_K (h₀ := X.base) I.ok.mod.kin T.kC (thn (ha.run pos pins s σ H _ I h) fun us s1 ⟨vs, H1, I1, r1, hvl, hz, q1⟩ => ⟨I1.kIn, ?_⟩) he hpl
 have hp : vs.length + 1 = ps.length := F1.len (.ref 0 :: vs) (upd (fun _ => ζ) 0 (exo 0 C ζ)) (fun _ _ => True) (fun _ _ _ => False) ⟨0, vs, rfl, hvl, upd_same, fun _ _ _ _ _ _ _ => trivial⟩
 have e1 := r1.length
 refine uz T iC tI F1 hr hx hnd (us := us) (us2 := us) I1 (fun s v hk => ?_) r1 hvl (by rw [sizeLine_eq]; omega) q1
 have hb2 := hb s (v :: us) hk (by simp; omega)
 rw [List.append_nil] at hb2
 exact hb2
structure FnXW (P : Program) (w : World) (K : PySem.W.Frag) (mg : Str → Option Value) (base : Heap) (C : Addr) (fs ks : List Str) (pk : List Nat) : Prop where
 T : OexG K C
 ini : ∃ (fI : Addr) (fd : FuncData) (ps : List Str), PySem.W.findIn K (.ref C) "__init__" = ξ (ξ (.ref fI)) ∧ PySem.W.typeIn K (.ref fI) = ξ (.type "function") ∧ FnG P w K mg base (L2.CX P w) 1 fI fd ps (spIni K C fs) ∧
  ∀ (s : Shared) (v : Value) (ws : List Value), ws.length = ks.length → BindsTo s fd ⟨[v], ks.zip ws⟩ (ps.zip (v :: pickL pk ws))
theorem B4 {ks : List Str} {pk : List Nat} {kw : List Keyword} {tk : TA} (F : FnXW X.prog X.w X.K X.mg X.base C fs ks pk) (hr : RoomG 2 X.A) (hnd : fs.Nodup)
  (hx : Passes (L2.CX X.prog X.w) X (fun _ _ _ => False)) (hg : Gl X x) (hm : X.mg x = ξ (.ref C)) (hkw : PK X kw tk)
  (hdb : (x == ("__debug__" : Str)) = false) (hall : (backToKw pos (keywordEach kw X.env)).all (·.1.isSome) = true) (hks : (backToKw pos (keywordEach kw X.env)).filterMap (·.1) = ks)
  (hpl : ((backTo pos (starEach [] X.env)).any (·.1) || (backToKw pos (keywordEach kw X.env)).any (·.1.isNone)) = false) :
  PE X (.Call (.Name x p) [] kw pos) (fun σ H Q => tk σ H fun vs H1 => vs.length = ks.length ∧ (pickL pk vs).length = fs.length ∧ w8 H1 C fs (pickL pk vs) Q) := by
 obtain ⟨T, fI, fd, ps, h1, h2, h3, h4⟩ := F
 refine ⟨fun pins s σ H Q I h => ?_⟩
 refine wpAny_Call_Name_kw (ld_glob I hg hm (PySem.W.callWith_KW0 (h₀ := X.base) I.ok.mod.kin T.kC hall (thn (hkw.run pos pins s σ H _ I h) fun ws s1 ⟨vs, H1, I1, r1, hv, hf, q1⟩ => ⟨I1.kIn, ?_⟩) hpl) hdb)
 rw [hks]
 exact uz T h1 h2 h3 hr hx hnd (us := []) (us2 := pickL pk ws) I1 (fun s v _ => h4 s v ws (by rw [← r1.length]; exact hv)) (nU pk r1) hf (Nat.zero_le _) q1
end
section
variable {P: Program}{w: World}{K: PySem.W.Frag}{mg: Str → Option Value}{base: Heap}{x qual: Str}{params: Arguments}{body: List Stmt}{scope: Scope}{f C: Addr}{fd: FuncData}{N ps fs fs' ks: List Str}{f0: Str}{pk: List Nat}
theorem fZ (T : OexG K C) (I : Ini K C f fs) (F : FunD K x qual params body scope [] [] f fd) (S : FnScope N ps scope) (hfs : fs = f0 :: fs') (hps : ps.length = fs.length + 1) (hz : fs.length ≤ 900)
  (hbi : ∀ (kV doc pm : Value) (an : Option Addr) (cdv ct v : Value) (ws : List Value), ws.length = ks.length → bindArgs (PySem.W.fnOf x qual params body scope .none kV doc pm an cdv ct) ⟨[v], ks.zip ws⟩ = pure (ps.zip (v :: pickL pk ws)))
  (hb : ∀ X : Cx, X.K = K → X.N = N → X.env.scope = scope → PSs X body (pV K (fs.zip (List.range' 1 fs.length)))) : FnXW P w K mg base C fs ks pk := by
 refine ⟨T, f, fd, ps, I.i, I.t, wR F S hfs hps T I.n hz hb, fun s v ws hl => ?_⟩
 obtain ⟨oc, od, dV, kV, doc, pm, an, cdv, ct, osl, rfl, lk, hcd, hD, _⟩ := F.ex
 have hdn : dV = .none := by
  rcases hD with ⟨_, hh⟩ | ⟨e, _⟩
  ·exact hh
  ·exact absurd rfl e
 subst hdn
 exact .of_eq (hbi kV doc pm an cdv ct v ws hl)
end
section
variable {X: Cx}{e: Expr}{p pos: Pos}{x n: Str}{C: Addr}{te: TE}
theorem B6 {bmB : List Value} {B newId initId : String} (F : ExcBaseFacts B newId initId bmB) (q : PySem.W.excIn X.K C bmB newId = true) (hm : X.mg x = ξ (.ref C)) (kC : PySem.W.keepIn X.K (.ref C) = true) (hg : Gl X x) (hdb : (x == ("__debug__" : Str)) = false) :
  PE X (.Call (.Name x p) [] [] pos) (fun _ H Q => ∀ (a : Addr) (oe : Obj), H a = ζ → (∃ ys, oe.data = .fields ys) → oe.cls = .ref C → oe.dict = ζ → Q (.ref a) (upd H a (.frz oe (exo a C ζ)))) := by
 refine ⟨fun pins s σ H Q I h => ?_⟩
 refine wpAny_Call_Name_kw (ld_glob I hg hm ?_ hdb)
 refine PySem.W.callWith_K0 I.kIn kC ?_
 obtain ⟨bm, N, nm, qn, bs, hdct, sn, sub, ab, col, dd, k0, k1, k2, k3, k5, mN, hC, hN, hni, T⟩ := exc_obj I.kIn q
 refine wpAny_call_exc_subT F T hC hN hni (fun h' a hm => ?_) (Nat.zero_le _)
 obtain ⟨t, ho, _, _⟩ := hm.there
 have hn : H a = ζ := I.hok.gone hm.new
 exact ⟨.ref a, _, I.laidN (t' := s.toks) hm.keeps hm.new hn (show ObjOk X.prog X.w _ h' a (.frz _ (exo a C ζ)) from ⟨ho, exo_ok ho⟩), rfl, h a _ hn ⟨_, rfl⟩ rfl rfl⟩
def LK (H : Hp) (C a : Addr) (gs : List (Str × V)) : Prop := ∃ (oe : Obj) (u : HO), H a = ξ (.frz oe u) ∧ (∃ ys, oe.data = .fields ys) ∧ oe.cls = .ref C ∧ ((oe.dict = ζ ∧ gs = []) ∨ ∃ dd od, oe.dict = ξ dd ∧ H dd = ξ (.frz od (.xd gs)))
theorem sM {pins : List (Addr × Obj)} {σ : St} {H : Hp} {s : Shared} {a : Addr} {gs : List (Str × V)} (I : Inv X pins σ H s) (h : LK H C a gs) : ∃ (oe : Obj) (od : Option Obj), PySem.W.InstAt s.heap a oe C od ∧ ∀ (f : Str) (v : V), gs.lookup f = ξ v → ∃ o u, od = ξ o ∧ PySem.W.lookIn f o = ξ (ξ u) ∧ RelV v u := by
 obtain ⟨oe, u, ha, ⟨ys, hy⟩, hc, hd⟩ := h
 obtain ⟨hget, _⟩ : ObjOk X.prog X.w H s.heap a (.frz oe u) := I.hok a _ ha
 have nc : PySem.W.notCls oe = true := by unfold PySem.W.notCls; rw [hy] <;> rfl
 rcases hd with ⟨hd, rfl⟩ | ⟨dd, od, hd, hx⟩
 ·exact ⟨oe, ζ, ⟨hget, hc, nc, by rw [hd]; trivial⟩, fun f v hl => by cases hl⟩
 ·obtain ⟨hgd, mA, hns, hr⟩ : ObjOk X.prog X.w H s.heap dd (.frz od (.xd gs)) := I.hok dd _ hx
  obtain ⟨o, ho, hl⟩ := lookIn_ns hns
  refine ⟨oe, ξ o, ⟨hget, hc, nc, by rw [hd]; exact ho⟩, fun f v hv => ?_⟩
  obtain ⟨u, hu, ru⟩ := RelO.some_of (v := v) (o := mA f) (by rw [← hv]; exact hr f)
  exact ⟨o, u, rfl, (hl f).trans (by rw [hu]), ru⟩
theorem B3 (T : XfC X.K C) (hno : PySem.W.findIn X.K (.ref C) n = ξ ζ) (he : PE X e te) (hb : attributeBase e n X.env (eval e X.env) = eval e X.env := by rfl) :
  PE X (.Attribute e n pos) (fun σ H Q => te σ H fun x H1 => ∃ a gs v, x = .ref a ∧ LK H1 C a gs ∧ gs.lookup n = ξ v ∧ Q v H1) := by
 refine ⟨fun pins s σ H Q I h => attr_of hb (thn (he.run pins s σ H _ I h) fun u s1 hh => ?_)⟩
 obtain ⟨x, H1, I1, rx, a, gs, v, ex, hx, hl, q⟩ := hh
 subst ex
 obtain rfl : u = Value.ref a := rx
 obtain ⟨oe, od, J, hf⟩ := sM I1 hx
 obtain ⟨o, w, rfl, hk, rw⟩ := hf n v hl
 exact HandSPX.exc_get I1.kIn J T.ga T.gg T.exC (PySem.W.findObj_own T.hdC hno rfl hk) (handed_of rw) ⟨v, H1, I1.tok _, rw, q⟩
def Jy (K : PySem.W.Frag) (l : List Addr) : List V → Hp → VK → Prop := fun xs H Q => ∃ (a C : Addr) (gs : List (Str × V)) (cw : V) (t : Value) (b : Bool), xs = [.ref a, cw] ∧ LK H C a gs ∧ C ∈ l ∧ ClsV cw t ∧ PySem.W.kitOne K (.ref C) t = ξ b ∧ Q (.bl b) H
theorem bf {l : List Addr} (c : ∀ C ∈ l, ExcC X.K C) : CallR X (.builtin "isinstance") (Jy X.K l) := by
 intro pins s σ H xs us Q I r h
 obtain ⟨a, C, gs, cw, t, b, rfl, hx, hC, hc, e, q⟩ := h
 obtain ⟨u1, u2, rfl, r1, r2⟩ := vals2 r
 have e2 := hc.eq r2
 subst e2
 obtain rfl : u1 = Value.ref a := r1
 obtain ⟨oe, od, J, _⟩ := sM I hx
 have c := c C hC
 have hcl : (PySem.W.clsIn X.K C).isSome = true := by
  obtain ⟨cd, hc, _⟩ := PySem.W.any_some c.hd
  rw [hc]; rfl
 exact PySem.W.kia_one (PySem.W.kitx_exc hcl c.hg c.hk c.hs c.ha c.hn c.ht c.hm) I.kIn J e (fun z => nomatch z) fun tk => ⟨.bl b, H, I.tok tk, rfl, q⟩
end
def bJ (C : Addr) (fs : List Str) (das : DA) : DE := fun env m => bnd (das env m) fun ws m1 => if ws.length = fs.length ∧ ws.length ≤ 1000 then ξ (.ok (.im (.exc C fs) ws) m1) else ζ
def gY (C : Addr) (fs : List Str) (n : Nat) (p : List Nat) (das : DA) : DE := fun env m => bnd (das env m) fun ws m1 => if ws.length = n ∧ (pickL p ws).length = fs.length then ξ (.ok (.im (.exc C fs) (pickL p ws)) m1) else ζ
def gq (C : Addr) : DE := fun _ m => ξ (.ok (.im (.exc C []) []) m)
def cH (C : Addr) (f : Str) (de : DE) : DE := fun env m => bnd (de env m) fun w m1 => match w with
 | .im (.exc C' fs) ws => if C' = C then (match (fs.zip ws).lookup f with
  | some u => ξ (.ok u m1)
  | none => ζ) else ζ
 | _ => ζ
def eQ (K : PySem.W.Frag) (l : List Addr) : FN := fun ws m => match ws with
  | [w, cw] => (match w with
    | .im (.exc C _) _ => if C ∈ l then (match clW cw with
      | some t => (match PySem.W.kitOne K (.ref C) t with
        | some b => ξ (.bl b, m)
        | none => ζ)
      | none => ζ) else ζ
    | _ => ζ)
  | _ => ζ
theorem yt {K : PySem.W.Frag} {r : List Addr} {H : Hp} {C a : Addr} {fs : List Str} {vs : List V} (h : ImR H (.exc C fs) a vs) : LK H C a (fs.zip vs) := by
 obtain ⟨oe, u, h1, h2, h3, h4, h5⟩ := h
 refine ⟨oe, u, h1, h2, h3, ?_⟩
 rcases h5 with ⟨h5, rfl⟩ | h5
 ·exact .inl ⟨h5, rfl⟩
 ·exact .inr h5
theorem bA {K : PySem.W.Frag} {l : List Addr} : pf K (Jy K l) (eQ K l) := by
 intro r m H xs ws Q E s q h
 unfold eQ at h
 split at h
 case h_2 => exact h.elim
 rename_i w cw
 obtain ⟨v, v2, rfl, q1, q2⟩ := q.two_of
 split at h
 case h_2 => exact h.elim
 rename_i C fs us
 by_cases hC : C ∈ l
 case neg => rw [if_neg hC] at h; exact h.elim
 rw [if_pos hC] at h
 split at h
 case h_2 => exact h.elim
 rename_i t ht
 split at h
 case h_2 => exact h.elim
 rename_i b hb
 obtain ⟨a, vs, rfl, hi, _⟩ := q1
 exact ⟨a, C, _, v2, t, b, rfl, yt (r := r) (K := K) hi, hC, GA q2 ht, hb, h.done s rfl⟩
section
variable {X: Cx}{Z: WX}{e: Expr}{es: List Expr}{das dks: DA}{da: DE}{p pos: Pos}{x n: Str}{C: Addr}{k: Nat}{fs ks: List Str}{kw: List Keyword}{pk: List Nat}
theorem wB {r : List Addr} {m : M} {H : Hp} {ws : List W} {vs : List V} {Q : VK} (s : Sim X.K r m H) (q : RWs X.K r H ws vs) (hl : vs.length = fs.length) (h : Post X.K (gU X.K) r H (ξ (.ok (.im (.exc C fs) ws) m)) Q (fun _ _ _ => False)) : w8 H C fs vs Q := fun a d oe od hda ha hd hf hc ho => by
 have hd2 : (upd H d (.frz od (.xd (fs.zip vs)))) a = ζ := by rw [upd_ne (Ne.symm hda)]; exact ha
 have l1 : Lt X.K r H r (upd H d (.frz od (.xd (fs.zip vs)))) := dH hd
 have s1 := s.aside (u := .frz od (.xd (fs.zip vs))) hd
 have l2 : Lt X.K r (upd H d (.frz od (.xd (fs.zip vs)))) r (upd (upd H d (.frz od (.xd (fs.zip vs)))) a (.frz oe (exo a C (ξ d)))) := dH hd2
 have s2 := s1.aside (u := .frz oe (exo a C (ξ d))) hd2
 refine h.done' (l1.trans l2) s2 ⟨a, vs, rfl, ⟨oe, _, upd_same, hf, hc, hl.symm, .inr ⟨d, od, ho, ?_⟩⟩, q.mono (l1.trans l2)⟩
 rw [upd_ne hda, upd_same]
theorem bp (c : Ctx X Z k) (F : FnXG X.prog X.w X.K X.mg X.base C fs) (hm : X.mg x = ξ (.ref C)) (ha : SA X Z (e :: es) das) (hnd : fs.Nodup := by decide) (hk : 2 ≤ k := by decide) (hg : Gl X x := by rfl)
  (hdb : (x == ("__debug__" : Str)) = false := by decide) (he : starEach (e :: es) X.env = (false, eval e X.env) :: starEach es X.env := by rfl) (hpl : (backTo pos (starEach es X.env)).any (·.1) = false := by rfl) :
  SE X Z (.Call (.Name x p) (e :: es) [] pos) (bJ C fs das) := by
 obtain ⟨T, fI, fd, ps, h1, h2, h3, h4⟩ := F
 have hx : Passes (L2.CX X.prog X.w) X (fun _ _ _ => False) := passes_call c.tk (fun _ _ _ _ z => z.elim)
 refine PE.imp (B5 T h1 h2 h3 (c.rg hk) h4 hnd hx hg hm ha hdb he hpl) fun σ H Q ⟨r, m, env, s, e, h⟩ => ?_
 refine tX.step s e h fun ws m1 r1 H1 vs l1 s1 e1 q1 h1 => ?_
 by_cases hl : ws.length = fs.length ∧ ws.length ≤ 1000
 case neg => rw [if_neg hl] at h1; exact h1.elim
 rw [if_pos hl] at h1
 have hv : vs.length = ws.length := (RWs.len q1).symm
 exact ⟨by omega, by omega, wB s1 q1 (by omega) h1⟩
theorem d6 (c : Ctx X Z k) (F : FnXW X.prog X.w X.K X.mg X.base C fs ks pk) (hm : X.mg x = ξ (.ref C)) (hkw : PK X kw (tA X.K Z dks)) (hnd : fs.Nodup := by decide) (hk : 2 ≤ k := by decide) (hg : Gl X x := by rfl)
  (hdb : (x == ("__debug__" : Str)) = false := by decide) (hall : (backToKw pos (keywordEach kw X.env)).all (·.1.isSome) = true := by rfl) (hks : (backToKw pos (keywordEach kw X.env)).filterMap (·.1) = ks := by rfl)
  (hpl : ((backTo pos (starEach [] X.env)).any (·.1) || (backToKw pos (keywordEach kw X.env)).any (·.1.isNone)) = false := by rfl) :
  SE X Z (.Call (.Name x p) [] kw pos) (gY C fs ks.length pk dks) := by
 have hx : Passes (L2.CX X.prog X.w) X (fun _ _ _ => False) := passes_call c.tk (fun _ _ _ _ z => z.elim)
 refine PE.imp (B4 F (c.rg hk) hnd hx hg hm hkw hdb hall hks hpl) fun σ H Q ⟨r, m, env, s, e, h⟩ => ?_
 refine tX.step s e h fun ws m1 r1 H1 vs l1 s1 e1 q1 h1 => ?_
 by_cases hl : ws.length = ks.length ∧ (pickL pk ws).length = fs.length
 case neg => rw [if_neg hl] at h1; exact h1.elim
 rw [if_pos hl] at h1
 have q2 := q1.pickL pk
 have hv : vs.length = ws.length := (RWs.len q1).symm
 have hv2 : (pickL pk vs).length = (pickL pk ws).length := (RWs.len q2).symm
 exact ⟨by omega, by omega, wB s1 q2 (by omega) h1⟩
theorem Bw {bmB : List Value} {B newId initId : String} (F : ExcBaseFacts B newId initId bmB) (q : PySem.W.excIn X.K C bmB newId = true) (hm : X.mg x = ξ (.ref C)) (kC : PySem.W.keepIn X.K (.ref C) = true) (hg : Gl X x := by rfl) (hdb : (x == ("__debug__" : Str)) = false := by decide) :
  SE X Z (.Call (.Name x p) [] [] pos) (gq C) := PE.imp (B6 F q hm kC hg hdb) fun σ H Q ⟨r, m, env, s, e, h⟩ a oe ha hf hc ho => by
 refine h.done' (dH ha) (s.aside ha) ⟨a, [], rfl, ⟨oe, _, upd_same, hf, hc, rfl, .inl ⟨ho, rfl⟩⟩, rfl⟩
theorem bM (T : ExcC X.K C) (hno : PySem.W.findIn X.K (.ref C) n = ξ ζ) (he : SE X Z e da) (hb : attributeBase e n X.env (eval e X.env) = eval e X.env := by rfl) : SE X Z (.Attribute e n pos) (cH C n da) := PE.imp (B3 (Ke T) hno he hb) fun σ H Q ⟨r, m, env, s, e, h⟩ => by
 refine tX.step s e h fun w m1 r1 H1 v l1 s1 e1 q1 h1 => ?_
 split at h1
 case h_2 => exact h1.elim
 rename_i C' fs ws
 by_cases hC : C' = C
 case neg => rw [if_neg hC] at h1; exact h1.elim
 rw [if_pos hC] at h1
 subst hC
 split at h1
 case h_2 => exact h1.elim
 rename_i u hu
 obtain ⟨a, vs, rfl, hi, rs⟩ := q1
 obtain ⟨v2, hl, qv⟩ := RKV.look (RKV.zip rs) hu
 exact ⟨a, _, v2, rfl, yt (r := r) (K := X.K) hi, hl, h1.done s1 qv⟩
end
end SB
end
section
namespace SB
open PySem PySem.Spec L2
open PyProof.Rows hiding St
abbrev OexV (K : PySem.W.Frag) (C : Addr) : Prop := OexG K C
theorem iJ {K : PySem.W.Frag} {C : Addr} (q : mL K C = true) : OexV K C := by
 unfold mL ka qd at q
 simp only [Bool.and_eq_true, decide_eq_true_eq] at q
 obtain ⟨⟨h3, h4, h7, h5, h6⟩, h1, h2⟩ := q
 exact ⟨⟨"ValueError", "ValueError", "ValueError.__new__", "ValueError.__init__", yA, yA, PySem.F.store_ValueError, PySem.F.excBase_ValueError, by decide +kernel, h1, h2⟩, h3, h4, h5, h6, h7⟩
structure Exc0V (K : PySem.W.Frag) (C : Addr) : Prop where
 base : ∃ (B newId initId : String) (bmB : List Value), PySem.ExcBaseFacts B newId initId bmB ∧ PySem.W.excIn K C bmB newId = true
 kC : PySem.W.keepIn K (.ref C) = true
theorem i6 {K : PySem.W.Frag} {C : Addr} (q : jW K C = true) : Exc0V K C := by
 unfold jW qM at q
 simp only [Bool.and_eq_true] at q
 exact ⟨⟨_, _, _, yA, PySem.F.excBase_ValueError, q.1⟩, q.2⟩
theorem oV {K : PySem.W.Frag} {C : Addr} (q : nK K C = true) : Exc0V K C := by
 unfold nK qM at q
 simp only [Bool.and_eq_true] at q
 exact ⟨⟨_, _, _, xP, PySem.F.excBase_LookupError, q.1⟩, q.2⟩
theorem vK {K : PySem.W.Frag} {C : Addr} (q : sf K C = true) : Exc0V K C := by
 unfold sf qM at q
 simp only [Bool.and_eq_true] at q
 exact ⟨⟨_, _, _, Jr, PySem.F.excBase_RuntimeError, q.1⟩, q.2⟩
theorem AK {K : PySem.W.Frag} {l : List Addr} (q : DW K l = true) : ∀ C ∈ l, ExcC K C := fun C hC => AI (List.all_eq_true.mp q C hC)
variable [Tabs][Past]
theorem cQ {X : Cx} {Z : WX} {p pos : Pos} {x : Str} {C : Addr} (F : Exc0V X.K C) (hm : X.mg x = ξ (.ref C)) (hg : Gl X x := by rfl) (hdb : (x == ("__debug__" : Str)) = false := by decide) :
  SE X Z (.Call (.Name x p) [] [] pos) (gq C) := by
 obtain ⟨⟨B, n, i, bm, FB, q⟩, kC⟩ := F
 exact Bw FB q hm kC hg hdb
end SB
end
section
namespace SB
open PySem L2
open He (ga ma)
abbrev FD (K : PySem.W.Frag) (d : He5.DefA) (fd : FuncData) : Prop := FunD K d.name d.qual d.params d.body d.scope (d.dvs K) (d.kws K) (d.at_ K) fd
def Kb (N P : List Str) (c : Scope) : Bool :=
 (decide (c.kind = .function) && (!c.isCoroutine && !c.isGenerator)) && ((decide N.Nodup && decide (N.take P.length = P)) && ((P.all fun x => decide (c.names.lookup x = ξ .local) || decide (c.names.lookup x = ξ .cell)) && c.names.all fun y => decide (y.2 ≠ .free)))
theorem cf {N P : List Str} {c : Scope} (h : Kb N P c = true) : FnScope N P c := by
 unfold Kb at h
 rw [Bool.and_eq_true, Bool.and_eq_true, Bool.and_eq_true, Bool.and_eq_true, Bool.and_eq_true, Bool.and_eq_true] at h
 obtain ⟨⟨a, b, d⟩, ⟨e, f⟩, g, i⟩ := h
 refine ⟨of_decide_eq_true a, by simpa using b, by simpa using d, of_decide_eq_true e, of_decide_eq_true f, fun x hx => ?_, fun y hy => of_decide_eq_true (List.all_eq_true.mp i y hy)⟩
 have := List.all_eq_true.mp g x hx
 rw [Bool.or_eq_true] at this
 exact this.imp of_decide_eq_true of_decide_eq_true
section
variable (K: PySem.W.Frag)(mg: Str → Option Value)(f: Str)
abbrev Fr : Prop := mg f = ζ
abbrev Gb : Prop := mg f = ξ (.ref (ga K f))
end
end SB
end
section
noncomputable section
namespace SB
open PySem PySem.W PySem.Calls PyProof.Rows HandSHeadRun
def Av (as : List Addr) (ex : PySem.W.Frag → Bool) (fn : List He5.DefA) : PySem.W.Hook where
 α := He.AlD
 obs := fun s => Fl ex fn (He.frG s.heap.get? as)
 val := fun _ => (true, fn.map He5.DefA.val)
 says := fun _ h => ∃ K : PySem.W.Frag, K.In h ∧ SaysZ ex fn K
 of := fun _ _ e => ⟨_, He.frG_in, e⟩
 keeps := fun _ _ _ ⟨K, hK, c⟩ k => ⟨K, PySem.W.Frag.In.keeps hK k, c⟩
def Lb (as : List Addr) (ex : PySem.W.Frag → Bool) (fn : List He5.DefA) (s : SharedT) : He.AlD := Fl ex fn (He.frG (getT s) as)
theorem Fm {as : List Addr} {ex : PySem.W.Frag → Bool} {fn : List He5.DefA} (s : SharedT) : Lb as ex fn s = (Av as ex fn).obs s.abs := by
 have e : getT s = s.abs.heap.get? := funext (getT_eq s)
 unfold Lb
 rw [e]
 rfl
theorem xx {r : OpenRow} {q : Program} {M : Nat} {as : List Addr} {ex : PySem.W.Frag → Bool} {fn : List He5.DefA} {loose : List PySem.Str} {w : World} (h1 : Ea r q M loose w) (h2 : Eb r M as (fun K => ex K && (He.Fa.glo "law").ok K) w) (h4 : Ec r M as fn w) : RunEq r q (Av as ex fn) (Lb as ex fn) M loose w := fun os => by
 have a := h1 os
 have b := h2 os
 have d := h4 os
 show (ya r M w os).map _ = _
 generalize ya r M w os = x at a b d
 cases x with
 | none => cases a
 | some s =>
  injection a with a
  injection b with b
  injection d with d
  injection a with a1 a2
  injection d with d1 d2
  show ξ (_, _, (_ && (_ && _), _)) = ξ (_, _, (true, _))
  rw [a1, a2]
  have b' : (ex (lg as s) && (He.Fa.glo "law").ok (lg as s)) = true := b
  obtain ⟨b1, b2⟩ := Bool.and_eq_true_iff.mp b'
  have e : (ex (lg as s) && ((He.Fa.glo "law").ok (lg as s) && fn.all fun d => d.ok (lg as s))) = true := by
   rw [b1, b2, d1]
   rfl
  exact congrArg ξ (Prod.ext rfl (Prod.ext rfl (Prod.ext e d2)))
end SB
end
section
namespace KD
open PySem L2 SB
open He (ga ma)
def iF (K : PySem.W.Frag) : DS :=
 (cO (dU (eC (.int 0)) (bP 2))
 (cO (wc (eL (dh oLt (aA 1) (iy oB (aj (aA 0) aB)))) (dU (dh sG (aA 0) (aA 1)) (bP 2)) hM)
 (hH (cS (aj (dh mM (iy zH (aj (aA 2) aB)) (iy wz (aj (dh oGe (iy zH (aj (aA 2) aB)) (dh vm (eC (.int 10)) (eC (.int 18)))) aB))) (aj (dh dP (dh mM (dh dP (dh dP (dh vn (aA 2) (eC (.int 2305843009213693951))) (dh mM (eC (.int 7919)) (aA 1))) (eC (.int 31))) (eC (.int 48271))) (aA 1)) (aj (eC (.int 0)) aB)))))))
def iE (K : PySem.W.Frag) : DF := ju 2 3 (iF K)
def jM (K : PySem.W.Frag) : DS :=
 (cO (wc (eL (dh oGt (dh sG (aA 0) (eC (.int 0))) (eC (.int 0)))) (cO (dU (dh vn (dh sG (aA 0) (eC (.int 0))) (aA 1)) (bP 3))
 (cO (dU (dh zF (dh sG (aA 0) (eC (.int 0))) (aA 1)) (yd qh (aA 0) (eC (.int 0))))
 (hH (aA 3)))) hM)
 (cO (dU (dh dP (dh sG (aA 0) (eC (.int 2))) (eC (.int 1))) (yd qh (aA 0) (eC (.int 2))))
 (cO (dU (dh vn (dh vm (dh dP (dh sG (aA 0) (eC (.int 1))) (dh mM (eC (.int 1000003)) (dh sG (aA 0) (eC (.int 2))))) (eC (.int 3))) (eC (.int 2305843009213693921))) (bP 2))
 (cO (dU (dh vn (dh vm (dh dP (dh zF (aA 2) (eC (.int 512))) (dh mM (eC (.int 7)) (dh sG (aA 0) (eC (.int 2))))) (eC (.int 2))) (eC (.int 2147483629))) (bP 2))
 (hH (dh vn (dh zF (aA 2) (eC (.int 32))) (aA 1)))))))
def jL (K : PySem.W.Frag) : DF := ju 2 4 (jM K)
def kI (K : PySem.W.Frag) : DS :=
 (cO (dU (cS (aj (eC .non) (aj (eC (.bl true)) (aj (eC (.bl false)) (aj (Gn zE (eC (.int 1))) (aj (eC (.int 4)) (aj (dh vm (eC (.int 10)) (eC (.int 25))) (aj (eC (.str "")) (aj (eC (.str "0")) (aj (eC (.str "ab")) (aj (cS aB) (aj (cS (aj (eC (.int 0)) aB)) (aj (cS (aj (eC (.int 0)) (aj (eC (.int 0)) aB))) (aj (iO (aj (eC .non) aB)) (aj (iO (aj (eC (.bl true)) aB)) (aj (iO (aj (Gn zE (eC (.int 1))) aB)) (aj (iO (aj (eC (.int 4)) aB)) (aj (iO (aj (eC (.str "0")) aB)) aB)))))))))))))))))) (bP 1))
 (cO (dU (dh dP (aA 1) (cS (aj (iO (aj (iO (aj (eC (.int 0)) aB)) aB)) (aj (iO (aj (cS (aj (eC (.int 0)) aB)) aB)) (aj (iO (aj (eC (.int 0)) (aj (eC (.bl true)) aB))) (aj (iO (aj (eC (.bl false)) (aj (eC (.int 0)) aB))) (aj (iO (aj (eC (.int 0)) (aj (eC .non) aB))) (aj (iO (aj (cS aB) (aj (eC (.int 0)) aB))) (aj (iO (aj (eC (.int 0)) (aj (Gn zE (eC (.int 1))) aB))) (aj (iO (aj (dh vm (eC (.int 10)) (eC (.int 25))) (aj (eC (.int 0)) aB))) (aj (cS (aj (iO (aj (eC (.int 0)) (aj (eC (.int 0)) aB))) aB)) aB))))))))))) (bP 1))
 (hH (dh sG (aA 1) (e6 [] (jL K) (aj (aA 0) (aj (iy oB (aj (aA 1) aB)) aB)))))))
def kH (K : PySem.W.Frag) : DF := ju 1 2 (kI K)
def fK (K : PySem.W.Frag) : DS :=
 (cO (dU (cS (aj (iy (eQ K (exL K)) (aj (aA 0) (aj (eC (.ob (ga K "BadKind"))) aB))) (aj (iy (eQ K (exL K)) (aj (aA 0) (aj (eC (.ob (ga K "BadSize"))) aB))) (aj (iy (eQ K (exL K)) (aj (aA 0) (aj (eC (.ob (ga K "BadEntries"))) aB))) aB)))) (bP 1))
 (cO (dU (dh dP (aA 1) (cS (aj (iy (eQ K (exL K)) (aj (aA 0) (aj (eC (.ob (ga K "BadRow"))) aB))) (aj (iy (eQ K (exL K)) (aj (aA 0) (aj (eC (.ob (ga K "NotClosed"))) aB))) (aj (iy (eQ K (exL K)) (aj (aA 0) (aj (eC (.ob (ga K "KindsDiffer"))) aB))) aB))))) (bP 1))
 (cO (dU (dh dP (aA 1) (cS (aj (iy (eQ K (exL K)) (aj (aA 0) (aj (eC (.ob (ga K "BadOrder"))) aB))) (aj (iy (eQ K (exL K)) (aj (aA 0) (aj (eC (.ob (ga K "BadName"))) aB))) (aj (iy (eQ K (exL K)) (aj (aA 0) (aj (eC (.ob (ga K "BadConstraint"))) aB))) aB))))) (bP 1))
 (cO (dU (dh dP (aA 1) (cS (aj (iy (eQ K (exL K)) (aj (aA 0) (aj (eC (.ob (ga K "BadCommand"))) aB))) (aj (iy (eQ K (exL K)) (aj (aA 0) (aj (eC (.ob (ga K "BadPlace"))) aB))) (aj (iy (eQ K (exL K)) (aj (aA 0) (aj (eC (.ob (ga K "UnknownName"))) aB))) aB))))) (bP 1))
 (cO (dU (dh dP (aA 1) (cS (aj (iy (eQ K (exL K)) (aj (aA 0) (aj (eC (.ob (ga K "DuplicateName"))) aB))) (aj (iy (eQ K (exL K)) (aj (aA 0) (aj (eC (.ob (ga K "UnknownNumber"))) aB))) (aj (iy (eQ K (exL K)) (aj (aA 0) (aj (eC (.ob (ga K "EmptySet"))) aB))) aB))))) (bP 1))
 (cO (dU (dh dP (aA 1) (cS (aj (iy (eQ K (exL K)) (aj (aA 0) (aj (eC (.ob (ga K "Known"))) aB))) (aj (iy (eQ K (exL K)) (aj (aA 0) (aj (eC (.ob (ga K "WrongState"))) aB))) (aj (iy (eQ K (exL K)) (aj (aA 0) (aj (eC (.ob (ga K "NothingLeft"))) aB))) aB))))) (bP 1))
 (hH (dh dP (aA 1) (cS (aj (iy (eQ K (exL K)) (aj (aA 0) (aj (eC (.ob (ga K "Full"))) aB))) (aj (iy (eQ K (exL K)) (aj (aA 0) (aj (eC (.ob (ga K "Busy"))) aB))) aB)))))))))))
def fJ (K : PySem.W.Frag) : DF := ju 1 2 (fK K)
def ji (K : PySem.W.Frag) : DS :=
 (cO (dU (cS (aj (bJ (ga K "BadKind") ["x", "y"] (aj (aA 0) (aj (aA 0) aB))) (aj (bJ (ga K "BadSize") ["given"] (aj (aA 0) aB)) (aj (gq (ga K "BadEntries")) (aj (bJ (ga K "BadRow") ["row"] (aj (aA 0) aB)) (aj (bJ (ga K "NotClosed") ["x", "y", "z"] (aj (aA 0) (aj (aA 0) (aj (aA 0) aB)))) (aj (bJ (ga K "KindsDiffer") ["place", "other"] (aj (aA 0) (aj (aA 0) aB))) (aj (gq (ga K "BadOrder")) aB)))))))) (bP 1))
 (cO (dU (dh dP (aA 1) (cS (aj (bJ (ga K "BadName") ["name"] (aj (aA 0) aB)) (aj (gq (ga K "BadConstraint")) (aj (gq (ga K "BadCommand")) (aj (bJ (ga K "BadPlace") ["place"] (aj (aA 0) aB)) (aj (bJ (ga K "UnknownName") ["name"] (aj (aA 0) aB)) (aj (bJ (ga K "DuplicateName") ["name"] (aj (aA 0) aB)) aB)))))))) (bP 1))
 (cO (dU (dh dP (aA 1) (cS (aj (bJ (ga K "UnknownNumber") ["number"] (aj (aA 0) aB)) (aj (gq (ga K "EmptySet")) (aj (bJ (ga K "Known") ["row"] (aj (aA 0) aB)) (aj (bJ (ga K "WrongState") ["name"] (aj (aA 0) aB)) (aj (gq (ga K "NothingLeft")) (aj (bJ (ga K "Full") ["most"] (aj (aA 0) aB)) (aj (gq (ga K "Busy")) aB))))))))) (bP 1))
 (cO (sY (CI (aj (aA 1) aB)) (AY 2 (mB (bP 2) (mB (bP 3) AU))) (wc (eL (dh xN (e6 [] (fJ K) (aj (aA 3) aB)) (C3 (oL (aj (iy oB (aj (aA 1) aB)) aB)) (bP 4) vY (dh Fp (aA 4) (aA 2)) [4]))) (hH (eC (.bl false))) hM))
 (hH (eC (.bl true)))))))
def jg (K : PySem.W.Frag) : DF := ju 1 5 (ji K)
def eG (K : PySem.W.Frag) : DS :=
 (cO (wa 3 4 5 (aj (bJ (ga K "BadKind") ["x", "y"] (aj (aA 0) (aj (aA 1) aB))) (aj (bJ (ga K "NotClosed") ["x", "y", "z"] (aj (aA 0) (aj (aA 1) (aj (aA 2) aB)))) (aj (gY (ga K "KindsDiffer") ["place", "other"] 2 [1, 0] (aj (aA 1) (aj (aA 0) aB))) aB))))
 (cO (dU (cS (aj (cH (ga K "BadKind") "x" (aA 3)) (aj (cH (ga K "BadKind") "y" (aA 3)) (aj (cH (ga K "NotClosed") "x" (aA 4)) (aj (cH (ga K "NotClosed") "y" (aA 4)) (aj (cH (ga K "NotClosed") "z" (aA 4)) (aj (cH (ga K "KindsDiffer") "place" (aA 5)) (aj (cH (ga K "KindsDiffer") "other" (aA 5)) (aj (cH (ga K "BadKind") "x" (gY (ga K "BadKind") ["x", "y"] 2 [1, 0] (aj (aA 1) (aj (aA 0) aB)))) aB))))))))) (bP 6))
 (cO (wc (xt (eL (dh xN (aA 6) (cS (aj (aA 0) (aj (aA 1) (aj (aA 0) (aj (aA 1) (aj (aA 2) (aj (aA 0) (aj (aA 1) (aj (aA 0) aB))))))))))) (xt (eL (dh xN (cH (ga K "NotClosed") "z" (gY (ga K "NotClosed") ["x", "y", "z"] 3 [1, 2, 0] (aj (aA 2) (aj (aA 0) (aj (aA 1) aB))))) (aA 2))) (eL (dh xN (cH (ga K "KindsDiffer") "other" (bJ (ga K "KindsDiffer") ["place", "other"] (aj (aA 0) (aj (aA 1) aB)))) (aA 1))))) (hH (eC (.bl false))) hM)
 (cO (dU (cS (aj (cH (ga K "BadSize") "given" (bJ (ga K "BadSize") ["given"] (aj (aA 0) aB))) (aj (cH (ga K "BadRow") "row" (bJ (ga K "BadRow") ["row"] (aj (aA 0) aB))) (aj (cH (ga K "BadName") "name" (bJ (ga K "BadName") ["name"] (aj (aA 0) aB))) (aj (cH (ga K "BadPlace") "place" (bJ (ga K "BadPlace") ["place"] (aj (aA 0) aB))) (aj (cH (ga K "UnknownName") "name" (bJ (ga K "UnknownName") ["name"] (aj (aA 0) aB))) (aj (cH (ga K "Known") "row" (bJ (ga K "Known") ["row"] (aj (aA 0) aB))) aB))))))) (bP 6))
 (cO (dU (dh dP (aA 6) (cS (aj (cH (ga K "DuplicateName") "name" (bJ (ga K "DuplicateName") ["name"] (aj (aA 0) aB))) (aj (cH (ga K "UnknownNumber") "number" (bJ (ga K "UnknownNumber") ["number"] (aj (aA 0) aB))) (aj (cH (ga K "WrongState") "name" (bJ (ga K "WrongState") ["name"] (aj (aA 0) aB))) (aj (cH (ga K "Full") "most" (bJ (ga K "Full") ["most"] (aj (aA 0) aB))) aB)))))) (bP 6))
 (cO (dU (dh dP (aA 6) (cS (aj (cH (ga K "BadSize") "given" (gY (ga K "BadSize") ["given"] 1 [0] (aj (aA 0) aB))) (aj (cH (ga K "BadRow") "row" (gY (ga K "BadRow") ["row"] 1 [0] (aj (aA 0) aB))) (aj (cH (ga K "BadName") "name" (gY (ga K "BadName") ["name"] 1 [0] (aj (aA 0) aB))) (aj (cH (ga K "BadPlace") "place" (gY (ga K "BadPlace") ["place"] 1 [0] (aj (aA 0) aB))) aB)))))) (bP 6))
 (cO (dU (dh dP (aA 6) (cS (aj (cH (ga K "UnknownName") "name" (gY (ga K "UnknownName") ["name"] 1 [0] (aj (aA 0) aB))) (aj (cH (ga K "Known") "row" (gY (ga K "Known") ["row"] 1 [0] (aj (aA 0) aB))) (aj (cH (ga K "DuplicateName") "name" (gY (ga K "DuplicateName") ["name"] 1 [0] (aj (aA 0) aB))) (aj (cH (ga K "Full") "most" (gY (ga K "Full") ["most"] 1 [0] (aj (aA 0) aB))) aB)))))) (bP 6))
 (hH (dh Fp (dh dP (aA 6) (cS (aj (cH (ga K "UnknownNumber") "number" (gY (ga K "UnknownNumber") ["number"] 1 [0] (aj (aA 0) aB))) (aj (cH (ga K "WrongState") "name" (gY (ga K "WrongState") ["name"] 1 [0] (aj (aA 0) aB))) aB)))) (dh mM (cS (aj (aA 0) aB)) (eC (.int 20))))))))))))
def eF (K : PySem.W.Frag) : DF := ju 3 7 (eG K)
def jh (K : PySem.W.Frag) : DS :=
 (cO (dU (cS (aj (iy (eQ K (exL K)) (aj (aA 0) (aj (eC (.ob (ga K "KeptError"))) aB))) (aj (iy (eQ K (exL K)) (aj (aA 0) (aj (eC (.ty "ValueError")) aB))) (aj (iy (eQ K (exL K)) (aj (aA 0) (aj (eC (.ty "LookupError")) aB))) aB)))) (bP 1))
 (cO (dU (dh dP (aA 1) (cS (aj (iy (eQ K (exL K)) (aj (aA 0) (aj (eC (.ty "KeyError")) aB))) (aj (iy (eQ K (exL K)) (aj (aA 0) (aj (eC (.ty "IndexError")) aB))) (aj (iy (eQ K (exL K)) (aj (aA 0) (aj (eC (.ty "OverflowError")) aB))) aB))))) (bP 1))
 (hH (dh dP (aA 1) (cS (aj (iy (eQ K (exL K)) (aj (aA 0) (aj (eC (.ty "RuntimeError")) aB))) aB))))))
def cX (K : PySem.W.Frag) : DF := ju 1 2 (jh K)
def eY (K : PySem.W.Frag) : DS :=
 (cO (dU (cS (aj (bJ (ga K "BadKind") ["x", "y"] (aj (aA 0) (aj (aA 0) aB))) (aj (bJ (ga K "BadSize") ["given"] (aj (aA 0) aB)) (aj (gq (ga K "BadEntries")) (aj (bJ (ga K "BadRow") ["row"] (aj (aA 0) aB)) (aj (bJ (ga K "NotClosed") ["x", "y", "z"] (aj (aA 0) (aj (aA 0) (aj (aA 0) aB)))) (aj (bJ (ga K "KindsDiffer") ["place", "other"] (aj (aA 0) (aj (aA 0) aB))) (aj (gq (ga K "BadOrder")) aB)))))))) (bP 1))
 (cO (sY (qF (dh dP (aA 1) (cS (aj (bJ (ga K "BadName") ["name"] (aj (aA 0) aB)) (aj (gq (ga K "BadConstraint")) (aj (gq (ga K "BadCommand")) aB)))))) (bP 2) (wc (eL (dh xN (e6 [] (cX K) (aj (aA 2) aB)) (cS (aj (eC (.bl true)) (aj (eC (.bl true)) (aj (eC (.bl false)) (aj (eC (.bl false)) (aj (eC (.bl false)) (aj (eC (.bl false)) (aj (eC (.bl false)) aB)))))))))) (hH (eC (.bl false))) hM))
 (cO (sY (qF (cS (aj (bJ (ga K "UnknownName") ["name"] (aj (aA 0) aB)) (aj (bJ (ga K "DuplicateName") ["name"] (aj (aA 0) aB)) (aj (bJ (ga K "UnknownNumber") ["number"] (aj (aA 0) aB)) aB))))) (bP 2) (wc (eL (dh xN (e6 [] (cX K) (aj (aA 2) aB)) (cS (aj (eC (.bl false)) (aj (eC (.bl false)) (aj (eC (.bl true)) (aj (eC (.bl true)) (aj (eC (.bl false)) (aj (eC (.bl false)) (aj (eC (.bl false)) aB)))))))))) (hH (eC (.bl false))) hM))
 (cO (sY (qF (cS (aj (gq (ga K "EmptySet")) (aj (bJ (ga K "Known") ["row"] (aj (aA 0) aB)) (aj (bJ (ga K "WrongState") ["name"] (aj (aA 0) aB)) (aj (gq (ga K "NothingLeft")) aB)))))) (bP 2) (wc (eL (dh xN (e6 [] (cX K) (aj (aA 2) aB)) (cS (aj (eC (.bl false)) (aj (eC (.bl false)) (aj (eC (.bl true)) (aj (eC (.bl false)) (aj (eC (.bl false)) (aj (eC (.bl false)) (aj (eC (.bl false)) aB)))))))))) (hH (eC (.bl false))) hM))
 (cO (wc (eL (dh xN (e6 [] (cX K) (aj (bJ (ga K "BadPlace") ["place"] (aj (aA 0) aB)) aB)) (cS (aj (eC (.bl false)) (aj (eC (.bl false)) (aj (eC (.bl true)) (aj (eC (.bl false)) (aj (eC (.bl true)) (aj (eC (.bl false)) (aj (eC (.bl false)) aB)))))))))) (hH (eC (.bl false))) hM)
 (cO (wc (eL (dh xN (e6 [] (cX K) (aj (bJ (ga K "Full") ["most"] (aj (aA 0) aB)) aB)) (cS (aj (eC (.bl false)) (aj (eC (.bl false)) (aj (eC (.bl false)) (aj (eC (.bl false)) (aj (eC (.bl false)) (aj (eC (.bl true)) (aj (eC (.bl false)) aB)))))))))) (hH (eC (.bl false))) hM)
 (hH (dh Fp (e6 [] (cX K) (aj (gq (ga K "Busy")) aB)) (cS (aj (eC (.bl false)) (aj (eC (.bl false)) (aj (eC (.bl false)) (aj (eC (.bl false)) (aj (eC (.bl false)) (aj (eC (.bl false)) (aj (eC (.bl true)) aB))))))))))))))))
def eW (K : PySem.W.Frag) : DF := ju 1 3 (eY K)
def mE (K : PySem.W.Frag) : DS :=
 (cO (wc (pU (eL (e6 [] (jg K) (aj (eC (.int 0)) aB)))) (hH (eC (.bl false))) hM)
 (cO (sY (oL (aj (iy wu (aj (eC (.int 1)) (aj (iy wq (aj (eC (.int 4)) (aj (iy oB (aj (aA 0) aB)) aB))) aB))) aB)) (bP 1) (cO (dU (e6 [] (iE K) (aj (aA 0) (aj (aA 1) aB))) (bP 2))
 (cO (dU (C3 (oL (aj (eC (.int 3)) aB)) (bP 4) vY (e6 [] (kH K) (aj (aA 2) aB)) [4]) (bP 3))
 (wc (xt (pU (eL (e6 [] (eF K) (aj (dh sG (aA 3) (eC (.int 0))) (aj (dh sG (aA 3) (eC (.int 1))) (aj (dh sG (aA 3) (eC (.int 2))) aB)))))) (pU (eL (e6 [] (eW K) (aj (dh sG (aA 3) (eC (.int 0))) aB))))) (hH (eC (.bl false))) hM))))
 (hH (eC (.bl true)))))
def D_law_k08 (K : PySem.W.Frag) : DF := ju 1 5 (mE K)
end KD
end
section
namespace K08
open PySem L2 SB
open He (ga ma)
structure Tx (K : PySem.W.Frag) (mg : Str → Option Value) : Prop where
 y00 : Fr mg "IndexError"
 y01 : Fr mg "KeyError"
 y02 : Fr mg "LookupError"
 y03 : Fr mg "OverflowError"
 y04 : Fr mg "RuntimeError"
 y05 : Fr mg "ValueError"
 y06 : Fr mg "abs"
 y07 : Fr mg "enumerate"
 y08 : Fr mg "int"
 y09 : Fr mg "isinstance"
 y0a : Fr mg "len"
 y0b : Fr mg "max"
 y0c : Fr mg "min"
 y0d : Fr mg "range"
 y0e : Gb K mg "BadCommand"
 y0f : Gb K mg "BadConstraint"
 y0g : Gb K mg "BadEntries"
 y0h : Gb K mg "BadKind"
 y0i : Gb K mg "BadName"
 y0j : Gb K mg "BadOrder"
 y0k : Gb K mg "BadPlace"
 y0l : Gb K mg "BadRow"
 y0m : Gb K mg "BadSize"
 y0n : Gb K mg "Busy"
 y0o : Gb K mg "DuplicateName"
 y0p : Gb K mg "EmptySet"
 y0q : Gb K mg "Full"
 y0r : Gb K mg "KeptError"
 y0s : Gb K mg "KindsDiffer"
 y0t : Gb K mg "Known"
 y0u : Gb K mg "NotClosed"
 y0v : Gb K mg "NothingLeft"
 y0w : Gb K mg "UnknownName"
 y0x : Gb K mg "UnknownNumber"
 y0y : Gb K mg "WrongState"
 y0z : Gb K mg "_law_apart"
 y10 : Gb K mg "_law_bases"
 y11 : Gb K mg "_law_bases_right"
 y12 : Gb K mg "_law_classes"
 y13 : Gb K mg "_law_draw"
 y14 : Gb K mg "_law_fields_right"
 y15 : Gb K mg "_law_odd"
 y16 : Gb K mg "_law_source"
 y17 : Exc0V K (ga K "BadCommand")
 y18 : Exc0V K (ga K "BadConstraint")
 y19 : Exc0V K (ga K "BadEntries")
 y1a : Exc0V K (ga K "BadOrder")
 y1b : Exc0V K (ga K "Busy")
 y1c : Exc0V K (ga K "EmptySet")
 y1d : Exc0V K (ga K "NothingLeft")
 y1e : OexV K (ga K "BadKind")
 y1f : Ini K (ga K "BadKind") (ma K (ga K "BadKind") "__init__") ["x", "y"]
 y1g : OexV K (ga K "BadName")
 y1h : Ini K (ga K "BadName") (ma K (ga K "BadName") "__init__") ["name"]
 y1i : OexG K (ga K "BadPlace")
 y1j : Ini K (ga K "BadPlace") (ma K (ga K "BadPlace") "__init__") ["place"]
 y1k : OexV K (ga K "BadRow")
 y1l : Ini K (ga K "BadRow") (ma K (ga K "BadRow") "__init__") ["row"]
 y1m : OexV K (ga K "BadSize")
 y1n : Ini K (ga K "BadSize") (ma K (ga K "BadSize") "__init__") ["given"]
 y1o : OexK K (ga K "DuplicateName")
 y1p : Ini K (ga K "DuplicateName") (ma K (ga K "DuplicateName") "__init__") ["name"]
 y1q : OexO K (ga K "Full")
 y1r : Ini K (ga K "Full") (ma K (ga K "Full") "__init__") ["most"]
 y1s : OexV K (ga K "KindsDiffer")
 y1t : Ini K (ga K "KindsDiffer") (ma K (ga K "KindsDiffer") "__init__") ["place", "other"]
 y1u : OexL K (ga K "Known")
 y1v : Ini K (ga K "Known") (ma K (ga K "Known") "__init__") ["row"]
 y1w : OexV K (ga K "NotClosed")
 y1x : Ini K (ga K "NotClosed") (ma K (ga K "NotClosed") "__init__") ["x", "y", "z"]
 y1y : OexK K (ga K "UnknownName")
 y1z : Ini K (ga K "UnknownName") (ma K (ga K "UnknownName") "__init__") ["name"]
 y20 : OexK K (ga K "UnknownNumber")
 y21 : Ini K (ga K "UnknownNumber") (ma K (ga K "UnknownNumber") "__init__") ["number"]
 y22 : OexL K (ga K "WrongState")
 y23 : Ini K (ga K "WrongState") (ma K (ga K "WrongState") "__init__") ["name"]
 y24 : ∀ C ∈ exL K, ExcC K C
 kt : xisB K = true
theorem Gm {K : PySem.W.Frag} {h : Heap} {mg : Str → Option Value} (X : K.In h) (G : h.Ns mainGlobals mg) (c : HY K = true) : Tx K mg := by
 unfold HY at c
 simp only [Bool.and_eq_true] at c
 obtain ⟨c0, c1, c2, c3, c4, c5, c6, c7, c8, c9, c10, c11, c12, c13, c14, c15, c16, c17, c18, c19, c20, c21, c22, c23, c24, c25, c26, c27, c28, c29, c30, c31, c32, c33, c34, c35, c36, c37, c38, c39, c40, c41, c42, c43, c44, c45, c46, c47, c48, c49, c50, c51, c52, c53, c54, c55, c56, c57, c58, c59, c60, c61, c62, c63, c64, c65, c66, c67, c68, c69, c70, c71, c72, c73, c74, c75, c76, c77⟩ := c
 exact ⟨He.free_ok X G c0, He.free_ok X G c1, He.free_ok X G c2, He.free_ok X G c3, He.free_ok X G c4, He.free_ok X G c5, He.free_ok X G c6, He.free_ok X G c7, He.free_ok X G c8, He.free_ok X G c9, He.free_ok X G c10, He.free_ok X G c11, He.free_ok X G c12, He.free_ok X G c13, He.glo_ok X G c14, He.glo_ok X G c15, He.glo_ok X G c16, He.glo_ok X G c17, He.glo_ok X G c18, He.glo_ok X G c19, He.glo_ok X G c20, He.glo_ok X G c21, He.glo_ok X G c22, He.glo_ok X G c23, He.glo_ok X G c24, He.glo_ok X G c25, He.glo_ok X G c26, He.glo_ok X G c27, He.glo_ok X G c28, He.glo_ok X G c29, He.glo_ok X G c30, He.glo_ok X G c31, He.glo_ok X G c32, He.glo_ok X G c33, He.glo_ok X G c34, He.glo_ok X G c35, He.glo_ok X G c36, He.glo_ok X G c37, He.glo_ok X G c38, He.glo_ok X G c39, He.glo_ok X G c40, He.glo_ok X G c41, He.glo_ok X G c42, i6 c43, i6 c44, i6 c45, i6 c46, vK c47, oV c48, oV c49, iJ c50, d9 c51, iJ c52, d9 c53, zB c54, d9 c55, iJ c56, d9 c57, iJ c58, d9 c59, oA c60, d9 c61, zy c62, d9 c63, iJ c64, d9 c65, tO c66, d9 c67, iJ c68, d9 c69, oA c70, d9 c71, oA c72, d9 c73, tO c74, d9 c75, AK c76, c77⟩
end K08
end
section
namespace K08
open PySem L2 SB KD
open He (ga ma)
section
section
variable (P: Program)(w: World)(K: PySem.W.Frag)(mg: Str → Option Value)(base: Heap)
abbrev jf : Prop := FnXG P w K mg base (ga K "BadKind") ["x", "y"]
abbrev je : Prop := FnXG P w K mg base (ga K "BadName") ["name"]
abbrev ik : Prop := FnXG P w K mg base (ga K "BadPlace") ["place"]
abbrev j1 : Prop := FnXG P w K mg base (ga K "BadRow") ["row"]
abbrev jd : Prop := FnXG P w K mg base (ga K "BadSize") ["given"]
abbrev ek : Prop := FnXG P w K mg base (ga K "DuplicateName") ["name"]
abbrev nL : Prop := FnXG P w K mg base (ga K "Full") ["most"]
abbrev fH : Prop := FnXG P w K mg base (ga K "KindsDiffer") ["place", "other"]
abbrev lJ : Prop := FnXG P w K mg base (ga K "Known") ["row"]
abbrev gM : Prop := FnXG P w K mg base (ga K "NotClosed") ["x", "y", "z"]
abbrev fG : Prop := FnXG P w K mg base (ga K "UnknownName") ["name"]
abbrev ej : Prop := FnXG P w K mg base (ga K "UnknownNumber") ["number"]
abbrev gj : Prop := FnXG P w K mg base (ga K "WrongState") ["name"]
abbrev jK : Prop := FnXW P w K mg base (ga K "BadKind") ["x", "y"] ["y", "x"] [1, 0]
abbrev jm : Prop := FnXW P w K mg base (ga K "BadName") ["name"] ["name"] [0]
abbrev ig : Prop := FnXW P w K mg base (ga K "BadPlace") ["place"] ["place"] [0]
abbrev ke : Prop := FnXW P w K mg base (ga K "BadRow") ["row"] ["row"] [0]
abbrev iP : Prop := FnXW P w K mg base (ga K "BadSize") ["given"] ["given"] [0]
abbrev fO : Prop := FnXW P w K mg base (ga K "DuplicateName") ["name"] ["name"] [0]
abbrev lK : Prop := FnXW P w K mg base (ga K "Full") ["most"] ["most"] [0]
abbrev d5 : Prop := FnXW P w K mg base (ga K "KindsDiffer") ["place", "other"] ["other", "place"] [1, 0]
abbrev lI : Prop := FnXW P w K mg base (ga K "Known") ["row"] ["row"] [0]
abbrev g7 : Prop := FnXW P w K mg base (ga K "NotClosed") ["x", "y", "z"] ["z", "x", "y"] [1, 2, 0]
abbrev gG : Prop := FnXW P w K mg base (ga K "UnknownName") ["name"] ["name"] [0]
abbrev e9 : Prop := FnXW P w K mg base (ga K "UnknownNumber") ["number"] ["number"] [0]
abbrev g6 : Prop := FnXW P w K mg base (ga K "WrongState") ["name"] ["name"] [0]
abbrev jJ : Prop := Fn P w K mg base 1 (ga K "_law_classes") ["_law_error"] (fJ K)
abbrev sF : Prop := Fn P w K mg base 3 (ga K "_law_apart") ["_law_a"] (jg K)
abbrev pP : Prop := Fn P w K mg base 1 (ga K "_law_source") ["_law_script", "_law_at"] (iE K)
abbrev mY : Prop := Fn P w K mg base 1 (ga K "_law_draw") ["_law_source_here", "_law_many"] (jL K)
abbrev vP : Prop := Fn P w K mg base 2 (ga K "_law_odd") ["_law_source_here"] (kH K)
abbrev j6 : Prop := Fn P w K mg base 3 (ga K "_law_fields_right") ["_law_a", "_law_b", "_law_c"] (eF K)
abbrev lH : Prop := Fn P w K mg base 1 (ga K "_law_bases") ["_law_error"] (cX K)
abbrev kG : Prop := Fn P w K mg base 3 (ga K "_law_bases_right") ["_law_a"] (eW K)
end
variable (P: Program)(w: World){K: PySem.W.Frag}{mg: Str → Option Value}(base: Heap)
theorem tK (T : Tx K mg) {fd : FuncData} (F : FD K fB fd) : jf P w K mg base :=
 ee (N := ["self", "x", "y"]) (ps := ["self", "x", "y"]) T.y1e T.y1f F (cf (by decide +kernel)) rfl rfl (by decide) (fun _ _ _ _ _ _ us hl => match us, hl with | [_, _, _], _ => rfl) (fun X hK hN hS => (pss_cons (aM 1 hK hN hS) (pss_cons (aM 2 hK hN hS) pss_nil)))
theorem tJ (T : Tx K mg) {fd : FuncData} (F : FD K fA fd) : je P w K mg base :=
 ee (N := ["self", "name"]) (ps := ["self", "name"]) T.y1g T.y1h F (cf (by decide +kernel)) rfl rfl (by decide) (fun _ _ _ _ _ _ us hl => match us, hl with | [_, _], _ => rfl) (fun X hK hN hS => (pss_cons (aM 1 hK hN hS) pss_nil))
theorem rF (T : Tx K mg) {fd : FuncData} (F : FD K eM fd) : ik P w K mg base :=
 ee (N := ["self", "place"]) (ps := ["self", "place"]) T.y1i T.y1j F (cf (by decide +kernel)) rfl rfl (by decide) (fun _ _ _ _ _ _ us hl => match us, hl with | [_, _], _ => rfl) (fun X hK hN hS => (pss_cons (aM 1 hK hN hS) pss_nil))
theorem vf (T : Tx K mg) {fd : FuncData} (F : FD K gh fd) : j1 P w K mg base :=
 ee (N := ["self", "row"]) (ps := ["self", "row"]) T.y1k T.y1l F (cf (by decide +kernel)) rfl rfl (by decide) (fun _ _ _ _ _ _ us hl => match us, hl with | [_, _], _ => rfl) (fun X hK hN hS => (pss_cons (aM 1 hK hN hS) pss_nil))
theorem tH (T : Tx K mg) {fd : FuncData} (F : FD K fw fd) : jd P w K mg base :=
 ee (N := ["self", "given"]) (ps := ["self", "given"]) T.y1m T.y1n F (cf (by decide +kernel)) rfl rfl (by decide) (fun _ _ _ _ _ _ us hl => match us, hl with | [_, _], _ => rfl) (fun X hK hN hS => (pss_cons (aM 1 hK hN hS) pss_nil))
theorem kZ (T : Tx K mg) {fd : FuncData} (F : FD K cV fd) : ek P w K mg base :=
 ee (N := ["self", "name"]) (ps := ["self", "name"]) T.y1o T.y1p F (cf (by decide +kernel)) rfl rfl (by decide) (fun _ _ _ _ _ _ us hl => match us, hl with | [_, _], _ => rfl) (fun X hK hN hS => (pss_cons (aM 1 hK hN hS) pss_nil))
theorem zx (T : Tx K mg) {fd : FuncData} (F : FD K h9 fd) : nL P w K mg base :=
 ee (N := ["self", "most"]) (ps := ["self", "most"]) T.y1q T.y1r F (cf (by decide +kernel)) rfl rfl (by decide) (fun _ _ _ _ _ _ us hl => match us, hl with | [_, _], _ => rfl) (fun X hK hN hS => (pss_cons (aM 1 hK hN hS) pss_nil))
theorem ng (T : Tx K mg) {fd : FuncData} (F : FD K dF fd) : fH P w K mg base :=
 ee (N := ["self", "place", "other"]) (ps := ["self", "place", "other"]) T.y1s T.y1t F (cf (by decide +kernel)) rfl rfl (by decide) (fun _ _ _ _ _ _ us hl => match us, hl with | [_, _, _], _ => rfl) (fun X hK hN hS => (pss_cons (aM 1 hK hN hS) (pss_cons (aM 2 hK hN hS) pss_nil)))
theorem xM (T : Tx K mg) {fd : FuncData} (F : FD K gK fd) : lJ P w K mg base :=
 ee (N := ["self", "row"]) (ps := ["self", "row"]) T.y1u T.y1v F (cf (by decide +kernel)) rfl rfl (by decide) (fun _ _ _ _ _ _ us hl => match us, hl with | [_, _], _ => rfl) (fun X hK hN hS => (pss_cons (aM 1 hK hN hS) pss_nil))
theorem pD (T : Tx K mg) {fd : FuncData} (F : FD K eg fd) : gM P w K mg base :=
 ee (N := ["self", "x", "y", "z"]) (ps := ["self", "x", "y", "z"]) T.y1w T.y1x F (cf (by decide +kernel)) rfl rfl (by decide) (fun _ _ _ _ _ _ us hl => match us, hl with | [_, _, _, _], _ => rfl) (fun X hK hN hS => (pss_cons (aM 1 hK hN hS) (pss_cons (aM 2 hK hN hS) (pss_cons (aM 3 hK hN hS) pss_nil))))
theorem m9 (T : Tx K mg) {fd : FuncData} (F : FD K dE fd) : fG P w K mg base :=
 ee (N := ["self", "name"]) (ps := ["self", "name"]) T.y1y T.y1z F (cf (by decide +kernel)) rfl rfl (by decide) (fun _ _ _ _ _ _ us hl => match us, hl with | [_, _], _ => rfl) (fun X hK hN hS => (pss_cons (aM 1 hK hN hS) pss_nil))
theorem kY (T : Tx K mg) {fd : FuncData} (F : FD K cU fd) : ej P w K mg base :=
 ee (N := ["self", "number"]) (ps := ["self", "number"]) T.y20 T.y21 F (cf (by decide +kernel)) rfl rfl (by decide) (fun _ _ _ _ _ _ us hl => match us, hl with | [_, _], _ => rfl) (fun X hK hN hS => (pss_cons (aM 1 hK hN hS) pss_nil))
theorem ot (T : Tx K mg) {fd : FuncData} (F : FD K dQ fd) : gj P w K mg base :=
 ee (N := ["self", "name"]) (ps := ["self", "name"]) T.y22 T.y23 F (cf (by decide +kernel)) rfl rfl (by decide) (fun _ _ _ _ _ _ us hl => match us, hl with | [_, _], _ => rfl) (fun X hK hN hS => (pss_cons (aM 1 hK hN hS) pss_nil))
theorem nh (T : Tx K mg) {fd : FuncData} (F : FD K fB fd) : jK P w K mg base :=
 fZ (N := ["self", "x", "y"]) (ps := ["self", "x", "y"]) T.y1e T.y1f F (cf (by decide +kernel)) rfl rfl (by decide) (fun _ _ _ _ _ _ _ ws hl => match ws, hl with | [_, _], _ => rfl) (fun X hK hN hS => (pss_cons (aM 1 hK hN hS) (pss_cons (aM 2 hK hN hS) pss_nil)))
theorem mh (T : Tx K mg) {fd : FuncData} (F : FD K fA fd) : jm P w K mg base :=
 fZ (N := ["self", "name"]) (ps := ["self", "name"]) T.y1g T.y1h F (cf (by decide +kernel)) rfl rfl (by decide) (fun _ _ _ _ _ _ _ ws hl => match ws, hl with | [_], _ => rfl) (fun X hK hN hS => (pss_cons (aM 1 hK hN hS) pss_nil))
theorem kq (T : Tx K mg) {fd : FuncData} (F : FD K eM fd) : ig P w K mg base :=
 fZ (N := ["self", "place"]) (ps := ["self", "place"]) T.y1i T.y1j F (cf (by decide +kernel)) rfl rfl (by decide) (fun _ _ _ _ _ _ _ ws hl => match ws, hl with | [_], _ => rfl) (fun X hK hN hS => (pss_cons (aM 1 hK hN hS) pss_nil))
theorem ou (T : Tx K mg) {fd : FuncData} (F : FD K gh fd) : ke P w K mg base :=
 fZ (N := ["self", "row"]) (ps := ["self", "row"]) T.y1k T.y1l F (cf (by decide +kernel)) rfl rfl (by decide) (fun _ _ _ _ _ _ _ ws hl => match ws, hl with | [_], _ => rfl) (fun X hK hN hS => (pss_cons (aM 1 hK hN hS) pss_nil))
theorem k4 (T : Tx K mg) {fd : FuncData} (F : FD K fw fd) : iP P w K mg base :=
 fZ (N := ["self", "given"]) (ps := ["self", "given"]) T.y1m T.y1n F (cf (by decide +kernel)) rfl rfl (by decide) (fun _ _ _ _ _ _ _ ws hl => match ws, hl with | [_], _ => rfl) (fun X hK hN hS => (pss_cons (aM 1 hK hN hS) pss_nil))
theorem iU (T : Tx K mg) {fd : FuncData} (F : FD K cV fd) : fO P w K mg base :=
 fZ (N := ["self", "name"]) (ps := ["self", "name"]) T.y1o T.y1p F (cf (by decide +kernel)) rfl rfl (by decide) (fun _ _ _ _ _ _ _ ws hl => match ws, hl with | [_], _ => rfl) (fun X hK hN hS => (pss_cons (aM 1 hK hN hS) pss_nil))
theorem pF (T : Tx K mg) {fd : FuncData} (F : FD K h9 fd) : lK P w K mg base :=
 fZ (N := ["self", "most"]) (ps := ["self", "most"]) T.y1q T.y1r F (cf (by decide +kernel)) rfl rfl (by decide) (fun _ _ _ _ _ _ _ ws hl => match ws, hl with | [_], _ => rfl) (fun X hK hN hS => (pss_cons (aM 1 hK hN hS) pss_nil))
theorem gJ (T : Tx K mg) {fd : FuncData} (F : FD K dF fd) : d5 P w K mg base :=
 fZ (N := ["self", "place", "other"]) (ps := ["self", "place", "other"]) T.y1s T.y1t F (cf (by decide +kernel)) rfl rfl (by decide) (fun _ _ _ _ _ _ _ ws hl => match ws, hl with | [_, _], _ => rfl) (fun X hK hN hS => (pss_cons (aM 1 hK hN hS) (pss_cons (aM 2 hK hN hS) pss_nil)))
theorem pE (T : Tx K mg) {fd : FuncData} (F : FD K gK fd) : lI P w K mg base :=
 fZ (N := ["self", "row"]) (ps := ["self", "row"]) T.y1u T.y1v F (cf (by decide +kernel)) rfl rfl (by decide) (fun _ _ _ _ _ _ _ ws hl => match ws, hl with | [_], _ => rfl) (fun X hK hN hS => (pss_cons (aM 1 hK hN hS) pss_nil))
theorem j4 (T : Tx K mg) {fd : FuncData} (F : FD K eg fd) : g7 P w K mg base :=
 fZ (N := ["self", "x", "y", "z"]) (ps := ["self", "x", "y", "z"]) T.y1w T.y1x F (cf (by decide +kernel)) rfl rfl (by decide) (fun _ _ _ _ _ _ _ ws hl => match ws, hl with | [_, _, _], _ => rfl) (fun X hK hN hS => (pss_cons (aM 1 hK hN hS) (pss_cons (aM 2 hK hN hS) (pss_cons (aM 3 hK hN hS) pss_nil))))
theorem jx (T : Tx K mg) {fd : FuncData} (F : FD K dE fd) : gG P w K mg base :=
 fZ (N := ["self", "name"]) (ps := ["self", "name"]) T.y1y T.y1z F (cf (by decide +kernel)) rfl rfl (by decide) (fun _ _ _ _ _ _ _ ws hl => match ws, hl with | [_], _ => rfl) (fun X hK hN hS => (pss_cons (aM 1 hK hN hS) pss_nil))
theorem iu (T : Tx K mg) {fd : FuncData} (F : FD K cU fd) : e9 P w K mg base :=
 fZ (N := ["self", "number"]) (ps := ["self", "number"]) T.y20 T.y21 F (cf (by decide +kernel)) rfl rfl (by decide) (fun _ _ _ _ _ _ _ ws hl => match ws, hl with | [_], _ => rfl) (fun X hK hN hS => (pss_cons (aM 1 hK hN hS) pss_nil))
theorem j3 (T : Tx K mg) {fd : FuncData} (F : FD K dQ fd) : g6 P w K mg base :=
 fZ (N := ["self", "name"]) (ps := ["self", "name"]) T.y22 T.y23 F (cf (by decide +kernel)) rfl rfl (by decide) (fun _ _ _ _ _ _ _ ws hl => match ws, hl with | [_], _ => rfl) (fun X hK hN hS => (pss_cons (aM 1 hK hN hS) pss_nil))
theorem ni (T : Tx K mg) {fd : FuncData} (F : FD K gZ fd) : jJ P w K mg base :=
 mV (N := ["_law_error", "_law_found"]) (b := fK K) F (cf (by decide +kernel)) (fun _ _ _ _ _ _ us hl => match us, hl with | [_], _ => rfl) (fun _ _ _ _ _ _ C =>
  (aQ (ck (i := 1) C.nd (bg (ae (dS (bf T.y24) bA T.y09 (ae (ak 0) (ae (eJ T.y0h) au))) (ae (dS (bf T.y24) bA T.y09 (ae (ak 0) (ae (eJ T.y0m) au))) (ae (dS (bf T.y24) bA T.y09 (ae (ak 0) (ae (eJ T.y0g) au))) au)))))
  (aQ (ck (i := 1) C.nd (bH bV bB (ak 1) (bg (ae (dS (bf T.y24) bA T.y09 (ae (ak 0) (ae (eJ T.y0l) au))) (ae (dS (bf T.y24) bA T.y09 (ae (ak 0) (ae (eJ T.y0u) au))) (ae (dS (bf T.y24) bA T.y09 (ae (ak 0) (ae (eJ T.y0s) au))) au))))))
  (aQ (ck (i := 1) C.nd (bH bV bB (ak 1) (bg (ae (dS (bf T.y24) bA T.y09 (ae (ak 0) (ae (eJ T.y0j) au))) (ae (dS (bf T.y24) bA T.y09 (ae (ak 0) (ae (eJ T.y0i) au))) (ae (dS (bf T.y24) bA T.y09 (ae (ak 0) (ae (eJ T.y0f) au))) au))))))
  (aQ (ck (i := 1) C.nd (bH bV bB (ak 1) (bg (ae (dS (bf T.y24) bA T.y09 (ae (ak 0) (ae (eJ T.y0e) au))) (ae (dS (bf T.y24) bA T.y09 (ae (ak 0) (ae (eJ T.y0k) au))) (ae (dS (bf T.y24) bA T.y09 (ae (ak 0) (ae (eJ T.y0w) au))) au))))))
  (aQ (ck (i := 1) C.nd (bH bV bB (ak 1) (bg (ae (dS (bf T.y24) bA T.y09 (ae (ak 0) (ae (eJ T.y0o) au))) (ae (dS (bf T.y24) bA T.y09 (ae (ak 0) (ae (eJ T.y0x) au))) (ae (dS (bf T.y24) bA T.y09 (ae (ak 0) (ae (eJ T.y0p) au))) au))))))
  (aQ (ck (i := 1) C.nd (bH bV bB (ak 1) (bg (ae (dS (bf T.y24) bA T.y09 (ae (ak 0) (ae (eJ T.y0t) au))) (ae (dS (bf T.y24) bA T.y09 (ae (ak 0) (ae (eJ T.y0y) au))) (ae (dS (bf T.y24) bA T.y09 (ae (ak 0) (ae (eJ T.y0v) au))) au))))))
  (cm (dC (bH bV bB (ak 1) (bg (ae (dS (bf T.y24) bA T.y09 (ae (ak 0) (ae (eJ T.y0q) au))) (ae (dS (bf T.y24) bA T.y09 (ae (ak 0) (ae (eJ T.y0n) au))) au)))))))))))))
theorem pH (T : Tx K mg) {fd : FuncData} (F : FD K i9 fd) (E0 : jf P w K mg base) (E4 : jd P w K mg base) (E3 : j1 P w K mg base) (E9 : gM P w K mg base) (E7 : fH P w K mg base) (E1 : je P w K mg base) (E2 : ik P w K mg base) (E10 : fG P w K mg base) (E5 : ek P w K mg base) (E11 : ej P w K mg base) (E8 : lJ P w K mg base) (E12 : gj P w K mg base) (E6 : nL P w K mg base) (F0 : jJ P w K mg base) : sF P w K mg base :=
 mV (N := ["_law_a", "_law_own", "_law_at", "_law_error", "_law_spot"]) (b := ji K) F (cf (by decide +kernel)) (fun _ _ _ _ _ _ us hl => match us, hl with | [_], _ => rfl) (fun _ _ _ _ _ _ C =>
  (aQ (ck (i := 1) C.nd (bg (ae (bp C E0 T.y0h (ae (ak 0) (ae (ak 0) au))) (ae (bp C E4 T.y0m (ae (ak 0) au)) (ae (cQ T.y19 T.y0g) (ae (bp C E3 T.y0l (ae (ak 0) au)) (ae (bp C E9 T.y0u (ae (ak 0) (ae (ak 0) (ae (ak 0) au)))) (ae (bp C E7 T.y0s (ae (ak 0) (ae (ak 0) au))) (ae (cQ T.y1a T.y0j) au)))))))))
  (aQ (ck (i := 1) C.nd (bH bV bB (ak 1) (bg (ae (bp C E1 T.y0i (ae (ak 0) au)) (ae (cQ T.y18 T.y0f) (ae (cQ T.y17 T.y0e) (ae (bp C E2 T.y0k (ae (ak 0) au)) (ae (bp C E10 T.y0w (ae (ak 0) au)) (ae (bp C E5 T.y0o (ae (ak 0) au)) au)))))))))
  (aQ (ck (i := 1) C.nd (bH bV bB (ak 1) (bg (ae (bp C E11 T.y0x (ae (ak 0) au)) (ae (cQ T.y1c T.y0p) (ae (bp C E8 T.y0t (ae (ak 0) au)) (ae (bp C E12 T.y0y (ae (ak 0) au)) (ae (cQ T.y1d T.y0v) (ae (bp C E6 T.y0q (ae (ak 0) au)) (ae (cQ T.y1b T.y0n) au))))))))))
  (aQ (nZ C (Jf rfl T.y07 (ae (ak 1) au)) (EA C.calm (sS (hJ (i := 2) C.nd) (sS (hJ (i := 3) C.nd) BA))) (cm (js (gS (op_neD C.room.units) iW (d7 C F0 T.y12 (ae (ak 3) au)) (Jk (own := [("_law_spot", 4)]) (sl := [4]) C.calm C.nd (lR rfl T.y0d (ae (dS call_len nG T.y0a (ae (ak 1) au)) au)) (blkOk_by (by kernel_rfl)) (fun _ _ _ _ _ => (hJ (i := 4) (C.blk).nd)) (fun _ _ _ _ _ => v7) (fun _ _ _ _ _ => (rA (op_eqD (C.blk).room.units) vE (ak 4) (ak 2))))) (cm (dC aZ)) gT)))
  (cm (dC aZ)))))))
theorem ow (T : Tx K mg) {fd : FuncData} (F : FD K iA fd) : pP P w K mg base :=
 mV (N := ["_law_script", "_law_at", "_law_cell"]) (b := iF K) F (cf (by decide +kernel)) (fun _ _ _ _ _ _ us hl => match us, hl with | [_, _], _ => rfl) (fun _ _ _ _ _ _ C =>
  (aQ (ck (i := 2) C.nd aK)
  (aQ (js (gS op_lt FO (ak 1) (dS call_len nG T.y0a (ae (ak 0) au))) (cm (ck (i := 2) C.nd (iI d8 fX (ak 0) (ak 1)))) gT)
  (cm (dC (bg (ae (bH jR iL (dS call_abs wH T.y06 (ae (ak 2) au)) (Jg call_int1 Af T.y08 (ae (rA op_ge FQ (dS call_abs wH T.y06 (ae (ak 2) au)) (bH kX jD aK aK)) au))) (ae (bH bV bB (bH jR iL (bH bV bB (bH bV bB (bH op_mod k8 (ak 2) aK) (bH jR iL aK (ak 1))) aK) aK) (ak 1)) (ae aK au)))))))))
theorem rG (T : Tx K mg) {fd : FuncData} (F : FD K jH fd) : mY P w K mg base :=
 mV (N := ["_law_source_here", "_law_many", "_law_mixed", "_law_digit"]) (b := jM K) F (cf (by decide +kernel)) (fun _ _ _ _ _ _ us hl => match us, hl with | [_, _], _ => rfl) (fun _ _ _ _ _ _ C =>
  (aQ (js (gS op_gt FP (iI d8 fX (ak 0) aK) aK) (aQ (ck (i := 3) C.nd (bH op_mod k8 (iI d8 fX (ak 0) aK) (ak 1)))
  (aQ (yT (bH op_fdiv rT (iI d8 fX (ak 0) aK) (ak 1)) (yZ C (ak 0) aK set_list ui))
  (cm (dC (ak 3))))) gT)
  (aQ (yT (bH bV bB (iI d8 fX (ak 0) aK) aK) (yZ C (ak 0) aK set_list ui))
  (aQ (ck (i := 2) C.nd (bH op_mod k8 (bH kX jD (bH bV bB (iI d8 fX (ak 0) aK) (bH jR iL aK (iI d8 fX (ak 0) aK))) aK) aK))
  (aQ (ck (i := 2) C.nd (bH op_mod k8 (bH kX jD (bH bV bB (bH op_fdiv rT (ak 2) aK) (bH jR iL aK (iI d8 fX (ak 0) aK))) aK) aK))
  (cm (dC (bH op_mod k8 (bH op_fdiv rT (ak 2) aK) (ak 1)))))))))
theorem tL (T : Tx K mg) {fd : FuncData} (F : FD K kA fd) (F3 : mY P w K mg base) : vP P w K mg base :=
 mV (N := ["_law_source_here", "_law_items"]) (b := kI K) F (cf (by decide +kernel)) (fun _ _ _ _ _ _ us hl => match us, hl with | [_], _ => rfl) (fun _ _ _ _ _ _ C =>
  (aQ (ck (i := 1) C.nd (bg (ae uY (ae aZ (ae aZ (ae (y5 un_neg rS aK) (ae aK (ae (bH kX jD aK aK) (ae rz (ae rz (ae rz (ae (bg au) (ae (bg (ae aK au)) (ae (bg (ae aK (ae aK au))) (ae (eO (ae uY au)) (ae (eO (ae aZ au)) (ae (eO (ae (y5 un_neg rS aK) au)) (ae (eO (ae aK au)) (ae (eO (ae rz au)) au)))))))))))))))))))
  (aQ (ck (i := 1) C.nd (bH bV bB (ak 1) (bg (ae (eO (ae (eO (ae aK au)) au)) (ae (eO (ae (bg (ae aK au)) au)) (ae (eO (ae aK (ae aZ au))) (ae (eO (ae aZ (ae aK au))) (ae (eO (ae aK (ae uY au))) (ae (eO (ae (bg au) (ae aK au))) (ae (eO (ae aK (ae (y5 un_neg rS aK) au))) (ae (eO (ae (bH kX jD aK aK) (ae aK au))) (ae (bg (ae (eO (ae aK (ae aK au))) au)) au))))))))))))
  (cm (dC (iI d8 fX (ak 1) (d7 C F3 T.y13 (ae (ak 0) (ae (dS call_len nG T.y0a (ae (ak 1) au)) au)))))))))
theorem jy (T : Tx K mg) {fd : FuncData} (F : FD K eD fd) (E0 : jf P w K mg base) (E9 : gM P w K mg base) (FX_KindsDiffer_other_place : d5 P w K mg base) (FX_BadKind_y_x : jK P w K mg base) (FX_NotClosed_z_x_y : g7 P w K mg base) (E7 : fH P w K mg base) (E4 : jd P w K mg base) (E3 : j1 P w K mg base) (E1 : je P w K mg base) (E2 : ik P w K mg base) (E10 : fG P w K mg base) (E8 : lJ P w K mg base) (E5 : ek P w K mg base) (E11 : ej P w K mg base) (E12 : gj P w K mg base) (E6 : nL P w K mg base) (FX_BadSize_given : iP P w K mg base) (FX_BadRow_row : ke P w K mg base) (FX_BadName_name : jm P w K mg base) (FX_BadPlace_place : ig P w K mg base) (FX_UnknownName_name : gG P w K mg base) (FX_Known_row : lI P w K mg base) (FX_DuplicateName_name : fO P w K mg base) (FX_Full_most : lK P w K mg base) (FX_UnknownNumber_number : e9 P w K mg base) (FX_WrongState_name : g6 P w K mg base) : j6 P w K mg base :=
 mV (N := ["_law_a", "_law_b", "_law_c", "_law_pair", "_law_triple", "_law_differ", "_law_found"]) (b := eG K) F (cf (by decide +kernel)) (fun _ _ _ _ _ _ us hl => match us, hl with | [_, _, _], _ => rfl) (fun _ _ _ _ _ _ C =>
  (aQ (By (i := 3) (j := 4) (l := 5) C.calm C.nd (ae (bp C E0 T.y0h (ae (ak 0) (ae (ak 1) au))) (ae (bp C E9 T.y0u (ae (ak 0) (ae (ak 1) (ae (ak 2) au)))) (ae (d6 C FX_KindsDiffer_other_place T.y0s (cR (ak 1) (cR (ak 0) fW))) au))))
  (aQ (ck (i := 6) C.nd (bg (ae (bM (T.y24 _ (List.mem_of_getElem? (i := 3) rfl)) (T.y1f.n _ (List.mem_of_getElem? (i := 0) rfl)) (ak 3)) (ae (bM (T.y24 _ (List.mem_of_getElem? (i := 3) rfl)) (T.y1f.n _ (List.mem_of_getElem? (i := 1) rfl)) (ak 3)) (ae (bM (T.y24 _ (List.mem_of_getElem? (i := 15) rfl)) (T.y1x.n _ (List.mem_of_getElem? (i := 0) rfl)) (ak 4)) (ae (bM (T.y24 _ (List.mem_of_getElem? (i := 15) rfl)) (T.y1x.n _ (List.mem_of_getElem? (i := 1) rfl)) (ak 4)) (ae (bM (T.y24 _ (List.mem_of_getElem? (i := 15) rfl)) (T.y1x.n _ (List.mem_of_getElem? (i := 2) rfl)) (ak 4)) (ae (bM (T.y24 _ (List.mem_of_getElem? (i := 13) rfl)) (T.y1t.n _ (List.mem_of_getElem? (i := 0) rfl)) (ak 5)) (ae (bM (T.y24 _ (List.mem_of_getElem? (i := 13) rfl)) (T.y1t.n _ (List.mem_of_getElem? (i := 1) rfl)) (ak 5)) (ae (bM (T.y24 _ (List.mem_of_getElem? (i := 3) rfl)) (T.y1f.n _ (List.mem_of_getElem? (i := 0) rfl)) (d6 C FX_BadKind_y_x T.y0h (cR (ak 1) (cR (ak 0) fW)))) au))))))))))
  (aQ (js (Je (yQ (gS (op_neD C.room.units) iW (ak 6) (bg (ae (ak 0) (ae (ak 1) (ae (ak 0) (ae (ak 1) (ae (ak 2) (ae (ak 0) (ae (ak 1) (ae (ak 0) au)))))))))) (yQ (gS (op_neD C.room.units) iW (bM (T.y24 _ (List.mem_of_getElem? (i := 15) rfl)) (T.y1x.n _ (List.mem_of_getElem? (i := 2) rfl)) (d6 C FX_NotClosed_z_x_y T.y0u (cR (ak 2) (cR (ak 0) (cR (ak 1) fW))))) (ak 2)) (yP (gS (op_neD C.room.units) iW (bM (T.y24 _ (List.mem_of_getElem? (i := 13) rfl)) (T.y1t.n _ (List.mem_of_getElem? (i := 1) rfl)) (bp C E7 T.y0s (ae (ak 0) (ae (ak 1) au)))) (ak 1)))))) (cm (dC aZ)) gT)
  (aQ (ck (i := 6) C.nd (bg (ae (bM (T.y24 _ (List.mem_of_getElem? (i := 8) rfl)) (T.y1n.n _ (List.mem_of_getElem? (i := 0) rfl)) (bp C E4 T.y0m (ae (ak 0) au))) (ae (bM (T.y24 _ (List.mem_of_getElem? (i := 7) rfl)) (T.y1l.n _ (List.mem_of_getElem? (i := 0) rfl)) (bp C E3 T.y0l (ae (ak 0) au))) (ae (bM (T.y24 _ (List.mem_of_getElem? (i := 4) rfl)) (T.y1h.n _ (List.mem_of_getElem? (i := 0) rfl)) (bp C E1 T.y0i (ae (ak 0) au))) (ae (bM (T.y24 _ (List.mem_of_getElem? (i := 6) rfl)) (T.y1j.n _ (List.mem_of_getElem? (i := 0) rfl)) (bp C E2 T.y0k (ae (ak 0) au))) (ae (bM (T.y24 _ (List.mem_of_getElem? (i := 17) rfl)) (T.y1z.n _ (List.mem_of_getElem? (i := 0) rfl)) (bp C E10 T.y0w (ae (ak 0) au))) (ae (bM (T.y24 _ (List.mem_of_getElem? (i := 14) rfl)) (T.y1v.n _ (List.mem_of_getElem? (i := 0) rfl)) (bp C E8 T.y0t (ae (ak 0) au))) au))))))))
  (aQ (ck (i := 6) C.nd (bH bV bB (ak 6) (bg (ae (bM (T.y24 _ (List.mem_of_getElem? (i := 10) rfl)) (T.y1p.n _ (List.mem_of_getElem? (i := 0) rfl)) (bp C E5 T.y0o (ae (ak 0) au))) (ae (bM (T.y24 _ (List.mem_of_getElem? (i := 18) rfl)) (T.y21.n _ (List.mem_of_getElem? (i := 0) rfl)) (bp C E11 T.y0x (ae (ak 0) au))) (ae (bM (T.y24 _ (List.mem_of_getElem? (i := 19) rfl)) (T.y23.n _ (List.mem_of_getElem? (i := 0) rfl)) (bp C E12 T.y0y (ae (ak 0) au))) (ae (bM (T.y24 _ (List.mem_of_getElem? (i := 12) rfl)) (T.y1r.n _ (List.mem_of_getElem? (i := 0) rfl)) (bp C E6 T.y0q (ae (ak 0) au))) au)))))))
  (aQ (ck (i := 6) C.nd (bH bV bB (ak 6) (bg (ae (bM (T.y24 _ (List.mem_of_getElem? (i := 8) rfl)) (T.y1n.n _ (List.mem_of_getElem? (i := 0) rfl)) (d6 C FX_BadSize_given T.y0m (cR (ak 0) fW))) (ae (bM (T.y24 _ (List.mem_of_getElem? (i := 7) rfl)) (T.y1l.n _ (List.mem_of_getElem? (i := 0) rfl)) (d6 C FX_BadRow_row T.y0l (cR (ak 0) fW))) (ae (bM (T.y24 _ (List.mem_of_getElem? (i := 4) rfl)) (T.y1h.n _ (List.mem_of_getElem? (i := 0) rfl)) (d6 C FX_BadName_name T.y0i (cR (ak 0) fW))) (ae (bM (T.y24 _ (List.mem_of_getElem? (i := 6) rfl)) (T.y1j.n _ (List.mem_of_getElem? (i := 0) rfl)) (d6 C FX_BadPlace_place T.y0k (cR (ak 0) fW))) au)))))))
  (aQ (ck (i := 6) C.nd (bH bV bB (ak 6) (bg (ae (bM (T.y24 _ (List.mem_of_getElem? (i := 17) rfl)) (T.y1z.n _ (List.mem_of_getElem? (i := 0) rfl)) (d6 C FX_UnknownName_name T.y0w (cR (ak 0) fW))) (ae (bM (T.y24 _ (List.mem_of_getElem? (i := 14) rfl)) (T.y1v.n _ (List.mem_of_getElem? (i := 0) rfl)) (d6 C FX_Known_row T.y0t (cR (ak 0) fW))) (ae (bM (T.y24 _ (List.mem_of_getElem? (i := 10) rfl)) (T.y1p.n _ (List.mem_of_getElem? (i := 0) rfl)) (d6 C FX_DuplicateName_name T.y0o (cR (ak 0) fW))) (ae (bM (T.y24 _ (List.mem_of_getElem? (i := 12) rfl)) (T.y1r.n _ (List.mem_of_getElem? (i := 0) rfl)) (d6 C FX_Full_most T.y0q (cR (ak 0) fW))) au)))))))
  (cm (dC (rA (op_eqD C.room.units) vE (bH bV bB (ak 6) (bg (ae (bM (T.y24 _ (List.mem_of_getElem? (i := 18) rfl)) (T.y21.n _ (List.mem_of_getElem? (i := 0) rfl)) (d6 C FX_UnknownNumber_number T.y0x (cR (ak 0) fW))) (ae (bM (T.y24 _ (List.mem_of_getElem? (i := 19) rfl)) (T.y23.n _ (List.mem_of_getElem? (i := 0) rfl)) (d6 C FX_WrongState_name T.y0y (cR (ak 0) fW))) au)))) (bH jR iL (bg (ae (ak 0) au)) aK))))))))))))
theorem pG (T : Tx K mg) {fd : FuncData} (F : FD K i7 fd) : lH P w K mg base :=
 mV (N := ["_law_error", "_law_found"]) (b := jh K) F (cf (by decide +kernel)) (fun _ _ _ _ _ _ us hl => match us, hl with | [_], _ => rfl) (fun _ _ _ _ _ _ C =>
  (aQ (ck (i := 1) C.nd (bg (ae (dS (bf T.y24) bA T.y09 (ae (ak 0) (ae (eJ T.y0r) au))) (ae (dS (bf T.y24) bA T.y09 (ae (ak 0) (ae (pX T.y05) au))) (ae (dS (bf T.y24) bA T.y09 (ae (ak 0) (ae (pX T.y02) au))) au)))))
  (aQ (ck (i := 1) C.nd (bH bV bB (ak 1) (bg (ae (dS (bf T.y24) bA T.y09 (ae (ak 0) (ae (pX T.y01) au))) (ae (dS (bf T.y24) bA T.y09 (ae (ak 0) (ae (pX T.y00) au))) (ae (dS (bf T.y24) bA T.y09 (ae (ak 0) (ae (pX T.y03) au))) au))))))
  (cm (dC (bH bV bB (ak 1) (bg (ae (dS (bf T.y24) bA T.y09 (ae (ak 0) (ae (pX T.y04) au))) au))))))))
theorem j5 (T : Tx K mg) {fd : FuncData} (F : FD K eU fd) (E0 : jf P w K mg base) (E4 : jd P w K mg base) (E3 : j1 P w K mg base) (E9 : gM P w K mg base) (E7 : fH P w K mg base) (E1 : je P w K mg base) (E10 : fG P w K mg base) (E5 : ek P w K mg base) (E11 : ej P w K mg base) (E8 : lJ P w K mg base) (E12 : gj P w K mg base) (E2 : ik P w K mg base) (E6 : nL P w K mg base) (F6 : lH P w K mg base) : kG P w K mg base :=
 mV (N := ["_law_a", "_law_own", "_law_error"]) (b := eY K) F (cf (by decide +kernel)) (fun _ _ _ _ _ _ us hl => match us, hl with | [_], _ => rfl) (fun _ _ _ _ _ _ C =>
  (aQ (ck (i := 1) C.nd (bg (ae (bp C E0 T.y0h (ae (ak 0) (ae (ak 0) au))) (ae (bp C E4 T.y0m (ae (ak 0) au)) (ae (cQ T.y19 T.y0g) (ae (bp C E3 T.y0l (ae (ak 0) au)) (ae (bp C E9 T.y0u (ae (ak 0) (ae (ak 0) (ae (ak 0) au)))) (ae (bp C E7 T.y0s (ae (ak 0) (ae (ak 0) au))) (ae (cQ T.y1a T.y0j) au)))))))))
  (aQ (nZ C (uX (bH bV bB (ak 1) (bg (ae (bp C E1 T.y0i (ae (ak 0) au)) (ae (cQ T.y18 T.y0f) (ae (cQ T.y17 T.y0e) au)))))) (hJ (i := 2) C.nd) (cm (js (gS (op_neD C.room.units) iW (d7 C F6 T.y10 (ae (ak 2) au)) (bg (ae aZ (ae aZ (ae aZ (ae aZ (ae aZ (ae aZ (ae aZ au))))))))) (cm (dC aZ)) gT)))
  (aQ (nZ C (uX (bg (ae (bp C E10 T.y0w (ae (ak 0) au)) (ae (bp C E5 T.y0o (ae (ak 0) au)) (ae (bp C E11 T.y0x (ae (ak 0) au)) au))))) (hJ (i := 2) C.nd) (cm (js (gS (op_neD C.room.units) iW (d7 C F6 T.y10 (ae (ak 2) au)) (bg (ae aZ (ae aZ (ae aZ (ae aZ (ae aZ (ae aZ (ae aZ au))))))))) (cm (dC aZ)) gT)))
  (aQ (nZ C (uX (bg (ae (cQ T.y1c T.y0p) (ae (bp C E8 T.y0t (ae (ak 0) au)) (ae (bp C E12 T.y0y (ae (ak 0) au)) (ae (cQ T.y1d T.y0v) au)))))) (hJ (i := 2) C.nd) (cm (js (gS (op_neD C.room.units) iW (d7 C F6 T.y10 (ae (ak 2) au)) (bg (ae aZ (ae aZ (ae aZ (ae aZ (ae aZ (ae aZ (ae aZ au))))))))) (cm (dC aZ)) gT)))
  (aQ (js (gS (op_neD C.room.units) iW (d7 C F6 T.y10 (ae (bp C E2 T.y0k (ae (ak 0) au)) au)) (bg (ae aZ (ae aZ (ae aZ (ae aZ (ae aZ (ae aZ (ae aZ au))))))))) (cm (dC aZ)) gT)
  (aQ (js (gS (op_neD C.room.units) iW (d7 C F6 T.y10 (ae (bp C E6 T.y0q (ae (ak 0) au)) au)) (bg (ae aZ (ae aZ (ae aZ (ae aZ (ae aZ (ae aZ (ae aZ au))))))))) (cm (dC aZ)) gT)
  (cm (dC (rA (op_eqD C.room.units) vE (d7 C F6 T.y10 (ae (cQ T.y1b T.y0n) au)) (bg (ae aZ (ae aZ (ae aZ (ae aZ (ae aZ (ae aZ (ae aZ au))))))))))))))))))
end
theorem facts {P : Program} {w : World} {K : PySem.W.Frag} {h : Heap} {mg : Str → Option Value} {f : Addr} (X : K.In h) (G : h.Ns mainGlobals mg) (hfa : mg ("law" : Str) = ξ (.ref f)) (c : SaysZ HY Lv K) :
  Tx K mg ∧ ∃ fd : FuncData, (∀ (s : Shared) (v : Value), BindsTo s fd ⟨[v], []⟩ [("_law_script", v)]) ∧ ∀ base : Heap, FnG P w K mg base (L2.CX P w) 4 f fd ["_law_script"] (spD K (D_law_k08 K)) := by
 have T := Gm X G c.exs
 obtain ⟨fd0, F0⟩ := c.def_ 0 (d := gZ)
 obtain ⟨fd1, F1⟩ := c.def_ 1 (d := i9)
 obtain ⟨fd2, F2⟩ := c.def_ 2 (d := iA)
 obtain ⟨fd3, F3⟩ := c.def_ 3 (d := jH)
 obtain ⟨fd4, F4⟩ := c.def_ 4 (d := kA)
 obtain ⟨fd5, F5⟩ := c.def_ 5 (d := eD)
 obtain ⟨fd6, F6⟩ := c.def_ 6 (d := i7)
 obtain ⟨fd7, F7⟩ := c.def_ 7 (d := eU)
 obtain ⟨fd8, F8⟩ := c.def_ 8 (d := D1)
 obtain ⟨fd9, F9⟩ := c.def_ 9 (d := fB)
 obtain ⟨fd10, F10⟩ := c.def_ 10 (d := fA)
 obtain ⟨fd11, F11⟩ := c.def_ 11 (d := eM)
 obtain ⟨fd12, F12⟩ := c.def_ 12 (d := gh)
 obtain ⟨fd13, F13⟩ := c.def_ 13 (d := fw)
 obtain ⟨fd14, F14⟩ := c.def_ 14 (d := cV)
 obtain ⟨fd15, F15⟩ := c.def_ 15 (d := h9)
 obtain ⟨fd16, F16⟩ := c.def_ 16 (d := dF)
 obtain ⟨fd17, F17⟩ := c.def_ 17 (d := gK)
 obtain ⟨fd18, F18⟩ := c.def_ 18 (d := eg)
 obtain ⟨fd19, F19⟩ := c.def_ 19 (d := dE)
 obtain ⟨fd20, F20⟩ := c.def_ 20 (d := cU)
 obtain ⟨fd21, F21⟩ := c.def_ 21 (d := dQ)
 have e := hfa.symm.trans (He.glo_ok X G c.law)
 cases e
 have b := FunD.bindsA (ps := ["_law_script"]) F8 fun _ _ _ _ _ _ us hl => match us, hl with | [_], _ => rfl
 refine ⟨T, fd8, fun s v => b s [v] rfl, fun base => ?_⟩
 have ex0 := tK P w base T F9
 have ex1 := tJ P w base T F10
 have ex2 := rF P w base T F11
 have ex3 := vf P w base T F12
 have ex4 := tH P w base T F13
 have ex5 := kZ P w base T F14
 have ex6 := zx P w base T F15
 have ex7 := ng P w base T F16
 have ex8 := xM P w base T F17
 have ex9 := pD P w base T F18
 have ex10 := m9 P w base T F19
 have ex11 := kY P w base T F20
 have ex12 := ot P w base T F21
 have ox_BadKind_y_x := nh P w base T F9
 have ox_BadName_name := mh P w base T F10
 have ox_BadPlace_place := kq P w base T F11
 have ox_BadRow_row := ou P w base T F12
 have ox_BadSize_given := k4 P w base T F13
 have ox_DuplicateName_name := iU P w base T F14
 have ox_Full_most := pF P w base T F15
 have ox_KindsDiffer_other_place := gJ P w base T F16
 have ox_Known_row := pE P w base T F17
 have ox_NotClosed_z_x_y := j4 P w base T F18
 have ox_UnknownName_name := jx P w base T F19
 have ox_UnknownNumber_number := iu P w base T F20
 have ox_WrongState_name := j3 P w base T F21
 have o0 := ni P w base T F0 
 have o1 := pH P w base T F1 ex0 ex4 ex3 ex9 ex7 ex1 ex2 ex10 ex5 ex11 ex8 ex12 ex6 o0
 have o2 := ow P w base T F2 
 have o3 := rG P w base T F3 
 have o4 := tL P w base T F4 o3
 have o5 := jy P w base T F5 ex0 ex9 ox_KindsDiffer_other_place ox_BadKind_y_x ox_NotClosed_z_x_y ex7 ex4 ex3 ex1 ex2 ex10 ex8 ex5 ex11 ex12 ex6 ox_BadSize_given ox_BadRow_row ox_BadName_name ox_BadPlace_place ox_UnknownName_name ox_Known_row ox_DuplicateName_name ox_Full_most ox_UnknownNumber_number ox_WrongState_name
 have o6 := pG P w base T F6 
 have o7 := j5 P w base T F7 ex0 ex4 ex3 ex9 ex7 ex1 ex10 ex5 ex11 ex8 ex12 ex2 ex6 o6
 exact Az (N := ["_law_script", "_law_at", "_law_source_here", "_law_some", "_law_k"]) (b := mE K) F8 (cf (by decide +kernel)) (fun _ _ _ _ _ _ C =>
  (aQ (js (uS (uR (d7 C o1 T.y0z (ae aK au)))) (cm (dC aZ)) gT)
  (aQ (nZ C (lR rfl T.y0d (ae (dS (call_max2 C.calm) Ae T.y0b (ae aK (ae (dS (call_min2 C.calm) Ad T.y0c (ae aK (ae (dS call_len nG T.y0a (ae (ak 0) au)) au))) au))) au)) (hJ (i := 1) C.nd) (aQ (ck (i := 2) C.nd (d7 C o2 T.y16 (ae (ak 0) (ae (ak 1) au))))
  (aQ (yS (i := 3) (own := [("_law_k", 4)]) (sl := [4]) C.calm C.nd (sw_true rfl rfl rfl (by decide +kernel)) (lR rfl T.y0d (ae aK au)) (blkOk_by (by kernel_rfl)) (fun _ _ _ _ _ => (hJ (i := 4) (C.blk).nd)) (fun _ _ _ _ _ => v7) (fun _ _ _ _ _ => (d7 (C.blk) o4 T.y15 (ae (ak 2) au))))
  (cm (js (Je (yQ (uS (uR (d7 C o5 T.y14 (ae (iI d8 fX (ak 3) aK) (ae (iI d8 fX (ak 3) aK) (ae (iI d8 fX (ak 3) aK) au)))))) (yP (uS (uR (d7 C o7 T.y11 (ae (iI d8 fX (ak 3) aK) au))))))) (cm (dC aZ)) gT)))))
  (cm (dC aZ)))))
end K08
end
section
namespace K08
open PySem L2 SB
abbrev hk : PySem.W.Hook := Av as HY Lv
def ob (s : PySem.W.SharedT) : He.AlD := Lb as HY Lv s
theorem ob_eq (s : PySem.W.SharedT) : ob s = hk.obs s.abs := Fm s
theorem run (w : World) : HandSHeadRun.RunEq R (PySem.W.view R.prog [31]) hk ob 6000 loose w := xx (ko w) (fact w) (dfns w)
end K08
end
section
namespace BV
open PySem hiding Env
open L2 SB
inductive Kd where
 | lst | dct (ks : List Key) | dtp (ks : List (List Key)) | ins (C : Addr) (fs : List Str) | xd (fs : List Str)
inductive T where
 | non | bl (b : Bool) | int (i : Int) | str (x : Str) | ob (a : Addr) | ty (n : String) | scr (ns : List Int) | tup (ts : List T) | nd (o : Bool) (k : Kd) (ts : List T) | im (k : Im) (ts : List T)
def Kd.mk : Kd → List W → O
 | .lst, ws => .lst ws
 | .dct ks, ws => .dct (ks.zip ws)
 | .dtp ks, ws => .dtp (ks.zip ws)
 | .ins C fs, ws => .ins C (fs.zip ws)
 | .xd fs, ws => .xd (fs.zip ws)
def Kd.fit : Kd → Nat → Bool
 | .lst, _ => true
 | .dct ks, n => ks.length == n
 | .dtp ks, n => ks.length == n
 | .ins _ fs, n => fs.length == n
 | .xd fs, n => fs.length == n
abbrev TE := List (Option T)
abbrev Own := Nat → Prop
def Kd.lk : Kd → List W → Option O
 | .dct ks, ws => ξ (.lcd (ks.zip ws))
 | .dtp ks, ws => ξ (.lct (ks.zip ws))
 | _, _ => ζ
def Nd (m : M) (n : Nat) (o : Bool) (k : Kd) (ws : List W) : Prop := m[n]? = ξ (k.mk ws) ∨ (o = false ∧ ∃ u, k.lk ws = ξ u ∧ m[n]? = ξ u)
theorem Nd.hot {m : M} {n : Nat} {k : Kd} {ws : List W} (h : Nd m n true k ws) : m[n]? = ξ (k.mk ws) := by
 rcases h with h | ⟨h, _⟩
 ·exact h
 ·cases h
theorem Nd.plain {m : M} {n : Nat} {o : Bool} {k : Kd} {ws : List W} (h : Nd m n o k ws) (hk : k.lk ws = ζ) : m[n]? = ξ (k.mk ws) := by
 rcases h with h | ⟨_, u, h, _⟩
 ·exact h
 ·rw [hk] at h; cases h
theorem Nd.lst {m : M} {n : Nat} {o : Bool} {ws : List W} (h : Nd m n o .lst ws) : m[n]? = ξ (.lst ws) := h.plain rfl
theorem Nd.lt {m : M} {n : Nat} {o : Bool} {k : Kd} {ws : List W} (h : Nd m n o k ws) : n < m.length := by
 rcases h with h | ⟨_, u, _, h⟩ <;> exact (List.getElem?_eq_some_iff.mp h).1
theorem Nd.map {m m' : M} {n : Nat} {o : Bool} {k : Kd} {ws : List W} (h : Nd m n o k ws) (hm : ∀ u, m[n]? = ξ u → m'[n]? = ξ u) : Nd m' n o k ws := by
 rcases h with h | ⟨c, u, e, h⟩
 ·exact .inl (hm _ h)
 ·exact .inr ⟨c, u, e, hm _ h⟩
theorem Nd.cold {m : M} {n : Nat} {o : Bool} {k : Kd} {ws : List W} (h : Nd m n o k ws) : Nd m n false k ws := by
 rcases h with h | ⟨c, u, e, h⟩
 ·exact .inl h
 ·exact .inr ⟨rfl, u, e, h⟩
def HR : O → Option O
 | .dct k => ξ (.lcd k)
 | .dtp k => ξ (.lct k)
 | _ => ζ
def Kx (o : O) (x : Option O) : Prop := x = ξ o ∨ ∃ o', HR o = ξ o' ∧ x = ξ o'
theorem Kx.plain {o : O} {x : Option O} (h : Kx o x) (e : HR o = ζ) : x = ξ o := by
 rcases h with h | ⟨o', h, _⟩
 ·exact h
 ·rw [e] at h; cases h
theorem Fv {k : Kd} {ws : List W} {o : O} (h : HR (k.mk ws) = ξ o) : k.lk ws = ξ o := by
 cases k <;> first | exact h | cases h
theorem wD {o o' : O} (h : HR o = ξ o') : HR o' = ζ := by
 cases o <;> cases h <;> rfl
theorem Fu {k : Kd} {ws : List W} {o : O} (h : k.lk ws = ξ o) : HR o = ζ := by
 cases k <;> cases h <;> rfl
theorem Nd.kx {m m' : M} {n : Nat} {k : Kd} {ws : List W} (h : Nd m n false k ws) (hm : ∀ u, m[n]? = ξ u → Kx u m'[n]?) : Nd m' n false k ws := by
 rcases h with h | ⟨c, u, e, h⟩
 ·rcases hm _ h with h2 | ⟨o', e', h2⟩
  ·exact .inl h2
  ·exact .inr ⟨rfl, o', Fv e', h2⟩
 ·exact .inr ⟨rfl, u, e, (hm _ h).plain (Fu e)⟩
mutual
def Rp (m : M) (S : Own) : T → W → List Nat → Prop
 | .non, w, G => w = .non ∧ G = []
 | .bl b, w, G => w = .bl b ∧ G = []
 | .int i, w, G => w = .int i ∧ G = []
 | .str x, w, G => w = .str x ∧ G = []
 | .ob a, w, G => w = .ob a ∧ G = []
 | .ty a, w, G => w = .ty a ∧ G = []
 | .scr a, w, G => w = .scr a ∧ G = []
 | .tup ts, w, G => ∃ ws, w = .tup ws ∧ Rps m S ts ws G
 | .im k ts, w, G => ∃ ws, w = .im k ws ∧ Rps m S ts ws G
 | .nd o k ts, w, G => ∃ n ws G', w = .ref n ∧ Nd m n o k ws ∧ k.fit ts.length = true ∧ Rps m S ts ws G' ∧ ((o = true ∧ G = n :: G') ∨ (o = false ∧ ¬ S n ∧ G' = [] ∧ G = []))
def Rps (m : M) (S : Own) : List T → List W → List Nat → Prop
 | [], ws, G => ws = [] ∧ G = []
 | t :: ts, ws, G => ∃ w ws' G1 G2, ws = w :: ws' ∧ Rp m S t w G1 ∧ Rps m S ts ws' G2 ∧ G = G1 ++ G2
end
def EnvT (m : M) (S : Own) : TE → Env → List Nat → Prop
 | [], env, F => env = [] ∧ F = []
 | none :: te, env, F => ∃ x env', env = x :: env' ∧ EnvT m S te env' F
 | some t :: te, env, F => ∃ w env' G F', env = ξ w :: env' ∧ Rp m S t w G ∧ EnvT m S te env' F' ∧ F = G ++ F'
mutual
def hot : T → Bool
 | .tup ts => hots ts
 | .im _ ts => hots ts
 | .nd o _ ts => o || hots ts
 | _ => false
def hots : List T → Bool
 | [] => false
 | t :: ts => hot t || hots ts
end
mutual
def frz : T → T
 | .tup ts => .tup (frzs ts)
 | .im k ts => .im k (frzs ts)
 | .nd _ k ts => .nd false k (frzs ts)
 | t => t
def frzs : List T → List T
 | [] => []
 | t :: ts => frz t :: frzs ts
end
theorem uq : ∀ {ts : List T}, (frzs ts).length = ts.length
 | [] => rfl
 | _ :: _ => by simp [frzs, uq]
def Sep (G : List Nat) : Prop := ∀ n, G.count n ≤ 1
structure Aft (m : M) (S : Own) (A : List Nat) (m' : M) (S' : Own) (B : List Nat) : Prop where
 up : ∀ n, S' n ↔ (S n ∧ A.count n = 0) ∨ B.count n ≠ 0
 sep : Sep B
 len : m.length ≤ m'.length
 lt : ∀ n, B.count n ≠ 0 → n < m'.length
 keep : ∀ n o, m[n]? = ξ o → A.count n = 0 → m'[n]? = ξ o ∨ (¬ S n ∧ Kx o m'[n]?)
 new : ∀ n, n < m.length → B.count n ≠ 0 → A.count n ≠ 0
 dom : ∀ n, S n → n < m.length
structure Stt (m : M) (S : Own) (te : TE) (env : Env) (F : List Nat) : Prop where
 env : EnvT m S te env F
 sep : Sep F
 sub : ∀ n, F.count n ≠ 0 → S n
 lt : ∀ n, S n → n < m.length
section
variable {m m' m1 m2: M}{S S' S1 S2: Own}{A A' B B' C F G G0: List Nat}{t: T}{ts: List T}{w: W}{ws: List W}
theorem oN {n : Nat} {o : O} (h : m[n]? = ξ o) : n < m.length := (List.getElem?_eq_some_iff.mp h).1
theorem Rps.len : ∀ {ts : List T} {ws : List W} {G : List Nat}, Rps m S ts ws G → ts.length = ws.length
 | [], _, _, h => by rw [h.1]; rfl
 | _ :: _, _, _, h => by
  obtain ⟨w, ws', G1, G2, rfl, _, h2, _⟩ := h
  simp [Rps.len h2]
mutual
theorem Rp.stayL (hk : ∀ n o, m[n]? = ξ o → (G0.count n ≠ 0 → m'[n]? = ξ o) ∧ (¬ S n → Kx o m'[n]?)) (hs : ∀ n, n < m.length → ¬ S n → ¬ S' n) : ∀ {t : T} {w : W} {G : List Nat}, (∀ n, G.count n ≠ 0 → G0.count n ≠ 0) → Rp m S t w G → Rp m' S' t w G
 | .non, _, _, _, h => h
 | .bl _, _, _, _, h => h
 | .int _, _, _, _, h => h
 | .str _, _, _, _, h => h
 | .ob _, _, _, _, h => h
 | .ty _, _, _, _, h => h
 | .scr _, _, _, _, h => h
 | .tup ts, _, _, hg, h => by
  obtain ⟨ws, e, h⟩ := h
  exact ⟨ws, e, Rps.stayL hk hs hg h⟩
 | .im k ts, _, _, hg, h => by
  obtain ⟨ws, e, h⟩ := h
  exact ⟨ws, e, Rps.stayL hk hs hg h⟩
 | .nd o k ts, _, _, hg, h => by
  obtain ⟨n, ws, G', e, e1, ft, h, c⟩ := h
  rcases c with ⟨rfl, rfl⟩ | ⟨rfl, hS, rfl, rfl⟩
  ·exact ⟨n, ws, G', e, e1.map fun u eu => (hk n u eu).1 (hg n (by simp)), ft, Rps.stayL hk hs (fun x hx => hg x (by rw [List.count_cons]; omega)) h, .inl ⟨rfl, rfl⟩⟩
  ·exact ⟨n, ws, [], e, e1.kx fun u eu => (hk n u eu).2 hS, ft, Rps.stayL hk hs (fun x hx => hg x hx) h, .inr ⟨rfl, hs n e1.lt hS, rfl, rfl⟩⟩
theorem Rps.stayL (hk : ∀ n o, m[n]? = ξ o → (G0.count n ≠ 0 → m'[n]? = ξ o) ∧ (¬ S n → Kx o m'[n]?)) (hs : ∀ n, n < m.length → ¬ S n → ¬ S' n) : ∀ {ts : List T} {ws : List W} {G : List Nat}, (∀ n, G.count n ≠ 0 → G0.count n ≠ 0) → Rps m S ts ws G → Rps m' S' ts ws G
 | [], _, _, _, h => h
 | t :: ts, _, _, hg, h => by
  obtain ⟨w, ws', G1, G2, e, h1, h2, rfl⟩ := h
  exact ⟨w, ws', G1, G2, e, Rp.stayL hk hs (fun x hx => hg x (by rw [List.count_append]; omega)) h1, Rps.stayL hk hs (fun x hx => hg x (by rw [List.count_append]; omega)) h2, rfl⟩
end
theorem EnvT.stayL (hk : ∀ n o, m[n]? = ξ o → (F.count n ≠ 0 → m'[n]? = ξ o) ∧ (¬ S n → Kx o m'[n]?)) (hs : ∀ n, n < m.length → ¬ S n → ¬ S' n) : ∀ {te : TE} {env : Env} {G : List Nat}, (∀ n, G.count n ≠ 0 → F.count n ≠ 0) → EnvT m S te env G → EnvT m' S' te env G
 | [], _, _, _, h => h
 | none :: te, _, _, hg, h => by
  obtain ⟨x, env', e, h⟩ := h
  exact ⟨x, env', e, EnvT.stayL hk hs hg h⟩
 | some t :: te, _, _, hg, h => by
  obtain ⟨w, env', G1, F', e, h1, h2, rfl⟩ := h
  exact ⟨w, env', G1, F', e, Rp.stayL hk hs (fun x hx => hg x (by rw [List.count_append]; omega)) h1, EnvT.stayL hk hs (fun x hx => hg x (by rw [List.count_append]; omega)) h2, rfl⟩
theorem Rp.stay (hk : ∀ n o, m[n]? = ξ o → (¬ S n ∨ G0.count n ≠ 0) → m'[n]? = ξ o) (hs : ∀ n, n < m.length → ¬ S n → ¬ S' n) {t : T} {w : W} {G : List Nat} (hg : ∀ n, G.count n ≠ 0 → G0.count n ≠ 0) (h : Rp m S t w G) : Rp m' S' t w G := Rp.stayL (fun n o e => ⟨fun c => hk n o e (.inr c), fun c => .inl (hk n o e (.inl c))⟩) hs hg h
theorem Rps.stay (hk : ∀ n o, m[n]? = ξ o → (¬ S n ∨ G0.count n ≠ 0) → m'[n]? = ξ o) (hs : ∀ n, n < m.length → ¬ S n → ¬ S' n) {ts : List T} {ws : List W} {G : List Nat} (hg : ∀ n, G.count n ≠ 0 → G0.count n ≠ 0) (h : Rps m S ts ws G) : Rps m' S' ts ws G := Rps.stayL (fun n o e => ⟨fun c => hk n o e (.inr c), fun c => .inl (hk n o e (.inl c))⟩) hs hg h
theorem EnvT.stay (hk : ∀ n o, m[n]? = ξ o → (¬ S n ∨ F.count n ≠ 0) → m'[n]? = ξ o) (hs : ∀ n, n < m.length → ¬ S n → ¬ S' n) {te : TE} {env : Env} {G : List Nat} (hg : ∀ n, G.count n ≠ 0 → F.count n ≠ 0) (h : EnvT m S te env G) : EnvT m' S' te env G := EnvT.stayL (fun n o e => ⟨fun c => hk n o e (.inr c), fun c => .inl (hk n o e (.inl c))⟩) hs hg h
mutual
theorem Rp.frz (hs : ∀ n, S' n → S n) (hg : ∀ n, G0.count n ≠ 0 → ¬ S' n) : ∀ {t : T} {w : W} {G : List Nat}, (∀ n, G.count n ≠ 0 → G0.count n ≠ 0) → Rp m S t w G → Rp m S' (frz t) w []
 | .non, _, _, _, h => ⟨h.1, rfl⟩
 | .bl _, _, _, _, h => ⟨h.1, rfl⟩
 | .int _, _, _, _, h => ⟨h.1, rfl⟩
 | .str _, _, _, _, h => ⟨h.1, rfl⟩
 | .ob _, _, _, _, h => ⟨h.1, rfl⟩
 | .ty _, _, _, _, h => ⟨h.1, rfl⟩
 | .scr _, _, _, _, h => ⟨h.1, rfl⟩
 | .tup ts, _, _, hG, h => by
  obtain ⟨ws, e, h⟩ := h
  exact ⟨ws, e, Rps.frz hs hg hG h⟩
 | .im k ts, _, _, hG, h => by
  obtain ⟨ws, e, h⟩ := h
  exact ⟨ws, e, Rps.frz hs hg hG h⟩
 | .nd o k ts, _, _, hG, h => by
  obtain ⟨n, ws, G', e, e1, ft, h, c⟩ := h
  have hl : (frzs ts).length = ts.length := uq
  rcases c with ⟨rfl, rfl⟩ | ⟨rfl, hS, rfl, rfl⟩
  ·exact ⟨n, ws, [], e, e1.cold, by rw [hl]; exact ft, Rps.frz hs hg (fun x hx => hG x (by rw [List.count_cons]; omega)) h, .inr ⟨rfl, hg n (hG n (by simp)), rfl, rfl⟩⟩
  ·exact ⟨n, ws, [], e, e1.cold, by rw [hl]; exact ft, Rps.frz hs hg (fun x hx => hG x hx) h, .inr ⟨rfl, fun q => hS (hs n q), rfl, rfl⟩⟩
theorem Rps.frz (hs : ∀ n, S' n → S n) (hg : ∀ n, G0.count n ≠ 0 → ¬ S' n) : ∀ {ts : List T} {ws : List W} {G : List Nat}, (∀ n, G.count n ≠ 0 → G0.count n ≠ 0) → Rps m S ts ws G → Rps m S' (frzs ts) ws []
 | [], _, _, _, h => ⟨h.1, rfl⟩
 | t :: ts, _, _, hG, h => by
  obtain ⟨w, ws', G1, G2, e, h1, h2, rfl⟩ := h
  exact ⟨w, ws', [], [], e, Rp.frz hs hg (fun x hx => hG x (by rw [List.count_append]; omega)) h1, Rps.frz hs hg (fun x hx => hG x (by rw [List.count_append]; omega)) h2, rfl⟩
end
mutual
theorem Rp.cold : ∀ {t : T} {w : W} {G : List Nat}, hot t = false → Rp m S t w G → G = []
 | .non, _, _, _, h => h.2
 | .bl _, _, _, _, h => h.2
 | .int _, _, _, _, h => h.2
 | .str _, _, _, _, h => h.2
 | .ob _, _, _, _, h => h.2
 | .ty _, _, _, _, h => h.2
 | .scr _, _, _, _, h => h.2
 | .tup ts, _, _, c, h => by
  obtain ⟨ws, e, h⟩ := h
  exact Rps.cold (by simpa [hot] using c) h
 | .im k ts, _, _, c, h => by
  obtain ⟨ws, e, h⟩ := h
  exact Rps.cold (by simpa [hot] using c) h
 | .nd o k ts, _, _, c, h => by
  obtain ⟨n, ws, G', e, e1, ft, h, q⟩ := h
  simp only [hot, Bool.or_eq_false_iff] at c
  rcases q with ⟨rfl, rfl⟩ | ⟨rfl, hS, rfl, rfl⟩
  ·exact absurd c.1 (by simp)
  ·rfl
theorem Rps.cold : ∀ {ts : List T} {ws : List W} {G : List Nat}, hots ts = false → Rps m S ts ws G → G = []
 | [], _, _, _, h => h.2
 | t :: ts, _, _, c, h => by
  obtain ⟨w, ws', G1, G2, e, h1, h2, rfl⟩ := h
  simp only [hots, Bool.or_eq_false_iff] at c
  rw [Rp.cold c.1 h1, Rps.cold c.2 h2]
  rfl
end
theorem Aft.trans (a : Aft m S A m1 S1 B) (b : Aft m1 S1 B m2 S2 C) : Aft m S A m2 S2 C := by
  refine ⟨fun n => ?_, b.sep, Nat.le_trans a.len b.len, b.lt, fun n o h e => ?_, fun n h q => ?_, a.dom⟩
  · rw [b.up, a.up]
    constructor
    · rintro (⟨(⟨h1, h2⟩ | h1), h3⟩ | h)
      · exact .inl ⟨h1, h2⟩
      · exact absurd h3 h1
      · exact .inr h
    · rintro (⟨h1, h2⟩ | h)
      · by_cases hb : B.count n = 0
        · exact .inl ⟨.inl ⟨h1, h2⟩, hb⟩
        · exact absurd h2 (a.new n (a.dom n h1) hb)
      · exact .inr h
  · by_cases hb : B.count n = 0
    · rcases a.keep n o h e with h1 | ⟨hS, h1 | ⟨o', hl, h1⟩⟩
      · rcases b.keep n o h1 hb with h2 | ⟨hS, h2⟩
        · exact .inl h2
        · exact .inr ⟨fun z => hS ((a.up n).mpr (.inl ⟨z, e⟩)), h2⟩
      · rcases b.keep n o h1 hb with h2 | ⟨_, h2⟩
        · exact .inl h2
        · exact .inr ⟨hS, h2⟩
      · rcases b.keep n o' h1 hb with h2 | ⟨_, h2⟩
        · exact .inr ⟨hS, .inr ⟨o', hl, h2⟩⟩
        · exact .inr ⟨hS, .inr ⟨o', hl, h2.plain (wD hl)⟩⟩
    · exact absurd e (a.new n (oN h) hb)
  · have := b.new n (Nat.lt_of_lt_of_le h a.len) q
    exact a.new n h this
theorem Aft.dom' (a : Aft m S A m' S' B) : ∀ n, S' n → n < m'.length := fun n h => by
 rcases (a.up n).mp h with ⟨h, _⟩ | h
 ·exact Nat.lt_of_lt_of_le (a.dom n h) a.len
 ·exact a.lt n h
theorem Aft.frame (a : Aft m S A m' S' B) (sub : ∀ n, G.count n ≠ 0 → S n) (sep : Sep (A ++ G)) : Aft m S (A ++ G) m' S' (B ++ G) := by
  have hz : ∀ n, G.count n ≠ 0 → A.count n = 0 ∧ B.count n = 0 ∧ G.count n = 1 := fun n h => by
    have h1 := sep n
    rw [List.count_append] at h1
    have h2 : A.count n = 0 := by omega
    refine ⟨h2, ?_, by omega⟩
    by_cases hb : B.count n = 0
    · exact hb
    · exact absurd h2 (a.new n (a.dom n (sub n h)) hb)
  refine ⟨fun n => ?_, fun n => ?_, a.len, fun n h => ?_, fun n o h e => ?_, fun n h q => ?_, a.dom⟩
  · rw [a.up]
    simp only [List.count_append]
    by_cases hG : G.count n = 0
    · simp [hG]
    · obtain ⟨h1, h2, h3⟩ := hz n hG
      constructor
      · intro _
        exact .inr (by omega)
      · intro _
        exact .inl ⟨sub n hG, h1⟩
  · rw [List.count_append]
    have := a.sep n
    by_cases hG : G.count n = 0
    · omega
    · obtain ⟨h1, h2, h3⟩ := hz n hG
      omega
  · rw [List.count_append] at h
    by_cases hG : G.count n = 0
    · exact a.lt n (by omega)
    · exact Nat.lt_of_lt_of_le (a.dom n (sub n hG)) a.len
  · rw [List.count_append] at e
    exact a.keep n o h (by omega)
  · rw [List.count_append] at q ⊢
    by_cases hG : G.count n = 0
    · have := a.new n h (by omega)
      omega
    · omega
theorem Aft.refl (sub : ∀ n, A.count n ≠ 0 → S n) (sep : Sep A) (dom : ∀ n, S n → n < m.length) : Aft m S A m S A := by
 refine ⟨fun n => ?_, sep, Nat.le_refl _, fun n h => dom n (sub n h), fun n o h _ => .inl h, fun n _ h => h, dom⟩
 constructor
 ·intro h
  by_cases q : A.count n = 0
  ·exact .inl ⟨h, q⟩
  ·exact .inr q
 ·rintro (h | h)
  ·exact h.1
  ·exact sub n h
def less (S : Own) (A B : List Nat) : Own := fun n => (S n ∧ A.count n = 0) ∨ B.count n ≠ 0
theorem Aft.less (sub : ∀ n, A.count n ≠ 0 → S n) (sep : Sep A) (dom : ∀ n, S n → n < m.length) (le : ∀ n, B.count n ≤ A.count n) : Aft m S A m (less S A B) B := by
 refine ⟨fun n => Iff.rfl, fun n => Nat.le_trans (le n) (sep n), Nat.le_refl _, fun n h => dom n (sub n ?_), fun n o h _ => .inl h, fun n _ h => ?_, dom⟩
 ·have := le n
  omega
 ·have := le n
  omega
theorem dY (sub : ∀ n, A.count n ≠ 0 → S n) (le : ∀ n, B.count n ≤ A.count n) : ∀ n, BV.less S A B n → S n := fun n h => by
 rcases h with ⟨h, _⟩ | h
 ·exact h
 ·exact sub n (by have := le n; omega)
theorem Aft.sub (a : Aft m S A m' S' B) : ∀ n, B.count n ≠ 0 → S' n := fun n h => (a.up n).mpr (.inr h)
theorem Aft.perm (a : Aft m S A m' S' B) (h : ∀ n, A'.count n = A.count n) (q : ∀ n, B'.count n = B.count n) : Aft m S A' m' S' B' := by
 refine ⟨fun n => by rw [a.up, h, q], fun n => by rw [q]; exact a.sep n, a.len, fun n e => a.lt n (by rw [← q]; exact e), fun n o e z => a.keep n o e (by rw [← h]; exact z), fun n l e => by rw [h]; exact a.new n l (by rw [← q]; exact e), a.dom⟩
theorem Aft.kx {n : Nat} {o : O} (a : Aft m S A m' S' B) (sub : ∀ n, A.count n ≠ 0 → S n) (dis : ∀ n, G.count n ≠ 0 → A.count n = 0 ∧ S n) (e : m[n]? = ξ o) : (G.count n ≠ 0 → m'[n]? = ξ o) ∧ (¬ S n → Kx o m'[n]?) := by
 refine ⟨fun c => ?_, fun c => ?_⟩
 ·rcases a.keep n o e (dis n c).1 with h | ⟨h, _⟩
  ·exact h
  ·exact absurd (dis n c).2 h
 ·have hz : A.count n = 0 := by
   by_cases z : A.count n = 0
   ·exact z
   ·exact absurd (sub n z) c
  rcases a.keep n o e hz with h | ⟨_, h⟩
  ·exact .inl h
  ·exact h
theorem Aft.rps (a : Aft m S A m' S' B) (sub : ∀ n, A.count n ≠ 0 → S n) (dis : ∀ n, G.count n ≠ 0 → A.count n = 0) (sg : ∀ n, G.count n ≠ 0 → S n) (h : Rps m S ts ws G) : Rps m' S' ts ws G := by
 refine Rps.stayL (G0 := G) (fun n o e => a.kx sub (fun n c => ⟨dis n c, sg n c⟩) e) (fun n l c q => ?_) (fun n h => h) h
 ·rcases (a.up n).mp q with h | h
  ·exact c h.1
  ·exact c (sub n (a.new n l h))
theorem Aft.rp (a : Aft m S A m' S' B) (sub : ∀ n, A.count n ≠ 0 → S n) (dis : ∀ n, G.count n ≠ 0 → A.count n = 0) (sg : ∀ n, G.count n ≠ 0 → S n) (h : Rp m S t w G) : Rp m' S' t w G := by
 have := a.rps (ts := [t]) (ws := [w]) (G := G) sub dis sg ⟨w, [], G, [], rfl, h, ⟨rfl, rfl⟩, by simp⟩
 obtain ⟨w', ws', G1, G2, e, h1, h2, rfl⟩ := this
 cases e
 rw [h2.2, List.append_nil]
 exact h1
theorem Aft.envT {te : TE} {env : Env} (a : Aft m S A m' S' B) (sub : ∀ n, A.count n ≠ 0 → S n) (dis : ∀ n, F.count n ≠ 0 → A.count n = 0) (sg : ∀ n, F.count n ≠ 0 → S n) (h : EnvT m S te env F) : EnvT m' S' te env F := by
 refine EnvT.stayL (F := F) (fun n o e => a.kx sub (fun n c => ⟨dis n c, sg n c⟩) e) (fun n l c q => ?_) (fun n h => h) h
 ·rcases (a.up n).mp q with h | h
  ·exact c h.1
  ·exact c (sub n (a.new n l h))
theorem Rps.one {m : M} {S : Own} {t : T} {w : W} {G : List Nat} (h : Rp m S t w G) : Rps m S [t] [w] G := ⟨w, [], G, [], rfl, h, ⟨rfl, rfl⟩, by simp⟩
theorem Rps.app : ∀ {ts us : List T} {ws vs : List W} {G G' : List Nat}, Rps m S ts ws G → Rps m S us vs G' → Rps m S (ts ++ us) (ws ++ vs) (G ++ G')
 | [], _, _, _, _, _, h, q => by rw [h.1, h.2]; exact q
 | t :: ts, _, _, _, _, _, h, q => by
  obtain ⟨w, ws', G1, G2, rfl, h1, h2, rfl⟩ := h
  exact ⟨w, _, G1, _, rfl, h1, Rps.app h2 q, by rw [List.append_assoc]⟩
theorem Rps.get : ∀ {ts : List T} {ws : List W} {G : List Nat} {i : Nat} {t : T}, Rps m S ts ws G → ts[i]? = ξ t → ∃ w G1, ws[i]? = ξ w ∧ Rp m S t w G1 ∧ ∀ n, G1.count n ≤ G.count n
 | [], _, _, _, _, _, e => by simp at e
 | t :: ts, _, _, 0, _, h, e => by
  obtain ⟨w, ws', G1, G2, rfl, h1, h2, rfl⟩ := h
  simp at e
  subst e
  exact ⟨w, G1, rfl, h1, fun n => by rw [List.count_append]; omega⟩
 | t :: ts, _, _, i + 1, _, h, e => by
  obtain ⟨w, ws', G1, G2, rfl, h1, h2, rfl⟩ := h
  obtain ⟨w', G3, e1, h3, le⟩ := Rps.get (i := i) h2 (by simpa using e)
  exact ⟨w', G3, by simpa using e1, h3, fun n => by rw [List.count_append]; have := le n; omega⟩
theorem EnvT.len : ∀ {te : TE} {env : Env} {F : List Nat}, EnvT m S te env F → te.length = env.length
 | [], _, _, h => by rw [h.1]; rfl
 | none :: te, _, _, h => by
  obtain ⟨x, env', rfl, h⟩ := h
  simp [EnvT.len h]
 | some t :: te, _, _, h => by
  obtain ⟨w, env', G, F', rfl, _, h, _⟩ := h
  simp [EnvT.len h]
theorem EnvT.take : ∀ {te : TE} {env : Env} {F : List Nat} {i : Nat} {t : T}, EnvT m S te env F → te[i]? = ξ (ξ t) → ∃ w G F', env[i]? = ξ (ξ w) ∧ Rp m S t w G ∧ EnvT m S (te.set i ζ) env F' ∧ ∀ n, F.count n = F'.count n + G.count n
 | [], _, _, _, _, _, e => by simp at e
 | none :: te, _, _, 0, _, _, e => by simp at e
 | some t :: te, _, _, 0, _, h, e => by
  simp at e
  subst e
  obtain ⟨w, env', G, F', rfl, h1, h2, rfl⟩ := h
  exact ⟨w, G, F', rfl, h1, ⟨_, _, rfl, h2⟩, fun n => by rw [List.count_append]; omega⟩
 | none :: te, _, _, i + 1, _, h, e => by
  obtain ⟨x, env', rfl, h⟩ := h
  obtain ⟨w, G, F', e1, h1, h2, c⟩ := EnvT.take (i := i) h (by simpa using e)
  exact ⟨w, G, F', by simpa using e1, h1, ⟨_, _, rfl, h2⟩, c⟩
 | some t :: te, _, _, i + 1, _, h, e => by
  obtain ⟨w0, env', G0, F0, rfl, h0, h, rfl⟩ := h
  obtain ⟨w, G, F', e1, h1, h2, c⟩ := EnvT.take (i := i) h (by simpa using e)
  exact ⟨w, G, G0 ++ F', by simpa using e1, h1, ⟨_, _, _, _, rfl, h0, h2, rfl⟩, fun n => by rw [List.count_append, List.count_append]; have := c n; omega⟩
theorem EnvT.wipe : ∀ {te : TE} {env : Env} {F : List Nat} (i : Nat), EnvT m S te env F → ∃ F', EnvT m S (te.set i ζ) env F' ∧ ∀ n, F'.count n ≤ F.count n
 | [], _, F, _, h => ⟨F, h, fun n => Nat.le_refl _⟩
 | none :: te, _, _, 0, h => ⟨_, h, fun n => Nat.le_refl _⟩
 | some t :: te, _, _, 0, h => by
  obtain ⟨w, env', G, F', rfl, h1, h2, rfl⟩ := h
  exact ⟨F', ⟨_, _, rfl, h2⟩, fun n => by rw [List.count_append]; omega⟩
 | none :: te, _, _, i + 1, h => by
  obtain ⟨x, env', rfl, h⟩ := h
  obtain ⟨F', h2, c⟩ := EnvT.wipe i h
  exact ⟨F', ⟨_, _, rfl, h2⟩, c⟩
 | some t :: te, _, _, i + 1, h => by
  obtain ⟨w0, env', G0, F0, rfl, h0, h, rfl⟩ := h
  obtain ⟨F', h2, c⟩ := EnvT.wipe i h
  exact ⟨G0 ++ F', ⟨_, _, _, _, rfl, h0, h2, rfl⟩, fun n => by rw [List.count_append, List.count_append]; have := c n; omega⟩
theorem EnvT.put : ∀ {te : TE} {env : Env} {F : List Nat} (i : Nat) {t : T} {w : W}, EnvT m S te env F → Rp m S t w G → ∃ F', EnvT m S (te.set i (ξ t)) (env.set i (ξ w)) F' ∧ ∀ n, F'.count n ≤ F.count n + G.count n
 | [], _, _, _, _, _, h, _ => by
  rw [h.1, h.2]
  exact ⟨[], ⟨rfl, rfl⟩, fun n => by simp⟩
 | none :: te, _, _, 0, _, _, h, q => by
  obtain ⟨x, env', rfl, h⟩ := h
  exact ⟨G ++ _, ⟨_, _, _, _, rfl, q, h, rfl⟩, fun n => by rw [List.count_append]; omega⟩
 | some t :: te, _, _, 0, _, _, h, q => by
  obtain ⟨w, env', G, F', rfl, h1, h2, rfl⟩ := h
  exact ⟨_, ⟨_, _, _, _, rfl, q, h2, rfl⟩, fun n => by rw [List.count_append, List.count_append]; omega⟩
 | none :: te, _, _, i + 1, _, _, h, q => by
  obtain ⟨x, env', rfl, h⟩ := h
  obtain ⟨F', h2, c⟩ := EnvT.put i h q
  exact ⟨F', ⟨_, _, rfl, h2⟩, c⟩
 | some t :: te, _, _, i + 1, _, _, h, q => by
  obtain ⟨w0, env', G0, F0, rfl, h0, h, rfl⟩ := h
  obtain ⟨F', h2, c⟩ := EnvT.put i h q
  exact ⟨G0 ++ F', ⟨_, _, _, _, rfl, h0, h2, rfl⟩, fun n => by rw [List.count_append, List.count_append]; have := c n; omega⟩
theorem EnvT.back : ∀ {te : TE} {env : Env} {F : List Nat} (i : Nat) {t : T} {w : W}, EnvT m S te env F → env[i]? = ξ (ξ w) → Rp m S t w G → ∃ F', EnvT m S (te.set i (ξ t)) env F' ∧ ∀ n, F'.count n ≤ F.count n + G.count n := fun {te env F} i {t w} h e q => by
 obtain ⟨F', h', c⟩ := h.put i q
 have : env.set i (ξ w) = env := by
  apply List.ext_getElem?
  intro j
  rw [List.getElem?_set]
  split
  ·rename_i h; subst h
   split
   ·exact e.symm
   ·rename_i h2
    rw [List.getElem?_eq_none (by omega)]
  ·rfl
 rw [this] at h'
 exact ⟨F', h', c⟩
theorem EnvT.get {te : TE} {env : Env} {i : Nat} {t : T} (h : EnvT m S te env F) (e : te[i]? = ξ (ξ t)) : ∃ w G, env[i]? = ξ (ξ w) ∧ Rp m S t w G := by
 obtain ⟨w, G, F', e1, h1, _⟩ := h.take e
 exact ⟨w, G, e1, h1⟩
end
inductive VR (α : Type) where
 | ok (a : α) (te : TE) | exc (C : Addr) (d : Option T) (te : TE)
def bu {α β : Type} (x : Option (VR α)) (k : α → TE → Option (VR β)) : Option (VR β) := match x with
 | none => ζ
 | some (.ok a te) => k a te
 | some (.exc C d te) => ξ (.exc C d te)
abbrev VD := TE → Option (VR T)
abbrev VT := TE → Option (VR Bool)
abbrev VA := TE → Option (VR (List T))
abbrev VV := TE → Option T
abbrev sD := TE → Option (List T)
abbrev Rl (α β : Type) := M → Own → α → β → List Nat → Prop
abbrev tf : Rl T W := fun m S t w G => Rp m S t w G
abbrev Dy : Rl (List T) (List W) := fun m S t w G => Rps m S t w G
abbrev Dz : Rl Bool Bool := fun _ _ a b G => a = b ∧ G = []
def RX (m : M) (S : Own) : Option T → Option Nat → List Nat → Prop
 | none, d, G => d = ζ ∧ G = []
 | some t, d, G => ∃ n, d = ξ n ∧ Rp m S t (.ref n) G
def Out {α β : Type} (rel : Rl α β) (m : M) (S : Own) (env : Env) (A : List Nat) (x : Option (R β)) (y : Option (VR α)) : Prop := match y with
 | none => True
 | some (.ok a te) => ∃ b m' S' F G, x = ξ (.ok b m') ∧ Aft m S A m' S' (F ++ G) ∧ EnvT m' S' te env F ∧ rel m' S' a b G
 | some (.exc C d te) => ∃ dn m' S' F G, x = ξ (.exc C dn m') ∧ Aft m S A m' S' (F ++ G) ∧ EnvT m' S' te env F ∧ RX m' S' d dn G
def XG {α β : Type} (rel : Rl α β) (de : Env → M → Option (R β)) (vd : TE → Option (VR α)) : Prop := ∀ m S te env F, Stt m S te env F → Out rel m S env F (de env m) (vd te)
abbrev XE (de : DE) (vd : VD) : Prop := XG tf de vd
abbrev XT (de : DT) (vd : VT) : Prop := XG Dz de vd
abbrev XA (de : DA) (vd : VA) : Prop := XG Dy de vd
def XV (de : DE) (vv : VV) : Prop := ∀ m S te env F, EnvT m S te env F → match vv te with
 | none => True
 | some t => ∃ w G, de env m = ξ (.ok w m) ∧ Rp m S t w G
def Kv (de : DA) (vv : sD) : Prop := ∀ m S te env F, EnvT m S te env F → match vv te with
 | none => True
 | some ts => ∃ ws G, de env m = ξ (.ok ws m) ∧ Rps m S ts ws G
def Bf {α β : Type} (rel : Rl α β) : Prop := ∀ m S S' a b G, (∀ n, S' n → S n) → rel m S a b G → rel m S' a b G
section
variable {m m' m1: M}{S S' S1 S2: Own}{A B B' C F G G0 Gh: List Nat}{t: T}{ts hs: List T}{w: W}{ws us: List W}{env: Env}{te: TE}
theorem Rp.sh (hs : ∀ n, S' n → S n) (h : Rp m S t w G) : Rp m S' t w G := Rp.stay (G0 := G) (fun n o e _ => e) (fun n _ c q => c (hs n q)) (fun n h => h) h
theorem Rps.sh (hs : ∀ n, S' n → S n) (h : Rps m S ts ws G) : Rps m S' ts ws G := Rps.stay (G0 := G) (fun n o e _ => e) (fun n _ c q => c (hs n q)) (fun n h => h) h
theorem EnvT.sh (hs : ∀ n, S' n → S n) (h : EnvT m S te env F) : EnvT m S' te env F := EnvT.stay (F := F) (fun n o e _ => e) (fun n _ c q => c (hs n q)) (fun n h => h) h
theorem RX.sh {d : Option T} {dn : Option Nat} (hs : ∀ n, S' n → S n) (h : RX m S d dn G) : RX m S' d dn G := by
 cases d with
 | none => exact h
 | some t => obtain ⟨n, e, h⟩ := h; exact ⟨n, e, h.sh hs⟩
theorem j9 : Bf tf := fun _ _ _ _ _ _ h q => Rp.sh h q
theorem zL : Bf Dy := fun _ _ _ _ _ _ h q => Rps.sh h q
theorem oE : Bf Dz := fun _ _ _ _ _ _ _ q => q
theorem Out.trans {α β : Type} {rel : Rl α β} {x : Option (R β)} {y : Option (VR α)} (a : Aft m S A m1 S1 B) (h : Out rel m1 S1 env B x y) : Out rel m S env A x y := by
 cases y with
 | none => trivial
 | some y =>
  cases y with
  | ok v te =>
   obtain ⟨b, m', S', F, G, e, q, r⟩ := h
   exact ⟨b, m', S', F, G, e, a.trans q, r⟩
  | exc C d te =>
   obtain ⟨b, m', S', F, G, e, q, r⟩ := h
   exact ⟨b, m', S', F, G, e, a.trans q, r⟩
theorem Aft.drop (a : Aft m S A m1 S1 B) (le : ∀ n, B'.count n ≤ B.count n) : ∃ S2, Aft m S A m1 S2 B' ∧ ∀ n, S2 n → S1 n := by
 refine ⟨BV.less S1 B B', a.trans (Aft.less a.sub a.sep a.dom' le), dY a.sub le⟩
theorem Stt.own (st : Stt m S te env F) : Aft m S F m S F := Aft.refl st.sub st.sep st.lt
theorem XG.bind {α β γ δ : Type} {rel1 : Rl α β} {rel : Rl γ δ} {de : Env → M → Option (R β)} {vd : TE → Option (VR α)} {k : β → M → Option (R δ)} {k' : α → TE → Option (VR γ)} (h : XG rel1 de vd) (st : Stt m S te env F) (hh : Rps m S hs us Gh) (sep : Sep (F ++ Gh)) (sub : ∀ n, Gh.count n ≠ 0 → S n)
  (hk : ∀ a te1 b m1 S1 F1 G1, Stt m1 S1 te1 env F1 → Rps m1 S1 hs us Gh → rel1 m1 S1 a b G1 → Sep (F1 ++ G1 ++ Gh) → (∀ n, (F1 ++ G1 ++ Gh).count n ≠ 0 → S1 n) → Out rel m1 S1 env (F1 ++ G1 ++ Gh) (k b m1) (k' a te1)) :
  Out rel m S env (F ++ Gh) (bnd (de env m) k) (bu (vd te) k') := by
 have h0 := h m S te env F st
 have dis : ∀ n, Gh.count n ≠ 0 → F.count n = 0 := fun n h => by
  have := sep n
  rw [List.count_append] at this
  omega
 cases hy : vd te with
 | none => exact trivial
 | some y =>
  rw [hy] at h0
  cases y with
  | ok a te1 =>
   obtain ⟨b, m1, S1, F1, G1, e, q, ev, r⟩ := h0
   have q2 := q.frame sub sep
   rw [e]
   refine Out.trans q2 (hk a te1 b m1 S1 F1 G1 ⟨ev, fun n => ?_, fun n h => q.sub n ?_, q.dom'⟩ (q.rps st.sub dis sub hh) r q2.sep q2.sub)
   ·have := q.sep n
    rw [List.count_append] at this
    omega
   ·rw [List.count_append]
    omega
  | exc C d te1 =>
   obtain ⟨b, m1, S1, F1, G1, e, q, ev, r⟩ := h0
   have q2 := q.frame sub sep
   rw [e]
   obtain ⟨S2, q3, le⟩ := q2.drop (B' := F1 ++ G1) fun n => by rw [List.count_append (l₁ := F1 ++ G1)]; omega
   exact ⟨b, m1, S2, F1, G1, rfl, q3, ev.sh le, r.sh le⟩
theorem XG.bind0 {α β γ δ : Type} {rel1 : Rl α β} {rel : Rl γ δ} {de : Env → M → Option (R β)} {vd : TE → Option (VR α)} {k : β → M → Option (R δ)} {k' : α → TE → Option (VR γ)} (h : XG rel1 de vd) (st : Stt m S te env F)
  (hk : ∀ a te1 b m1 S1 F1 G1, Stt m1 S1 te1 env F1 → rel1 m1 S1 a b G1 → Sep (F1 ++ G1) → (∀ n, (F1 ++ G1).count n ≠ 0 → S1 n) → Out rel m1 S1 env (F1 ++ G1) (k b m1) (k' a te1)) :
  Out rel m S env F (bnd (de env m) k) (bu (vd te) k') := by
 have := h.bind (rel := rel) (k := k) (k' := k') (hs := []) (us := []) (Gh := []) st ⟨rfl, rfl⟩ (by rw [List.append_nil]; exact st.sep) (by simp) (fun a te1 b m1 S1 F1 G1 s1 _ r sp sb => by
  rw [List.append_nil] at sp sb ⊢
  exact hk a te1 b m1 S1 F1 G1 s1 r sp sb)
 rw [List.append_nil] at this
 exact this
theorem Out.done {α β : Type} {rel : Rl α β} {a : α} {b : β} (mono : Bf rel) (ev : EnvT m S te env F) (q : rel m S a b G) (sub : ∀ n, A.count n ≠ 0 → S n) (sep : Sep A) (dom : ∀ n, S n → n < m.length) (le : ∀ n, (F ++ G).count n ≤ A.count n) : Out rel m S env A (ξ (.ok b m)) (ξ (.ok a te)) :=
 ⟨b, m, less S A (F ++ G), F, G, rfl, Aft.less sub sep dom le, ev.sh (dY sub le), mono _ _ _ _ _ _ (dY sub le) q⟩
theorem Out.alloc {k : Kd} (ev : EnvT m S te env F) (q : Rps m S ts ws G) (ft : k.fit ts.length = true) (sub : ∀ n, A.count n ≠ 0 → S n) (sep : Sep A) (dom : ∀ n, S n → n < m.length) (le : ∀ n, (F ++ G).count n ≤ A.count n) : Out tf m S env A (ξ (.ok (.ref m.length) (m ++ [k.mk ws]))) (ξ (.ok (.nd true k ts) te)) := by
 have hf : ∀ n, (F ++ G).count n ≠ 0 → n < m.length := fun n h => dom n (sub n (by have := le n; omega))
 have hk : ∀ (n : Nat) o, m[n]? = ξ o → (m ++ [k.mk ws])[n]? = ξ o := fun n o e => by rw [List.getElem?_append_left (oN e)]; exact e
 have hs : ∀ n, n < m.length → ¬ S n → ¬ less S A (F ++ m.length :: G) n := fun n l c q => by
  rcases q with q | q
  ·exact c q.1
  ·refine c (sub n ?_)
   have h1 := le n
   rw [List.count_append] at h1 q
   rw [List.count_cons] at q
   have : ¬ (m.length == n) = true := by simp; omega
   simp only [this] at q
   simp at q
   omega
 refine ⟨_, _, less S A (F ++ m.length :: G), F, m.length :: G, rfl, ⟨fun n => Iff.rfl, fun n => ?_, by simp, fun n h => ?_, fun n o e _ => .inl (hk n o e), fun n l h => ?_, dom⟩, ?_, ?_⟩
 ·have h1 := le n
  have h2 := sep n
  rw [List.count_append] at h1 ⊢
  rw [List.count_cons]
  by_cases z : m.length = n
  ·have h3 : (F ++ G).count n = 0 := by
    by_cases z2 : (F ++ G).count n = 0
    ·exact z2
    ·exact absurd (hf n z2) (by omega)
   rw [List.count_append] at h3
   split <;> omega
  ·have : ¬ (m.length == n) = true := by simp; exact z
   rw [if_neg this]
   omega
 ·rw [List.length_append]
  by_cases z : m.length = n
  ·simp; omega
  ·have : ¬ (m.length == n) = true := by simp; exact z
   rw [List.count_append, List.count_cons, if_neg this] at h
   have := hf n (by rw [List.count_append]; omega)
   simp; omega
 ·have : ¬ (m.length == n) = true := by simp; omega
  rw [List.count_append, List.count_cons, if_neg this] at h
  have := le n
  rw [List.count_append] at this
  omega
 ·exact EnvT.stay (F := F) (fun n o e _ => hk n o e) hs (fun n h => h) ev
 ·exact ⟨m.length, ws, G, rfl, .inl (by simp), ft, Rps.stay (G0 := G) (fun n o e _ => hk n o e) hs (fun n h => h) q, .inl ⟨rfl, rfl⟩⟩
end
inductive PN where
 | pur (t : T) | new (k : Kd) (ts : List T)
abbrev G2 := T → T → Option PN
abbrev GN := List T → Option PN
def Dj (f : FN) (g : GN) : Prop := ∀ m S ts ws Gs, Rps m S ts ws Gs → match g ts with
 | none => True
 | some (.pur t) => ∃ w G, f ws m = ξ (w, m) ∧ Rp m S t w G ∧ ∀ n, G.count n ≤ Gs.count n
 | some (.new k cs) => ∃ us G, f ws m = ξ (.ref m.length, m ++ [k.mk us]) ∧ Rps m S cs us G ∧ k.fit cs.length = true ∧ ∀ n, G.count n ≤ Gs.count n
def nq (f : F2) (g : G2) : Prop := ∀ m S t1 w1 G1 t2 w2 G2, Rp m S t1 w1 G1 → Rp m S t2 w2 G2 → match g t1 t2 with
 | none => True
 | some (.pur t) => ∃ w G, f w1 w2 m = ξ (w, m) ∧ Rp m S t w G ∧ ∀ n, G.count n ≤ (G1 ++ G2).count n
 | some (.new k cs) => ∃ us G, f w1 w2 m = ξ (.ref m.length, m ++ [k.mk us]) ∧ Rps m S cs us G ∧ k.fit cs.length = true ∧ ∀ n, G.count n ≤ (G1 ++ G2).count n
def ai (i : Nat) : VV := fun te => match te[i]? with
 | some (ξ t) => ξ t
 | _ => ζ
def aG (t : T) : VV := fun _ => ξ t
def aH (g : G2) (a b : VV) : VV := fun te => match a te, b te with
 | some x, ξ y => (match g x y with
  | some (.pur t) => ξ t
  | _ => ζ)
 | _, _ => ζ
def aD : sD := fun _ => ξ []
def av (a : VV) (as : sD) : sD := fun te => match a te, as te with
 | some x, ξ xs => ξ (x :: xs)
 | _, _ => ζ
def bz (g : GN) (as : sD) : VV := fun te => match as te with
 | some xs => (match g xs with
  | some (.pur t) => ξ t
  | _ => ζ)
 | none => ζ
def ew (as : sD) : VV := fun te => match as te with
 | some xs => if xs.length ≤ sizeLine then ξ (.tup xs) else ζ
 | none => ζ
def vZ (f : Str) : List Str → List T → Option T
 | g :: gs, t :: ts => if f == g then ξ t else vZ f gs ts
 | _, _ => ζ
def lh (C : Addr) (f : Str) : T → Option T
 | .nd _ (.ins C' fs) ts => if C' = C then vZ f fs ts else ζ
 | _ => ζ
def bx (C : Addr) (f : Str) (a : VV) : VV := fun te => match a te with
 | some t => lh C f t
 | none => ζ
def Ds (a : VV) : VV := fun te => match a te with
 | some (.bl b) => ξ (.bl (!b))
 | _ => ζ
def Du (a b : VV) : VV := fun te => match a te with
 | some (.bl true) => b te
 | some (.bl false) => ξ (.bl false)
 | _ => ζ
def vvOr (a b : VV) : VV := fun te => match a te with
 | some (.bl true) => ξ (.bl true)
 | some (.bl false) => b te
 | _ => ζ
def vU (f g : G2) (a b c : VV) : VV := fun te => match a te, b te with
  | some x, ξ y => (match f x y with
    | some (.pur (.bl true)) => (match c te with
      | some z => (match g y z with
        | some (.pur t) => ξ t
        | _ => ζ)
      | none => ζ)
    | some (.pur (.bl false)) => ξ (.bl false)
    | _ => ζ)
  | _, _ => ζ
section
variable {da db: DE}{va vb: VV}{das: DA}{vas: sD}{f: F2}{g: G2}
theorem ao {i : Nat} : XV (aA i) (ai i) := fun m S te env F h => by
 unfold ai
 split
 ·trivial
 ·rename_i t hx
  split at hx
  ·rename_i t' ht
   cases hx
   obtain ⟨w, G, e, q⟩ := h.get ht
   exact ⟨w, G, by simp [e], q⟩
  ·cases hx
theorem w9 {t : T} {w : W} (h : ∀ m S, Rp m S t w []) : XV (eC w) (aG t) := fun m S te env F _ => ⟨w, [], rfl, h m S⟩
theorem uI : XV (eC .non) (aG .non) := w9 fun _ _ => ⟨rfl, rfl⟩
theorem aY {b : Bool} : XV (eC (.bl b)) (aG (.bl b)) := w9 fun _ _ => ⟨rfl, rfl⟩
theorem aI {b : Int} : XV (eC (.int b)) (aG (.int b)) := w9 fun _ _ => ⟨rfl, rfl⟩
theorem qT {b : Str} : XV (eC (.str b)) (aG (.str b)) := w9 fun _ _ => ⟨rfl, rfl⟩
theorem eH {b : Addr} : XV (eC (.ob b)) (aG (.ob b)) := w9 fun _ _ => ⟨rfl, rfl⟩
theorem pQ {b : String} : XV (eC (.ty b)) (aG (.ty b)) := w9 fun _ _ => ⟨rfl, rfl⟩
theorem bN (hf : nq f g) (ha : XV da va) (hb : XV db vb) : XV (dh f da db) (aH g va vb) := fun m S te env F h => by
 have h1 := ha m S te env F h
 have h2 := hb m S te env F h
 unfold aH
 cases hx : va te with
 | none => trivial
 | some x =>
  cases hy : vb te with
  | none => trivial
  | some y =>
   rw [hx] at h1
   rw [hy] at h2
   obtain ⟨w1, G1, e1, q1⟩ := h1
   obtain ⟨w2, G2, e2, q2⟩ := h2
   have h3 := hf m S x w1 G1 y w2 G2 q1 q2
   simp only
   cases hz : g x y with
   | none => trivial
   | some z =>
    rw [hz] at h3
    cases z with
    | new k ts => trivial
    | pur t =>
     obtain ⟨w, G, e, q, _⟩ := h3
     exact ⟨w, G, by simp [e1, e2, e], q⟩
theorem aF : Kv aB aD := fun m S te env F h => ⟨[], [], rfl, rfl, rfl⟩
theorem aw (ha : XV da va) (hb : Kv das vas) : Kv (aj da das) (av va vas) := fun m S te env F h => by
 have h1 := ha m S te env F h
 have h2 := hb m S te env F h
 unfold av
 cases hx : va te with
 | none => trivial
 | some x =>
  cases hy : vas te with
  | none => trivial
  | some y =>
   rw [hx] at h1
   rw [hy] at h2
   obtain ⟨w1, G1, e1, q1⟩ := h1
   obtain ⟨w2, G2, e2, q2⟩ := h2
   exact ⟨w1 :: w2, G1 ++ G2, by simp [e1, e2], w1, w2, G1, G2, rfl, q1, q2, rfl⟩
theorem bY {f : FN} {g : GN} (hf : Dj f g) (ha : Kv das vas) : XV (iy f das) (bz g vas) := fun m S te env F h => by
 have h1 := ha m S te env F h
 unfold bz
 cases hx : vas te with
 | none => trivial
 | some x =>
  rw [hx] at h1
  obtain ⟨w1, G1, e1, q1⟩ := h1
  have h3 := hf m S x w1 G1 q1
  simp only
  cases hz : g x with
  | none => trivial
  | some z =>
   rw [hz] at h3
   cases z with
   | new k ts => trivial
   | pur t =>
    obtain ⟨w, G, e, q, _⟩ := h3
    exact ⟨w, G, by simp [e1, e], q⟩
theorem fP (ha : Kv das vas) : XV (iO das) (ew vas) := fun m S te env F h => by
 have h1 := ha m S te env F h
 unfold ew
 cases hx : vas te with
 | none => trivial
 | some x =>
  rw [hx] at h1
  obtain ⟨w1, G1, e1, q1⟩ := h1
  simp only
  by_cases hl : x.length ≤ sizeLine
  ·rw [if_pos hl]
   exact ⟨.tup w1, G1, by simp only [AO, e1, i']; rw [if_pos (by rw [← q1.len]; exact hl)], w1, rfl, q1⟩
  ·rw [if_neg hl]
   trivial
end
def kW (x : Option PN) (te : TE) : Option (VR T) := match x with
 | some (.pur t) => ξ (.ok t te)
 | some (.new k ts) => ξ (.ok (.nd true k ts) te)
 | none => ζ
def dX (x : Option PN) (te : TE) : Option (VR T) := match x with
 | some (.pur t) => if hot t = true then ζ else ξ (.ok t te)
 | some (.new k ts) => if hots ts = true then ζ else ξ (.ok (.nd true k ts) te)
 | none => ζ
section
variable {m: M}{S: Own}{A F G Gh: List Nat}{t: T}{w: W}{us: List W}{env: Env}{te: TE}
theorem Stt.le {A : List Nat} (h : Stt m S te env F) : (∀ n, F.count n ≠ 0 → S n) := h.sub
theorem Out.pn {x : Option PN} {y : Option (W × M)} (h : match x with
   | none => True
   | some (.pur t) => ∃ w G, y = ξ (w, m) ∧ Rp m S t w G ∧ ∀ n, G.count n ≤ Gh.count n
   | some (.new k cs) => ∃ us G, y = ξ (.ref m.length, m ++ [k.mk us]) ∧ Rps m S cs us G ∧ k.fit cs.length = true ∧ ∀ n, G.count n ≤ Gh.count n)
  (ev : EnvT m S te env F) (sub : ∀ n, A.count n ≠ 0 → S n) (sep : Sep A) (dom : ∀ n, S n → n < m.length) (le : ∀ n, F.count n + Gh.count n ≤ A.count n) : Out tf m S env A (up y) (kW x te) := by
 cases x with
 | none => trivial
 | some x =>
  cases x with
  | pur t =>
   obtain ⟨w, G, rfl, q, l⟩ := h
   exact Out.done j9 ev q sub sep dom fun n => by rw [List.count_append]; have := le n; have := l n; omega
  | new k cs =>
   obtain ⟨us, G, rfl, q, ft, l⟩ := h
   exact Out.alloc ev q ft sub sep dom fun n => by rw [List.count_append]; have := le n; have := l n; omega
theorem Out.pnc {x : Option PN} {y : Option (W × M)} (h : match x with
   | none => True
   | some (.pur t) => ∃ w G, y = ξ (w, m) ∧ Rp m S t w G ∧ ∀ n, G.count n ≤ Gh.count n
   | some (.new k cs) => ∃ us G, y = ξ (.ref m.length, m ++ [k.mk us]) ∧ Rps m S cs us G ∧ k.fit cs.length = true ∧ ∀ n, G.count n ≤ Gh.count n)
  (ev : EnvT m S te env F) (sub : ∀ n, A.count n ≠ 0 → S n) (sep : Sep A) (dom : ∀ n, S n → n < m.length) (le : ∀ n, F.count n ≤ A.count n) : Out tf m S env A (up y) (dX x te) := by
 cases x with
 | none => trivial
 | some x =>
  cases x with
  | pur t =>
   obtain ⟨w, G, rfl, q, l⟩ := h
   unfold dX
   simp only
   by_cases hh : hot t = true
   ·rw [if_pos hh]; trivial
   ·rw [if_neg hh]
    have hc := Rp.cold (by simpa using hh) q
    subst hc
    exact Out.done j9 ev q sub sep dom fun n => by rw [List.append_nil]; exact le n
  | new k cs =>
   obtain ⟨us, G, rfl, q, ft, l⟩ := h
   unfold dX
   simp only
   by_cases hh : hots cs = true
   ·rw [if_pos hh]; trivial
   ·rw [if_neg hh]
    have hc := Rps.cold (by simpa using hh) q
    subst hc
    exact Out.alloc ev q ft sub sep dom fun n => by rw [List.append_nil]; exact le n
end
def az (vv : VV) : VD := fun te => match vv te with
 | some t => if hot t = true then ζ else ξ (.ok t te)
 | none => ζ
def xk (i : Nat) : VD := fun te => match te[i]? with
 | some (ξ t) => ξ (.ok (frz t) (te.set i (ξ (frz t))))
 | _ => ζ
def Ep (i : Nat) : VD := fun te => match te[i]? with
 | some (ξ t) => ξ (.ok t (te.set i ζ))
 | _ => ζ
section
variable {da db: DE}{va vb: VD}{vv: VV}{das: DA}{vas: VA}{ta tb: DT}{ua ub: VT}{f: F2}{g: G2}
theorem ax (h : XV da vv) : XE da (az vv) := fun m S te env F st => by
 have h1 := h m S te env F st.env
 unfold az
 cases hx : vv te with
 | none => trivial
 | some t =>
  rw [hx] at h1
  obtain ⟨w, G, e, q⟩ := h1
  simp only
  by_cases hh : hot t = true
  ·rw [if_pos hh]; trivial
  ·rw [if_neg hh, e]
   have hc := Rp.cold (by simpa using hh) q
   subst hc
   exact Out.done j9 st.env q st.sub st.sep st.lt fun n => by rw [List.append_nil]; omega
def jq (g : G2) (a b : VD) : VD := fun te => bu (a te) fun x te1 => bu (b te1) fun y te2 => kW (g x y) te2
def sN (g : G2) (a : VD) (b : VV) : VD := fun te => bu (a te) fun x te1 => match b te1 with
 | some y => dX (g x y) te1
 | none => ζ
def IP (g : G2) (a b : VV) : VD := fun te => match a te, b te with
 | some x, ξ y => dX (g x y) te
 | _, _ => ζ
def Hu (g : GN) (as : VA) : VD := fun te => bu (as te) fun xs te1 => kW (g xs) te1
def vCBV (g : GN) (as : sD) : VD := fun te => match as te with
 | some xs => dX (g xs) te
 | none => ζ
theorem cN (hf : nq f g) (ha : XE da va) (hb : XE db vb) : XE (dh f da db) (jq g va vb) := fun m S te env F st => by
 refine XG.bind0 ha st fun x te1 w1 m1 S1 F1 G1 st1 q1 sp1 sb1 => ?_
 refine XG.bind hb st1 (hs := [x]) (us := [w1]) (Rps.one q1) sp1 (fun n h => sb1 n (by rw [List.count_append]; omega)) fun y te2 w2 m2 S2 F2 G2 st2 hh q2 sp2 sb2 => ?_
 obtain ⟨w1', ws', G3, G4, e, q1', h2, rfl⟩ := hh
 cases e
 obtain ⟨h21, rfl⟩ := h2
 rw [List.append_nil] at sp2 sb2 ⊢
 exact Out.pn (hf m2 S2 x w1 G3 y w2 G2 q1' q2) st2.env sb2 sp2 st2.lt fun n => by simp only [List.count_append]; omega
theorem uN (hf : nq f g) (ha : XE da va) (hb : XV db vv) : XE (dh f da db) (sN g va vv) := fun m S te env F st => by
 refine XG.bind0 ha st fun x te1 w1 m1 S1 F1 G1 st1 q1 sp1 sb1 => ?_
 have h2 := hb m1 S1 te1 env F1 st1.env
 cases hy : vv te1 with
 | none => trivial
 | some y =>
  rw [hy] at h2
  obtain ⟨w2, G2, e2, q2⟩ := h2
  simp only [i', e2]
  exact Out.pnc (hf m1 S1 x w1 G1 y w2 G2 q1 q2) st1.env sb1 sp1 st1.lt fun n => by simp only [List.count_append]; omega
def aq : VA := fun te => ξ (.ok [] te)
def aa (a : VD) (as : VA) : VA := fun te => bu (a te) fun x te1 => bu (as te1) fun xs te2 => ξ (.ok (x :: xs) te2)
def nV (as : VA) : VD := fun te => bu (as te) fun xs te1 => if xs.length ≤ sizeLine then ξ (.ok (.tup xs) te1) else ζ
def cg (as : VA) : VD := fun te => bu (as te) fun xs te1 => if xs.length ≤ sizeLine then ξ (.ok (.nd true .lst xs) te1) else ζ
theorem ay : XA aB aq := fun m S te env F st => Out.done zL st.env ⟨rfl, rfl⟩ st.sub st.sep st.lt fun n => by rw [List.append_nil]; omega
theorem ah (ha : XE da va) (hb : XA das vas) : XA (aj da das) (aa va vas) := fun m S te env F st => by
 refine XG.bind0 ha st fun x te1 w1 m1 S1 F1 G1 st1 q1 sp1 sb1 => ?_
 refine XG.bind hb st1 (hs := [x]) (us := [w1]) (Rps.one q1) sp1 (fun n h => sb1 n (by rw [List.count_append]; omega)) fun y te2 w2 m2 S2 F2 G2 st2 hh q2 sp2 sb2 => ?_
 exact Out.done (G := G1 ++ G2) zL st2.env (hh.app q2) sb2 sp2 st2.lt fun n => by simp only [List.count_append]; omega
theorem eI (ha : XA das vas) : XE (iO das) (nV vas) := fun m S te env F st => by
 refine XG.bind0 ha st fun x te1 w1 m1 S1 F1 G1 st1 q1 sp1 sb1 => ?_
 by_cases hl : x.length ≤ sizeLine
 ·rw [if_pos hl, if_pos (by rw [← Rps.len q1]; exact hl)]
  exact Out.done j9 st1.env ⟨w1, rfl, q1⟩ sb1 sp1 st1.lt fun n => Nat.le_refl _
 ·rw [if_neg hl]
  trivial
theorem aW (ha : XA das vas) : XE (cS das) (cg vas) := fun m S te env F st => by
 refine XG.bind0 ha st fun x te1 w1 m1 S1 F1 G1 st1 q1 sp1 sb1 => ?_
 by_cases hl : x.length ≤ sizeLine
 ·rw [if_pos hl, if_pos (by rw [← Rps.len q1]; exact hl)]
  exact Out.alloc (k := .lst) st1.env q1 rfl sb1 sp1 st1.lt fun n => Nat.le_refl _
 ·rw [if_neg hl]
  trivial
def aL (a : VD) : VD := fun te => bu (a te) fun x te1 => ξ (.ok (frz x) te1)
theorem aJ (ha : XE da va) : XE da (aL va) := fun m S te env F st => by
 have h0 := ha m S te env F st
 unfold aL
 cases hy : va te with
 | none => trivial
 | some y =>
  rw [hy] at h0
  cases y with
  | exc C d te1 => exact h0
  | ok a te1 =>
   obtain ⟨b, m1, S1, F1, G1, e, q, ev, r⟩ := h0
   have le : ∀ n, F1.count n ≤ (F1 ++ G1).count n := fun n => by rw [List.count_append]; omega
   have a1 := Aft.less q.sub q.sep q.dom' le
   have sh := dY q.sub le
   refine ⟨b, m1, _, F1, [], e, by rw [List.append_nil]; exact q.trans a1, ev.sh sh, Rp.frz (G0 := G1) sh (fun n h z => ?_) (fun n h => h) r⟩
   have h1 := q.sep n
   rw [List.count_append] at h1
   rcases z with ⟨_, z⟩ | z
   ·rw [List.count_append] at z; omega
   ·omega
def GF (x : T) (te : TE) : Option (VR Bool) := match x with
 | .bl b => ξ (.ok b te)
 | _ => ζ
def cE (a : VD) : VT := fun te => bu (a te) GF
def kL (a : VV) : VT := fun te => match a te with
 | some (.bl b) => ξ (.ok b te)
 | _ => ζ
def IA (a b : VT) : VT := fun te => bu (a te) fun x te1 => if x = true then b te1 else ξ (.ok false te1)
def kh (a b : VT) : VT := fun te => bu (a te) fun x te1 => if x = true then ξ (.ok true te1) else b te1
def fm (a : VT) : VT := fun te => bu (a te) fun x te1 => ξ (.ok (!x) te1)
def I0 (c : VT) (a b : VD) : VD := fun te => bu (c te) fun x te1 => if x = true then a te1 else b te1
def Er (a b : VD) : VD := fun te => bu (a te) fun x te1 => match x with
 | .bl true => b te1
 | .bl false => ξ (.ok (.bl false) te1)
 | _ => ζ
def vOr (a b : VD) : VD := fun te => bu (a te) fun x te1 => match x with
 | .bl true => ξ (.ok (.bl true) te1)
 | .bl false => b te1
 | _ => ζ
def IT (a : VD) : VD := fun te => bu (a te) fun x te1 => match x with
 | .bl k => ξ (.ok (.bl (!k)) te1)
 | _ => ζ
theorem Stt.out {α β : Type} {rel : Rl α β} {m : M} {S : Own} {te : TE} {env : Env} {F A : List Nat} {x : Option (R β)} {y : Option (VR α)} (st : Stt m S te env F) (h : Out rel m S env F x y) (e : ∀ n, A.count n = F.count n) : Out rel m S env A x y := Out.trans (B := F) (st.own.perm e fun n => rfl) h
theorem bE (ha : XE da va) : XT (eL da) (cE va) := fun m S te env F st => by
 refine XG.bind0 ha st fun x te1 w1 m1 S1 F1 G1 st1 q1 sp1 sb1 => ?_
 cases x <;> first | trivial | skip
 obtain ⟨rfl, rfl⟩ := q1
 exact Out.done oE st1.env ⟨rfl, rfl⟩ sb1 sp1 st1.lt fun n => Nat.le_refl _
theorem Il (h : XV da vv) : XT (eL da) (kL vv) := fun m S te env F st => by
 have h1 := h m S te env F st.env
 unfold kL
 cases hx : vv te with
 | none => trivial
 | some t =>
  rw [hx] at h1
  cases t <;> first | trivial | skip
  obtain ⟨w, G, e, rfl, rfl⟩ := h1
  simp only [yb, e, i', GH]
  exact Out.done oE st.env ⟨rfl, rfl⟩ st.sub st.sep st.lt fun n => by rw [List.append_nil]; omega
theorem yn (ha : XT ta ua) (hb : XT tb ub) : XT (xt ta tb) (kh ua ub) := fun m S te env F st => by
 refine XG.bind0 ha st fun x te1 w1 m1 S1 F1 G1 st1 q1 sp1 sb1 => ?_
 obtain ⟨rfl, rfl⟩ := q1
 cases x with
 | false => exact st1.out (hb m1 S1 te1 env F1 st1) fun n => by simp
 | true => exact Out.done oE st1.env ⟨rfl, rfl⟩ sb1 sp1 st1.lt fun n => Nat.le_refl _
theorem uJ (ha : XT ta ua) : XT (pU ta) (fm ua) := fun m S te env F st => by
 refine XG.bind0 ha st fun x te1 w1 m1 S1 F1 G1 st1 q1 sp1 sb1 => ?_
 obtain ⟨rfl, rfl⟩ := q1
 exact Out.done oE st1.env ⟨rfl, rfl⟩ sb1 sp1 st1.lt fun n => Nat.le_refl _
theorem fj (ha : XE da va) (hb : XE db vb) : XE (AR da db) (Er va vb) := fun m S te env F st => by
 refine XG.bind0 ha st fun x te1 w1 m1 S1 F1 G1 st1 q1 sp1 sb1 => ?_
 cases x <;> first | trivial | skip
 rename_i b
 obtain ⟨rfl, rfl⟩ := q1
 cases b with
 | true => exact st1.out (hb m1 S1 te1 env F1 st1) fun n => by simp
 | false => exact Out.done j9 st1.env ⟨rfl, rfl⟩ sb1 sp1 st1.lt fun n => Nat.le_refl _
theorem fg (ha : XE da va) : XE (AQ da) (IT va) := fun m S te env F st => by
 refine XG.bind0 ha st fun x te1 w1 m1 S1 F1 G1 st1 q1 sp1 sb1 => ?_
 cases x <;> first | trivial | skip
 rename_i b
 obtain ⟨rfl, rfl⟩ := q1
 exact Out.done j9 st1.env ⟨rfl, rfl⟩ sb1 sp1 st1.lt fun n => Nat.le_refl _
end
inductive VF where
 | next | ret (t : T) | brk | cont
inductive VS where
 | fl (f : VF) (te : TE) | exc (C : Addr) (d : Option T) (te : TE)
abbrev cq := TE → Option VS
def RF (m : M) (S : Own) : VF → F → List Nat → Prop
 | .next, f, G => f = .next ∧ G = []
 | .brk, f, G => f = .brk ∧ G = []
 | .cont, f, G => f = .cont ∧ G = []
 | .ret t, f, G => ∃ w, f = .ret w ∧ Rp m S t w G
def Agr (L : List Nat) (env env' : Env) : Prop := env'.length = env.length ∧ ∀ i, L.contains i = false → env'[i]? = env[i]?
def OutS (m : M) (S : Own) (env : Env) (A L : List Nat) (x : Option RS) (y : Option VS) : Prop := match y with
 | none => True
 | some (.fl f te) => ∃ f' env' m' S' F G, x = ξ (.fl f' env' m') ∧ Aft m S A m' S' (F ++ G) ∧ EnvT m' S' te env' F ∧ RF m' S' f f' G ∧ Agr L env env'
 | some (.exc C d te) => ∃ dn env' m' S' F G, x = ξ (.exc C dn env' m') ∧ Aft m S A m' S' (F ++ G) ∧ EnvT m' S' te env' F ∧ RX m' S' d dn G ∧ Agr L env env'
def XS (L : List Nat) (ds : DS) (vs : cq) : Prop := ∀ m S te env F, Stt m S te env F → OutS m S env F L (ds env m) (vs te)
def ph {α : Type} (x : Option (VR α)) (k : α → TE → Option VS) : Option VS := match x with
 | none => ζ
 | some (.ok a te) => k a te
 | some (.exc C d te) => ξ (.exc C d te)
section
variable {m m' m1: M}{S S' S1: Own}{A B C F G L L': List Nat}{env env' env1: Env}{te: TE}
theorem Agr.refl : Agr L env env := ⟨rfl, fun _ _ => rfl⟩
theorem Agr.trans (a : Agr L env env1) (b : Agr L' env1 env') : Agr (L ++ L') env env' := ⟨b.1.trans a.1, fun i h => by
 have h1 : L.contains i = false ∧ L'.contains i = false := by
  simp only [List.contains_eq_mem, List.mem_append, decide_eq_false_iff_not, not_or] at h ⊢
  exact h
 rw [b.2 i h1.2, a.2 i h1.1]⟩
theorem Agr.mono (a : Agr L env env') (h : ∀ i, L'.contains i = false → L.contains i = false) : Agr L' env env' := ⟨a.1, fun i q => a.2 i (h i q)⟩
theorem Agr.l (a : Agr L env env') : Agr (L ++ L') env env' := a.mono fun i h => by
 simp only [List.contains_eq_mem, List.mem_append, decide_eq_false_iff_not, not_or] at h ⊢
 exact h.1
theorem Agr.r (a : Agr L' env env') : Agr (L ++ L') env env' := a.mono fun i h => by
 simp only [List.contains_eq_mem, List.mem_append, decide_eq_false_iff_not, not_or] at h ⊢
 exact h.2
theorem Agr.set {i : Nat} {x : Option W} : Agr [i] env (env.set i x) := ⟨by simp, fun j h => by
 have hj : i ≠ j := fun z => by simp [z] at h
 rw [List.getElem?_set_ne hj]⟩
theorem OutS.trans {x : Option RS} {y : Option VS} (a : Aft m S A m1 S1 B) (h : OutS m1 S1 env B L x y) : OutS m S env A L x y := by
 cases y with
 | none => trivial
 | some y =>
  cases y with
  | fl f te =>
   obtain ⟨f', env', m', S', F, G, e, q, r⟩ := h
   exact ⟨f', env', m', S', F, G, e, a.trans q, r⟩
  | exc C d te =>
   obtain ⟨f', env', m', S', F, G, e, q, r⟩ := h
   exact ⟨f', env', m', S', F, G, e, a.trans q, r⟩
theorem OutS.then {x : Option RS} {y : Option VS} (a : Agr L env env1) (h : OutS m S env1 A L' x y) : OutS m S env A (L ++ L') x y := by
 cases y with
 | none => trivial
 | some y =>
  cases y with
  | fl f te =>
   obtain ⟨f', env', m', S', F, G, e, q, r1, r2, r3⟩ := h
   exact ⟨f', env', m', S', F, G, e, q, r1, r2, a.trans r3⟩
  | exc C d te =>
   obtain ⟨f', env', m', S', F, G, e, q, r1, r2, r3⟩ := h
   exact ⟨f', env', m', S', F, G, e, q, r1, r2, a.trans r3⟩
theorem OutS.mono {x : Option RS} {y : Option VS} (h : OutS m S env A L x y) (l : ∀ i, L'.contains i = false → L.contains i = false) : OutS m S env A L' x y := by
 cases y with
 | none => trivial
 | some y =>
  cases y with
  | fl f te =>
   obtain ⟨f', env', m', S', F, G, e, q, r1, r2, r3⟩ := h
   exact ⟨f', env', m', S', F, G, e, q, r1, r2, r3.mono l⟩
  | exc C d te =>
   obtain ⟨f', env', m', S', F, G, e, q, r1, r2, r3⟩ := h
   exact ⟨f', env', m', S', F, G, e, q, r1, r2, r3.mono l⟩
theorem JS {i : Nat} (h : (L ++ L').contains i = false) : L.contains i = false := by
 simp only [List.contains_eq_mem, List.mem_append, decide_eq_false_iff_not, not_or] at h ⊢
 exact h.1
theorem JQ {i : Nat} (h : (L ++ L').contains i = false) : L'.contains i = false := by
 simp only [List.contains_eq_mem, List.mem_append, decide_eq_false_iff_not, not_or] at h ⊢
 exact h.2
theorem Out.bindS {α β : Type} {rel1 : Rl α β} {x : Option (R β)} {y : Option (VR α)} {k : β → M → Option RS} {k' : α → TE → Option VS} (h0 : Out rel1 m S env F x y) (st : Stt m S te env F)
  (hk : ∀ a te1 b m1 S1 F1 G1, Stt m1 S1 te1 env F1 → rel1 m1 S1 a b G1 → Sep (F1 ++ G1) → (∀ n, (F1 ++ G1).count n ≠ 0 → S1 n) → OutS m1 S1 env (F1 ++ G1) L (k b m1) (k' a te1)) :
  OutS m S env F L (bS x env k) (ph y k') := by
 cases y with
 | none => exact trivial
 | some y =>
  cases y with
  | ok a te1 =>
   obtain ⟨b, m1, S1, F1, G1, e, q, ev, r⟩ := h0
   rw [e]
   refine OutS.trans q (hk a te1 b m1 S1 F1 G1 ⟨ev, fun n => ?_, fun n h => q.sub n ?_, q.dom'⟩ r q.sep q.sub)
   ·have := q.sep n
    rw [List.count_append] at this
    omega
   ·rw [List.count_append]
    omega
  | exc C d te1 =>
   obtain ⟨b, m1, S1, F1, G1, e, q, ev, r⟩ := h0
   rw [e]
   exact ⟨b, env, m1, S1, F1, G1, rfl, q, ev, r, .refl⟩
theorem OutS.next (ev : EnvT m S te env' F) (ag : Agr L env env') (sub : ∀ n, A.count n ≠ 0 → S n) (sep : Sep A) (dom : ∀ n, S n → n < m.length) (le : ∀ n, F.count n ≤ A.count n) : OutS m S env A L (ξ (.fl .next env' m)) (ξ (.fl .next te)) :=
 ⟨.next, env', m, less S A F, F, [], rfl, by rw [List.append_nil]; exact Aft.less sub sep dom le, ev.sh (dY sub le), ⟨rfl, rfl⟩, ag⟩
end
def bO : cq := fun te => ξ (.fl .next te)
def vFl (f : VF) : cq := fun te => ξ (.fl f te)
def aX (a b : cq) : cq := fun te => match a te with
 | some (.fl .next te') => b te'
 | x => x
def j7 (a : VD) : cq := fun te => ph (a te) fun _ te1 => ξ (.fl .next te1)
def bG (a : VD) : cq := fun te => ph (a te) fun t te1 => ξ (.fl (.ret t) te1)
def eN (c : VT) (a b : cq) : cq := fun te => ph (c te) fun x te1 => if x = true then a te1 else b te1
section
variable {L L': List Nat}{da: DE}{va: VD}{ta: DT}{ua: VT}{ds du: DS}{vs vu: cq}
theorem fb : XS [] hM bO := fun m S te env F st => OutS.next st.env .refl st.sub st.sep st.lt fun n => Nat.le_refl _
theorem Fg {mz : M} {F : List Nat} (h0 : OutS m S env F L (ds env mz) (vs te)) (hb : XS L' du vu) : OutS m S env F (L ++ L') (cO ds du env mz) (aX vs vu te) := by
 unfold aX cO
 cases hy : vs te with
 | none => trivial
 | some y =>
  rw [hy] at h0
  cases y with
  | exc C d te1 =>
   obtain ⟨dn, env', m', S', F', G, e, q, r1, r2, r3⟩ := h0
   rw [e]
   exact ⟨dn, env', m', S', F', G, rfl, q, r1, r2, r3.l⟩
  | fl f te1 =>
   obtain ⟨f', env', m', S', F', G, e, q, r1, r2, r3⟩ := h0
   rw [e]
   cases f with
   | next =>
    obtain ⟨rfl, rfl⟩ := r2
    rw [List.append_nil] at q
    exact OutS.trans q (OutS.then r3 (hb m' S' te1 env' F' ⟨r1, q.sep, q.sub, q.dom'⟩))
   | brk => obtain ⟨rfl, rfl⟩ := r2; exact ⟨_, env', m', S', F', [], rfl, q, r1, ⟨rfl, rfl⟩, r3.l⟩
   | cont => obtain ⟨rfl, rfl⟩ := r2; exact ⟨_, env', m', S', F', [], rfl, q, r1, ⟨rfl, rfl⟩, r3.l⟩
   | ret t =>
    obtain ⟨w, rfl, r2⟩ := r2
    exact ⟨_, env', m', S', F', G, rfl, q, r1, ⟨w, rfl, r2⟩, r3.l⟩
theorem bh (ha : XS L ds vs) (hb : XS L' du vu) : XS (L ++ L') (cO ds du) (aX vs vu) := fun m S te env F st => Fg (ha m S te env F st) hb
theorem dB (ha : XE da va) : XS [] (hH da) (bG va) := fun m S te env F st => by
 refine Out.bindS (ha m S te env F st) st fun x te1 w1 m1 S1 F1 G1 st1 q1 sp1 sb1 => ?_
 exact ⟨.ret w1, env, m1, S1, F1, G1, rfl, Aft.refl sb1 sp1 st1.lt, st1.env, ⟨w1, rfl, q1⟩, .refl⟩
theorem jn (hc : XT ta ua) (ha : XS L ds vs) (hb : XS L' du vu) : XS (L ++ L') (wc ta ds du) (eN ua vs vu) := fun m S te env F st => by
 refine Out.bindS (hc m S te env F st) st fun x te1 w1 m1 S1 F1 G1 st1 q1 sp1 sb1 => ?_
 obtain ⟨rfl, rfl⟩ := q1
 rw [List.append_nil]
 cases x with
 | true => exact (ha m1 S1 te1 env F1 st1).mono fun i h => JS h
 | false => exact (hb m1 S1 te1 env F1 st1).mono fun i h => JQ h
end
abbrev VG := T → TE → Option TE
abbrev D9 := List T → TE → Option TE
def Di (L : List Nat) (g : DG) (v : VG) : Prop := ∀ m S te env F t w G, EnvT m S te env F → Rp m S t w G → match v t te with
 | none => True
 | some te' => ∃ env' F', g w env m = ξ (env', m) ∧ EnvT m S te' env' F' ∧ (∀ n, F'.count n ≤ F.count n + G.count n) ∧ Agr L env env'
def Dh (L : List Nat) (g : Bg) (v : D9) : Prop := ∀ m S te env F t w G, EnvT m S te env F → Rps m S t w G → match v t te with
 | none => True
 | some te' => ∃ env' F', g w env m = ξ (env', m) ∧ EnvT m S te' env' F' ∧ (∀ n, F'.count n ≤ F.count n + G.count n) ∧ Agr L env env'
def gName (i : Nat) : VG := fun t te => ξ (te.set i (ξ t))
def gF : D9 := fun ts te => match ts with
 | [] => ξ te
 | _ => ζ
def bw (g : VG) (gs : D9) : D9 := fun ts te => match ts with
 | t :: r => match g t te with
  | some te' => gs r te'
  | none => ζ
 | [] => ζ
def jE (n : Nat) (gs : D9) : VG := fun t te => match t with
 | .tup ts => if ts.length = n then gs ts te else ζ
 | _ => ζ
def cb (a : VD) (g : VG) : cq := fun te => ph (a te) fun t te1 => match g t te1 with
 | some te2 => ξ (.fl .next te2)
 | none => ζ
section
variable {L L': List Nat}{da: DE}{va: VD}{das: DA}{vas: VA}{g: DG}{v: VG}{gs: Bg}{vgs: D9}
theorem bc {i : Nat} : Di [i] (bP i) (gName i) := fun m S te env F t w G ev q => by
 obtain ⟨F', ev', le⟩ := ev.put i q
 exact ⟨_, F', rfl, ev', le, .set⟩
theorem Bi : Dh [] AU gF := fun m S te env F ts ws G ev q => by
 cases ts with
 | nil => obtain ⟨rfl, rfl⟩ := q; exact ⟨env, F, rfl, ev, fun n => by simp, .refl⟩
 | cons t ts => trivial
theorem sJ (h1 : Di L g v) (h2 : Dh L' gs vgs) : Dh (L ++ L') (mB g gs) (bw v vgs) := fun m S te env F ts ws G ev q => by
 cases ts with
 | nil => trivial
 | cons t ts =>
  obtain ⟨w, ws', G1, G2, rfl, q1, q2, rfl⟩ := q
  unfold bw
  simp only
  have h3 := h1 m S te env F t w G1 ev q1
  cases hx : v t te with
  | none => trivial
  | some te' =>
   rw [hx] at h3
   obtain ⟨env1, F1, e1, ev1, le1, ag1⟩ := h3
   have h4 := h2 m S te' env1 F1 ts ws' G2 ev1 q2
   simp only
   cases hy : vgs ts te' with
   | none => trivial
   | some te2 =>
    rw [hy] at h4
    obtain ⟨env2, F2, e2, ev2, Cq, ag2⟩ := h4
    exact ⟨env2, F2, by simp [mB, e1, e2], ev2, fun n => by rw [List.count_append]; have := le1 n; have := Cq n; omega, ag1.trans ag2⟩
theorem Eg {n : Nat} (h : Dh L gs vgs) : Di L (AY n gs) (jE n vgs) := fun m S te env F t w G ev q => by
 cases t <;> first | trivial | skip
 rename_i ts
 obtain ⟨ws, rfl, q⟩ := q
 unfold jE
 simp only
 by_cases hl : ts.length = n
 ·rw [if_pos hl]
  have := h m S te env F ts ws G ev q
  cases hx : vgs ts te with
  | none => trivial
  | some te' =>
   rw [hx] at this
   obtain ⟨env', F', e, r⟩ := this
   exact ⟨env', F', by simp only [AY]; rw [if_pos (by rw [← q.len]; exact hl)]; exact e, r⟩
 ·rw [if_neg hl]
  trivial
theorem b9 (ha : XE da va) (hg : Di L g v) : XS L (dU da g) (cb va v) := fun m S te env F st => by
 refine Out.bindS (ha m S te env F st) st fun x te1 w1 m1 S1 F1 G1 st1 q1 sp1 sb1 => ?_
 have := hg m1 S1 te1 env F1 x w1 G1 st1.env q1
 cases hx : v x te1 with
 | none => trivial
 | some te2 =>
  rw [hx] at this
  obtain ⟨env', F', e, ev', le, ag⟩ := this
  rw [e]
  exact OutS.next ev' ag sb1 sp1 st1.lt fun n => by rw [List.count_append]; exact le n
def IL (i j : Nat) (as : VA) : cq := fun te => ph (as te) fun ts te1 => match ts with
 | [x, y] => ξ (.fl .next ((te1.set i (ξ x)).set j (ξ y)))
 | _ => ζ
def yE (i j l : Nat) (as : VA) : cq := fun te => ph (as te) fun ts te1 => match ts with
 | [x, y, z] => ξ (.fl .next (((te1.set i (ξ x)).set j (ξ y)).set l (ξ z)))
 | _ => ζ
theorem Bh {i j l : Nat} (ha : XA das vas) : XS [i, j, l] (wa i j l das) (yE i j l vas) := fun m S te env F st => by
 refine Out.bindS (ha m S te env F st) st fun x te1 w1 m1 S1 F1 G1 st1 q1 sp1 sb1 => ?_
 match x, q1 with
 | [], _ => trivial
 | [_], _ => trivial
 | [_, _], _ => trivial
 | [x, y, z], q1 =>
  obtain ⟨w, ws', G2, G3, rfl, q2, ⟨w', ws'', G4, G5, rfl, q3, ⟨w3, ws3, G6, G7, rfl, q4, ⟨rfl, rfl⟩, rfl⟩, rfl⟩, rfl⟩ := q1
  obtain ⟨F2, ev2, Cq⟩ := st1.env.put i q2
  obtain ⟨F3, ev3, le3⟩ := ev2.put j q3
  obtain ⟨F4, ev4, le4⟩ := ev3.put l q4
  exact OutS.next ev4 (Agr.trans (L := [i]) .set (Agr.trans (L := [j]) .set .set)) sb1 sp1 st1.lt fun n => by simp only [List.count_append]; have := Cq n; have := le3 n; have := le4 n; omega
 | _ :: _ :: _ :: _ :: _, _ => trivial
end
abbrev VI := TE → Option (VR (List T))
def Chk (m : M) (S : Own) (chk : M → Bool) : Prop := ∀ m2 : M, (∀ (n : Nat) (o : O), m[n]? = ξ o → ¬ S n → Kx o m2[n]?) → chk m2 = true
def Jw : Rl (List T) Wk := fun m S ts k G => G = [] ∧ Rps m S ts k.items [] ∧ Chk m S k.chk
abbrev XI (di : DI) (vi : VI) : Prop := XG Jw di vi
section
variable {m m' m2: M}{S S': Own}{A B G: List Nat}{t: T}{ts hs: List T}{w: W}{ws: List W}
theorem Chk.sh {chk : M → Bool} (h : Chk m S chk) (hs : ∀ n, S' n → S n) : Chk m S' chk := fun m2 k => h m2 fun n o e q => k n o e fun z => q (hs n z)
theorem tW : Bf Jw := fun _ _ _ _ _ _ h q => ⟨q.1, q.2.1.sh h, q.2.2.sh h⟩
theorem Aft.chk {chk : M → Bool} (a : Aft m S A m' S' B) (sub : ∀ n, A.count n ≠ 0 → S n) (h : Chk m S chk) : Chk m' S' chk := fun m2 k => h m2 fun n o e q => by
 have hs : ¬ S' n := fun z => by
  rcases (a.up n).mp z with z | z
  ·exact q z.1
  ·exact q (sub n (a.new n (oN e) z))
 rcases (a.kx (G := []) sub (by simp) e).2 q with h1 | ⟨o', hl, h1⟩
 ·exact k n o h1 hs
 ·exact .inr ⟨o', hl, (k n o' h1 hs).plain (wD hl)⟩
theorem Chk.now {chk : M → Bool} (h : Chk m S chk) : chk m = true := h m fun _ _ e _ => .inl e
theorem Rps.cons_nil (h : Rps m S (t :: ts) ws []) : ∃ w ws', ws = w :: ws' ∧ Rp m S t w [] ∧ Rps m S ts ws' [] := by
 obtain ⟨w, ws', G1, G2, e, h1, h2, q⟩ := h
 obtain ⟨rfl, rfl⟩ := List.append_eq_nil_iff.mp q.symm
 exact ⟨w, ws', e, h1, h2⟩
end
def IY (a : VD) : VI := fun te => bu (a te) fun t te1 => match t with
 | .nd false .lst ts => ξ (.ok ts te1)
 | .scr ns => ξ (.ok (ns.map T.int) te1)
 | _ => ζ
def IW (a : VD) : VI := fun te => bu (a te) fun t te1 => match t with
 | .tup ts => if hots ts = true then ζ else ξ (.ok ts te1)
 | .im (.tpl _) ts => if hots ts = true then ζ else ξ (.ok ts te1)
 | _ => ζ
def iS (lo : Int) (n : Nat) : List T := (List.range n).map fun (i : Nat) => T.int (lo + i)
def iH (as : VA) : VI := fun te => bu (as te) fun ts te1 => match ts with
 | [.int j] => if sm 1000000000000 j = true then ξ (.ok (iS 0 j.toNat) te1) else ζ
 | _ => ζ
def yC (as : VA) : VI := fun te => bu (as te) fun ts te1 => match ts with
 | [.int i, .int j] => if (sm 1000000000000 i && sm 1000000000000 j) = true then ξ (.ok (iS i (j - i).toNat) te1) else ζ
 | _ => ζ
section
variable {L L': List Nat}{da: DE}{va: VD}{das: DA}{vas: VA}{ta: DT}{ua: VT}{ds: DS}{vs: cq}{g: DG}{v: VG}{di: DI}{vi: VI}
theorem Rps.ints {m : M} {S : Own} : ∀ {ns : List Int}, Rps m S (ns.map T.int) (ns.map W.int) []
 | [] => ⟨rfl, rfl⟩
 | n :: ns => ⟨_, _, [], [], rfl, ⟨rfl, rfl⟩, Rps.ints, rfl⟩
theorem Ef (ha : XE da va) : XI (FT da) (IY va) := fun m S te env F st => by
 refine XG.bind0 ha st fun x te1 w1 m1 S1 F1 G1 st1 q1 sp1 sb1 => ?_
 cases x <;> first | trivial | skip
 ·rename_i ns
  obtain ⟨rfl, rfl⟩ := q1
  simp only [dy]
  exact Out.done tW (G := []) st1.env ⟨rfl, Rps.ints, fun m2 _ => by simp [dy]⟩ sb1 sp1 st1.lt fun n => Nat.le_refl _
 ·rename_i o k ts
  cases o <;> cases k <;> first | trivial | skip
  obtain ⟨n, ws, G', rfl, e1, ft, h, c⟩ := q1
  rcases c with ⟨c, _⟩ | ⟨_, hS, rfl, rfl⟩
  ·cases c
  ·have e2 : m1[n]? = ξ (.lst ws) := e1.lst
   simp only [dy, e2]
   refine Out.done tW (G := []) st1.env ⟨rfl, h, fun m2 k => ?_⟩ sb1 sp1 st1.lt fun n => Nat.le_refl _
   simp only [isLst_self, dy, (k n _ e2 hS).plain rfl]
theorem Ee (ha : XE da va) : XI (Aj da) (IW va) := fun m S te env F st => by
 refine XG.bind0 ha st fun x te1 w1 m1 S1 F1 G1 st1 q1 sp1 sb1 => ?_
 cases x <;> first | trivial | skip
 ·rename_i ts
  obtain ⟨ws, rfl, q⟩ := q1
  simp only
  by_cases hh : hots ts = true
  ·rw [if_pos hh]; trivial
  ·rw [if_neg hh]
   have hc := Rps.cold (by simpa using hh) q
   subst hc
   exact Out.done tW (G := []) st1.env ⟨rfl, q, fun m2 _ => rfl⟩ sb1 sp1 st1.lt fun n => Nat.le_refl _
 ·rename_i k ts
  cases k with
  | exc C fs => trivial
  | tpl nd =>
   obtain ⟨ws, rfl, q⟩ := q1
   simp only
   by_cases hh : hots ts = true
   ·rw [if_pos hh]; trivial
   ·rw [if_neg hh]
    have hc := Rps.cold (by simpa using hh) q
    subst hc
    exact Out.done tW (G := []) st1.env ⟨rfl, q, fun m2 _ => rfl⟩ sb1 sp1 st1.lt fun n => Nat.le_refl _
theorem Rps.rng {m : M} {S : Own} {lo : Int} {n : Nat} : Rps m S (iS lo n) (SB.rng lo n) [] := by
 unfold iS SB.rng
 generalize List.range n = l
 induction l with
 | nil => exact ⟨rfl, rfl⟩
 | cons a l ih => exact ⟨_, _, [], [], rfl, ⟨rfl, rfl⟩, ih, rfl⟩
theorem Rps.int1 {m : M} {S : Own} {i : Int} {ws : List W} {G : List Nat} (h : Rps m S [.int i] ws G) : ws = [.int i] ∧ G = [] := by
 obtain ⟨w, ws', G1, G2, rfl, ⟨rfl, rfl⟩, ⟨rfl, rfl⟩, rfl⟩ := h
 exact ⟨rfl, rfl⟩
theorem qU (ha : XA das vas) : XI (oL das) (iH vas) := fun m S te env F st => by
 refine XG.bind0 ha st fun x te1 w1 m1 S1 F1 G1 st1 q1 sp1 sb1 => ?_
 rcases x with _ | ⟨x, _ | ⟨y, x2⟩⟩
 ·trivial
 ·cases x <;> first | trivial | skip
  rename_i j
  obtain ⟨rfl, rfl⟩ := Rps.int1 q1
  simp only
  by_cases hh : sm 1000000000000 j = true
  ·rw [if_pos hh, if_pos hh]
   exact Out.done tW (G := []) st1.env ⟨rfl, Rps.rng, fun m2 _ => rfl⟩ sb1 sp1 st1.lt fun n => Nat.le_refl _
  ·rw [if_neg hh, if_neg hh]; trivial
 ·cases x <;> trivial
def cM (g : VG) (body : cq) : List T → TE → Option VS
 | [], te => ξ (.fl .next te)
 | t :: ts, te => match g t te with
  | none => ζ
  | some te1 => match body te1 with
   | some (.fl .next te2) => cM g body ts te2
   | some (.fl .cont te2) => cM g body ts te2
   | some (.fl .brk te2) => ξ (.fl .next te2)
   | x => x
def g8 (vi : VI) (g : VG) (body : cq) : cq := fun te => ph (vi te) fun ts te1 => cM g body ts te1
theorem wQ {chk : M → Bool} (hg : Di L g v) (hb : XS L' ds vs) : ∀ (ts : List T) (ws : List W) (te : TE) (env : Env) (m : M) (S : Own) (F : List Nat), Stt m S te env F → Rps m S ts ws [] → Chk m S chk → OutS m S env F (L ++ L') (gX chk g ds ws env m) (cM v vs ts te)
  | [], _, te, env, m, S, F, st, h, c => by
    obtain ⟨rfl, _⟩ := h
    unfold gX cM
    rw [if_pos c.now]
    exact OutS.next st.env .refl st.sub st.sep st.lt fun n => Nat.le_refl _
  | t :: ts, _, te, env, m, S, F, st, h, c => by
    obtain ⟨w, ws, rfl, h1, h2⟩ := h.cons_nil
    unfold gX cM
    rw [if_pos c.now]
    have hx := hg m S te env F t w [] st.env h1
    cases hv : v t te with
    | none => trivial
    | some te1 =>
      rw [hv] at hx
      obtain ⟨env1, F1, e1, ev1, le1, ag1⟩ := hx
      have le1' : ∀ n, F1.count n ≤ F.count n := fun n => by have := le1 n; simpa using this
      have a1 := Aft.less st.sub st.sep st.lt le1'
      have sh1 := dY st.sub le1'
      have st1 : Stt m (less S F F1) te1 env1 F1 := ⟨ev1.sh sh1, a1.sep, a1.sub, a1.dom'⟩
      have hy := hb m _ te1 env1 F1 st1
      simp only [e1]
      cases hw : vs te1 with
      | none => trivial
      | some y =>
        rw [hw] at hy
        cases y with
        | exc C d te2 =>
          obtain ⟨dn, env2, m2, S2, F2, G2, e2, q2, r1, r2, r3⟩ := hy
          rw [e2]
          exact ⟨dn, env2, m2, S2, F2, G2, rfl, a1.trans q2, r1, r2, ag1.trans r3⟩
        | fl f te2 =>
          obtain ⟨f', env2, m2, S2, F2, G2, e2, q2, r1, r2, r3⟩ := hy
          rw [e2]
          have a2 := a1.trans q2
          have go : f' = .next ∨ f' = .cont → G2 = [] → OutS m S env F (L ++ L') (gX chk g ds ws env2 m2) (cM v vs ts te2) := by
            intro _ z
            subst z
            rw [List.append_nil] at a2
            have ih := wQ (chk := chk) hg hb ts ws te2 env2 m2 S2 F2 ⟨r1, a2.sep, a2.sub, a2.dom'⟩ (a2.rps st.sub (by simp) (by simp) h2) (a2.chk st.sub c)
            exact (OutS.trans a2 (OutS.then (ag1.trans r3) ih)).mono fun i h => by
              simp only [List.contains_eq_mem, List.mem_append, decide_eq_false_iff_not, not_or] at h ⊢
              exact ⟨h, h⟩
          cases f with
          | next => obtain ⟨rfl, rfl⟩ := r2; exact go (.inl rfl) rfl
          | cont => obtain ⟨rfl, rfl⟩ := r2; exact go (.inr rfl) rfl
          | brk =>
            obtain ⟨rfl, rfl⟩ := r2
            exact ⟨.next, env2, m2, S2, F2, [], rfl, a2, r1, ⟨rfl, rfl⟩, ag1.trans r3⟩
          | ret t =>
            obtain ⟨w, rfl, r2⟩ := r2
            exact ⟨.ret w, env2, m2, S2, F2, G2, rfl, a2, r1, ⟨w, rfl, r2⟩, ag1.trans r3⟩
theorem nN (hi : XI di vi) (hg : Di L g v) (hb : XS L' ds vs) : XS (L ++ L') (sY di g ds) (g8 vi v vs) := fun m S te env F st => by
 refine Out.bindS (hi m S te env F st) st fun x te1 k m1 S1 F1 G1 st1 q1 sp1 sb1 => ?_
 obtain ⟨rfl, q, c⟩ := q1
 rw [List.append_nil]
 exact wQ hg hb x k.items te1 env m1 S1 F1 st1 q c
def aR (te : TE) : List Nat → TE
 | [] => te
 | v :: vs => (aR te vs).set v ζ
def dZ (te : TE) : List Nat → Bool
 | [] => true
 | v :: vs => (match te[v]? with
  | some (ξ t) => !hot t
  | _ => true) && dZ te vs
def dO (te te' : TE) : List Nat → TE
 | [] => te'
 | v :: vs => (dO te te' vs).set v (match te[v]? with
  | some x => x
  | none => ζ)
def jr (g : VG) (tt : VT) (elt : VD) (vs : List Nat) : List T → TE → Option (List T × TE)
  | [], te => ξ ([], te)
  | t :: ts, te => match g t te with
    | none => ζ
    | some te1 => match tt te1 with
      | some (.ok true te2) => (match elt te2 with
        | some (.ok y te3) => (match jr g tt elt vs ts (aR te3 vs) with
          | some (ys, te4) => ξ (y :: ys, te4)
          | none => ζ)
        | _ => ζ)
      | some (.ok false te2) => jr g tt elt vs ts (aR te2 vs)
      | _ => ζ
def xi (vi : VI) (g : VG) (tt : VT) (elt : VD) (vs : List Nat) : VD := fun te => bu (vi te) fun ts te1 => if ts.length ≤ sizeLine then (if dZ te1 vs = true then (match jr g tt elt vs ts (aR te1 vs) with
  | some (ys, te2) => ξ (.ok (.nd true .lst ys) (dO te1 te2 vs))
  | none => ζ) else ζ) else ζ
def gQ : VT := fun te => ξ (.ok true te)
theorem ym : XT vY gQ := fun m S te env F st => Out.done oE st.env ⟨rfl, rfl⟩ st.sub st.sep st.lt fun n => by rw [List.append_nil]; omega
theorem EnvT.other {m : M} {S : Own} : ∀ {te : TE} {env env' : Env} {F : List Nat}, EnvT m S te env F → env'.length = env.length → (∀ (i : Nat) (t : T), te[i]? = ξ (ξ t) → env'[i]? = env[i]?) → EnvT m S te env' F
 | [], _, env', _, h, l, _ => by
  rw [h.1] at l
  exact ⟨List.length_eq_zero_iff.mp l, h.2⟩
 | none :: te, _, env', _, h, l, e => by
  obtain ⟨x, env1, rfl, h⟩ := h
  cases env' with
  | nil => simp at l
  | cons y env' => exact ⟨y, env', rfl, EnvT.other h (by simpa using l) fun i t q => by simpa using e (i + 1) t (by simpa using q)⟩
 | some t :: te, _, env', _, h, l, e => by
  obtain ⟨w, env1, G, F', rfl, h1, h, rfl⟩ := h
  cases env' with
  | nil => simp at l
  | cons y env' =>
   have hy := e 0 t rfl
   simp at hy
   subst hy
   exact ⟨w, env', G, F', rfl, h1, EnvT.other h (by simpa using l) fun i t q => by simpa using e (i + 1) t (by simpa using q), rfl⟩
theorem pR {te : TE} : ∀ {vs : List Nat} {i : Nat} {t : T}, (aR te vs)[i]? = ξ (ξ t) → vs.contains i = false ∧ te[i]? = ξ (ξ t)
 | [], _, _, h => ⟨rfl, h⟩
 | v :: vs, i, t, h => by
  unfold aR at h
  rw [List.getElem?_set] at h
  split at h
  ·split at h <;> cases h
  ·rename_i hv
   obtain ⟨h1, h2⟩ := pR h
   refine ⟨?_, h2⟩
   rw [List.contains_cons, h1, Bool.or_false]
   simp only [beq_eq_false_iff_ne, ne_eq]
   exact fun z => hv z.symm
theorem EnvT.wipes {m : M} {S : Own} {te : TE} {env : Env} {F : List Nat} (h : EnvT m S te env F) : ∀ (vs : List Nat), ∃ F', EnvT m S (aR te vs) env F' ∧ ∀ n, F'.count n ≤ F.count n
 | [] => ⟨F, h, fun n => Nat.le_refl _⟩
 | v :: vs => by
  obtain ⟨F1, h1, l1⟩ := EnvT.wipes h vs
  obtain ⟨F2, h2, l2⟩ := h1.wipe v
  exact ⟨F2, h2, fun n => Nat.le_trans (l2 n) (l1 n)⟩
theorem EnvT.wipesO {m : M} {S : Own} {te : TE} {env env' : Env} {F : List Nat} {vs : List Nat} (h : EnvT m S te env F) (ag : Agr vs env env') : ∃ F', EnvT m S (aR te vs) env' F' ∧ ∀ n, F'.count n ≤ F.count n := by
 obtain ⟨F', h', l⟩ := h.wipes vs
 exact ⟨F', h'.other ag.1 fun i t e => ag.2 i (pR e).1, l⟩
theorem Agr.symm {L : List Nat} {env env' : Env} (a : Agr L env env') : Agr L env' env := ⟨a.1.symm, fun i h => (a.2 i h).symm⟩
theorem wipeE_agr {env : Env} : ∀ {vs : List Nat}, Agr vs env (gk env vs)
 | [] => .refl
 | v :: vs => by
  have := Agr.trans (wipeE_agr (env := env) (vs := vs)) (Agr.set (i := v) (x := ζ))
  exact this.mono fun i h => by
   simp only [List.contains_eq_mem, List.mem_append, List.mem_cons, List.not_mem_nil, or_false, decide_eq_false_iff_not, not_or] at h ⊢
   exact ⟨h.2, h.1⟩
theorem EnvT.rest {m : M} {S : Own} {te0 te : TE} {env env0 : Env} {F : List Nat} (h : EnvT m S te env F) : ∀ {vs : List Nat}, (∀ v ∈ vs, ∀ t, te0[v]? = ξ (ξ t) → ∃ w, env[v]? = ξ (ξ w) ∧ Rp m S t w []) → ∃ F', EnvT m S (dO te0 te vs) env F' ∧ ∀ n, F'.count n ≤ F.count n
 | [], _ => ⟨F, h, fun n => Nat.le_refl _⟩
 | v :: vs, hv => by
  obtain ⟨F1, h1, l1⟩ := EnvT.rest (te0 := te0) (env0 := env0) h (vs := vs) fun x hx => hv x (by simp [hx])
  unfold dO
  cases hx : te0[v]? with
  | none =>
   obtain ⟨F2, h2, l2⟩ := h1.wipe v
   exact ⟨F2, h2, fun n => Nat.le_trans (l2 n) (l1 n)⟩
  | some y =>
   cases y with
   | none =>
    obtain ⟨F2, h2, l2⟩ := h1.wipe v
    exact ⟨F2, h2, fun n => Nat.le_trans (l2 n) (l1 n)⟩
   | some t =>
    obtain ⟨w, e, q⟩ := hv v (by simp) t hx
    obtain ⟨F2, h2, l2⟩ := h1.back v e q
    exact ⟨F2, h2, fun n => by have := l1 n; have := l2 n; simp at this; omega⟩
theorem oW {te : TE} : ∀ {vs : List Nat}, dZ te vs = true → ∀ v ∈ vs, ∀ t, te[v]? = ξ (ξ t) → hot t = false
 | v :: vs, h, x, hx, t, e => by
  unfold dZ at h
  rw [Bool.and_eq_true] at h
  rcases List.mem_cons.mp hx with rfl | hx
  ·rw [e] at h
   simpa using h.1
  ·exact oW h.2 x hx t e
theorem vA {chk : M → Bool} {zs : List Nat} (hg : Di L g v) (hl : ∀ i, zs.contains i = false → L.contains i = false) (ht : XT ta ua) (he : XE da va) : ∀ (ts : List T) (ws : List W) (te : TE) (env : Env) (m : M) (S : Own) (F : List Nat), Stt m S te env F → Rps m S ts ws [] → Chk m S chk → match jr v ua va zs ts te with
    | none => True
    | some (ys, te') => ∃ us m' S' F' G, gE chk g ta da env ws m = ξ (us, m') ∧ Aft m S F m' S' (F' ++ G) ∧ EnvT m' S' te' env F' ∧ Rps m' S' ys us G
  | [], _, te, env, m, S, F, st, h, c => by
    obtain ⟨rfl, _⟩ := h
    unfold gE jr
    rw [if_pos c.now]
    exact ⟨[], m, S, F, [], rfl, by rw [List.append_nil]; exact st.own, st.env, rfl, rfl⟩
  | t :: ts, _, te, env, m, S, F, st, h, c => by
    obtain ⟨w, ws, rfl, h1, h2⟩ := h.cons_nil
    unfold gE jr
    rw [if_pos c.now]
    have hx := hg m S te env F t w [] st.env h1
    cases hv : v t te with
    | none => trivial
    | some te1 =>
      rw [hv] at hx
      obtain ⟨env1, F1, e1, ev1, le1, ag1⟩ := hx
      have ag1' : Agr zs env1 env := (ag1.mono hl).symm
      have le1' : ∀ n, F1.count n ≤ F.count n := fun n => by have := le1 n; simpa using this
      have a1 := Aft.less st.sub st.sep st.lt le1'
      have sh1 := dY st.sub le1'
      have st1 : Stt m (less S F F1) te1 env1 F1 := ⟨ev1.sh sh1, a1.sep, a1.sub, a1.dom'⟩
      have hy := ht m _ te1 env1 F1 st1
      simp only [e1]
      cases hw : ua te1 with
      | none => trivial
      | some y =>
        rw [hw] at hy
        cases y with
        | exc C d te2 => trivial
        | ok b te2 =>
          obtain ⟨b', m2, S2, F2, G2, e2, q2, r1, rfl, rfl⟩ := hy
          rw [e2]
          have a2 := a1.trans q2
          rw [List.append_nil] at a2
          have st2 : Stt m2 S2 te2 env1 F2 := ⟨r1, a2.sep, a2.sub, a2.dom'⟩
          cases b with
          | false =>
            simp only
            obtain ⟨F3, ev3, le3⟩ := r1.wipesO ag1'
            have a3 := Aft.less st2.sub st2.sep st2.lt le3
            have a4 := a2.trans a3
            have ih := vA (chk := chk) hg hl ht he ts ws (aR te2 zs) env m2 _ F3 ⟨ev3.sh (dY st2.sub le3), a3.sep, a3.sub, a3.dom'⟩ (a4.rps st.sub (by simp) (by simp) h2) (a4.chk st.sub c)
            cases hz : jr v ua va zs ts (aR te2 zs) with
            | none => trivial
            | some z =>
              rw [hz] at ih
              obtain ⟨us, m', S', F', G, e, q, r⟩ := ih
              exact ⟨us, m', S', F', G, by rw [e], a4.trans q, r⟩
          | true =>
            simp only
            have hE := he m2 S2 te2 env1 F2 st2
            cases hu : va te2 with
            | none => trivial
            | some z =>
              rw [hu] at hE
              cases z with
              | exc C d te3 => trivial
              | ok y te3 =>
                obtain ⟨wy, m3, S3, F3, Gy, e3, q3, ev3, ry⟩ := hE
                simp only [e3]
                have a3 := a2.trans q3
                obtain ⟨F4, ev4, le4⟩ := ev3.wipesO ag1'
                have le5 : ∀ n, (F4 ++ Gy).count n ≤ (F3 ++ Gy).count n := fun n => by simp only [List.count_append]; have := le4 n; omega
                have a4 := a3.trans (Aft.less a3.sub a3.sep a3.dom' le5)
                have sh4 := dY a3.sub le5
                have sp4 : Sep F4 := fun n => by have := a4.sep n; rw [List.count_append] at this; omega
                have st4 : Stt m3 (less S3 (F3 ++ Gy) (F4 ++ Gy)) (aR te3 zs) env F4 := ⟨ev4.sh sh4, sp4, fun n h => a4.sub n (by rw [List.count_append]; omega), a4.dom'⟩
                have ih := vA (chk := chk) hg hl ht he ts ws (aR te3 zs) env m3 _ F4 st4 (a4.rps st.sub (by simp) (by simp) h2) (a4.chk st.sub c)
                cases hz : jr v ua va zs ts (aR te3 zs) with
                | none => trivial
                | some z =>
                  rw [hz] at ih
                  obtain ⟨us, m', S', F', G, e, q, ev, r⟩ := ih
                  have qf := q.frame (G := Gy) (fun n h => a4.sub n (by rw [List.count_append]; omega)) a4.sep
                  have dis : ∀ n, Gy.count n ≠ 0 → F4.count n = 0 := fun n h => by have := a4.sep n; rw [List.count_append] at this; omega
                  refine ⟨wy :: us, m', S', F', Gy ++ G, by simp only [e], (a4.trans qf).perm (fun n => rfl) (fun n => by simp only [List.count_append]; omega), ev, wy, us, Gy, G, rfl, ?_, r, rfl⟩
                  exact q.rp st4.sub dis (fun n h => a4.sub n (by rw [List.count_append]; omega)) (ry.sh sh4)
theorem Fx {zs : List Nat} {m1 : M} {S1 : Own} {te1 : TE} {env : Env} {F1 : List Nat} {x : List T} {k : Wk} (hg : Di L g v) (ht : XT ta ua) (he : XE da va) (hl : ∀ i ∈ L, zs.contains i = true) (st1 : Stt m1 S1 te1 env F1) (q : Rps m1 S1 x k.items []) (c : Chk m1 S1 k.chk) :
    Out tf m1 S1 env F1 (if k.items.length ≤ sizeLine then match gE k.chk g ta da (gk env zs) k.items m1 with
      | some (ys, m2) => ξ (.ok (.ref m2.length) (m2 ++ [.lst ys]))
      | none => ζ
    else ζ) (if x.length ≤ sizeLine then (if dZ te1 zs = true then (match jr v ua va zs x (aR te1 zs) with
      | some (ys, te2) => ξ (.ok (.nd true .lst ys) (dO te1 te2 zs))
      | none => ζ) else ζ) else ζ) := by
  have hll : ∀ i, zs.contains i = false → L.contains i = false := fun i h => by
    cases hc : L.contains i with
    | false => rfl
    | true =>
      rw [hl i (by simpa using hc)] at h
      cases h
  by_cases hle : x.length ≤ sizeLine
  · rw [if_pos hle, if_pos (by rw [← Rps.len q]; exact hle)]
    by_cases hcold : dZ te1 zs = true
    · rw [if_pos hcold]
      obtain ⟨F2, ev2, Cq⟩ := st1.env.wipesO (vs := zs) (wipeE_agr (env := env))
      have a2 := Aft.less st1.sub st1.sep st1.lt Cq
      have sh2 := dY st1.sub Cq
      have hh := vA (chk := k.chk) (zs := zs) hg hll ht he x k.items (aR te1 zs) (gk env zs) m1 _ F2 ⟨ev2.sh sh2, a2.sep, a2.sub, a2.dom'⟩ (q.sh sh2) (c.sh sh2)
      cases hz : jr v ua va zs x (aR te1 zs) with
      | none => trivial
      | some z =>
        rw [hz] at hh
        obtain ⟨us, m', S', F', G, e, qa, ev, r⟩ := hh
        simp only [e]
        have a3 := a2.trans qa
        have ev4 := ev.other (env' := env) wipeE_agr.symm.1
        obtain ⟨F5, ev5, le5⟩ := ev.wipesO (vs := zs) (wipeE_agr (env := env)).symm
        obtain ⟨F6, ev6, le6⟩ := EnvT.rest (te0 := te1) (env0 := env) ev5 (vs := zs) fun y hy t e0 => by
          obtain ⟨w, G0, e1, q1⟩ := st1.env.get e0
          have hc := Rp.cold (oW hcold y hy t e0) q1
          subst hc
          exact ⟨w, e1, a3.rp st1.sub (by simp) (by simp) q1⟩
        have hrest : ∀ {vs : List Nat} {a : TE}, dO te1 (aR a vs) vs = dO te1 a vs := by
          intro vs a
          induction vs with
          | nil => rfl
          | cons v vs ih =>
            unfold dO aR
            have : ∀ {b : TE} {x y : Option T} {us : List Nat}, dO te1 (b.set v x) us = (dO te1 b us).set v x ∨ us.contains v = true := by
              intro b x y us
              induction us with
              | nil => exact .inl rfl
              | cons u us ih2 =>
                by_cases huv : u = v
                · right; simp [huv]
                · rcases ih2 with ih2 | ih2
                  · left
                    unfold dO
                    rw [ih2, List.set_comm _ _ (Ne.symm huv)]
                  · right
                    rw [List.contains_cons, ih2, Bool.or_true]
            rcases this (b := aR a vs) (x := ζ) (y := ζ) (us := vs) with h | h
            · rw [h, ih, List.set_set]
            · have hset : ∀ {b : TE} {x : Option T} {us : List Nat}, us.contains v = true → dO te1 (b.set v x) us = dO te1 b us := by
                intro b x us
                induction us with
                | nil => intro h; simp at h
                | cons u us ih2 =>
                  intro h
                  unfold dO
                  by_cases huv : u = v
                  · subst huv
                    by_cases hin : us.contains u = true
                    · rw [ih2 hin]
                    · rcases @this b x x us with h3 | h3
                      · rw [h3, List.set_set]
                      · exact absurd h3 hin
                  · rw [List.contains_cons] at h
                    have : (v == u) = false := by simp; exact Ne.symm huv
                    rw [this, Bool.false_or] at h
                    rw [ih2 h]
              rw [hset h, ih]
        rw [hrest] at ev6
        exact Out.trans a3 (Out.alloc (k := .lst) ev6 r rfl a3.sub a3.sep a3.dom' fun n => by simp only [List.count_append]; have := le5 n; have := le6 n; omega)
    · rw [if_neg hcold]; trivial
  · rw [if_neg hle]; trivial
theorem Dr {zs : List Nat} (hi : XI di vi) (hg : Di L g v) (ht : XT ta ua) (he : XE da va) (hl : ∀ i ∈ L, zs.contains i = true := by decide) : XE (C3 di g ta da zs) (xi vi v ua va zs) := fun m S te env F st => by
 refine XG.bind0 hi st fun x te1 k m1 S1 F1 G1 st1 q1 sp1 sb1 => ?_
 obtain ⟨rfl, q, c⟩ := q1
 rw [List.append_nil] at sp1 sb1 ⊢
 exact Fx hg ht he hl st1 q c
end
inductive VC where
 | ok (t : T) (fs : List T) | exc (C : Addr) (d : Option T) (fs : List T)
abbrev gy := List T → Option VC
def rC {α : Type} : List Bool → List α → List α
 | true :: bs, x :: xs => x :: rC bs xs
 | false :: bs, _ :: xs => rC bs xs
 | _, _ => []
def fM : List Bool → TE → Option (List T)
 | [], _ => ξ []
 | false :: bs, _ :: te => fM bs te
 | true :: bs, ξ t :: te => match fM bs te with
  | some ts => ξ (t :: ts)
  | none => ζ
 | _, _ => ζ
def cA (ms : List Bool) (n : Nat) (b : cq) : gy := fun ts => if ts.length = ms.length then (match b (ts.map ξ ++ List.replicate (n - ms.length) ζ) with
  | some (.fl .next te) => (match fM ms te with
   | some fs => ξ (.ok .non fs)
   | none => ζ)
  | some (.fl (.ret t) te) => (match fM ms te with
   | some fs => ξ (.ok t fs)
   | none => ζ)
  | some (.exc C d te) => (match fM ms te with
   | some fs => ξ (.exc C d fs)
   | none => ζ)
  | _ => ζ) else ζ
def XD (ms : List Bool) (D : DF) (V : gy) : Prop := ∀ m S ts ws G, Rps m S ts ws G → Sep G → (∀ n, G.count n ≠ 0 → S n) → (∀ n, S n → n < m.length) → match V ts with
 | none => True
 | some (.ok t fs) => ∃ w m' S' G1 G2, D ws m = ξ (.ok w m') ∧ Aft m S G m' S' (G1 ++ G2) ∧ Rp m' S' t w G1 ∧ Rps m' S' fs (rC ms ws) G2
 | some (.exc C d fs) => ∃ dn m' S' G1 G2, D ws m = ξ (.exc C dn m') ∧ Aft m S G m' S' (G1 ++ G2) ∧ RX m' S' d dn G1 ∧ Rps m' S' fs (rC ms ws) G2
section
variable {m m': M}{S S' S2: Own}{B' C F G L: List Nat}{t: T}{ts: List T}{w: W}{ws: List W}{env env': Env}{te: TE}
theorem r9 : ∀ {ms : List Bool} {te : TE} {env : Env} {ws : List W} {F : List Nat} {fs : List T}, EnvT m S te env F → fM ms te = ξ fs → ms.length = ws.length → (∀ i : Nat, ms[i]? = ξ true → env[i]? = (ws[i]?).map ξ) → ∃ G, Rps m S fs (rC ms ws) G ∧ ∀ n, G.count n ≤ F.count n
 | [], te, env, ws, F, fs, _, h, _, _ => by
  have : fs = [] := by unfold fM at h; cases te <;> (cases h; rfl)
  subst this
  exact ⟨[], ⟨by cases ws <;> rfl, rfl⟩, fun n => by simp⟩
 | false :: ms, [], _, _, _, _, _, h, _, _ => by cases h
 | false :: ms, x :: te, env, [], _, _, _, _, hl, _ => by simp at hl
 | false :: ms, x :: te, env, w :: ws, F, fs, ev, h, hl, hw => by
  have key : ∃ y env' F', env = y :: env' ∧ EnvT m S te env' F' ∧ ∀ n, F'.count n ≤ F.count n := by
   cases x with
   | none => obtain ⟨y, env', rfl, h⟩ := ev; exact ⟨y, env', F, rfl, h, fun n => Nat.le_refl _⟩
   | some t => obtain ⟨y, env', G, F', rfl, _, h, rfl⟩ := ev; exact ⟨_, env', F', rfl, h, fun n => by rw [List.count_append]; omega⟩
  obtain ⟨y, env', F', rfl, ev', le⟩ := key
  obtain ⟨G, q, l⟩ := r9 (ms := ms) (ws := ws) ev' h (by simpa using hl) fun i e => by simpa using hw (i + 1) (by simpa using e)
  exact ⟨G, q, fun n => Nat.le_trans (l n) (le n)⟩
 | true :: ms, [], _, _, _, _, _, h, _, _ => by cases h
 | true :: ms, ζ :: te, _, _, _, _, _, h, _, _ => by cases h
 | true :: ms, ξ t :: te, env, [], _, _, _, _, hl, _ => by simp at hl
 | true :: ms, ξ t :: te, env, w :: ws, F, fs, ev, h, hl, hw => by
  obtain ⟨w', env', G1, F', rfl, q1, ev', rfl⟩ := ev
  have hz := hw 0 rfl
  simp at hz
  subst hz
  unfold fM at h
  split at h
  ·rename_i ts hts
   cases h
   obtain ⟨G, q, l⟩ := r9 (ms := ms) (ws := ws) ev' hts (by simpa using hl) fun i e => by simpa using hw (i + 1) (by simpa using e)
   exact ⟨G1 ++ G, ⟨_, _, G1, G, rfl, q1, q, rfl⟩, fun n => by simp only [List.count_append]; have := l n; omega⟩
  ·cases h
theorem EnvT.start : ∀ {ts : List T} {ws : List W} {G : List Nat} {k : Nat}, Rps m S ts ws G → EnvT m S (ts.map ξ ++ List.replicate k ζ) (ws.map ξ ++ List.replicate k ζ) G
 | [], _, _, k, h => by
  rw [h.1, h.2]
  induction k with
  | zero => exact ⟨rfl, rfl⟩
  | succ k ih => exact ⟨ζ, _, rfl, ih⟩
 | t :: ts, _, _, k, h => by
  obtain ⟨w, ws', G1, G2, rfl, h1, h2, rfl⟩ := h
  exact ⟨w, _, G1, G2, rfl, h1, EnvT.start h2, rfl⟩
theorem iQ {ms : List Bool} {n : Nat} {b : DS} {vb : cq} (hb : XS L b vb) (hL : ∀ i : Nat, i < ms.length → ms[i]? = ξ true → L.contains i = false := by decide) : XD ms (ju ms.length n b) (cA ms n vb) := fun m S ts ws G q sep sub dom => by
 unfold cA
 by_cases hl : ts.length = ms.length
 case neg => rw [if_neg hl]; trivial
 rw [if_pos hl]
 have hlw : ws.length = ms.length := by rw [← q.len]; exact hl
 have h0 := hb m S _ _ G ⟨EnvT.start (k := n - ms.length) q, sep, sub, dom⟩
 have hr : ju ms.length n b ws m = Kg (b (ws.map ξ ++ List.replicate (n - ms.length) ζ) m) := by unfold ju; rw [if_pos hlw]
 have ag : ∀ {env' : Env}, Agr L (ws.map ξ ++ List.replicate (n - ms.length) ζ) env' → ∀ i : Nat, ms[i]? = ξ true → env'[i]? = (ws[i]?).map ξ := fun a i e => by
  have hi : i < ms.length := (List.getElem?_eq_some_iff.mp e).1
  rw [a.2 i (hL i hi e), List.getElem?_append_left (by simp; omega), List.getElem?_map]
 cases hy : vb (ts.map ξ ++ List.replicate (n - ms.length) ζ) with
 | none => trivial
 | some y =>
  rw [hy] at h0
  have fin : ∀ {te' : TE} {env' : Env} {F' G' : List Nat} {m' : M} {S' : Own} {fs : List T}, Aft m S G m' S' (F' ++ G') → EnvT m' S' te' env' F' → Agr L (ws.map ξ ++ List.replicate (n - ms.length) ζ) env' → fM ms te' = ξ fs → ∃ S2 G2, Aft m S G m' S2 (G' ++ G2) ∧ (∀ n, S2 n → S' n) ∧ Rps m' S2 fs (rC ms ws) G2 := by
   intro te' env' F' G' m' S' fs a ev g e
   obtain ⟨G2, q2, le⟩ := r9 ev e hlw.symm (ag g)
   obtain ⟨S2, a2, sh⟩ := a.drop (B' := G' ++ G2) fun n => by simp only [List.count_append]; have := le n; omega
   exact ⟨S2, G2, a2, sh, q2.sh sh⟩
  cases y with
  | exc C d te1 =>
   obtain ⟨dn, env', m', S', F', G', e, a, ev, r, g⟩ := h0
   simp only
   cases hf : fM ms te1 with
   | none => trivial
   | some fs =>
    obtain ⟨S2, G2, a2, sh, q2⟩ := fin a ev g hf
    exact ⟨dn, m', S2, G', G2, by rw [hr, e]; rfl, a2, r.sh sh, q2⟩
  | fl f te1 =>
   obtain ⟨f', env', m', S', F', G', e, a, ev, r, g⟩ := h0
   cases f with
   | brk => trivial
   | cont => trivial
   | next =>
    obtain ⟨rfl, rfl⟩ := r
    simp only
    cases hf : fM ms te1 with
    | none => trivial
    | some fs =>
     obtain ⟨S2, G2, a2, sh, q2⟩ := fin a ev g hf
     exact ⟨.non, m', S2, [], G2, by rw [hr, e]; rfl, a2, ⟨rfl, rfl⟩, q2⟩
   | ret t =>
    obtain ⟨w, rfl, r⟩ := r
    simp only
    cases hf : fM ms te1 with
    | none => trivial
    | some fs =>
     obtain ⟨S2, G2, a2, sh, q2⟩ := fin a ev g hf
     exact ⟨w, m', S2, G', G2, by rw [hr, e]; rfl, a2, r.sh sh, q2⟩
end
def yj (das : DA) (ms : List Bool) (is : List Nat) : Prop := ∀ env m ws m', das env m = ξ (.ok ws m') → (rC ms ws).map ξ = is.map fun i => (env[i]?).join
theorem dg : yj aB [] [] := fun env m ws m' h => by cases h; rfl
theorem cJ {d : DE} {das : DA} {ms : List Bool} {is : List Nat} (h : yj das ms is) : yj (aj d das) (false :: ms) is := fun env m ws m' e => by
 simp only [jY, i'] at e
 split at e
 ·cases e
 ·rename_i w m1 hw
  split at e
  ·cases e
  ·rename_i xs m2 hx
   cases e
   exact h env m1 xs m' hx
  ·cases e
 ·cases e
theorem uF {i : Nat} {das : DA} {ms : List Bool} {is : List Nat} (h : yj das ms is) : yj (aj (aA i) das) (true :: ms) (i :: is) := fun env m ws m' e => by
 simp only [jY, i', lq] at e
 cases hv : env[i]? with
 | none => rw [hv] at e; cases e
 | some y =>
  rw [hv] at e
  cases y with
  | none => cases e
  | some w =>
   simp only at e
   split at e
   ·cases e
   ·rename_i xs m2 hx
    cases e
    simp only [rC, List.map_cons, hv, Option.join]
    rw [h env m xs m' hx]
    rfl
   ·cases e
def mF (i : Nat) (as : VA) : VA := fun te => match te[i]? with
 | some (ξ _) => bu (as te) fun xs te1 => (match te1[i]? with
  | some (ξ t) => ξ (.ok (t :: xs) (te1.set i ζ))
  | _ => ζ)
 | _ => ζ
def hR (te : TE) : List Nat → List T → TE
 | i :: is, t :: ts => hR (te.set i (ξ t)) is ts
 | _, _ => te
def sj (is : List Nat) (te : TE) (x : Option VC) : Option (VR T) := match x with
 | some (.ok t fs) => if fs.length = is.length then ξ (.ok t (hR te is fs)) else ζ
 | some (.exc C d fs) => if fs.length = is.length then ξ (.exc C d (hR te is fs)) else ζ
 | none => ζ
def bR (V : gy) (is : List Nat) (as : VA) : VD := fun te => bu (as te) fun ts te1 => sj is te1 (V ts)
section
variable {das: DA}{vas: VA}{ms: List Bool}{is: List Nat}{D: DF}{V: gy}
theorem yu {i : Nat} (hb : XA das vas) : XA (aj (aA i) das) (mF i vas) := fun m S te env F st => by
 have h0 := hb m S te env F st
 unfold mF
 split
 case h_2 => trivial
 rename_i t0 ht0
 obtain ⟨w0, G0, e0, _⟩ := st.env.get ht0
 cases hy : vas te with
 | none => trivial
 | some y =>
  rw [hy] at h0
  cases y with
  | exc C d te1 =>
   obtain ⟨dn, m', S', F', G, e, q, ev, r⟩ := h0
   simp only [jY, lq, e0, i', e]
   exact ⟨dn, m', S', F', G, rfl, q, ev, r⟩
  | ok xs te1 =>
   obtain ⟨us, m', S', F', G, e, q, ev, r⟩ := h0
   simp only [bu]
   split
   ·rename_i t ht
    obtain ⟨w, G1, F2, e1, q1, ev2, c⟩ := ev.take ht
    simp only [jY, lq, e1, i', e]
    refine ⟨_, m', S', F2, G1 ++ G, rfl, q.perm (fun n => rfl) fun n => by simp only [List.count_append]; have := c n; omega, ev2, w, us, G1, G, rfl, q1, r, rfl⟩
   ·trivial
theorem EnvT.puts {m : M} {S : Own} {env : Env} : ∀ {is : List Nat} {fs : List T} {ws : List W} {te : TE} {F G : List Nat}, EnvT m S te env F → Rps m S fs ws G → ws.map ξ = is.map (fun i => (env[i]?).join) → ∃ F', EnvT m S (hR te is fs) env F' ∧ ∀ n, F'.count n ≤ F.count n + G.count n
 | [], fs, ws, te, F, G, h, q, e => ⟨F, by unfold hR; cases fs <;> exact h, fun n => by omega⟩
 | i :: is, [], ws, te, F, G, h, q, e => by
  rw [q.1] at e
  cases e
 | i :: is, t :: fs, ws, te, F, G, h, q, e => by
  obtain ⟨w, ws', G1, G2, rfl, q1, q2, rfl⟩ := q
  simp only [List.map_cons, List.cons.injEq] at e
  have he : env[i]? = ξ (ξ w) := by
   cases hx : env[i]? with
   | none => rw [hx] at e; cases e.1
   | some y => rw [hx] at e; rw [e.1]; rfl
  obtain ⟨F1, h1, l1⟩ := h.back i he q1
  obtain ⟨F2, h2, l2⟩ := EnvT.puts h1 q2 e.2
  exact ⟨F2, h2, fun n => by rw [List.count_append]; have := l1 n; have := l2 n; omega⟩
theorem XD.fin (hd : XD ms D V) {m : M} {S : Own} {te : TE} {env : Env} {F G A : List Nat} {ts : List T} {ws : List W} (ev : EnvT m S te env F) (q : Rps m S ts ws G) (sep : Sep A) (sub : ∀ n, A.count n ≠ 0 → S n) (dom : ∀ n, S n → n < m.length) (eA : ∀ n, A.count n = F.count n + G.count n) (hw : (rC ms ws).map ξ = is.map fun i => (env[i]?).join) : Out tf m S env A (D ws m) (sj is te (V ts)) := by
 have sepG : Sep G := fun n => by have := sep n; have := eA n; omega
 have subG : ∀ n, G.count n ≠ 0 → S n := fun n h => sub n (by have := eA n; omega)
 have subF : ∀ n, F.count n ≠ 0 → S n := fun n h => sub n (by have := eA n; omega)
 have dis : ∀ n, F.count n ≠ 0 → G.count n = 0 := fun n h => by have := sep n; have := eA n; omega
 have h0 := hd m S ts ws G q sepG subG dom
 cases hy : V ts with
 | none => trivial
 | some y =>
  rw [hy] at h0
  cases y with
  | ok t fs =>
   obtain ⟨w, m', S', G1, G2, e, a, r1, r2⟩ := h0
   unfold sj
   simp only
   split
   case isFalse => trivial
   have ev' := a.envT subG dis subF ev
   have af := a.frame (G := F) subF (fun n => by rw [List.count_append]; have := sep n; have := eA n; omega)
   obtain ⟨F', ev2, le⟩ := ev'.puts r2 hw
   obtain ⟨S2, a2, sh⟩ := af.drop (B' := F' ++ G1) fun n => by simp only [List.count_append]; have := le n; omega
   exact ⟨w, m', S2, F', G1, e, a2.perm (fun n => by rw [List.count_append]; have := eA n; omega) (fun n => rfl), ev2.sh sh, r1.sh sh⟩
  | exc C d fs =>
   obtain ⟨w, m', S', G1, G2, e, a, r1, r2⟩ := h0
   unfold sj
   simp only
   split
   case isFalse => trivial
   have ev' := a.envT subG dis subF ev
   have af := a.frame (G := F) subF (fun n => by rw [List.count_append]; have := sep n; have := eA n; omega)
   obtain ⟨F', ev2, le⟩ := ev'.puts r2 hw
   obtain ⟨S2, a2, sh⟩ := af.drop (B' := F' ++ G1) fun n => by simp only [List.count_append]; have := le n; omega
   exact ⟨w, m', S2, F', G1, e, a2.perm (fun n => by rw [List.count_append]; have := eA n; omega) (fun n => rfl), ev2.sh sh, r1.sh sh⟩
theorem XG.bindA {γ δ : Type} {rel : Rl γ δ} {k : List W → M → Option (R δ)} {k' : List T → TE → Option (VR γ)} {m : M} {S : Own} {te : TE} {env : Env} {F : List Nat} (h : XA das vas) (st : Stt m S te env F)
  (hk : ∀ a te1 b m1 S1 F1 G1, das env m = ξ (.ok b m1) → Stt m1 S1 te1 env F1 → Rps m1 S1 a b G1 → Sep (F1 ++ G1) → (∀ n, (F1 ++ G1).count n ≠ 0 → S1 n) → Out rel m1 S1 env (F1 ++ G1) (k b m1) (k' a te1)) :
  Out rel m S env F (bnd (das env m) k) (bu (vas te) k') := by
 have h0 := h m S te env F st
 cases hy : vas te with
 | none => exact trivial
 | some y =>
  rw [hy] at h0
  cases y with
  | ok a te1 =>
   obtain ⟨b, m1, S1, F1, G1, e, q, ev, r⟩ := h0
   have hk' := hk a te1 b m1 S1 F1 G1 e ⟨ev, fun n => by have := q.sep n; rw [List.count_append] at this; omega, fun n h => q.sub n (by rw [List.count_append]; omega), q.dom'⟩ r q.sep q.sub
   rw [e]
   exact Out.trans q hk'
  | exc C d te1 =>
   obtain ⟨b, m1, S1, F1, G1, e, q, ev, r⟩ := h0
   rw [e]
   exact ⟨b, m1, S1, F1, G1, rfl, q, ev, r⟩
theorem fR (hd : XD ms D V) (ha : XA das vas) (hv : yj das ms is) : XE (e6 [] D das) (bR V is vas) := fun m S te env F st => by
 have e : e6 [] D das env m = bnd (das env m) fun ws m1 => D ws m1 := yc
 rw [e]
 refine XG.bindA ha st fun ts te1 ws m1 S1 F1 G1 he st1 q1 sp1 sb1 => ?_
 exact hd.fin st1.env q1 sp1 sb1 st1.lt (fun n => by rw [List.count_append]) (hv env m ws m1 he)
def dj (C : Addr) (mn : Str) (V : gy) (is : List Nat) (o : VV) (as : VA) : VD := fun te => match o te with
 | some (.nd _ (.ins C' fs) _) => if C' = C ∧ fs.contains mn = false then bu (as te) fun ts te1 => sj is te1 (V ts) else ζ
 | _ => ζ
def vW (C : Addr) (V : gy) (o : VV) : VD := fun te => match o te with
 | some (.nd b (.ins C' fs) ts) => if C' = C ∧ hot (.nd b (.ins C' fs) ts) = false then (match V [.nd b (.ins C' fs) ts] with
  | some (.ok t []) => ξ (.ok t te)
  | _ => ζ) else ζ
 | _ => ζ
def IV (C : Addr) (V : gy) (is : List Nat) (as : VA) : VD := fun te => bu (as te) fun ts te1 => match V (.nd true (.ins C []) [] :: ts) with
 | some (.ok .non (t :: fs)) => if fs.length = is.length then ξ (.ok t (hR te1 is fs)) else ζ
 | some (.exc C d (_ :: fs)) => if fs.length = is.length then ξ (.exc C d (hR te1 is fs)) else ζ
 | _ => ζ
end
abbrev GM := Kd → List T → List T → Option (T × Kd × List T)
abbrev G3 := Kd → List T → T → T → Option (Kd × List T)
def XF3 (f : F3) (g : G3) : Prop := ∀ m S k ts ws G x u Gx y v Gy n, m[n]? = ξ (k.mk ws) → k.fit ts.length = true → Rps m S ts ws G → Rp m S x u Gx → Rp m S y v Gy → match g k ts x y with
 | none => True
 | some (k', ts') => ∃ ws' G2, f (.ref n) u v m = ξ (m.set n (k'.mk ws')) ∧ k'.fit ts'.length = true ∧ Rps m S ts' ws' G2 ∧ ∀ z, G2.count z ≤ G.count z + Gx.count z + Gy.count z
def Kd.ty : Kd → String
 | .lst => "list"
 | .dct _ => "dict"
 | .dtp _ => "dict"
 | _ => ""
section
variable {m: M}{S S': Own}{A B F G G0: List Nat}{ts: List T}{w: W}{ws: List W}{env: Env}{te: TE}{o: O}
theorem Aft.set {n : Nat} (sub : ∀ n, A.count n ≠ 0 → S n) (sep : Sep A) (dom : ∀ n, S n → n < m.length) (le : ∀ n, B.count n ≤ A.count n) (hn : A.count n ≠ 0) : Aft m S A (m.set n o) (BV.less S A B) B := by
 refine ⟨fun n => Iff.rfl, fun n => Nat.le_trans (le n) (sep n), by simp, fun x h => ?_, fun x o' h e => ?_, fun x _ h => ?_, dom⟩
 ·rw [List.length_set]
  exact dom x (sub x (by have := le x; omega))
 ·have hx : n ≠ x := fun z => by subst z; exact hn e
  rw [List.getElem?_set_ne hx]
  exact .inl h
 ·have := le x
  omega
theorem EnvT.mut {n : Nat} (h : EnvT m S te env F) (hn : S n) (hf : F.count n = 0) (sh : ∀ x, S' x → S x) : EnvT (m.set n o) S' te env F :=
 EnvT.stay (F := F) (fun x o' e c => by
  have hx : n ≠ x := fun z => by
   subst z
   rcases c with c | c
   ·exact c hn
   ·exact c hf
  rw [List.getElem?_set_ne hx]
  exact e) (fun x _ c q => c (sh x q)) (fun x h => h) h
theorem Rps.mut {n : Nat} (h : Rps m S ts ws G) (hn : S n) (hf : G.count n = 0) (sh : ∀ x, S' x → S x) : Rps (m.set n o) S' ts ws G :=
 Rps.stay (G0 := G) (fun x o' e c => by
  have hx : n ≠ x := fun z => by
   subst z
   rcases c with c | c
   ·exact c hn
   ·exact c hf
  rw [List.getElem?_set_ne hx]
  exact e) (fun x _ c q => c (sh x q)) (fun x h => h) h
theorem EnvT.owned {i : Nat} {k : Kd} (h : EnvT m S te env F) (e : te[i]? = ξ (ξ (.nd true k ts))) : ∃ n ws G F', env[i]? = ξ (ξ (.ref n)) ∧ m[n]? = ξ (k.mk ws) ∧ k.fit ts.length = true ∧ Rps m S ts ws G ∧ EnvT m S (te.set i ζ) env F' ∧ ∀ x, F.count x = F'.count x + (n :: G).count x := by
 obtain ⟨w, G, F', e1, q, ev, c⟩ := h.take e
 obtain ⟨n, ws, G', rfl, e2, ft, q2, q3⟩ := q
 rcases q3 with ⟨_, rfl⟩ | ⟨z, _⟩
 ·exact ⟨n, ws, G', F', e1, e2.hot, ft, q2, ev, c⟩
 ·cases z
theorem EnvT.chg {i n : Nat} {k' : Kd} {ts' : List T} {ws' : List W} {G2 : List Nat} (ev : EnvT m S (te.set i ζ) env F) (ei : env[i]? = ξ (ξ (.ref n))) (hl : n < m.length) (hn : S n) (hf : F.count n = 0) (hg : G2.count n = 0) (q : Rps m S ts' ws' G2) (ft : k'.fit ts'.length = true) (sh : ∀ x, S' x → S x) :
  ∃ F', EnvT (m.set n (k'.mk ws')) S' (te.set i (ξ (.nd true k' ts'))) env F' ∧ ∀ x, F'.count x ≤ F.count x + (n :: G2).count x := by
 have ev2 : EnvT (m.set n (k'.mk ws')) S' (te.set i ζ) env F := ev.mut hn hf sh
 have q2 : Rp (m.set n (k'.mk ws')) S' (.nd true k' ts') (.ref n) (n :: G2) := ⟨n, ws', G2, rfl, .inl (List.getElem?_set_self hl), ft, q.mut hn hg sh, .inl ⟨rfl, rfl⟩⟩
 obtain ⟨F', h, le⟩ := ev2.back i ei q2
 rw [List.set_set] at h
 exact ⟨F', h, le⟩
end
def nj (te : TE) (i : Nat) : Option (Kd × List T) := match te[i]? with
 | some (ξ (.nd true k ts)) => ξ (k, ts)
 | _ => ζ
theorem Ct {te : TE} {i : Nat} {k : Kd} {ts : List T} (h : nj te i = ξ (k, ts)) : te[i]? = ξ (ξ (.nd true k ts)) := by
 unfold nj at h
 split at h
 ·rename_i e; cases h; exact e
 ·cases h
def mG (T : String) (g : GM) (i : Nat) (as : VA) : VD := fun te => match nj te i with
 | some (k0, _) => if k0.ty = T ∧ T ≠ "" then bu (as te) fun xs te1 => (match nj te1 i with
  | some (k, ts) => (match g k ts xs with
   | some (t, k', ts') => ξ (.ok t (te1.set i (ξ (.nd true k' ts'))))
   | none => ζ)
  | none => ζ) else ζ
 | none => ζ
def vV (g : G3) (i : Nat) (idx val : VD) : cq := fun te => ph (val te) fun y te1 => match idx te1 with
 | some (.ok x te2) => (match nj te2 i with
  | some (k, ts) => (match g k ts x y with
   | some (k', ts') => ξ (.fl .next (te2.set i (ξ (.nd true k' ts'))))
   | none => ζ)
  | none => ζ)
 | _ => ζ
section
variable {da db: DE}{va vb: VD}
theorem vQ {f : F3} {g : G3} {i : Nat} (hf : XF3 f g) (hv : XE da va) (hi : XE db vb) : XS [] (dU da (yd f (aA i) db)) (vV g i vb va) := fun m S te env F st => by
  refine Out.bindS (hv m S te env F st) st fun y te1 wy m1 S1 F1 G1 st1 q1 sp1 sb1 => ?_
  have hix : Out tf m1 S1 env F1 (db env m1) (vb te1) := hi m1 S1 te1 env F1 st1
  cases hb : vb te1 with
  | none => trivial
  | some z =>
    rw [hb] at hix
    cases z with
    | exc _ _ _ => trivial
    | ok x te2 =>
      obtain ⟨wx, m2, S2, F2, G2, e2, a2, ev2, q2⟩ := hix
      have af := a2.frame (G := G1) (fun n h => sb1 n (by rw [List.count_append]; omega)) sp1
      have dis : ∀ n, G1.count n ≠ 0 → F1.count n = 0 := fun n h => by have := sp1 n; rw [List.count_append] at this; omega
      have q1' := a2.rp st1.sub dis (fun n h => sb1 n (by rw [List.count_append]; omega)) q1
      simp only
      cases h1 : nj te2 i with
      | none => trivial
      | some p =>
        obtain ⟨k, ts⟩ := p
        simp only
        cases hg : g k ts x y with
        | none => trivial
        | some p =>
          obtain ⟨k', ts'⟩ := p
          obtain ⟨n, ws, G, F', ei, en, ft, q, ev, c⟩ := ev2.owned (Ct h1)
          have h2 := hf m2 S2 k ts ws G x wx G2 y wy G1 n en ft q q2 q1'
          rw [hg] at h2
          obtain ⟨ws', Gb, ef, ft', r2, le⟩ := h2
          have hg0 : yd f (aA i) db wy env m1 = ξ (env, m2.set n (k'.mk ws')) := by
            simp only [AZ, lq, ei, Cd, e2, ef, Option.map]
          rw [hg0]
          have cn := c n
          have spn := af.sep n
          rw [List.count_cons_self] at cn
          simp only [List.count_append] at spn
          have hgn := le n
          have hSn : S2 n := af.sub n (by simp only [List.count_append]; omega)
          have leA : ∀ x, (F' ++ (n :: Gb)).count x ≤ (F2 ++ G2 ++ G1).count x := fun x => by
            have := c x
            have := le x
            simp only [List.count_append, List.count_cons] at *
            omega
          have sh := dY af.sub leA
          obtain ⟨F3, ev3, le3⟩ := EnvT.chg (S' := less S2 (F2 ++ G2 ++ G1) (F' ++ (n :: Gb))) ev ei (oN en) hSn (by omega) (by omega) r2 ft' sh
          have as := Aft.set (m := m2) (o := k'.mk ws') af.sub af.sep af.dom' leA (n := n) (by simp only [List.count_append]; omega)
          obtain ⟨S4, a4, sh4⟩ := as.drop (B' := F3) fun x => by have := le3 x; simp only [List.count_append] at *; omega
          exact ⟨.next, env, _, S4, F3, [], rfl, by rw [List.append_nil]; exact af.trans a4, ev3.sh sh4, ⟨rfl, rfl⟩, .refl⟩
def xI (f : Str) (v : T) : List Str → List T → List Str × List T
 | g :: gs, t :: ts => if g = f then (g :: gs, v :: ts) else (g :: (xI f v gs ts).1, t :: (xI f v gs ts).2)
 | _, _ => ([f], [v])
def IG (C : Addr) (f : Str) (i : Nat) (val : VD) : cq := fun te => ph (val te) fun y te1 => match nj te1 i with
 | some (.ins C' fs, ts) => if C' = C ∧ fs.length < 1000 then ξ (.fl .next (te1.set i (ξ (.nd true (.ins C (xI f y fs ts).1) (xI f y fs ts).2)))) else ζ
 | _ => ζ
end
section
variable {m: M}{S: Own}{G: List Nat}{t t1 t2: T}{ts xs: List T}{w w1 w2: W}{ws us: List W}
def qI (g : Int → Int → Option T) : G2 := fun a b => match a, b with
 | .int i, .int j => (match g i j with
  | some t => ξ (.pur t)
  | none => ζ)
 | _, _ => ζ
def A3 (t : T) (w : W) : Prop := ∀ m S, Rp m S t w []
theorem yr {f : Int → Int → Option W} {g : Int → Int → Option T} (h : ∀ i j, match g i j with
  | none => True
  | some t => ∃ w, f i j = ξ w ∧ A3 t w) : nq (fI f) (qI g) := fun m S t1 w1 G1 t2 w2 G2 q1 q2 => by
 unfold qI
 cases t1 <;> first | trivial | skip
 cases t2 <;> first | trivial | skip
 rename_i i j
 obtain ⟨rfl, rfl⟩ := q1
 obtain ⟨rfl, rfl⟩ := q2
 have := h i j
 simp only
 cases hg : g i j with
 | none => trivial
 | some t =>
  rw [hg] at this
  obtain ⟨w, e, q⟩ := this
  exact ⟨w, [], by simp [fI, e], q m S, fun n => by simp⟩
def EX : G2 := qI fun i j => ξ (.int (i + j))
def qSub : G2 := qI fun i j => ξ (.int (i - j))
def JC : G2 := qI fun i j => if (sm 1000000000000000000 i || sm 1000000000000000000 j) = true then ξ (.int (i * j)) else ζ
def tj : G2 := qI fun i j => if decide (0 < j) = true then ξ (.int (i % j)) else ζ
def zi : G2 := qI fun i j => if (decide (0 < j) && sm 1073741823 j) = true then ξ (.int (i / j)) else ζ
def pC : G2 := qI fun i j => if (decide (0 ≤ j) && (sm 1000 j && sm (2 ^ 999) i)) = true then ξ (.int (i ^ j.toNat)) else ζ
def JD : G2 := qI fun i j => ξ (.bl (decide (i < j)))
def qLe : G2 := qI fun i j => ξ (.bl (decide (i ≤ j)))
def K7 : G2 := qI fun i j => ξ (.bl (decide (j < i)))
def K8 : G2 := qI fun i j => ξ (.bl (decide (j ≤ i)))
theorem D4 {i : Int} : A3 (.int i) (.int i) := fun _ _ => ⟨rfl, rfl⟩
theorem GD {i : Bool} : A3 (.bl i) (.bl i) := fun _ _ => ⟨rfl, rfl⟩
theorem Ek : nq Fq EX := yr fun i j => ⟨_, rfl, D4⟩
theorem Iq : nq oLt JD := yr fun i j => ⟨_, rfl, GD⟩
theorem Ir : nq oGt K7 := yr fun i j => ⟨_, rfl, GD⟩
theorem Iu : nq oGe K8 := yr fun i j => ⟨_, rfl, GD⟩
theorem vT {c : Int → Int → Bool} {f : Int → Int → Int} : nq (fI fun i j => if c i j = true then ξ (.int (f i j)) else ζ) (qI fun i j => if c i j = true then ξ (.int (f i j)) else ζ) := yr fun i j => by
 by_cases h : c i j = true
 ·simp only [if_pos h]; exact ⟨_, rfl, D4⟩
 ·simp only [if_neg h]
theorem Ei : nq Fo JC := vT (c := fun i j => (sm 1000000000000000000 i || sm 1000000000000000000 j))
theorem nP : nq vn tj := vT (c := fun i j => decide (0 < j))
theorem uM : nq zF zi := vT (c := fun i j => (decide (0 < j) && sm 1073741823 j))
theorem nO : nq vm pC := vT (c := fun i j => (decide (0 ≤ j) && (sm 1000 j && sm (2 ^ 999) i))) (f := fun i j => i ^ j.toNat)
def T.isNon : T → Bool
 | .non => true
 | _ => false
def kT : G2 := fun a b => match b with
 | .non => ξ (.pur (.bl a.isNon))
 | _ => ζ
def JA : G2 := fun a b => match b with
 | .non => ξ (.pur (.bl (!a.isNon)))
 | _ => ζ
def seqT : T → Option (List T)
 | .tup ts => ξ ts
 | .im (.tpl _) ts => ξ ts
 | .nd _ .lst ts => ξ ts
 | .scr ns => ξ (ns.map T.int)
 | _ => ζ
def vq : T → Option (List T)
 | .nd _ .lst ts => ξ ts
 | .scr ns => ξ (ns.map T.int)
 | _ => ζ
theorem DN {o : Bool} {n : Nat} {G G' : List Nat} (c : (o = true ∧ G = n :: G') ∨ (o = false ∧ ¬ S n ∧ G' = [] ∧ G = [])) : ∀ z, G'.count z ≤ G.count z := fun z => by
 rcases c with ⟨_, rfl⟩ | ⟨_, _, rfl, rfl⟩
 ·rw [List.count_cons]; omega
 ·omega
theorem Ci (q : Rp m S t w G) (h : vq t = ξ ts) : ∃ ws G', dy m w = ξ ws ∧ Rps m S ts ws G' ∧ ∀ z, G'.count z ≤ G.count z := by
 unfold vq at h
 split at h
 ·cases h
  obtain ⟨n, ws, G', rfl, e1, ft, h, c⟩ := q
  have e2 : m[n]? = ξ (.lst ws) := e1.lst
  exact ⟨ws, G', by simp only [dy, e2], h, DN c⟩
 ·cases h
  obtain ⟨rfl, rfl⟩ := q
  exact ⟨_, [], rfl, Rps.ints, fun z => by simp⟩
 ·cases h
theorem v9 (q : Rp m S t w G) (h : seqT t = ξ ts) : ∃ ws G', pZ m w = ξ ws ∧ Rps m S ts ws G' ∧ ∀ z, G'.count z ≤ G.count z := by
 by_cases ht : ∃ us, t = .tup us
 ·obtain ⟨us, rfl⟩ := ht
  cases h
  obtain ⟨ws, rfl, q⟩ := q
  exact ⟨ws, G, rfl, q, fun z => Nat.le_refl _⟩
 by_cases hm : ∃ nd us, t = .im (.tpl nd) us
 ·obtain ⟨nd, us, rfl⟩ := hm
  cases h
  obtain ⟨ws, rfl, q⟩ := q
  exact ⟨ws, G, rfl, q, fun z => Nat.le_refl _⟩
 ·have h' : vq t = ξ ts := by
   cases t <;> first | exact absurd ⟨_, rfl⟩ ht | exact h | skip
   ·rename_i o k cs
    cases k <;> exact h
   ·rename_i k cs
    cases k <;> first | exact absurd ⟨_, _, rfl⟩ hm | exact h
  obtain ⟨ws, G', e, r⟩ := Ci q h'
  refine ⟨ws, G', ?_, r⟩
  cases w <;> first | exact e | cases e
def Jj : T → Option (List T)
 | .tup ts => ξ ts
 | t => vq t
theorem Rps.one_of (q : Rps m S [t] ws G) : ∃ w, ws = [w] ∧ Rp m S t w G := by
 obtain ⟨w, ws', G1, G2, rfl, q1, ⟨rfl, rfl⟩, rfl⟩ := q
 exact ⟨w, rfl, by rw [List.append_nil]; exact q1⟩
theorem Rps.two_of (q : Rps m S [t1, t2] ws G) : ∃ w1 w2 G1 G2, ws = [w1, w2] ∧ Rp m S t1 w1 G1 ∧ Rp m S t2 w2 G2 ∧ G = G1 ++ G2 := by
 obtain ⟨w, ws', G1, G2, rfl, q1, ⟨w', ws'', G3, G4, rfl, q2, ⟨rfl, rfl⟩, rfl⟩, rfl⟩ := q
 exact ⟨w, w', G1, G3, rfl, q1, q2, by rw [List.append_nil]⟩
def g1 (g : T → Option PN) : GN := fun xs => match xs with
 | [t] => g t
 | _ => ζ
theorem Em {f : FN} {g : T → Option PN} (h : ∀ m S t w G, Rp m S t w G → match g t with
  | none => True
  | some (.pur t) => ∃ w' G', f [w] m = ξ (w', m) ∧ Rp m S t w' G' ∧ ∀ n, G'.count n ≤ G.count n
  | some (.new k cs) => ∃ us G', f [w] m = ξ (.ref m.length, m ++ [k.mk us]) ∧ Rps m S cs us G' ∧ k.fit cs.length = true ∧ ∀ n, G'.count n ≤ G.count n) : Dj f (g1 g) := fun m S ts ws G q => by
 match ts, q with
 | [], _ => trivial
 | [t], q =>
  obtain ⟨w, rfl, q'⟩ := Rps.one_of q
  exact h m S t w G q'
 | _ :: _ :: _, _ => trivial
def gI : GN := g1 fun t => match t with
 | .str x => if x.length ≤ sizeLine then ξ (.pur (.int x.length)) else ζ
 | t => (match seqT t with
  | some ts => ξ (.pur (.int ts.length))
  | none => ζ)
theorem qV : Dj oB gI := Em fun m S t w G q => by
 by_cases ht : ∃ x, t = .str x
 ·obtain ⟨x, rfl⟩ := ht
  obtain ⟨rfl, rfl⟩ := q
  simp only
  by_cases hl : x.length ≤ sizeLine
  ·rw [if_pos hl]
   exact ⟨.int x.length, [], by simp only [oB]; rw [if_pos hl], ⟨rfl, rfl⟩, fun n => by simp⟩
  ·rw [if_neg hl]; trivial
 ·have key : match (match seqT t with
    | some ts => ξ (PN.pur (.int ts.length))
    | none => ζ) with
   | none => True
   | some (.pur t) => ∃ w' G', oB [w] m = ξ (w', m) ∧ Rp m S t w' G' ∧ ∀ n, G'.count n ≤ G.count n
   | some (.new k cs) => ∃ us G', oB [w] m = ξ (.ref m.length, m ++ [k.mk us]) ∧ Rps m S cs us G' ∧ k.fit cs.length = true ∧ ∀ n, G'.count n ≤ G.count n := by
   cases hs : seqT t with
   | none => trivial
   | some ts =>
    obtain ⟨ws, G', e, q', le⟩ := v9 q hs
    refine ⟨.int ts.length, [], ?_, ⟨rfl, rfl⟩, fun n => by simp⟩
    have hw : ∀ x, w ≠ .str x := fun x z => by
     subst z
     cases t <;> first | (obtain ⟨ws, e, _⟩ := q; cases e; done) | (obtain ⟨n, ws, G', e, _⟩ := q; cases e; done) | (obtain ⟨e, _⟩ := q; cases e; done) | exact absurd ⟨_, rfl⟩ ht
    cases w <;> first | exact absurd rfl (hw _) | skip
    all_goals simp only [oB, e, q'.len]
  cases t <;> first | exact key | exact absurd ⟨_, rfl⟩ ht
def xG : GN := g1 fun t => match t with
 | .int i => ξ (.pur (.int (if i < 0 then -i else i)))
 | _ => ζ
theorem yq : Dj zH xG := Em fun m S t w G q => by
 cases t <;> first | trivial | skip
 obtain ⟨rfl, rfl⟩ := q
 exact ⟨_, [], rfl, ⟨rfl, rfl⟩, fun n => by simp⟩
def wj : GN := g1 fun t => match t with
 | .int i => ξ (.pur (.int i))
 | .bl k => ξ (.pur (.int (if k then 1 else 0)))
 | _ => ζ
theorem Bl : Dj wz wj := Em fun m S t w G q => by
 cases t <;> first | trivial | skip
 ·obtain ⟨rfl, rfl⟩ := q
  exact ⟨_, [], rfl, ⟨rfl, rfl⟩, fun n => by simp⟩
 ·obtain ⟨rfl, rfl⟩ := q
  exact ⟨_, [], rfl, ⟨rfl, rfl⟩, fun n => by simp⟩
def DK : GN := g1 fun t => match seqT t with
 | some ts => ξ (.new .lst ts)
 | none => ζ
def u3 : GN := g1 fun t => match Jj t with
 | some ts => ξ (.pur (.tup ts))
 | none => ζ
def oZ : List T → Option (List Bool)
 | [] => ξ []
 | .bl b :: ts => (match oZ ts with
  | some bs => ξ (b :: bs)
  | none => ζ)
 | _ :: _ => ζ
def EW : GN := g1 fun t => match vq t with
 | some ts => (match oZ ts with
  | some bs => ξ (.pur (.bl (bs.all id)))
  | none => ζ)
 | none => ζ
def g2i (g : Int → Int → Int) : GN := fun xs => match xs with
 | [.int i, .int j] => ξ (.pur (.int (g i j)))
 | _ => ζ
theorem Dq {f : FN} {g : Int → Int → Int} (h : ∀ i j m, f [.int i, .int j] m = ξ (.int (g i j), m)) : Dj f (g2i g) := fun m S ts ws G q => by
 match ts, q with
 | [], _ => trivial
 | [t], _ => cases t <;> trivial
 | [t1, t2], q =>
  cases t1 <;> first | trivial | skip
  cases t2 <;> first | trivial | skip
  obtain ⟨w1, w2, G1, G2, rfl, ⟨rfl, rfl⟩, ⟨rfl, rfl⟩, rfl⟩ := q.two_of
  exact ⟨_, [], h _ _ m, ⟨rfl, rfl⟩, fun n => by simp⟩
 | t1 :: t2 :: _ :: _, _ => cases t1 <;> first | trivial | (cases t2 <;> trivial)
def tn : GN := g2i fun i j => if j > i then j else i
def tm : GN := g2i fun i j => if j < i then j else i
theorem Bk : Dj wu tn := Dq fun _ _ _ => rfl
theorem Bj : Dj wq tm := Dq fun _ _ _ => rfl
theorem Rps.atI {i : Int} (q : Rps m S ts ws G) (h : L2.atI ts i = ξ t) : ∃ w G1, L2.atI ws i = ξ w ∧ Rp m S t w G1 ∧ ∀ z, G1.count z ≤ G.count z := by
 unfold L2.atI at h ⊢
 rw [← q.len]
 cases hx : ixN ts.length i with
 | none => rw [hx] at h; cases h
 | some j =>
  rw [hx] at h
  exact q.get (show ts[j]? = ξ t from h)
def eP : G2 := fun a b => match b with
 | .int i => (match seqT a with
  | some ts => (match atI ts i with
   | some t => ξ (.pur t)
   | none => ζ)
  | none => ζ)
 | _ => ζ
theorem iG : nq sG eP := fun m S t1 w1 G1 t2 w2 G2 q1 q2 => by
 unfold eP
 cases t2 <;> first | trivial | skip
 rename_i i
 obtain ⟨rfl, rfl⟩ := q2
 simp only
 cases hs : seqT t1 with
 | none => trivial
 | some ts =>
  simp only
  cases ha : L2.atI ts i with
  | none => trivial
  | some t =>
   obtain ⟨ws, G', e, q', le⟩ := v9 q1 hs
   obtain ⟨w, G3, e2, q3, Cq⟩ := q'.atI ha
   refine ⟨w, G3, ?_, q3, fun n => by rw [List.append_nil]; exact Nat.le_trans (Cq n) (le n)⟩
   unfold pZ at e
   unfold sG
   cases w1 <;> first | (simp only at e ⊢; first | (cases e; simp only [e2]; done) | (rw [e]; simp only [e2]; done)) | (rename_i k us; cases k <;> simp only at e ⊢ <;> first | (cases e; simp only [e2]; done) | (rw [e]; simp only [e2]))
def th : G3 := fun k ts x y => match k, x with
 | .lst, .int i => (match ixN ts.length i with
  | some j => ξ (.lst, ts.set j y)
  | none => ζ)
 | _, _ => ζ
theorem Rps.setT {G' : List Nat} : ∀ {ts : List T} {ws : List W} {G : List Nat} (j : Nat), Rps m S ts ws G → Rp m S t w G' → ∃ G2, Rps m S (ts.set j t) (ws.set j w) G2 ∧ ∀ z, G2.count z ≤ G.count z + G'.count z
 | [], _, _, j, q, _ => ⟨[], by rw [q.1]; exact ⟨rfl, rfl⟩, fun z => by simp⟩
 | u :: ts, _, _, 0, q, h => by
  obtain ⟨w', ws', G1, G2, rfl, q1, q2, rfl⟩ := q
  exact ⟨_, ⟨_, _, _, _, rfl, h, q2, rfl⟩, fun z => by simp only [List.count_append]; omega⟩
 | u :: ts, _, _, j + 1, q, h => by
  obtain ⟨w', ws', G1, G2, rfl, q1, q2, rfl⟩ := q
  obtain ⟨G3, q3, le⟩ := Rps.setT j q2 h
  exact ⟨_, ⟨_, _, _, _, rfl, q1, q3, rfl⟩, fun z => by simp only [List.count_append]; have := le z; omega⟩
theorem vR : XF3 qh th := fun m S k ts ws G x u Gx y v Gy n en ft q qx qy => by
 unfold th
 cases k <;> first | trivial | skip
 cases x <;> first | trivial | skip
 rename_i i
 simp only
 cases hx : ixN ts.length i with
 | none => trivial
 | some j =>
  obtain ⟨rfl, rfl⟩ := qx
  obtain ⟨G2, r, le⟩ := q.setT j qy
  have en' : m[n]? = ξ (.lst ws) := en
  refine ⟨ws.set j v, G2, ?_, rfl, r, fun z => by have := le z; simp; omega⟩
  rw [q.len] at hx
  simp only [qh, en', hx, Kd.mk]
def dT : Nat → T → Option PyData
 | 0, _ => ζ
 | _ + 1, .non => ξ .none
 | _ + 1, .bl b => ξ (.bool b)
 | _ + 1, .int i => ξ (.int i)
 | _ + 1, .str x => if PyData.strOk x = true then ξ (.str x) else ζ
 | k + 1, .tup ts => match dR (dT k) ts with
  | some ds => ξ (.tuple ds)
  | none => ζ
 | k + 1, .nd _ .lst ts => match dR (dT k) ts with
  | some ds => ξ (.list ds)
  | none => ζ
 | _ + 1, _ => ζ
theorem sC {f : T → Option PyData} {g : W → Option PyData} (h : ∀ t w G d, Rp m S t w G → f t = ξ d → g w = ξ d) : ∀ {ts : List T} {ws : List W} {G : List Nat} {ds : List PyData}, Rps m S ts ws G → dR f ts = ξ ds → dR g ws = ξ ds
 | [], _, _, _, q, e => by rw [q.1]; cases e; rfl
 | t :: ts, _, _, _, q, e => by
  obtain ⟨w, ws', G1, G2, rfl, q1, q2, rfl⟩ := q
  unfold dR at e
  cases h1 : f t with
  | none => rw [h1] at e; cases e
  | some d =>
   cases h2 : dR f ts with
   | none => rw [h1, h2] at e; cases e
   | some ds =>
    rw [h1, h2] at e
    cases e
    unfold dR
    rw [h _ _ _ _ q1 h1, sC h q2 h2]
theorem wV : ∀ {k : Nat} (t : T) (w : W) (G : List Nat) (d : PyData), Rp m S t w G → dT k t = ξ d → mZ m k w = ξ d := by
 intro k
 induction k with
 | zero => intro t w G d _ h; cases h
 | succ k ih =>
  intro t w G d q h
  cases t with
  | non => cases h; obtain ⟨rfl, _⟩ := q; rfl
  | bl b => cases h; obtain ⟨rfl, _⟩ := q; rfl
  | int b => cases h; obtain ⟨rfl, _⟩ := q; rfl
  | str x => obtain ⟨rfl, _⟩ := q; exact h
  | ob a => cases h
  | ty a => cases h
  | scr a => cases h
  | tup ts =>
   obtain ⟨ws, rfl, q⟩ := q
   simp only [dT] at h
   cases hd : dR (dT k) ts with
   | none => rw [hd] at h; cases h
   | some ds =>
    rw [hd] at h
    cases h
    simp only [mZ, sC ih q hd]
  | im j ts => cases h
  | nd o kd ts =>
   cases kd <;> first | (cases h; done) | skip
   obtain ⟨n, ws, G', rfl, e1, ft, q, c⟩ := q
   have e2 : m[n]? = ξ (.lst ws) := e1.lst
   simp only [dT] at h
   cases hd : dR (dT k) ts with
   | none => rw [hd] at h; cases h
   | some ds =>
    rw [hd] at h
    cases h
    simp only [mZ, e2, sC ih q hd]
def uH : G2 := fun a b => match dT 60 a, dT 60 b with
 | some d, ξ e => ξ (.pur (.bl (PyData.eqv d e)))
 | _, _ => ζ
def lU : G2 := fun a b => match dT 60 a, dT 60 b with
 | some d, ξ e => ξ (.pur (.bl (!PyData.eqv d e)))
 | _, _ => ζ
theorem yo : nq Fp uH := fun m S t1 w1 G1 t2 w2 G2 q1 q2 => by
 unfold uH
 cases h1 : dT 60 t1 with
 | none => trivial
 | some d =>
  cases h2 : dT 60 t2 with
  | none => trivial
  | some e => exact ⟨.bl _, [], by simp only [Fp, wV _ _ _ _ q1 h1, wV _ _ _ _ q2 h2], ⟨rfl, rfl⟩, fun n => by simp⟩
theorem kJ : nq xN lU := fun m S t1 w1 G1 t2 w2 G2 q1 q2 => by
 unfold lU
 cases h1 : dT 60 t1 with
 | none => trivial
 | some d =>
  cases h2 : dT 60 t2 with
  | none => trivial
  | some e => exact ⟨.bl _, [], by simp only [xN, wV _ _ _ _ q1 h1, wV _ _ _ _ q2 h2], ⟨rfl, rfl⟩, fun n => by simp⟩
def qRepD : GN := g1 fun t => match dT 60 t with
 | some d => if we d = true then ξ (.pur (.str d.shown)) else ζ
 | none => ζ
def tyT (K : PySem.W.Frag) : T → Option Value
 | .non => ξ (.type "NoneType")
 | .bl _ => ξ (.type "bool")
 | .int _ => ξ (.type "int")
 | .str _ => ξ (.type "str")
 | .tup _ => ξ (.type "tuple")
 | .im (.tpl _) _ => ξ (.type "tuple")
 | .nd _ .lst _ => ξ (.type "list")
 | .nd _ (.ins C _) _ => if insB K C = true then ξ (.ref C) else ζ
 | _ => ζ
def Ko : T → Option Value
 | .ty n => ξ (.type n)
 | .ob C => ξ (.ref C)
 | _ => ζ
theorem GB {v : Value} (q : Rp m S t w G) (h : Ko t = ξ v) : clW w = ξ v := by
 cases t <;> first | (cases h; done) | (obtain ⟨rfl, _⟩ := q; exact h)
def i5 : GM := fun k ts xs => match k, xs with
 | .lst, [y] => if ts.length < sizeLine then ξ (.non, .lst, ts ++ [y]) else ζ
 | _, _ => ζ
def pI : T → Option (List T)
 | .nd _ .lst ts => ξ ts
 | _ => ζ
theorem rN (q : Rp m S t w G) (h : pI t = ξ ts) : ∃ n ws G', w = .ref n ∧ m[n]? = ξ (.lst ws) ∧ Rps m S ts ws G' ∧ ∀ z, G'.count z ≤ G.count z := by
 unfold pI at h
 split at h
 ·cases h
  obtain ⟨n, ws, G', rfl, e1, ft, h, c⟩ := q
  exact ⟨n, ws, G', rfl, e1.lst, h, DN c⟩
 ·cases h
def EV : G2 := fun a b => match pI a, pI b with
 | some xs, ξ ys => if xs.length + ys.length ≤ sizeLine then ξ (.new .lst (xs ++ ys)) else ζ
 | _, _ => ζ
theorem Ej : nq zG EV := fun m S t1 w1 G1 t2 w2 G2 q1 q2 => by
 unfold EV
 cases h1 : pI t1 with
 | none => trivial
 | some xs =>
  cases h2 : pI t2 with
  | none => trivial
  | some ys =>
   simp only
   obtain ⟨n, ws, G3, rfl, e1, r1, l1⟩ := rN q1 h1
   obtain ⟨k, us, G4, rfl, e2, r2, l2⟩ := rN q2 h2
   by_cases hl : xs.length + ys.length ≤ sizeLine
   ·rw [if_pos hl]
    rw [r1.len, r2.len] at hl
    exact ⟨ws ++ us, G3 ++ G4, by simp only [zG, e1, e2, Kd.mk]; rw [if_pos hl], r1.app r2, rfl, fun z => by simp only [List.count_append]; have := l1 z; have := l2 z; omega⟩
   ·rw [if_neg hl]; trivial
def zk : G2 := fun a b => match a, b with
 | .str x, .str y => if x.length + y.length ≤ sizeLine then ξ (.pur (.str (x ++ y))) else ζ
 | _, _ => ζ
theorem Bn : nq tR zk := fun m S t1 w1 G1 t2 w2 G2 q1 q2 => by
 unfold zk
 cases t1 <;> first | trivial | skip
 cases t2 <;> first | trivial | skip
 rename_i x y
 obtain ⟨rfl, rfl⟩ := q1
 obtain ⟨rfl, rfl⟩ := q2
 simp only
 by_cases hl : x.length + y.length ≤ sizeLine
 ·rw [if_pos hl]
  exact ⟨_, [], by simp only [tR]; rw [if_pos hl], ⟨rfl, rfl⟩, fun n => by simp⟩
 ·rw [if_neg hl]; trivial
def BL : G2 := fun a b => match pI a, b with
 | some xs, .int k => if (-(2 ^ 63) ≤ k ∧ k < 2 ^ 63 ∧ xs.length * k.toNat ≤ sizeLine) ∧ hots xs = false then ξ (.new .lst (List.replicate k.toNat xs).flatten) else ζ
 | _, _ => ζ
theorem Rps.repT (q : Rps m S ts ws []) : ∀ k : Nat, Rps m S (List.replicate k ts).flatten (List.replicate k ws).flatten []
 | 0 => ⟨rfl, rfl⟩
 | k + 1 => by
  rw [List.replicate_succ, List.replicate_succ, List.flatten_cons, List.flatten_cons]
  exact q.app (Rps.repT q k)
theorem Eh : nq zD BL := fun m S t1 w1 G1 t2 w2 G2 q1 q2 => by
 unfold BL
 cases h1 : pI t1 with
 | none => trivial
 | some xs =>
  cases t2 <;> first | trivial | skip
  rename_i k
  obtain ⟨rfl, rfl⟩ := q2
  simp only
  obtain ⟨n, ws, G3, rfl, e1, r1, l1⟩ := rN q1 h1
  by_cases hl : (-(2 ^ 63) ≤ k ∧ k < 2 ^ 63 ∧ xs.length * k.toNat ≤ sizeLine) ∧ hots xs = false
  case neg => rw [if_neg hl]; trivial
  rw [if_pos hl]
  obtain rfl := Rps.cold hl.2 r1
  have hl1 := hl.1
  rw [r1.len] at hl1
  exact ⟨_, [], by simp only [zD, e1, Kd.mk]; rw [if_pos hl1], r1.repT k.toNat, rfl, fun z => by simp⟩
end
def sX : List T → Option (List (List T))
 | [] => ξ []
 | t :: ts => match seqT t, sX ts with
  | some x, ξ xs => ξ (x :: xs)
  | _, _ => ζ
def yg (xs : List (List T)) (i : Nat) : List T := xs.map fun x => x.getD i .non
def pq (xs : List (List T)) (n : Nat) : List T := (List.range n).map fun i => T.tup (yg xs i)
def Bs (n : Nat) (as : VA) : VI := fun te => bu (as te) fun ts te1 => match ts with
 | [] => ζ
 | t0 :: _ => if ts.length = n ∧ hots ts = false then (match sX ts, seqT t0 with
  | some xs, ξ x0 => if xs.all (fun x => x.length == x0.length) = true then ξ (.ok (pq xs x0.length) te1) else ζ
  | _, _ => ζ) else ζ
section
end
structure Cn where
 cl : Str → Addr
 isi : T → T → Option Bool
 nf : Addr → T → Bool
 exm : Addr → T → Option Bool
 xis : Addr → T → Option Bool
def cn (K : PySem.W.Frag) : Cn where
 cl := He.ga K
 isi := fun x c => match tyT K x, Ko c with
  | some t, ξ u => PySem.W.kitOne K t u
  | _, _ => ζ
 nf := fun C y => match tyT K y with
  | some tb => PySem.W.notFirst K C tb
  | none => false
 exm := fun C c => match Ko c with
  | some u => PySem.W.exmOne K (.ref C) u
  | none => ζ
 xis := fun C c => match Ko c with
  | some u => PySem.W.kitOne K (.ref C) u
  | none => ζ
def oj (c : Cn) : GN := fun ts => match ts with
 | [x, y] => (match c.isi x y with
  | some b => ξ (.pur (.bl b))
  | none => ζ)
 | _ => ζ
section
variable {m: M}{S: Own}{F G: List Nat}{t t1 t2: T}{ts xs: List T}{w w1 w2: W}{ws us: List W}
def tI : T → Bool
 | .int _ => true
 | _ => false
def tS : T → Bool
 | .str _ => true
 | _ => false
def tT : T → Bool
 | .tup _ => true
 | _ => false
theorem Dx (q : Rp m S t w G) : J2 w = tI t := by
 cases t <;> first | (obtain ⟨rfl, _⟩ := q; rfl) | (obtain ⟨ws, rfl, _⟩ := q; rfl) | (obtain ⟨n, ws, G', rfl, _⟩ := q; rfl)
theorem Jb (q : Rp m S t w G) : isS w = tS t := by
 cases t <;> first | (obtain ⟨rfl, _⟩ := q; rfl) | (obtain ⟨ws, rfl, _⟩ := q; rfl) | (obtain ⟨n, ws, G', rfl, _⟩ := q; rfl)
theorem Ja (q : Rp m S t w G) : isT w = tT t := by
 cases t <;> first | (obtain ⟨rfl, _⟩ := q; rfl) | (obtain ⟨ws, rfl, _⟩ := q; rfl) | (obtain ⟨n, ws, G', rfl, _⟩ := q; rfl)
theorem vS {c : W → Bool} {d : T → Bool} {f1 f2 : F2} {g1 g2 : G2} (hc : ∀ m S t w G, Rp m S t w G → c w = d t) (h1 : nq f1 g1) (h2 : nq f2 g2) : nq (fun a b m => if c a = true then f1 a b m else f2 a b m) (fun a b => if d a = true then g1 a b else g2 a b) := fun m S t1 w1 G1 t2 w2 G2 q1 q2 => by
 have e := hc m S t1 w1 G1 q1
 by_cases hd : d t1 = true
 ·simp only [if_pos hd]
  rw [← e] at hd
  simp only [if_pos hd]
  exact h1 m S t1 w1 G1 t2 w2 G2 q1 q2
 ·simp only [if_neg hd]
  rw [← e] at hd
  simp only [if_neg hd]
  exact h2 m S t1 w1 G1 t2 w2 G2 q1 q2
def zj : G2 := fun a b => match a, b with
 | .tup xs, .tup ys => if xs.length + ys.length ≤ sizeLine then ξ (.pur (.tup (xs ++ ys))) else ζ
 | _, _ => ζ
theorem Bm : nq tQ zj := fun m S t1 w1 G1 t2 w2 G2 q1 q2 => by
 unfold zj
 cases t1 <;> first | trivial | skip
 cases t2 <;> first | trivial | skip
 rename_i xs ys
 obtain ⟨ws, rfl, r1⟩ := q1
 obtain ⟨us, rfl, r2⟩ := q2
 simp only
 by_cases hl : xs.length + ys.length ≤ sizeLine
 ·rw [if_pos hl]
  rw [r1.len, r2.len] at hl
  exact ⟨.tup (ws ++ us), G1 ++ G2, by simp only [tQ]; rw [if_pos hl], ⟨_, rfl, r1.app r2⟩, fun n => Nat.le_refl _⟩
 ·rw [if_neg hl]; trivial
def cG : G2 := fun a b => if tI a = true then EX a b else if tS a = true then zk a b else if tT a = true then zj a b else EV a b
theorem bU : nq dP cG := vS (fun _ _ _ _ _ q => Dx q) Ek (vS (fun _ _ _ _ _ q => Jb q) Bn (vS (fun _ _ _ _ _ q => Ja q) Bm Ej))
def fN : G2 := fun a b => if tI a = true then JC a b else BL a b
theorem jN : nq mM fN := vS (fun _ _ _ _ _ q => Dx q) Ei Eh
abbrev G1 := T → Option PN
def XF1 (f : F1) (g : G1) : Prop := ∀ m S t1 w1 Ga, Rp m S t1 w1 Ga → match g t1 with
 | none => True
 | some (.pur t) => ∃ w G, f w1 m = ξ (w, m) ∧ Rp m S t w G ∧ ∀ n, G.count n ≤ Ga.count n
 | some (.new k cs) => ∃ us G, f w1 m = ξ (.ref m.length, m ++ [k.mk us]) ∧ Rps m S cs us G ∧ k.fit cs.length = true ∧ ∀ n, G.count n ≤ Ga.count n
def rB : G1 := fun a => match a with
 | .int i => ξ (.pur (.int (-i)))
 | _ => ζ
theorem uL : XF1 zE rB := fun m S t w G q => by
 unfold rB
 cases t <;> first | trivial | skip
 obtain ⟨rfl, rfl⟩ := q
 exact ⟨_, [], rfl, ⟨rfl, rfl⟩, fun n => by simp⟩
def qZ (g : G1) (a : VV) : VV := fun te => match a te with
 | some x => (match g x with
  | some (.pur t) => ξ t
  | _ => ζ)
 | none => ζ
theorem yl {f : F1} {g : G1} {da : DE} {va : VV} (hf : XF1 f g) (ha : XV da va) : XV (Gn f da) (qZ g va) := fun m S te env F h => by
 have h1 := ha m S te env F h
 unfold qZ
 cases hx : va te with
 | none => trivial
 | some x =>
  rw [hx] at h1
  obtain ⟨w1, G1, e1, q1⟩ := h1
  have h3 := hf m S x w1 G1 q1
  simp only
  cases hz : g x with
  | none => trivial
  | some z =>
   rw [hz] at h3
   cases z with
   | new k ts => trivial
   | pur t =>
    obtain ⟨w, G, e, q, _⟩ := h3
    exact ⟨w, G, by simp [e1, e], q⟩
def JI (neg : Bool) : G2 := fun a b => match dT 60 a, dT 60 b with
 | some d, ξ (.list ds) => ξ (.pur (.bl ((ds.any fun z => PyData.eqv z d) != neg)))
 | _, _ => ζ
abbrev VO := TE → Option (Option Int)
def voN : VO := fun _ => ξ ζ
def voS (a : VV) : VO := fun te => match a te with
 | some (.int i) => ξ (ξ i)
 | _ => ζ
def Hx (t : T) (lo hi : Option Int) : Option PN := match t with
 | .tup ts => ξ (.pur (.tup (A0 ts lo hi)))
 | .im (.tpl _) ts => ξ (.pur (.im (.tpl false) (A0 ts lo hi)))
 | t => (match vq t with
  | some ts => ξ (.new .lst (A0 ts lo hi))
  | none => ζ)
def vSlV (a : VV) (lo hi : VO) : VD := fun te => match a te, lo te, hi te with
 | some t, ξ l, ξ h => dX (Hx t l h) te
 | _, _, _ => ζ
def vvSl (a : VV) (lo hi : VO) : VV := fun te => match a te, lo te, hi te with
 | some t, ξ l, ξ h => (match Hx t l h with
  | some (.pur t) => ξ t
  | _ => ζ)
 | _, _, _ => ζ
variable {da: DE}{va: VD}
def kj (a : VD) : VI := fun te => bu (a te) fun t te1 => match t with
 | .nd false .lst ts => ξ (.ok ts te1)
 | .scr ns => ξ (.ok (ns.map T.int) te1)
 | .tup ts => if hots ts = true then ζ else ξ (.ok ts te1)
 | .im (.tpl _) ts => if hots ts = true then ζ else ξ (.ok ts te1)
 | _ => ζ
theorem uK (ha : XE da va) : XI (qF da) (kj va) := fun m S te env F st => by
 have hL := Ef ha m S te env F st
 have hT := Ee ha m S te env F st
 have h0 := ha m S te env F st
 unfold kj
 unfold IY at hL
 unfold IW at hT
 unfold qF
 cases hy : va te with
 | none => trivial
 | some y =>
  rw [hy] at hL hT h0
  cases y with
  | exc C d te1 =>
   obtain ⟨b, m1, S1, F1, G1, e, q⟩ := h0
   have : xS (da env m) = false := by rw [e]; rfl
   simp only [this, Bool.false_eq_true, if_false]
   exact hL
  | ok t te1 =>
   obtain ⟨b, m1, S1, F1, G1, e, q, ev, r⟩ := h0
   by_cases ht : ∃ ts, t = .tup ts
   ·obtain ⟨ts, rfl⟩ := ht
    obtain ⟨ws, rfl, _⟩ := r
    have : xS (da env m) = true := by rw [e]; rfl
    simp only [this, if_true]
    exact hT
   by_cases hm : ∃ nd ts, t = .im (.tpl nd) ts
   ·obtain ⟨nd, ts, rfl⟩ := hm
    obtain ⟨ws, rfl, _⟩ := r
    have : xS (da env m) = true := by rw [e]; rfl
    simp only [this, if_true]
    exact hT
   ·have hb : xS (da env m) = false := by
     rw [e]
     cases t <;> first | (obtain ⟨rfl, _⟩ := r; rfl) | (obtain ⟨n, ws, G', rfl, _⟩ := r; rfl) | exact absurd ⟨_, rfl⟩ ht | skip
     rename_i k ts
     obtain ⟨ws, rfl, _⟩ := r
     cases k
     ·exact absurd ⟨_, _, rfl⟩ hm
     ·rfl
    simp only [hb, Bool.false_eq_true, if_false]
    cases t <;> first | exact hL | exact absurd ⟨_, rfl⟩ ht | (rename_i o k cs; cases o <;> cases k <;> exact hL) | (rename_i k cs; cases k <;> first | exact absurd ⟨_, _, rfl⟩ hm | exact hL)
def aE (zs : List Nat) (b : cq) : cq := fun te => match b te with
 | some (.fl (.ret t) te1) => ξ (.fl (.ret t) te1)
 | some (.fl f te1) => ξ (.fl f (aR te1 zs))
 | x => x
theorem bC {L zs : List Nat} {ds : DS} {vs : cq} (h : XS L ds vs) : XS L ds (aE zs vs) := fun m S te env F st => by
 have h0 := h m S te env F st
 unfold aE
 cases hy : vs te with
 | none => trivial
 | some y =>
  rw [hy] at h0
  cases y with
  | exc C d te1 => exact h0
  | fl f te1 =>
   obtain ⟨f', env', m', S', F', G, e, a, ev, r, g⟩ := h0
   obtain ⟨F2, ev2, le⟩ := ev.wipes zs
   obtain ⟨S2, a2, sh⟩ := a.drop (B' := F2 ++ G) fun n => by simp only [List.count_append]; have := le n; omega
   cases f with
   | ret t => exact ⟨f', env', m', S', F', G, e, a, ev, r, g⟩
   | next => exact ⟨f', env', m', S2, F2, G, e, a2, ev2.sh sh, r, g⟩
   | brk => exact ⟨f', env', m', S2, F2, G, e, a2, ev2.sh sh, r, g⟩
   | cont => exact ⟨f', env', m', S2, F2, G, e, a2, ev2.sh sh, r, g⟩
def K3 (t : T) : Option PN := match vq t with
 | some ts => ξ (.new .lst ts.reverse)
 | none => ζ
def II (a : VV) : VD := fun te => match a te with
 | some t => dX (K3 t) te
 | none => ζ
def wM : GM := fun k ts xs => match k, xs with
 | .lst, [y] => (match pI y with
  | some ys => if ts.length + ys.length ≤ sizeLine then ξ (.non, .lst, ts ++ ys) else ζ
  | none => ζ)
 | _, _ => ζ
def rj : cq := fun _ => ζ
theorem law_of {D : DF} {V : gy} {ns : List Int} (h : XD [false] D V) (e : V [.scr ns] = ξ (.ok (.bl true) [])) : ∃ m, D [.scr ns] [] = ξ (.ok (.bl true) m) := by
 have h0 := h [] (fun _ => False) [.scr ns] [.scr ns] [] ⟨_, _, [], [], rfl, ⟨rfl, rfl⟩, ⟨rfl, rfl⟩, rfl⟩ (fun n => by simp) (by simp) (by simp)
 rw [e] at h0
 obtain ⟨w, m', S', G1, G2, e1, _, ⟨rfl, _⟩, _⟩ := h0
 exact ⟨m', e1⟩
end
end BV
end
section
namespace BV
open PySem hiding Env
open L2 hiding TE gName
open SB
section
variable {t: T}
def Jq (t : T) : Option PN := match t with
 | .tup ts => ξ (.pur (.tup ts.reverse))
 | t => K3 t
end
end BV
end
section
namespace BV
open PySem hiding Env
open L2 hiding TE gName VV
open SB
section
variable {κ: Type}[DecidableEq κ]{t: T}{ts: List T}{w: W}{ws: List W}
def yM (k : κ) : List κ → List T → Option T
 | g :: gs, t :: ts => if g = k then ξ t else yM k gs ts
 | _, _ => ζ
theorem map_none (k : κ) {w : W} : ∀ {ks : List κ} {ws : List W}, ks.count k = 0 → (ks.zip ws).map (fun kv => if kv.1 = k then (kv.1, w) else kv) = ks.zip ws
 | [], _, _ => rfl
 | g :: ks, [], _ => rfl
 | g :: ks, v :: ws, h => by
  rw [List.count_cons] at h
  have e : ¬ g = k := fun e => by simp [e] at h
  rw [List.zip_cons_cons, List.map_cons, if_neg e, map_none k (by omega)]
end
section
variable {m: M}{S: Own}{t: T}{ts: List T}{w: W}{ws: List W}
def JV : T → Option Key
 | .int i => ξ (.inl i)
 | .str x => ξ (.inr x)
 | _ => ζ
def DR : List T → Option (List Key)
 | [] => ξ []
 | t :: ts => match JV t, DR ts with
  | some k, ξ ks => ξ (k :: ks)
  | _, _ => ζ
def I' : T → Option (List Key)
 | .tup ts => DR ts
 | _ => ζ
def D2 (d y : T) : Option (Option T) := match d with
 | .nd _ (.dct ks) ts => (JV y).map fun k => yM k ks ts
 | .nd _ (.dtp ks) ts => (I' y).map fun k => yM k ks ts
 | _ => ζ
def J4 (d : T) : Bool := match d with
 | .nd _ (.dct _) _ => true
 | .nd _ (.dtp _) _ => true
 | _ => false
def u5 : G2 := fun d y => if J4 d = true then (match D2 d y with
 | some (ξ t) => ξ (.pur t)
 | _ => ζ) else eP d y
def BP (neg : Bool) : G2 := fun y d => if J4 d = true then (match D2 d y with
 | some o => ξ (.pur (.bl (o.isSome != neg)))
 | none => ζ) else JI neg y d
inductive Lq : O → O → Prop
 | lk (kvs) : Lq (.dct kvs) (.lcd kvs)
 | un (kvs) : Lq (.lcd kvs) (.dct kvs)
 | lkT (kvs) : Lq (.dtp kvs) (.lct kvs)
 | unT (kvs) : Lq (.lct kvs) (.dtp kvs)
theorem Lq.nd {ob ob' : O} {n : Nat} {k : Kd} (q : Lq ob ob') (hm : m[n]? = ξ ob) (h : Nd m n false k ws) : Nd (m.set n ob') n false k ws := by
 have hl : n < m.length := oN hm
 have e : (m.set n ob')[n]? = ξ ob' := List.getElem?_set_self hl
 rcases h with h | ⟨_, u, hk, h⟩
 ·rw [hm] at h
  have h := Option.some.inj h
  subst h
  cases k with
  | lst => cases q
  | dct ks =>
   generalize hz : ks.zip ws = z at *
   have : Kd.mk (.dct ks) ws = .dct z := by simp [Kd.mk, hz]
   rw [this] at q
   cases q
   exact .inr ⟨rfl, _, by simp [Kd.lk, hz], e⟩
  | dtp ks =>
   generalize hz : ks.zip ws = z at *
   have : Kd.mk (.dtp ks) ws = .dtp z := by simp [Kd.mk, hz]
   rw [this] at q
   cases q
   exact .inr ⟨rfl, _, by simp [Kd.lk, hz], e⟩
  | ins C fs => cases q
  | xd fs => cases q
 ·rw [hm] at h
  have h := Option.some.inj h
  subst h
  cases k with
  | lst => cases hk
  | dct ks =>
   simp only [Kd.lk, Option.some.injEq] at hk
   subst hk
   cases q
   exact .inl e
  | dtp ks =>
   simp only [Kd.lk, Option.some.injEq] at hk
   subst hk
   cases q
   exact .inl e
  | ins C fs => cases hk
  | xd fs => cases hk
theorem Rps.consN {t : T} {w : W} (h : Rp m S t w []) (hs : Rps m S ts ws []) : Rps m S (t :: ts) (w :: ws) [] := ⟨w, ws, [], [], rfl, h, hs, rfl⟩
def oU : T → Option (List T)
 | .nd _ (.dct _) ts => ξ ts
 | _ => ζ
end
section
def xj (fT : T → Option (List T)) (a : VD) : VI := fun te => bu (a te) fun t te1 => if hot t = true then ζ else match fT t with
 | some ts => ξ (.ok ts te1)
 | none => ζ
end
section
end
section
variable {κ: Type}[DecidableEq κ]
end
section
end
section
end
section
end
section
variable {m: M}{S: Own}
def Ac : List T → Option (List Int)
 | [] => ξ []
 | .int i :: ts => (match Ac ts with
  | some is => ξ (i :: is)
  | none => ζ)
 | _ :: _ => ζ
def qC : List Key → Option (List Int)
 | [] => ξ []
 | .inl i :: ks => (match qC ks with
  | some is => ξ (i :: is)
  | none => ζ)
 | _ :: _ => ζ
def HQ : T → Option (List T)
 | .nd _ .lst ts => ξ ts
 | .scr ns => ξ (ns.map T.int)
 | _ => ζ
theorem Fs {t : T} {w : W} {G : List Nat} {ts : List T} (q : Rp m S t w G) (h : HQ t = ξ ts) : ∃ ws G', dy m w = ξ ws ∧ Rps m S ts ws G' ∧ J3 m w = ζ ∧ ∀ n, G'.count n ≤ G.count n := by
 cases t <;> first | (cases h; done) | skip
 ·cases h
  obtain ⟨rfl, rfl⟩ := q
  exact ⟨_, [], rfl, Rps.ints, rfl, fun n => Nat.le_refl _⟩
 ·rename_i o k us
  cases k <;> first | (cases h; done) | skip
  cases h
  obtain ⟨n, ws, G', rfl, e1, ft, q, c⟩ := q
  have e2 : m[n]? = ξ (.lst ws) := e1.lst
  refine ⟨ws, G', by simp only [dy, e2], q, by simp only [J3, dK?, e2], fun z => ?_⟩
  rcases c with ⟨_, rfl⟩ | ⟨_, _, rfl, rfl⟩
  ·rw [List.count_cons]; omega
  ·exact Nat.le_refl _
end
section
end
section
end
def hZ : Nat → List T → List T
 | _, [] => []
 | i, t :: ts => .tup [.int (i : Nat), t] :: hZ (i + 1) ts
theorem lj {m : M} {S : Own} : ∀ {i : Nat} {ts : List T} {ws : List W}, Rps m S ts ws [] → Rps m S (hZ i ts) (iN i ws) []
 | _, [], _, q => by obtain ⟨rfl, _⟩ := q; exact ⟨rfl, rfl⟩
 | i, t :: ts, _, q => by
  obtain ⟨w, ws', rfl, h1, h2⟩ := q.cons_nil
  exact Rps.consN ⟨_, rfl, Rps.consN ⟨rfl, rfl⟩ (Rps.consN h1 ⟨rfl, rfl⟩)⟩ (lj h2)
def Hs (as : VA) : VI := fun te => bu (as te) fun ts te1 => match ts with
 | [t] => if hot t = true then ζ else (match t with
  | .tup us => ξ (.ok (hZ 0 us) te1)
  | .im (.tpl _) us => ξ (.ok (hZ 0 us) te1)
  | t => (match HQ t with
   | some us => ξ (.ok (hZ 0 us) te1)
   | none => ζ))
 | _ => ζ
section
variable {das: DA}{vas: VA}
theorem Ip (ha : XA das vas) : XI (CI das) (Hs vas) := fun m S te env F st => by
  have h0 := ha m S te env F st
  unfold Hs CI FV FW
  cases hy : vas te with
  | none => trivial
  | some y =>
    rw [hy] at h0
    cases y with
    | exc C d te1 =>
      obtain ⟨b, m1, S1, F1, G1, e, q, ev, r⟩ := h0
      rw [e]
      exact ⟨b, m1, S1, F1, G1, rfl, q, ev, r⟩
    | ok ts te1 =>
      obtain ⟨ws, m1, S1, F1, G1, e, q, ev, r⟩ := h0
      rw [e]
      simp only [bu, bnd]
      match ts, r with
      | [], _ => trivial
      | _ :: _ :: _, _ => trivial
      | [t], r =>
        simp only
        by_cases hh : hot t = true
        · rw [if_pos hh]; trivial
        rw [if_neg hh]
        obtain ⟨w, rfl, q1⟩ := Rps.one_of r
        obtain rfl := Rp.cold (by simpa using hh) q1
        rw [List.append_nil] at q
        by_cases ht : ∃ us, t = .tup us
        · obtain ⟨us, rfl⟩ := ht
          obtain ⟨xs, rfl, qs⟩ := q1
          simp only [Aa, if_true]
          exact ⟨_, m1, S1, F1, [], rfl, by rw [List.append_nil]; exact q, ev, rfl, lj qs, fun _ _ => rfl⟩
        by_cases hn : ∃ nd us, t = .im (.tpl nd) us
        · obtain ⟨nd, us, rfl⟩ := hn
          obtain ⟨xs, rfl, qs⟩ := q1
          simp only [Aa, if_true]
          exact ⟨_, m1, S1, F1, [], rfl, by rw [List.append_nil]; exact q, ev, rfl, lj qs, fun _ _ => rfl⟩
        · have hb : Aa (ξ (.ok [w] m1)) = false := by
            cases t <;> first | (obtain ⟨rfl, _⟩ := q1; rfl) | (obtain ⟨n, ws, G', rfl, _⟩ := q1; rfl) | exact absurd ⟨_, rfl⟩ ht | (rename_i k us; obtain ⟨ws, rfl, _⟩ := q1; cases k <;> first | exact absurd ⟨_, _, rfl⟩ hn | rfl)
          have hm : ∀ (t : T), (¬ ∃ us, t = .tup us) → (¬ ∃ nd us, t = .im (.tpl nd) us) → (match t with
            | .tup us => ξ (VR.ok (hZ 0 us) te1)
            | .im (.tpl _) us => ξ (VR.ok (hZ 0 us) te1)
            | t => (match HQ t with
              | some us => ξ (.ok (hZ 0 us) te1)
              | none => ζ)) = (match HQ t with
              | some us => ξ (.ok (hZ 0 us) te1)
              | none => ζ) := fun t ht hn => by
            cases t <;> first | rfl | exact absurd ⟨_, rfl⟩ ht | (rename_i k us; cases k <;> first | exact absurd ⟨_, _, rfl⟩ hn | rfl)
          rw [hm t ht hn]
          simp only [hb, Bool.false_eq_true, if_false]
          cases hl : HQ t with
          | none => trivial
          | some us =>
            obtain ⟨xs, G', e1, qs, _, le⟩ := Fs q1 hl
            have hG : G' = [] := by
              cases G' with
              | nil => rfl
              | cons a l => have := le a; simp at this
            subst hG
            simp only [e1]
            refine ⟨_, m1, S1, F1, [], rfl, by rw [List.append_nil]; exact q, ev, rfl, lj qs, fun m2 k => ?_⟩
            cases t <;> first | (cases hl; done) | skip
            · obtain ⟨rfl, _⟩ := q1
              simp only [dy] at e1
              cases e1
              simp [dy]
            · rename_i o kd cs
              cases kd <;> first | (cases hl; done) | skip
              obtain ⟨n, ws, G', rfl, e3, _, _, c⟩ := q1
              have e4 : m1[n]? = ξ (.lst ws) := e3.lst
              simp only [dy, e4] at e1
              cases e1
              rcases c with ⟨_, c⟩ | ⟨_, hS, _⟩
              · cases c
              · simp only [isLst_self, dy, (k n _ e4 hS).plain rfl]
end
section
end
section
def Jt : List T → Option (List (List Int))
 | [] => ξ []
 | .tup ts :: r => (match Ac ts, Jt r with
  | some k, ξ ks => ξ (k :: ks)
  | _, _ => ζ)
 | _ :: _ => ζ
def rowsT (ks : List (List Int)) : List T := ks.map fun k => .tup (k.map T.int)
def Ju : List (List Key) → Option (List (List Int))
 | [] => ξ []
 | k :: r => (match qC k, Ju r with
  | some i, ξ is => ξ (i :: is)
  | _, _ => ζ)
def sQ (ks : Option (List (List Int))) : Option PN := match ks with
 | some ks => if EB ks = true then ξ (.new .lst (rowsT (z5 ks))) else ζ
 | none => ζ
def oh : GN := g1 fun t => match t with
 | .nd _ (.dtp ks) _ => sQ (Ju ks)
 | .nd _ .lst (.tup u :: us) => sQ (Jt (.tup u :: us))
 | .nd _ (.dct ks) _ => (match qC ks with
  | some is => if is.length < 64 then ξ (.new .lst ((jB is).map T.int)) else ζ
  | none => ζ)
 | t => (match HQ t with
  | some ts => (match Ac ts with
   | some is => ξ (.new .lst ((jB is).map T.int))
   | none => ζ)
  | none => ζ)
end
def rh (C : Addr) (fs : List Str) (vas : VA) : cq := fun te => ph (vas te) fun ts te1 => if ts.length = fs.length ∧ ts.length ≤ 1000 then ξ (.exc C (ξ (.nd true (.xd fs.reverse) ts.reverse)) te1) else ζ
section
variable {vd: VD}{vb: cq}{C: Addr}{fs: List Str}{i: Nat}
def yG (i : Nat) (f : Str) : VV := fun te => match te[i]? with
 | some (ξ (.nd _ (.xd fs) ts)) => (fs.zip ts).lookup f
 | _ => ζ
def yB (exm : Addr → Option Bool) (C : Addr) (i : Nat) (vb : cq) (vd : VD) : cq := fun te => match vb te with
 | some (.exc C' d te') => (match exm C' with
  | some true => if C' = C ∧ i < te'.length then (match vd (te'.set i d) with
   | some (.ok t te2) => ξ (.fl (.ret t) te2)
   | _ => ζ) else ζ
  | some false => ξ (.exc C' d te')
  | none => ζ)
 | x => x
end
section
end
section
variable {t: T}
def IJ (a : VD) : VD := fun te => bu (a te) fun t te1 => kW (Jq t) te1
end
section
end
end BV
end
section
namespace BV
open PySem hiding Env
open L2 SB
section
end
end BV
end
section
namespace KV
open PySem hiding Env
open L2 SB BV
def g5 (c : Cn) : cq :=
  (aX (cb (az (aG (.int 0))) (gName 2))
  (aX (aE [0] (eN (kL (aH JD (ai 1) (bz gI (av (ai 0) aD)))) (aE [0] (cb (az (aH eP (ai 0) (ai 1))) (gName 2))) bO))
  (bG (cg (aa (az (aH fN (bz xG (av (ai 2) aD)) (bz wj (av (aH K8 (bz xG (av (ai 2) aD)) (aH pC (aG (.int 10)) (aG (.int 18)))) aD)))) (aa (az (aH cG (aH fN (aH cG (aH cG (aH tj (ai 2) (aG (.int 2305843009213693951))) (aH fN (aG (.int 7919)) (ai 1))) (aG (.int 31))) (aG (.int 48271))) (ai 1))) (aa (az (aG (.int 0))) aq)))))))
def dM (c : Cn) : gy := cA [false, false] 3 (g5 c)
def gL (c : Cn) : cq :=
  (aX (aE [3] (eN (kL (aH K7 (aH eP (ai 0) (aG (.int 0))) (aG (.int 0)))) (aX (cb (az (aH tj (aH eP (ai 0) (aG (.int 0))) (ai 1))) (gName 3))
  (aX (aE [1] (vV th 0 (az (aG (.int 0))) (az (aH zi (aH eP (ai 0) (aG (.int 0))) (ai 1)))))
  (bG (az (ai 3))))) bO))
  (aX (vV th 0 (az (aG (.int 2))) (az (aH cG (aH eP (ai 0) (aG (.int 2))) (aG (.int 1)))))
  (aX (cb (az (aH tj (aH pC (aH cG (aH eP (ai 0) (aG (.int 1))) (aH fN (aG (.int 1000003)) (aH eP (ai 0) (aG (.int 2))))) (aG (.int 3))) (aG (.int 2305843009213693921)))) (gName 2))
  (aX (cb (az (aH tj (aH pC (aH cG (aH zi (ai 2) (aG (.int 512))) (aH fN (aG (.int 7)) (aH eP (ai 0) (aG (.int 2))))) (aG (.int 2))) (aG (.int 2147483629)))) (gName 2))
  (bG (az (aH tj (aH zi (ai 2) (aG (.int 32))) (ai 1))))))))
def e8 (c : Cn) : gy := cA [true, false] 4 (gL c)
def kb (c : Cn) : cq :=
  (bG (az (Du (bz (oj c) (av (ai 0) (av (aG (.ty "int")) aD))) (Ds (bz (oj c) (av (ai 0) (av (aG (.ty "bool")) aD)))))))
def ja (c : Cn) : gy := cA [false] 1 (kb c)
def ie (c : Cn) : cq :=
  (bG (Er (bR (ja c) [] (aa (az (ai 0)) aq)) (az (vU qLe JD (aG (.int 0)) (ai 0) (ai 1)))))
def f6 (c : Cn) : gy := cA [false, false] 2 (ie c)
def lE (c : Cn) : cq :=
  (bG (az (bz gI (av (bx (c.cl "Kind") "entries" (ai 0)) aD))))
def gx (c : Cn) : gy := cA [false] 1 (lE c)
def j0 (c : Cn) : cq :=
  (aX (eN (kh (fm (kL (bz (oj c) (av (ai 1) (av (aG (.ty "tuple")) aD))))) (kL (aH lU (bz gI (av (ai 1) aD)) (bz gI (av (ai 0) aD))))) (bG (az (aG (.bl false)))) bO)
  (bG (Hu EW (aa (aL (xi (Bs 2 (aa (az (ai 1)) (aa (az (ai 0)) aq))) (jE 2 (bw (gName 2) (bw (gName 3) gF))) gQ (bR (f6 c) [] (aa (az (ai 2)) (aa (vW (c.cl "Kind") (gx c) (ai 3)) aq))) [2, 3])) aq))))
def fD (c : Cn) : gy := cA [false, false] 4 (j0 c)
def kc (c : Cn) : cq :=
  (bG (az (aH eP (aH eP (aH eP (bx (c.cl "Kind") "entries" (ai 0)) (ai 1)) (ai 2)) (ai 3))))
def jb (c : Cn) : gy := cA [false, false, false, false] 4 (kc c)
def o8 (c : Cn) : cq :=
  (aX (cb (cg aq) (gName 4))
  (aX (aE [0, 1, 2, 3, 5, 6, 7, 8] (g8 (Bs 4 (aa (az (ai 0)) (aa (az (ai 1)) (aa (az (ai 2)) (aa (az (ai 3)) aq))))) (jE 4 (bw (gName 5) (bw (gName 6) (bw (gName 7) (bw (gName 8) gF))))) (aE [5, 6, 7, 8] (aE [5, 6, 7, 8] (j7 (mG "list" i5 4 (aa (dj (c.cl "Kind") "apply" (jb c) [] (ai 5) (aa (az (ai 5)) (aa (az (ai 6)) (aa (az (ai 7)) (aa (az (ai 8)) aq))))) aq)))))))
  (bG (az (bz u3 (av (ai 4) aD))))))
def mC (c : Cn) : gy := cA [false, false, false, false] 9 (o8 c)
def jI (c : Cn) : cq :=
  (aX (cb (aL (cg (aa (az (aG .non)) (aa (az (aG (.bl true))) (aa (az (aG (.bl false))) (aa (az (qZ rB (aG (.int 1)))) (aa (az (aG (.int 4))) (aa (az (aH pC (aG (.int 10)) (aG (.int 25)))) (aa (az (aG (.str ""))) (aa (az (aG (.str "0"))) (aa (az (aG (.str "ab"))) (aa (aL (cg aq)) (aa (aL (cg (aa (az (aG (.int 0))) aq))) (aa (aL (cg (aa (az (aG (.int 0))) (aa (az (aG (.int 0))) aq)))) (aa (az (ew (av (aG .non) aD))) (aa (az (ew (av (aG (.bl true)) aD))) (aa (az (ew (av (qZ rB (aG (.int 1))) aD))) (aa (az (ew (av (aG (.int 4)) aD))) (aa (az (ew (av (aG (.str "0")) aD))) aq))))))))))))))))))) (gName 1))
  (aX (cb (aL (jq cG (az (ai 1)) (aL (cg (aa (az (ew (av (ew (av (aG (.int 0)) aD)) aD))) (aa (nV (aa (aL (cg (aa (az (aG (.int 0))) aq))) aq)) (aa (az (ew (av (aG (.int 0)) (av (aG (.bl true)) aD)))) (aa (az (ew (av (aG (.bl false)) (av (aG (.int 0)) aD)))) (aa (az (ew (av (aG (.int 0)) (av (aG .non) aD)))) (aa (nV (aa (aL (cg aq)) (aa (az (aG (.int 0))) aq))) (aa (az (ew (av (aG (.int 0)) (av (qZ rB (aG (.int 1))) aD)))) (aa (az (ew (av (aH pC (aG (.int 10)) (aG (.int 25))) (av (aG (.int 0)) aD)))) (aa (aL (cg (aa (az (ew (av (aG (.int 0)) (av (aG (.int 0)) aD)))) aq))) aq))))))))))))) (gName 1))
  (bG (jq eP (az (ai 1)) (bR (e8 c) [0] (mF 0 (aa (az (bz gI (av (ai 1) aD))) aq)))))))
def f7 (c : Cn) : gy := cA [true] 2 (jI c)
def jl (c : Cn) : cq :=
  (bG (az (aH u5 (aH eP (bx (c.cl "Forks") "by_value" (ai 0)) (ai 2)) (aH eP (ai 1) (ai 2)))))
def bT (c : Cn) : gy := cA [false, false, false] 3 (jl c)
def o9 (c : Cn) : cq :=
  (aX (cb (dj (c.cl "Forks") "lot_of" (bT c) [] (ai 0) (aa (az (ai 0)) (aa (az (ai 1)) (aa (az (ai 2)) aq)))) (gName 4))
  (bG (bR (mC c) [] (aa (az (bx (c.cl "Forks") "row_kinds" (ai 0))) (aa (az (ai 1)) (aa (az (aH u5 (ai 4) (aH eP (ai 1) (ai 2)))) (aa (az (aH u5 (ai 4) (ai 3))) aq)))))))
def dN (c : Cn) : gy := cA [false, false, false, false] 5 (o9 c)
def nr (c : Cn) : cq :=
  (aX (aE [0, 2, 3, 4, 5] (g8 (yC (aa (az (ai 2)) (aa (az (bz gI (av (bx (c.cl "Forks") "row_kinds" (ai 0)) aD))) aq))) (gName 4) (aE [4, 5] (aX (cb (aL (Hu oh (aa (dj (c.cl "Forks") "lot_of" (bT c) [] (ai 0) (aa (az (ai 0)) (aa (az (ai 1)) (aa (az (ai 4)) aq)))) aq))) (gName 5))
  (aE [4, 5] (cb (dj (c.cl "Forks") "moved" (dN c) [] (ai 0) (aa (az (ai 0)) (aa (az (ai 1)) (aa (az (ai 4)) (aa (I0 (kL (ai 3)) (az (aH eP (ai 5) (qZ rB (aG (.int 1))))) (az (aH eP (ai 5) (aG (.int 0))))) aq))))) (gName 1)))))))
  (bG (az (ai 1))))
def g4 (c : Cn) : gy := cA [false, false, false, false] 6 (nr c)
def lF (c : Cn) : cq :=
  (aX (aE [0, 1, 2] (g8 (kj (az (bx (c.cl "Forks") "lots" (ai 0)))) (gName 1) (aE [1, 2] (aE [1, 2] (g8 (xj oU (az (aH eP (ai 1) (aG (.int 0))))) (gName 2) (aE [2] (bG (az (ai 2)))))))))
  (bG (az (ew aD))))
def f9 (c : Cn) : gy := cA [false] 3 (lF c)
def sE (c : Cn) : cq :=
  (bG (I0 (kL (aH kT (ai 0) (aG .non))) (az (aG .non)) (dj (c.cl "Forks") "driven" (g4 c) [] (ai 0) (aa (az (ai 0)) (aa (dj (c.cl "Forks") "some_row" (f9 c) [] (ai 0) (aa (az (ai 0)) aq)) (aa (az (aG (.int 0))) (aa (az (ai 1)) aq)))))))
def uG (c : Cn) : gy := cA [false, false] 2 (sE c)
def kF (c : Cn) : cq :=
  (bG (bR (uG c) [] (aa (az (bx (c.cl "ClosedSet") "forks" (ai 0))) (aa (az (aG (.bl false))) aq))))
def lD (c : Cn) : gy := cA [false] 1 (kF c)
def lG (c : Cn) : cq :=
  (aX (eN (fm (cE (bR (fD c) [] (aa (az (bx (c.cl "ClosedSet") "set_kinds" (ai 0))) (aa (az (ai 1)) aq))))) rj bO)
  (aX (eN (kL (aH kT (bx (c.cl "ClosedSet") "forks" (ai 0)) (aG .non))) rj bO)
  (aX (cb (dj (c.cl "Forks") "driven" (g4 c) [] (bx (c.cl "ClosedSet") "forks" (ai 0)) (aa (az (bx (c.cl "ClosedSet") "forks" (ai 0))) (aa (dj (c.cl "Forks") "some_row" (f9 c) [] (bx (c.cl "ClosedSet") "forks" (ai 0)) (aa (az (bx (c.cl "ClosedSet") "forks" (ai 0))) aq)) (aa (az (aG (.int 0))) (aa (az (aG (.bl false))) aq))))) (gName 2))
  (aX (cb (cg aq) (gName 3))
  (aX (aE [0, 1, 4, 5] (g8 (Hs (aa (az (ai 1)) aq)) (jE 2 (bw (gName 4) (bw (gName 5) gF))) (aE [4, 5] (aX (eN (cE (jq (BP true) (az (ai 5)) (dj (c.cl "Forks") "lot_of" (bT c) [] (bx (c.cl "ClosedSet") "forks" (ai 0)) (aa (az (bx (c.cl "ClosedSet") "forks" (ai 0))) (aa (az (ai 2)) (aa (az (ai 4)) aq)))))) (bG (nV (aa (xk 3) (aa (az (ai 4)) (aa (az (ai 2)) aq))))) bO)
  (aE [4, 5] (eN (kL (aH lU (ai 5) (aH eP (ai 2) (ai 4)))) (aX (cb (dj (c.cl "Forks") "moved" (dN c) [] (bx (c.cl "ClosedSet") "forks" (ai 0)) (aa (az (bx (c.cl "ClosedSet") "forks" (ai 0))) (aa (az (ai 2)) (aa (az (ai 4)) (aa (az (ai 5)) aq))))) (gName 2))
  (aE [4, 5] (j7 (mG "list" i5 3 (aa (az (ew (av (ai 4) (av (ai 5) aD)))) aq))))) bO))))))
  (bG (nV (aa (xk 3) (aa (az (aG .non)) (aa (az (ai 2)) aq))))))))))
def eh (c : Cn) : gy := cA [false, false] 6 (lG c)
def mD (c : Cn) : cq :=
  (aX (eN (kh (kL (aH kT (bx (c.cl "ClosedSet") "forks" (ai 0)) (aG .non))) (fm (cE (bR (fD c) [] (aa (az (bx (c.cl "ClosedSet") "set_kinds" (ai 0))) (aa (az (ai 1)) aq)))))) (bG (az (aG (.bl false)))) bO)
  (aX (aE [0, 1, 2, 4] (cb (dj (c.cl "ClosedSet") "walk" (eh c) [] (ai 0) (aa (az (ai 0)) (aa (az (ai 1)) aq))) (jE 3 (bw (gName 2) (bw (gName 3) (bw (gName 4) gF))))))
  (bG (az (aH kT (ai 3) (aG .non))))))
def V_ClosedSet_has (c : Cn) : gy := cA [false, false] 5 (mD c)
end KV
end
section
namespace BV
open PySem hiding Env
open L2 SB
section
end
section
end
end BV
end
section
namespace KV
open PySem hiding Env
open L2 SB BV
end KV
end
section
namespace BV
open PySem hiding Env
open L2 SB
end BV
end
section
namespace BV
open PySem hiding Env
open L2 hiding TE gName VV
open SB
def Dw (g : G2) (i : Nat) (b : VD) : VD := fun te => match te[i]? with
 | some (ξ _) => bu (b te) fun y te1 => (match te1[i]? with
  | some (ξ x) => dX (g x y) te1
  | _ => ζ)
 | _ => ζ
section
variable {g: G2}
@[simp] theorem Hl {i : Nat} {b : VD} {te : TE} : Dw g i b te = match te[i]? with
  | some (ξ _) => bu (b te) fun y te1 => (match te1[i]? with
    | some (ξ x) => dX (g x y) te1
    | _ => ζ)
  | _ => ζ := rfl
end
end BV
end
section
namespace KV
open PySem hiding Env
open L2 SB BV
end KV
end
section
namespace BV
open PySem hiding Env
open L2 hiding TE gName VV
open SB
end BV
end
section
namespace KV
open PySem hiding Env
open L2 SB BV
end KV
end
section
namespace BV
open PySem hiding Env
open L2 hiding TE gName VV
open SB
section
end
section
end
section
variable {v: VG}{zs: List Nat}{b e: VV}
def lcP (v : VG) (b e : VV) (te : TE) : List T → Option (List T)
 | [] => ξ []
 | t :: ts => match v t te with
  | some te1 => (match b te1 with
   | some (.bl true) => (match e te1 with
    | some y => if hot y = true then ζ else (match lcP v b e te ts with
     | some ys => ξ (y :: ys)
     | none => ζ)
    | none => ζ)
   | some (.bl false) => lcP v b e te ts
   | _ => ζ)
  | none => ζ
def vLcP (i : Nat) (v : VG) (b e : VV) (zs : List Nat) : VD := fun te => match te[i]? with
 | some (ξ (.nd _ .lst ts)) => if hots ts = false ∧ ts.length ≤ sizeLine ∧ dZ te zs = true then (match lcP v b e (aR te zs) ts with
  | some ys => ξ (.ok (.nd true .lst ys) te)
  | none => ζ) else ζ
 | _ => ζ
end
end BV
end
section
namespace KV
open PySem hiding Env
open L2 SB BV
end KV
end
section
namespace BV
open PySem hiding Env
open L2 SB
def VP {α : Type} (x : Option (VR α)) (Q : α → TE → Prop) : Prop := ∃ a te, x = ξ (.ok a te) ∧ Q a te
def VSP (x : Option VS) (Q : VF → TE → Prop) : Prop := ∃ f te, x = ξ (.fl f te) ∧ Q f te
def Dl (x : Option VC) (Q : T → List T → Prop) : Prop := ∃ t fs, x = ξ (.ok t fs) ∧ Q t fs
section
variable {α β: Type}{te te1: TE}{Q: VF → TE → Prop}
theorem VSP.mk {f : VF} {x : Option VS} (e : x = ξ (.fl f te)) (h : Q f te) : VSP x Q := ⟨f, te, e, h⟩
theorem VSP.imp {x : Option VS} {Q' : VF → TE → Prop} (h : VSP x Q) (i : ∀ f te, Q f te → Q' f te) : VSP x Q' := by
 obtain ⟨f, te, e, q⟩ := h
 exact ⟨f, te, e, i f te q⟩
abbrev Thn (P : TE → Prop) (Q : VF → TE → Prop) : VF → TE → Prop := fun f te => match f with
 | .next => P te
 | f => Q f te
theorem w7 {a b : cq} (h : VSP (a te) (Thn (fun te' => VSP (b te') Q) Q)) : VSP (aX a b te) Q := by
 obtain ⟨f, te1, e, q⟩ := h
 unfold aX
 rw [e]
 cases f with
 | next => exact q
 | ret t => exact ⟨_, _, rfl, q⟩
 | brk => exact ⟨_, _, rfl, q⟩
 | cont => exact ⟨_, _, rfl, q⟩
theorem aS {a b : cq} (e : a te = ξ (.fl .next te1)) (h : VSP (b te1) Q) : VSP (aX a b te) Q := w7 ⟨.next, te1, e, h⟩
theorem Bc {zs : List Nat} {a : cq} (h : VSP (a te) fun f te' => match f with
  | .ret t => Q (.ret t) te'
  | f => Q f (aR te' zs)) : VSP (aE zs a te) Q := by
 obtain ⟨f, te1, e, q⟩ := h
 unfold aE
 rw [e]
 cases f with
 | next => exact ⟨_, _, rfl, q⟩
 | ret t => exact ⟨_, _, rfl, q⟩
 | brk => exact ⟨_, _, rfl, q⟩
 | cont => exact ⟨_, _, rfl, q⟩
theorem jc {a : VD} {t : T} (e : a te = ξ (.ok t te1)) (h : Q (.ret t) te1) : VSP (bG a te) Q := ⟨.ret t, te1, by simp only [bG, e, ph], h⟩
def EndV (ms : List Bool) (Q : T → List T → Prop) : VF → TE → Prop := fun f te => match f with
 | .next => ∃ fs, fM ms te = ξ fs ∧ Q .non fs
 | .ret t => ∃ fs, fM ms te = ξ fs ∧ Q t fs
 | _ => False
theorem ib {ms : List Bool} {n : Nat} {b : cq} {ts : List T} {Q : T → List T → Prop} (hl : ts.length = ms.length) (h : VSP (b (ts.map ξ ++ List.replicate (n - ms.length) ζ)) (EndV ms Q)) : Dl (cA ms n b ts) Q := by
 obtain ⟨f, te, e, q⟩ := h
 unfold cA
 rw [if_pos hl, e]
 cases f with
 | next => obtain ⟨fs, e2, q⟩ := q; exact ⟨_, _, by simp only [e2], q⟩
 | ret t => obtain ⟨fs, e2, q⟩ := q; exact ⟨_, _, by simp only [e2], q⟩
 | brk => exact q.elim
 | cont => exact q.elim
theorem vfor {g : VG} {body : cq} {ts : List T} (I : Nat → TE → Prop)
  (step : ∀ (i : Nat) t te, ts[i]? = ξ t → I i te → ∃ te1, g t te = ξ te1 ∧ VSP (body te1) fun f te2 => match f with
   | .next => I (i + 1) te2
   | .cont => I (i + 1) te2
   | .brk => Q .next te2
   | .ret r => Q (.ret r) te2)
  (fin : ∀ te, I ts.length te → Q .next te) (h0 : I 0 te) : VSP (cM g body ts te) Q := by
 have key : ∀ (us : List T) (i : Nat) (te : TE), ts.drop i = us → i ≤ ts.length → I i te → VSP (cM g body us te) Q := by
  intro us
  induction us with
  | nil =>
   intro i te hd hi h
   have hl : ts.length ≤ i := List.drop_eq_nil_iff.mp hd
   have e : i = ts.length := by omega
   subst e
   exact ⟨_, _, rfl, fin te h⟩
  | cons t us ih =>
   intro i te hd hi h
   have hw : ts[i]? = ξ t := by
    have := congrArg List.head? hd
    rw [List.head?_drop] at this
    exact this
   have hlt : i < ts.length := (List.getElem?_eq_some_iff.mp hw).1
   have hws : ts.drop (i + 1) = us := by
    rw [← List.tail_drop, hd]
    rfl
   obtain ⟨te1, e1, f, te2, eb, q⟩ := step i t te hw h
   unfold cM
   simp only [e1, eb]
   cases f with
   | next => exact ih (i + 1) te2 hws hlt q
   | cont => exact ih (i + 1) te2 hws hlt q
   | brk => exact ⟨_, _, rfl, q⟩
   | ret r => exact ⟨_, _, rfl, q⟩
 exact key ts 0 te (by simp) (Nat.zero_le _) h0
theorem Dk {vi : VI} {g : VG} {body : cq} {ts : List T} (e : vi te = ξ (.ok ts te1)) (h : VSP (cM g body ts te1) Q) : VSP (g8 vi g body te) Q := by
 unfold g8
 rw [e]
 exact h
theorem vlc {g : VG} {tt : VT} {elt : VD} {zs : List Nat} {ts : List T} (I : Nat → List T → TE → Prop)
  (step : ∀ (i : Nat) t ys te, ts[i]? = ξ t → I i ys te → ∃ te1, g t te = ξ te1 ∧ VP (tt te1) fun b te2 => if b = true then VP (elt te2) fun y te3 => I (i + 1) (ys ++ [y]) (aR te3 zs) else I (i + 1) ys (aR te2 zs)) (h0 : I 0 [] te) :
  ∃ ys te', jr g tt elt zs ts te = ξ (ys, te') ∧ I ts.length ys te' := by
 have key : ∀ (us : List T) (i : Nat) (ys : List T) (te : TE), ts.drop i = us → i ≤ ts.length → I i ys te → ∃ zz te', jr g tt elt zs us te = ξ (zz, te') ∧ I ts.length (ys ++ zz) te' := by
  intro us
  induction us with
  | nil =>
   intro i ys te hd hi h
   have hl : ts.length ≤ i := List.drop_eq_nil_iff.mp hd
   have e : i = ts.length := by omega
   subst e
   exact ⟨[], te, rfl, by rw [List.append_nil]; exact h⟩
  | cons t us ih =>
   intro i ys te hd hi h
   have hw : ts[i]? = ξ t := by
    have := congrArg List.head? hd
    rw [List.head?_drop] at this
    exact this
   have hlt : i < ts.length := (List.getElem?_eq_some_iff.mp hw).1
   have hws : ts.drop (i + 1) = us := by
    rw [← List.tail_drop, hd]
    rfl
   obtain ⟨te1, e1, b, te2, eb, q⟩ := step i t ys te hw h
   unfold jr
   simp only [e1, eb]
   cases b with
   | false =>
    obtain ⟨zz, te', e, q'⟩ := ih (i + 1) ys _ hws hlt q
    exact ⟨zz, te', e, q'⟩
   | true =>
    rw [if_pos rfl] at q
    obtain ⟨y, te3, ey, q⟩ := q
    obtain ⟨zz, te', e, q'⟩ := ih (i + 1) (ys ++ [y]) _ hws hlt q
    exact ⟨y :: zz, te', by simp only [ey, e], by rw [List.append_assoc] at q'; exact q'⟩
 obtain ⟨zz, te', e, q⟩ := key ts 0 [] te (by simp) (Nat.zero_le _) h0
 exact ⟨zz, te', e, q⟩
theorem Br {g : VG} {elt : VD} {zs : List Nat} {ts : List T} (f : Nat → T → T) (step : ∀ (i : Nat) t, ts[i]? = ξ t → ∃ te1 te3, g t te = ξ te1 ∧ elt te1 = ξ (.ok (f i t) te3) ∧ aR te3 zs = te) :
  jr g gQ elt zs ts te = ξ (ts.mapIdx f, te) := by
 obtain ⟨ys, te', e, hl, h, ht⟩ := vlc (g := g) (tt := gQ) (elt := elt) (zs := zs) (ts := ts) (te := te) (fun i ys te' => ys.length = i ∧ (∀ (j : Nat) t, j < i → ts[j]? = ξ t → ys[j]? = ξ (f j t)) ∧ te' = te) (fun i t ys te' ht hI => by
  obtain ⟨h1, h2, rfl⟩ := hI
  obtain ⟨te1, te3, e1, e2, e3⟩ := step i t ht
  refine ⟨te1, e1, true, te1, rfl, f i t, te3, e2, by simp [h1], fun j u hj hu => ?_, e3⟩
  by_cases z : j = i
  ·subst z
   rw [ht] at hu
   cases hu
   rw [List.getElem?_append_right (by omega), h1]
   simp
  ·rw [List.getElem?_append_left (by omega)]
   exact h2 j u (by omega) hu) ⟨rfl, fun j t h => absurd h (by omega), rfl⟩
 subst ht
 rw [e]
 congr 2
 apply List.ext_getElem?
 intro j
 rw [List.getElem?_mapIdx]
 cases hj : ts[j]? with
 | none =>
  rw [List.getElem?_eq_none (by rw [hl]; exact List.getElem?_eq_none_iff.mp hj)]
  rfl
 | some t => rw [h j t (List.getElem?_eq_some_iff.mp hj).1 hj]; rfl
@[simp ↓] theorem cY {x : Option (VR α)} {k : α → TE → Option (VR β)} : bu x k = match x with
  | none => ζ
  | some (.ok a te) => k a te
  | some (.exc C d te) => ξ (.exc C d te) := rfl
@[simp ↓] theorem ra {x : Option (VR α)} {k : α → TE → Option VS} : ph x k = match x with
  | none => ζ
  | some (.ok a te) => k a te
  | some (.exc C d te) => ξ (.exc C d te) := rfl
@[simp ↓] theorem IH {a b : cq} : aX a b te = match a te with
  | some (.fl .next te') => b te'
  | x => x := rfl
@[simp] theorem pS {i : Nat} : ai i te = match te[i]? with
  | some (ξ t) => ξ t
  | _ => ζ := rfl
@[simp] theorem Bq {t : T} : aG t te = ξ t := rfl
@[simp] theorem yz {g : G2} {a b : VV} : aH g a b te = match a te, b te with
  | some x, ξ y => (match g x y with
    | some (.pur t) => ξ t
    | _ => ζ)
  | _, _ => ζ := rfl
@[simp] theorem Iw {g : G1} {a : VV} : qZ g a te = match a te with
  | some x => (match g x with
    | some (.pur t) => ξ t
    | _ => ζ)
  | none => ζ := rfl
@[simp] theorem lL : aD te = ξ [] := rfl
@[simp] theorem kg {a : VV} {as : sD} : av a as te = match a te, as te with
  | some x, ξ xs => ξ (x :: xs)
  | _, _ => ζ := rfl
@[simp] theorem nS {g : GN} {as : sD} : bz g as te = match as te with
  | some xs => (match g xs with
    | some (.pur t) => ξ t
    | _ => ζ)
  | none => ζ := rfl
@[simp] theorem GX {as : sD} : ew as te = match as te with
  | some xs => if xs.length ≤ sizeLine then ξ (.tup xs) else ζ
  | none => ζ := rfl
@[simp] theorem G8 {C : Addr} {f : Str} {a : VV} : bx C f a te = match a te with
  | some t => lh C f t
  | none => ζ := rfl
@[simp] theorem GZ {a : VV} : Ds a te = match a te with
  | some (.bl b) => ξ (.bl (!b))
  | _ => ζ := rfl
@[simp] theorem G9 {a b : VV} : Du a b te = match a te with
  | some (.bl true) => b te
  | some (.bl false) => ξ (.bl false)
  | _ => ζ := rfl
@[simp] theorem Iz {a b : VV} : vvOr a b te = match a te with
  | some (.bl true) => ξ (.bl true)
  | some (.bl false) => b te
  | _ => ζ := rfl
@[simp] theorem Dt {f g : G2} {a b c : VV} : vU f g a b c te = match a te, b te with
  | some x, ξ y => (match f x y with
    | some (.pur (.bl true)) => (match c te with
      | some z => (match g y z with
        | some (.pur t) => ξ t
        | _ => ζ)
      | none => ζ)
    | some (.pur (.bl false)) => ξ (.bl false)
    | _ => ζ)
  | _, _ => ζ := rfl
@[simp] theorem Iy {a : VV} {lo hi : VO} : vvSl a lo hi te = match a te, lo te, hi te with
  | some t, ξ l, ξ h => (match Hx t l h with
    | some (.pur t) => ξ t
    | _ => ζ)
  | _, _, _ => ζ := rfl
@[simp] theorem KL : voN te = ξ ζ := rfl
@[simp] theorem KJ {a : VV} : voS a te = match a te with
  | some (.int i) => ξ (ξ i)
  | _ => ζ := rfl
@[simp] theorem ri {a : VV} : az a te = match a te with
  | some t => if hot t = true then ζ else ξ (.ok t te)
  | none => ζ := rfl
@[simp] theorem I3 {i : Nat} : xk i te = match te[i]? with
  | some (ξ t) => ξ (.ok (frz t) (te.set i (ξ (frz t))))
  | _ => ζ := rfl
@[simp] theorem IU {i : Nat} : Ep i te = match te[i]? with
  | some (ξ t) => ξ (.ok t (te.set i ζ))
  | _ => ζ := rfl
@[simp] theorem Bt {g : G2} {a b : VD} : jq g a b te = bu (a te) fun x te1 => bu (b te1) fun y te2 => kW (g x y) te2 := rfl
@[simp] theorem Hm {g : G2} {a : VD} {b : VV} : sN g a b te = bu (a te) fun x te1 => match b te1 with
  | some y => dX (g x y) te1
  | none => ζ := rfl
@[simp] theorem Hk {g : G2} {a b : VV} : IP g a b te = match a te, b te with
  | some x, ξ y => dX (g x y) te
  | _, _ => ζ := rfl
@[simp] theorem KQ {g : GN} {as : VA} : Hu g as te = bu (as te) fun xs te1 => kW (g xs) te1 := rfl
@[simp] theorem I4 {g : GN} {as : sD} : vCBV g as te = match as te with
  | some xs => dX (g xs) te
  | none => ζ := rfl
@[simp] theorem xJ {t : T} : kW (ξ (.pur t)) te = ξ (.ok t te) := rfl
@[simp] theorem HL {k : Kd} {ts : List T} : kW (ξ (.new k ts)) te = ξ (.ok (.nd true k ts) te) := rfl
@[simp] theorem Fe {t : T} : dX (ξ (.pur t)) te = if hot t = true then ζ else ξ (.ok t te) := rfl
@[simp] theorem Ff {k : Kd} {ts : List T} : dX (ξ (.new k ts)) te = if hots ts = true then ζ else ξ (.ok (.nd true k ts) te) := rfl
@[simp] theorem lN : aq te = ξ (.ok [] te) := rfl
@[simp] theorem ki {a : VD} {as : VA} : aa a as te = bu (a te) fun x te1 => bu (as te1) fun xs te2 => ξ (.ok (x :: xs) te2) := rfl
@[simp] theorem Hc {i : Nat} {as : VA} : mF i as te = match te[i]? with
  | some (ξ _) => bu (as te) fun xs te1 => (match te1[i]? with
    | some (ξ t) => ξ (.ok (t :: xs) (te1.set i ζ))
    | _ => ζ)
  | _ => ζ := rfl
@[simp] theorem IC {as : VA} : nV as te = bu (as te) fun xs te1 => if xs.length ≤ sizeLine then ξ (.ok (.tup xs) te1) else ζ := rfl
@[simp] theorem yF {as : VA} : cg as te = bu (as te) fun xs te1 => if xs.length ≤ sizeLine then ξ (.ok (.nd true .lst xs) te1) else ζ := rfl
@[simp] theorem Ht {a : VD} : aL a te = bu (a te) fun x te1 => ξ (.ok (frz x) te1) := rfl
@[simp] theorem jO {a : VD} : cE a te = bu (a te) GF := rfl
@[simp] theorem Dd {b : Bool} : GF (.bl b) te = ξ (.ok b te) := rfl
@[simp] theorem KI {a : VV} : kL a te = match a te with
  | some (.bl b) => ξ (.ok b te)
  | _ => ζ := rfl
@[simp] theorem Hb {a b : VT} : IA a b te = bu (a te) fun x te1 => if x = true then b te1 else ξ (.ok false te1) := rfl
@[simp] theorem nT {a b : VT} : kh a b te = bu (a te) fun x te1 => if x = true then ξ (.ok true te1) else b te1 := rfl
@[simp] theorem lM {a : VT} : fm a te = bu (a te) fun x te1 => ξ (.ok (!x) te1) := rfl
@[simp] theorem Ha : gQ te = ξ (.ok true te) := rfl
@[simp] theorem KO {c : VT} {a b : VD} : I0 c a b te = bu (c te) fun x te1 => if x = true then a te1 else b te1 := rfl
@[simp] theorem I6 {a b : VD} : Er a b te = bu (a te) fun x te1 => match x with
  | .bl true => b te1
  | .bl false => ξ (.ok (.bl false) te1)
  | _ => ζ := rfl
@[simp] theorem KN {a b : VD} : vOr a b te = bu (a te) fun x te1 => match x with
  | .bl true => ξ (.ok (.bl true) te1)
  | .bl false => b te1
  | _ => ζ := rfl
@[simp] theorem IQ {a : VD} : IT a te = bu (a te) fun x te1 => match x with
  | .bl k => ξ (.ok (.bl (!k)) te1)
  | _ => ζ := rfl
@[simp] theorem Hn : bO te = ξ (.fl .next te) := rfl
@[simp] theorem KP {f : VF} : vFl f te = ξ (.fl f te) := rfl
@[simp] theorem lP {a : VD} : j7 a te = ph (a te) fun _ te1 => ξ (.fl .next te1) := rfl
@[simp] theorem yD {a : VD} : bG a te = ph (a te) fun t te1 => ξ (.fl (.ret t) te1) := rfl
@[simp] theorem IZ {c : VT} {a b : cq} : eN c a b te = ph (c te) fun x te1 => if x = true then a te1 else b te1 := rfl
@[simp] theorem mv {i : Nat} {t : T} : gName i t te = ξ (te.set i (ξ t)) := rfl
@[simp] theorem Ka {n : Nat} {gs : D9} {ts : List T} : jE n gs (.tup ts) te = if ts.length = n then gs ts te else ζ := rfl
@[simp] theorem HX : gF [] te = ξ te := rfl
@[simp] theorem Gg {g : VG} {gs : D9} {t : T} {ts : List T} : bw g gs (t :: ts) te = match g t te with
  | some te' => gs ts te'
  | none => ζ := rfl
@[simp] theorem I5 {a : VD} {g : VG} : cb a g te = ph (a te) fun t te1 => match g t te1 with
  | some te2 => ξ (.fl .next te2)
  | none => ζ := rfl
@[simp] theorem IK {i j : Nat} {as : VA} : IL i j as te = ph (as te) fun ts te1 => match ts with
  | [x, y] => ξ (.fl .next ((te1.set i (ξ x)).set j (ξ y)))
  | _ => ζ := rfl
@[simp] theorem Hj {i j l : Nat} {as : VA} : yE i j l as te = ph (as te) fun ts te1 => match ts with
  | [x, y, z] => ξ (.fl .next (((te1.set i (ξ x)).set j (ξ y)).set l (ξ z)))
  | _ => ζ := rfl
@[simp] theorem xf {zs : List Nat} {b : cq} : aE zs b te = match b te with
  | some (.fl (.ret t) te1) => ξ (.fl (.ret t) te1)
  | some (.fl f te1) => ξ (.fl f (aR te1 zs))
  | x => x := rfl
@[simp] theorem xa : aR te [] = te := rfl
@[simp] theorem uO {v : Nat} {vs : List Nat} : aR te (v :: vs) = (aR te vs).set v ζ := rfl
@[simp] theorem xl {V : gy} {is : List Nat} {as : VA} : bR V is as te = bu (as te) fun ts te1 => sj is te1 (V ts) := rfl
@[simp] theorem si {is : List Nat} {t : T} {fs : List T} : sj is te (ξ (.ok t fs)) = if fs.length = is.length then ξ (.ok t (hR te is fs)) else ζ := rfl
@[simp] theorem lW {fs : List T} : hR te [] fs = te := by unfold hR; rfl
@[simp] theorem EY {i : Nat} {is : List Nat} {t : T} {fs : List T} : hR te (i :: is) (t :: fs) = hR (te.set i (ξ t)) is fs := rfl
@[simp] theorem lO {C : Addr} {mn : Str} {V : gy} {is : List Nat} {o : VV} {as : VA} : dj C mn V is o as te = match o te with
  | some (.nd _ (.ins C' fs) _) => if C' = C ∧ fs.contains mn = false then bu (as te) fun ts te1 => sj is te1 (V ts) else ζ
  | _ => ζ := rfl
@[simp] theorem Ho {C : Addr} {V : gy} {is : List Nat} {as : VA} : IV C V is as te = bu (as te) fun ts te1 => match V (.nd true (.ins C []) [] :: ts) with
  | some (.ok .non (t :: fs)) => if fs.length = is.length then ξ (.ok t (hR te1 is fs)) else ζ
  | some (.exc C d (_ :: fs)) => if fs.length = is.length then ξ (.exc C d (hR te1 is fs)) else ζ
  | _ => ζ := rfl
@[simp] theorem pT {ty : String} {g : GM} {i : Nat} {as : VA} : mG ty g i as te = match nj te i with
  | some (k0, _) => if k0.ty = ty ∧ ty ≠ "" then bu (as te) fun xs te1 => (match nj te1 i with
    | some (k, ts) => (match g k ts xs with
      | some (t, k', ts') => ξ (.ok t (te1.set i (ξ (.nd true k' ts'))))
      | none => ζ)
    | none => ζ) else ζ
  | none => ζ := rfl
@[simp] theorem uf {i : Nat} : nj te i = match te[i]? with
  | some (ξ (.nd true k ts)) => ξ (k, ts)
  | _ => ζ := rfl
@[simp] theorem Hf {g : G3} {i : Nat} {idx val : VD} : vV g i idx val te = ph (val te) fun y te1 => match idx te1 with
  | some (.ok x te2) => (match nj te2 i with
    | some (k, ts) => (match g k ts x y with
      | some (k', ts') => ξ (.fl .next (te2.set i (ξ (.nd true k' ts'))))
      | none => ζ)
    | none => ζ)
  | _ => ζ := rfl
@[simp] theorem Hg {C : Addr} {f : Str} {i : Nat} {val : VD} : IG C f i val te = ph (val te) fun y te1 => match nj te1 i with
  | some (.ins C' fs, ts) => if C' = C ∧ fs.length < 1000 then ξ (.fl .next (te1.set i (ξ (.nd true (.ins C (xI f y fs ts).1) (xI f y fs ts).2)))) else ζ
  | _ => ζ := rfl
@[simp] theorem xg {as : VA} : iH as te = bu (as te) fun ts te1 => match ts with
  | [.int j] => if sm 1000000000000 j = true then ξ (.ok (iS 0 j.toNat) te1) else ζ
  | _ => ζ := rfl
@[simp] theorem IX {a : VD} : kj a te = bu (a te) fun t te1 => match t with
  | .nd false .lst ts => ξ (.ok ts te1)
  | .scr ns => ξ (.ok (ns.map T.int) te1)
  | .tup ts => if hots ts = true then ζ else ξ (.ok ts te1)
  | .im (.tpl _) ts => if hots ts = true then ζ else ξ (.ok ts te1)
  | _ => ζ := rfl
@[simp] theorem nu {vi : VI} {g : VG} {tt : VT} {elt : VD} {vs : List Nat} : xi vi g tt elt vs te = bu (vi te) fun ts te1 => if ts.length ≤ sizeLine then (if dZ te1 vs = true then (match jr g tt elt vs ts (aR te1 vs) with
  | some (ys, te2) => ξ (.ok (.nd true .lst ys) (dO te1 te2 vs))
  | none => ζ) else ζ) else ζ := rfl
@[simp] theorem Gz : dZ te [] = true := rfl
@[simp] theorem D3 {v : Nat} {vs : List Nat} : dZ te (v :: vs) = ((match te[v]? with
  | some (ξ t) => !hot t
  | _ => true) && dZ te vs) := rfl
@[simp] theorem HB : dO te te1 [] = te1 := rfl
@[simp] theorem EE {v : Nat} {vs : List Nat} : dO te te1 (v :: vs) = (dO te te1 vs).set v (match te[v]? with
  | some x => x
  | none => ζ) := rfl
@[simp] theorem Lh : hot .non = false := rfl
@[simp] theorem hot_bl {b : Bool} : hot (.bl b) = false := rfl
@[simp] theorem wK {b : Int} : hot (.int b) = false := rfl
@[simp] theorem Ld {b : Str} : hot (.str b) = false := rfl
@[simp] theorem hot_ob {b : Addr} : hot (.ob b) = false := rfl
@[simp] theorem hot_ty {b : String} : hot (.ty b) = false := rfl
@[simp] theorem Lf {b : List Int} : hot (.scr b) = false := rfl
@[simp] theorem fv {ts : List T} : hot (.tup ts) = hots ts := by simp only [hot]
@[simp] theorem iZ {o : Bool} {k : Kd} {ts : List T} : hot (.nd o k ts) = (o || hots ts) := by simp only [hot]
@[simp] theorem oM : hots [] = false := by simp only [hots]
@[simp] theorem jV {t : T} {ts : List T} : hots (t :: ts) = (hot t || hots ts) := by simp only [hots]
theorem hots_iff {ts : List T} : hots ts = false ↔ ∀ t ∈ ts, hot t = false := by
 induction ts with
 | nil => simp
 | cons t ts ih => simp [ih]
@[simp] theorem DU {ts us : List T} : hots (ts ++ us) = (hots ts || hots us) := by
  induction ts with
  | nil => simp
  | cons t ts ih => simp [ih, Bool.or_assoc]
theorem aU {α : Type} {l : List α} {f : α → T} (h : ∀ x ∈ l, hot (f x) = false) : hots (l.map f) = false := by
 rw [hots_iff]
 intro t ht
 obtain ⟨x, hx, rfl⟩ := List.mem_map.mp ht
 exact h x hx
@[simp] theorem Lr : frz .non = .non := by simp only [frz]
@[simp] theorem frz_bl {b : Bool} : frz (.bl b) = .bl b := by simp only [frz]
@[simp] theorem Ls {b : Int} : frz (.int b) = .int b := by simp only [frz]
@[simp] theorem Ln {b : Str} : frz (.str b) = .str b := by simp only [frz]
@[simp] theorem frz_ob {b : Addr} : frz (.ob b) = .ob b := by simp only [frz]
@[simp] theorem CQ {ts : List T} : frz (.tup ts) = .tup (frzs ts) := by simp only [frz]
@[simp] theorem vH {o : Bool} {k : Kd} {ts : List T} : frz (.nd o k ts) = .nd false k (frzs ts) := by simp only [frz]
@[simp] theorem Kc : frzs [] = [] := by simp only [frzs]
@[simp] theorem x5 {t : T} {ts : List T} : frzs (t :: ts) = frz t :: frzs ts := by simp only [frzs]
mutual
theorem oP : ∀ {t : T}, hot t = false → frz t = t
 | .non, _ => by simp
 | .bl _, _ => by simp
 | .int _, _ => by simp
 | .str _, _ => by simp
 | .ob _, _ => by simp
 | .ty _, _ => by simp only [frz]
 | .scr _, _ => by simp only [frz]
 | .tup ts, h => by
  rw [fv] at h
  rw [CQ, frzs_of h]
 | .im k ts, h => by
  simp only [hot] at h
  simp only [frz]
  rw [frzs_of h]
 | .nd o k ts, h => by
  rw [iZ, Bool.or_eq_false_iff] at h
  rw [vH, frzs_of h.2, h.1]
theorem frzs_of : ∀ {ts : List T}, hots ts = false → frzs ts = ts
 | [], _ => by simp
 | t :: ts, h => by
  rw [jV, Bool.or_eq_false_iff] at h
  rw [x5, oP h.1, frzs_of h.2]
end
@[simp] theorem qI_int {g : Int → Int → Option T} {i j : Int} : qI g (.int i) (.int j) = match g i j with
  | some t => ξ (.pur t)
  | none => ζ := rfl
@[simp] theorem JL {i j : Int} : EX (.int i) (.int j) = ξ (.pur (.int (i + j))) := rfl
@[simp] theorem xF {i j : Int} : cG (.int i) (.int j) = ξ (.pur (.int (i + j))) := rfl
@[simp] theorem HJ {xs ys : List T} : cG (.tup xs) (.tup ys) = if xs.length + ys.length ≤ sizeLine then ξ (.pur (.tup (xs ++ ys))) else ζ := rfl
@[simp] theorem HK {o o' : Bool} {xs ys : List T} : cG (.nd o .lst xs) (.nd o' .lst ys) = if xs.length + ys.length ≤ sizeLine then ξ (.new .lst (xs ++ ys)) else ζ := rfl
@[simp] theorem Jz {i j : Int} : qSub (.int i) (.int j) = ξ (.pur (.int (i - j))) := rfl
@[simp] theorem lV {i j : Int} : fN (.int i) (.int j) = if (sm 1000000000000000000 i || sm 1000000000000000000 j) = true then ξ (.pur (.int (i * j))) else ζ := by
  show (match (if (sm 1000000000000000000 i || sm 1000000000000000000 j) = true then ξ (T.int (i * j)) else ζ) with
    | some t => ξ (PN.pur t)
    | none => ζ) = _
  by_cases h : (sm 1000000000000000000 i || sm 1000000000000000000 j) = true
  · rw [if_pos h, if_pos h]
  · rw [if_neg h, if_neg h]
@[simp] theorem zc {i j : Int} : tj (.int i) (.int j) = if 0 < j then ξ (.pur (.int (i % j))) else ζ := by
  show (match (if decide (0 < j) = true then ξ (T.int (i % j)) else ζ) with
    | some t => ξ (PN.pur t)
    | none => ζ) = _
  by_cases h : 0 < j <;> simp [h]
@[simp] theorem K4 {i j : Int} : JD (.int i) (.int j) = ξ (.pur (.bl (decide (i < j)))) := rfl
@[simp] theorem K5 {i j : Int} : qLe (.int i) (.int j) = ξ (.pur (.bl (decide (i ≤ j)))) := rfl
@[simp] theorem K6 {i j : Int} : K7 (.int i) (.int j) = ξ (.pur (.bl (decide (j < i)))) := rfl
@[simp] theorem BQ {i j : Int} : K8 (.int i) (.int j) = ξ (.pur (.bl (decide (j ≤ i)))) := rfl
@[simp] theorem JB {i : Int} : rB (.int i) = ξ (.pur (.int (-i))) := rfl
@[simp] theorem K9 {i j : Int} : uH (.int i) (.int j) = ξ (.pur (.bl (decide (i = j)))) := by
  show ξ (PN.pur (.bl (PyData.eqv (.int i) (.int j)))) = _
  by_cases h : i = j <;> simp [PyData.eqv, h]
@[simp] theorem BM {i j : Int} : lU (.int i) (.int j) = ξ (.pur (.bl (!decide (i = j)))) := by
  show ξ (PN.pur (.bl (!PyData.eqv (.int i) (.int j)))) = _
  by_cases h : i = j <;> simp [PyData.eqv, h]
@[simp] theorem JH {t : T} : kT t .non = ξ (.pur (.bl t.isNon)) := rfl
@[simp] theorem HD {t : T} : JA t .non = ξ (.pur (.bl (!t.isNon))) := rfl
@[simp] theorem JE {ts : List T} : gI [.tup ts] = ξ (.pur (.int ts.length)) := rfl
@[simp] theorem JG {o : Bool} {ts : List T} : gI [.nd o .lst ts] = ξ (.pur (.int ts.length)) := rfl
@[simp] theorem JF {ns : List Int} : gI [.scr ns] = ξ (.pur (.int ns.length)) := by
  show ξ (PN.pur (.int (ns.map T.int).length)) = _
  rw [List.length_map]
@[simp] theorem ER {o : Bool} {ts : List T} : u3 [.nd o .lst ts] = ξ (.pur (.tup ts)) := rfl
@[simp] theorem EL {ts : List T} : u3 [.tup ts] = ξ (.pur (.tup ts)) := rfl
@[simp] theorem HH {o : Bool} {ts : List T} : DK [.nd o .lst ts] = ξ (.new .lst ts) := rfl
@[simp] theorem HG {ts : List T} : DK [.tup ts] = ξ (.new .lst ts) := rfl
@[simp] theorem zl {i : Int} : xG [.int i] = ξ (.pur (.int (if i < 0 then -i else i))) := rfl
@[simp] theorem zh {k : Bool} : wj [.bl k] = ξ (.pur (.int (if k then 1 else 0))) := rfl
@[simp] theorem HF {i j : Int} : tn [.int i, .int j] = ξ (.pur (.int (if j > i then j else i))) := rfl
@[simp] theorem HE {i j : Int} : tm [.int i, .int j] = ξ (.pur (.int (if j < i then j else i))) := rfl
@[simp] theorem mS {ts : List T} {y : T} : i5 .lst ts [y] = if ts.length < sizeLine then ξ (.non, .lst, ts ++ [y]) else ζ := rfl
@[simp] theorem DV {ts ys : List T} {o : Bool} : wM .lst ts [.nd o .lst ys] = if ts.length + ys.length ≤ sizeLine then ξ (.non, .lst, ts ++ ys) else ζ := rfl
@[simp] theorem qS : Kd.ty .lst = "list" := rfl
theorem Dc {α : Type} {l : List α} {i : Nat} {x : α} (h : l[i]? = ξ x) : atI l (i : Int) = ξ x := by
 have hi := (List.getElem?_eq_some_iff.mp h).1
 unfold atI ixN
 simp [hi, (List.getElem?_eq_some_iff.mp h).2]
theorem gb {a t : T} {ts : List T} {i : Nat} (hs : seqT a = ξ ts) (h : ts[i]? = ξ t) : eP a (.int (i : Int)) = ξ (.pur t) := by
 unfold eP
 simp only [hs, Dc h]
@[simp] theorem Jh {ts : List T} : seqT (.tup ts) = ξ ts := rfl
@[simp] theorem Ji {o : Bool} {ts : List T} : seqT (.nd o .lst ts) = ξ ts := rfl
theorem yK {n i : Nat} {t : T} (h : (iS 0 n)[i]? = ξ t) : i < n ∧ t = .int (i : Int) := by
 unfold iS at h
 have hi : i < n := by
  have := (List.getElem?_eq_some_iff.mp h).1
  simpa using this
 rw [List.getElem?_map, List.getElem?_range hi] at h
 refine ⟨hi, ?_⟩
 have := (Option.some.inj h).symm
 rw [this]
 simp
@[simp] theorem sO {lo : Int} {n : Nat} : (iS lo n).length = n := by unfold iS; simp
theorem Ba : 1000000 ≤ sizeLine := by
 unfold sizeLine
 decide
theorem szl {n : Nat} (h : n < 1000000) : n < sizeLine := Nat.lt_of_lt_of_le h Ba
theorem cI {n : Nat} (h : n ≤ 1000000) : n ≤ sizeLine := Nat.le_trans h Ba
end
section
end
end BV
end
section
namespace BV
open PySem hiding Env
open L2 hiding TE gName VV
open SB
section
end
end BV
end
section
namespace KV
open PySem hiding Env
open L2 SB BV KD
section
variable {K: PySem.W.Frag}
theorem nQ : XD [false, false] (iE K) (dM (cn K)) := iQ (n := 3) (b := iF K) (vb := g5 (cn K))
  (bh (b9 (ax aI) bc)
  (bh (bC (jn (Il (bN Iq ao (bY qV (aw ao aF)))) (bC (b9 (ax (bN iG ao ao)) bc)) fb))
  (dB (aW (ah (ax (bN jN (bY yq (aw ao aF)) (bY Bl (aw (bN Iu (bY yq (aw ao aF)) (bN nO aI aI)) aF)))) (ah (ax (bN bU (bN jN (bN bU (bN bU (bN nP ao aI) (bN jN aI ao)) aI) aI) ao)) (ah (ax aI) ay)))))))
theorem qW : XD [true, false] (jL K) (e8 (cn K)) := iQ (n := 4) (b := jM K) (vb := gL (cn K))
  (bh (bC (jn (Il (bN Ir (bN iG ao aI) aI)) (bh (b9 (ax (bN nP (bN iG ao aI) ao)) bc)
  (bh (bC (vQ vR (ax (bN uM (bN iG ao aI) ao)) (ax aI)))
  (dB (ax ao)))) fb))
  (bh (vQ vR (ax (bN bU (bN iG ao aI) aI)) (ax aI))
  (bh (b9 (ax (bN nP (bN nO (bN bU (bN iG ao aI) (bN jN aI (bN iG ao aI))) aI) aI)) bc)
  (bh (b9 (ax (bN nP (bN nO (bN bU (bN uM ao aI) (bN jN aI (bN iG ao aI))) aI) aI)) bc)
  (dB (ax (bN nP (bN uM ao aI) ao)))))))
theorem sL : XD [true] (kH K) (f7 (cn K)) := iQ (n := 2) (b := kI K) (vb := jI (cn K))
  (bh (b9 (aJ (aW (ah (ax uI) (ah (ax aY) (ah (ax aY) (ah (ax (yl uL aI)) (ah (ax aI) (ah (ax (bN nO aI aI)) (ah (ax qT) (ah (ax qT) (ah (ax qT) (ah (aJ (aW ay)) (ah (aJ (aW (ah (ax aI) ay))) (ah (aJ (aW (ah (ax aI) (ah (ax aI) ay)))) (ah (ax (fP (aw uI aF))) (ah (ax (fP (aw aY aF))) (ah (ax (fP (aw (yl uL aI) aF))) (ah (ax (fP (aw aI aF))) (ah (ax (fP (aw qT aF))) ay))))))))))))))))))) bc)
  (bh (b9 (aJ (cN bU (ax ao) (aJ (aW (ah (ax (fP (aw (fP (aw aI aF)) aF))) (ah (eI (ah (aJ (aW (ah (ax aI) ay))) ay)) (ah (ax (fP (aw aI (aw aY aF)))) (ah (ax (fP (aw aY (aw aI aF)))) (ah (ax (fP (aw aI (aw uI aF)))) (ah (eI (ah (aJ (aW ay)) (ah (ax aI) ay))) (ah (ax (fP (aw aI (aw (yl uL aI) aF)))) (ah (ax (fP (aw (bN nO aI aI) (aw aI aF)))) (ah (aJ (aW (ah (ax (fP (aw aI (aw aI aF)))) ay))) ay))))))))))))) bc)
  (dB (cN iG (ax ao) (fR qW (yu (ah (ax (bY qV (aw ao aF))) ay)) (uF (cJ dg)))))))
end
end KV
end
section
namespace KV
open PySem hiding Env
open L2 SB BV
end KV
namespace KV
open PySem hiding Env
open L2 hiding TE gName VV
open SB BV KD
end KV
end
section
namespace KV
open PySem hiding Env
open L2 SB BV
end KV
end
section
namespace BV
open PySem hiding Env
open L2 hiding TE gName VV
open SB
section
end
section
end
section
end
end BV
end
section
namespace KV
open PySem hiding Env
open L2 SB BV
end KV
end
section
namespace BV
open PySem hiding Env
open L2 hiding TE gName VV
open SB
section
end
end BV
end
section
namespace KV
open PySem hiding Env
open L2 SB BV
end KV
end
section
namespace BV
open PySem hiding Env
open L2 hiding TE gName VV
open SB
section
end
section
variable {κ: Type}[DecidableEq κ]
end
section
end
section
end
section
end
section
variable {m: M}{S S': Own}{F G0: List Nat}{te: TE}{env: Env}
theorem EnvT.frzs (hs : ∀ n, S' n → S n) (hg : ∀ n, G0.count n ≠ 0 → ¬ S' n) : ∀ {te : TE} {env : Env} {F : List Nat}, (∀ n, F.count n ≠ 0 → G0.count n ≠ 0) → EnvT m S te env F → EnvT m S' (te.map (Option.map frz)) env []
 | [], _, _, _, h => ⟨h.1, rfl⟩
 | none :: te, _, _, c, h => by
  obtain ⟨x, env', rfl, h⟩ := h
  exact ⟨x, env', rfl, EnvT.frzs hs hg c h⟩
 | some t :: te, _, _, c, h => by
  obtain ⟨w, env', G, F', rfl, h1, h2, rfl⟩ := h
  exact ⟨w, env', [], [], rfl, Rp.frz hs hg (fun n h => c n (by rw [List.count_append]; omega)) h1, EnvT.frzs hs hg (fun n h => c n (by rw [List.count_append]; omega)) h2, rfl⟩
end
end BV
end
section
namespace KV
open PySem hiding Env
open L2 SB BV
def pO (c : Cn) : cq :=
  (aX (eN (fm (cE (dj (c.cl "ClosedSet") "has" (V_ClosedSet_has c) [] (ai 0) (aa (az (ai 0)) (aa (az (ai 1)) aq))))) (rh (c.cl "BadRow") ["row"] (aa (az (ai 1)) aq)) bO)
  (aX (cb (dj (c.cl "ClosedSet") "least" (lD c) [] (ai 0) (aa (az (ai 0)) aq)) (gName 2))
  (aX (cb (cg (aa (az (ai 2)) aq)) (gName 3))
  (aX (aE [1, 5, 6] (cb (dj (c.cl "ClosedSet") "walk" (eh c) [] (ai 0) (aa (az (ai 0)) (aa (az (ai 1)) aq))) (jE 3 (bw (gName 4) (bw (gName 5) (bw (gName 6) gF))))))
  (aX (aE [0, 2, 7, 8, 12] (g8 (kj (az (ai 4))) (jE 2 (bw (gName 7) (bw (gName 8) gF))) (aE [7, 8, 12] (aX (cb (dj (c.cl "Forks") "lot_of" (bT c) [] (bx (c.cl "ClosedSet") "forks" (ai 0)) (aa (az (bx (c.cl "ClosedSet") "forks" (ai 0))) (aa (az (ai 2)) (aa (az (ai 7)) aq)))) (gName 12))
  (aX (aE [12] (j7 (mG "list" wM 3 (aa (aL (cg (aa (az (aH u5 (ai 12) (aH eP (ai 2) (ai 7)))) (aa (az (aH u5 (ai 12) (ai 8))) aq)))) aq))))
  (aE [7, 8] (cb (dj (c.cl "Forks") "moved" (dN c) [] (bx (c.cl "ClosedSet") "forks" (ai 0)) (aa (az (bx (c.cl "ClosedSet") "forks" (ai 0))) (aa (az (ai 2)) (aa (az (ai 7)) (aa (az (ai 8)) aq))))) (gName 2))))))))
  (aX (IL 9 10 (aa (cg aq) (aa (az (aG (.int 0))) aq)))
  (aX (aE [4, 10, 11] (g8 (iH (aa (az (bz gI (av (ai 4) aD))) aq)) (gName 11) (aE [11] (aX (aE [10] (j7 (mG "list" i5 9 (aa (az (ew (av (ai 10) (av (aH cG (aH fN (aG (.int 2)) (ai 11)) (aG (.int 1))) (av (aH cG (aH fN (aG (.int 2)) (ai 11)) (aG (.int 2))) aD))))) aq))))
  (aE [11] (cb (az (aH cG (bz gI (av (ai 3) aD)) (ai 11))) (gName 10)))))))
  (bG (nV (aa (Ep 3) (aa (Ep 9) aq)))))))))))
def fE (c : Cn) : gy := cA [false, false] 13 (pO c)
def kE (c : Cn) : cq :=
  (aX (aE [0, 1, 2] (yB (fun C' => c.exm C' (.ob (c.cl "BadRow"))) (c.cl "BadRow") 2 (aE [0] (j7 (bR (fE c) [] (aa (az (ai 0)) (aa (az (ai 1)) aq))))) (az (aH uH (bz qRepD (av (yG 2 "row") aD)) (bz qRepD (av (ai 1) aD))))))
  (bG (az (aG (.bl false)))))
def ia (c : Cn) : gy := cA [false, false] 3 (kE c)
end KV
end
section
namespace BV
open PySem hiding Env
open L2 hiding TE gName VV
open SB
section
end
end BV
end
section
namespace KV
open PySem hiding Env
open L2 SB BV
end KV
end
section
namespace BV
open PySem hiding Env
open L2 hiding TE gName VV
open SB
section
end
end BV
end
section
namespace KV
open PySem hiding Env
open L2 SB BV
end KV
end
section
namespace BV
open PySem hiding Env
open L2 hiding TE gName VV
open SB
section
end
end BV
end
section
namespace KV
open PySem hiding Env
open L2 SB BV
end KV
end
section
namespace BV
open PySem hiding Env
open L2 hiding TE gName
open SB
end BV
end
section
namespace KV
open PySem hiding Env
open L2 SB BV
end KV
end
section
namespace BV
open PySem hiding Env
open L2 hiding TE gName VV
open SB
section
end
section
end
section
end
end BV
end
section
namespace KV
open PySem hiding Env
open L2 SB BV
end KV
end
section
namespace BV
open PySem hiding Env
open L2 hiding TE gName VV
open SB
section
end
end BV
end
section
namespace KV
open PySem hiding Env
open L2 SB BV
end KV
end
section
namespace BV
open PySem hiding Env
open L2 hiding TE gName VV
open SB
section
end
end BV
end
section
namespace KV
open PySem hiding Env
open L2 SB BV
end KV
end
section
namespace BV
open PySem hiding Env
open L2 hiding TE gName VV
open SB
section
end
section
end
section
end
section
end
section
end
end BV
end
section
namespace KV
open PySem hiding Env
open L2 SB BV
end KV
end
section
namespace BV
open PySem hiding Env
open L2 hiding TE gName VV
open SB
section
end
end BV
end
section
namespace KV
open PySem hiding Env
open L2 SB BV
end KV
end
section
namespace BV
open PySem hiding Env
open L2 hiding TE gName VV
open SB
section
end
end BV
end
section
namespace KV
open PySem hiding Env
open L2 SB BV
end KV
end
section
namespace BV
open PySem hiding Env
open L2 SB
section
end
section
end
end BV
end
section
namespace KV
open PySem hiding Env
open L2 SB BV
end KV
end
section
namespace BV
open PySem hiding Env
open L2 hiding TE gName VV
open SB
section
end
section
end
end BV
end
section
namespace KV
open PySem hiding Env
open L2 SB BV KD
section
end
end KV
end
section
namespace KV
open PySem hiding Env
open _root_.SB hiding fj aW fg cN bE eI
open L2 BV KD
section
end
end KV
end
section
namespace KV
open PySem hiding Env
open L2 SB BV
end KV
namespace KV
open PySem hiding Env
open L2 hiding TE gName VV
open SB BV KD
end KV
end
section
namespace KV
open PySem hiding Env
open L2 SB BV
end KV
end
section
namespace BV
open PySem hiding Env
open L2 SB
end BV
end
section
namespace BV
open PySem hiding Env
open L2 hiding TE gName VV
open SB
section
end
section
def vOrL (a b : VD) : VD := fun te => bu (a te) fun x te1 => match x with
 | .non => b te1
 | .nd false .lst ts => if ts.isEmpty = true then b te1 else ξ (.ok (.nd false .lst ts) te1)
 | _ => ζ
@[simp] theorem IM {a b : VD} {te : TE} : vOrL a b te = bu (a te) fun x te1 => match x with
  | .non => b te1
  | .nd false .lst ts => if ts.isEmpty = true then b te1 else ξ (.ok (.nd false .lst ts) te1)
  | _ => ζ := rfl
end
end BV
end
section
namespace KV
open PySem hiding Env
open L2 SB BV
end KV
end
section
namespace BV
open PySem hiding Env
open L2 hiding TE gName VV
open SB
section
variable {m: M}{S: Own}{t: T}
theorem EnvT.join : ∀ {a b : TE} {ea eb : Env} {Fa Fb : List Nat}, EnvT m S a ea Fa → EnvT m S b eb Fb → EnvT m S (a ++ b) (ea ++ eb) (Fa ++ Fb)
 | [], b, _, _, _, _, h, k => by
  rw [h.1, h.2]
  exact k
 | none :: a, b, _, _, _, _, h, k => by
  obtain ⟨x, env', rfl, h⟩ := h
  exact ⟨_, _, rfl, EnvT.join h k⟩
 | some t :: a, b, _, _, _, _, h, k => by
  obtain ⟨w0, env', G0, F0, rfl, h0, h, rfl⟩ := h
  exact ⟨_, _, _, _, rfl, h0, EnvT.join h k, by rw [List.append_assoc]⟩
end
section
end
end BV
end
section
namespace KV
open PySem hiding Env
open L2 SB BV
end KV
end
section
namespace BV
open PySem hiding Env
open L2 hiding TE gName VV
open SB
section
end
section
end
end BV
end
section
namespace KV
open PySem hiding Env
open L2 SB BV
end KV
end
section
namespace BV
open PySem hiding Env
open L2 SB
end BV
end
section
namespace KV
open PySem hiding Env
open L2 SB BV
end KV
end
section
namespace BV
open PySem hiding Env
open L2 hiding TE gName VV
open SB
section
end
end BV
end
section
namespace KV
open PySem hiding Env
open L2 SB BV
end KV
end
section
namespace BV
open PySem hiding Env
open L2 hiding TE gName VV
open SB
section
end
section
end
section
end
end BV
end
section
namespace KV
open PySem hiding Env
open L2 SB BV
end KV
end
section
namespace BV
open PySem hiding Env
open L2 hiding TE gName VV
open SB
section
end
end BV
end
section
namespace KV
open PySem hiding Env
open L2 SB BV
end KV
end
section
namespace BV
open PySem hiding Env
open L2 hiding TE gName VV
open SB
def bD (C : Addr) (fs : List Str) (as : VA) : VD := fun te => bu (as te) fun xs te1 => if xs.length = fs.length ∧ xs.length ≤ 1000 then ξ (.ok (.im (.exc C fs) xs) te1) else ζ
def gR (C : Addr) (fs : List Str) (n : Nat) (p : List Nat) (as : VA) : VD := fun te => bu (as te) fun xs te1 => if hots xs = true then ζ else if xs.length = n ∧ (pickL p xs).length = fs.length then ξ (.ok (.im (.exc C fs) (pickL p xs)) te1) else ζ
def gC (C : Addr) : VD := fun te => ξ (.ok (.im (.exc C []) []) te)
def cF (C : Addr) (f : Str) (o : VD) : VD := fun te => bu (o te) fun t te1 => match t with
 | .im (.exc C' fs) ts => if C' = C ∧ hots ts = false then (match (fs.zip ts).lookup f with
  | some u => ξ (.ok u te1)
  | none => ζ) else ζ
 | _ => ζ
def dW (c : Cn) (l : List Addr) : GN := fun ts => match ts with
 | [x, y] => (match x with
  | .im (.exc C _) _ => if C ∈ l then (match c.xis C y with
   | some b => ξ (.pur (.bl b))
   | none => ζ) else ζ
  | _ => ζ)
 | _ => ζ
section
variable {das: DA}{vas: VA}{da: DE}{va: VD}{m: M}{S: Own}{C: Addr}{fs: List Str}{f: Str}
theorem bj (ha : XA das vas) : XE (bJ C fs das) (bD C fs vas) := fun m S te env F st => by
 refine XG.bind0 ha st fun x te1 w1 m1 S1 F1 G1 st1 q1 sp1 sb1 => ?_
 by_cases hl : x.length = fs.length ∧ x.length ≤ 1000
 ·rw [if_pos hl, if_pos (by rw [← Rps.len q1]; exact hl)]
  exact Out.done j9 st1.env ⟨w1, rfl, q1⟩ sb1 sp1 st1.lt fun n => Nat.le_refl _
 ·rw [if_neg hl]
  trivial
theorem y8 {ts : List T} {ws : List W} {i : Nat} {t : T} (q : Rps m S ts ws []) (h : ts[i]? = ξ t) : ∃ w, ws[i]? = ξ w ∧ Rp m S t w [] := by
 obtain ⟨w, G1, e, r, le⟩ := q.get h
 have : G1 = [] := List.eq_nil_iff_forall_not_mem.mpr fun a ha => by
  have := List.count_pos_iff.mpr ha
  have := le a
  simp at this
  omega
 subst this
 exact ⟨w, e, r⟩
theorem sZ : ∀ (p : List Nat) {ts : List T} {ws : List W}, Rps m S ts ws [] → Rps m S (pickL p ts) (pickL p ws) [] ∧ (pickL p ts).length = (pickL p ws).length
 | [], _, _, _ => ⟨⟨rfl, rfl⟩, rfl⟩
 | i :: p, ts, ws, q => by
  obtain ⟨ih, il⟩ := sZ p q
  have hl := q.len
  unfold pickL at ih il ⊢
  by_cases hi : i < ts.length
  ·have h1 : ts[i]? = ξ ts[i] := List.getElem?_eq_getElem hi
   obtain ⟨w, h2, qw⟩ := y8 q h1
   rw [List.filterMap_cons_some h1, List.filterMap_cons_some h2]
   exact ⟨Rps.consN qw ih, by simp [il]⟩
  ·have h1 : ts[i]? = ζ := List.getElem?_eq_none_iff.mpr (by omega)
   have h2 : ws[i]? = ζ := List.getElem?_eq_none_iff.mpr (by omega)
   rw [List.filterMap_cons_none h1, List.filterMap_cons_none h2]
   exact ⟨ih, il⟩
theorem fQ {n : Nat} {p : List Nat} (ha : XA das vas) : XE (gY C fs n p das) (gR C fs n p vas) := fun m S te env F st => by
 refine XG.bind0 ha st fun x te1 w1 m1 S1 F1 G1 st1 q1 sp1 sb1 => ?_
 by_cases hh : hots x = true
 ·rw [if_pos hh]; trivial
 rw [if_neg hh]
 have e0 := Rps.cold (by simpa using hh) q1
 subst e0
 obtain ⟨q2, ql⟩ := sZ p q1
 by_cases hl : x.length = n ∧ (pickL p x).length = fs.length
 ·rw [if_pos hl, if_pos ⟨by rw [← Rps.len q1]; exact hl.1, by rw [← ql]; exact hl.2⟩]
  exact Out.done j9 st1.env ⟨pickL p w1, rfl, q2⟩ sb1 sp1 st1.lt fun n => Nat.le_refl _
 ·rw [if_neg hl]
  trivial
theorem fh : XE (gq C) (gC C) := fun m S te env F st => Out.done (G := []) j9 st.env ⟨[], rfl, ⟨rfl, rfl⟩⟩ st.sub (fun n => by simpa using st.sep n) st.lt fun n => by simp
theorem qp {u : T} : ∀ {fs : List Str} {ts : List T} {ws : List W}, Rps m S ts ws [] → (fs.zip ts).lookup f = ξ u → ∃ w, (fs.zip ws).lookup f = ξ w ∧ Rp m S u w []
 | [], _, _, _, h => by cases h
 | _ :: _, [], _, _, h => by cases h
 | g :: fs, t :: ts, ws, q, h => by
  obtain ⟨w, ws', rfl, h1, h2⟩ := q.cons_nil
  rw [List.zip_cons_cons, List.lookup_cons] at h ⊢
  cases hb : f == g with
  | true =>
   rw [hb] at h
   cases h
   exact ⟨w, rfl, h1⟩
  | false =>
   rw [hb] at h
   exact qp h2 h
theorem bL (ha : XE da va) : XE (cH C f da) (cF C f va) := fun m S te env F st => by
 refine XG.bind0 ha st fun t te1 w m1 S1 F1 G1 st1 q1 sp1 sb1 => ?_
 cases t <;> first | trivial | skip
 rename_i k ts
 cases k <;> first | trivial | skip
 rename_i C' fs
 simp only
 by_cases hh : C' = C ∧ hots ts = false
 case neg => rw [if_neg hh]; trivial
 rw [if_pos hh]
 cases hl : (fs.zip ts).lookup f with
 | none => trivial
 | some u =>
  obtain ⟨ws, rfl, qs⟩ := q1
  have e0 := Rps.cold hh.2 qs
  subst e0
  obtain ⟨w, hw, qw⟩ := qp qs hl
  simp only [if_pos hh.1, hw]
  exact Out.done j9 st1.env qw sb1 sp1 st1.lt fun n => Nat.le_refl _
theorem bX {K : PySem.W.Frag} {l : List Addr} : Dj (eQ K l) (dW (cn K) l) := fun m S ts ws G q => by
 match ts, q with
 | [], _ => trivial
 | [t], _ => trivial
 | [t1, t2], q =>
  obtain ⟨w1, w2, G1, G2, rfl, q1, q2, rfl⟩ := q.two_of
  unfold dW
  cases t1 <;> first | trivial | skip
  rename_i k us
  cases k <;> first | trivial | skip
  rename_i C fs
  simp only
  by_cases hC : C ∈ l
  case neg => rw [if_neg hC]; trivial
  rw [if_pos hC]
  obtain ⟨vs, rfl, _⟩ := q1
  simp only [cn]
  cases h2 : Ko t2 with
  | none => trivial
  | some u =>
   simp only
   cases h3 : PySem.W.kitOne K (.ref C) u with
   | none => trivial
   | some b => exact ⟨.bl b, [], by simp only [eQ, if_pos hC, GB q2 h2, h3], ⟨rfl, rfl⟩, fun n => by simp⟩
 | _ :: _ :: _ :: _, _ => trivial
end
end BV
end
section
namespace BV
open SB
def eS (c : Cn) : List PySem.Addr := xNames.map c.cl
end BV
end
section
namespace KV
open PySem hiding Env
open L2 SB BV
def eV (c : Cn) : cq :=
  (aX (cb (aL (cg (aa (az (bz (dW c (eS c)) (av (ai 0) (av (aG (.ob (c.cl "BadKind"))) aD)))) (aa (az (bz (dW c (eS c)) (av (ai 0) (av (aG (.ob (c.cl "BadSize"))) aD)))) (aa (az (bz (dW c (eS c)) (av (ai 0) (av (aG (.ob (c.cl "BadEntries"))) aD)))) aq))))) (gName 1))
  (aX (cb (aL (jq cG (az (ai 1)) (aL (cg (aa (az (bz (dW c (eS c)) (av (ai 0) (av (aG (.ob (c.cl "BadRow"))) aD)))) (aa (az (bz (dW c (eS c)) (av (ai 0) (av (aG (.ob (c.cl "NotClosed"))) aD)))) (aa (az (bz (dW c (eS c)) (av (ai 0) (av (aG (.ob (c.cl "KindsDiffer"))) aD)))) aq))))))) (gName 1))
  (aX (cb (aL (jq cG (az (ai 1)) (aL (cg (aa (az (bz (dW c (eS c)) (av (ai 0) (av (aG (.ob (c.cl "BadOrder"))) aD)))) (aa (az (bz (dW c (eS c)) (av (ai 0) (av (aG (.ob (c.cl "BadName"))) aD)))) (aa (az (bz (dW c (eS c)) (av (ai 0) (av (aG (.ob (c.cl "BadConstraint"))) aD)))) aq))))))) (gName 1))
  (aX (cb (aL (jq cG (az (ai 1)) (aL (cg (aa (az (bz (dW c (eS c)) (av (ai 0) (av (aG (.ob (c.cl "BadCommand"))) aD)))) (aa (az (bz (dW c (eS c)) (av (ai 0) (av (aG (.ob (c.cl "BadPlace"))) aD)))) (aa (az (bz (dW c (eS c)) (av (ai 0) (av (aG (.ob (c.cl "UnknownName"))) aD)))) aq))))))) (gName 1))
  (aX (cb (aL (jq cG (az (ai 1)) (aL (cg (aa (az (bz (dW c (eS c)) (av (ai 0) (av (aG (.ob (c.cl "DuplicateName"))) aD)))) (aa (az (bz (dW c (eS c)) (av (ai 0) (av (aG (.ob (c.cl "UnknownNumber"))) aD)))) (aa (az (bz (dW c (eS c)) (av (ai 0) (av (aG (.ob (c.cl "EmptySet"))) aD)))) aq))))))) (gName 1))
  (aX (cb (aL (jq cG (az (ai 1)) (aL (cg (aa (az (bz (dW c (eS c)) (av (ai 0) (av (aG (.ob (c.cl "Known"))) aD)))) (aa (az (bz (dW c (eS c)) (av (ai 0) (av (aG (.ob (c.cl "WrongState"))) aD)))) (aa (az (bz (dW c (eS c)) (av (ai 0) (av (aG (.ob (c.cl "NothingLeft"))) aD)))) aq))))))) (gName 1))
  (bG (aL (jq cG (az (ai 1)) (aL (cg (aa (az (bz (dW c (eS c)) (av (ai 0) (av (aG (.ob (c.cl "Full"))) aD)))) (aa (az (bz (dW c (eS c)) (av (ai 0) (av (aG (.ob (c.cl "Busy"))) aD)))) aq)))))))))))))
def cW (c : Cn) : gy := cA [false] 2 (eV c)
def iD (c : Cn) : cq :=
  (aX (cb (aL (cg (aa (bD (c.cl "BadKind") ["x", "y"] (aa (az (ai 0)) (aa (az (ai 0)) aq))) (aa (bD (c.cl "BadSize") ["given"] (aa (az (ai 0)) aq)) (aa (gC (c.cl "BadEntries")) (aa (bD (c.cl "BadRow") ["row"] (aa (az (ai 0)) aq)) (aa (bD (c.cl "NotClosed") ["x", "y", "z"] (aa (az (ai 0)) (aa (az (ai 0)) (aa (az (ai 0)) aq)))) (aa (bD (c.cl "KindsDiffer") ["place", "other"] (aa (az (ai 0)) (aa (az (ai 0)) aq))) (aa (gC (c.cl "BadOrder")) aq))))))))) (gName 1))
  (aX (cb (aL (jq cG (az (ai 1)) (aL (cg (aa (bD (c.cl "BadName") ["name"] (aa (az (ai 0)) aq)) (aa (gC (c.cl "BadConstraint")) (aa (gC (c.cl "BadCommand")) (aa (bD (c.cl "BadPlace") ["place"] (aa (az (ai 0)) aq)) (aa (bD (c.cl "UnknownName") ["name"] (aa (az (ai 0)) aq)) (aa (bD (c.cl "DuplicateName") ["name"] (aa (az (ai 0)) aq)) aq)))))))))) (gName 1))
  (aX (aE [0] (cb (aL (jq cG (az (ai 1)) (aL (cg (aa (bD (c.cl "UnknownNumber") ["number"] (aa (az (ai 0)) aq)) (aa (gC (c.cl "EmptySet")) (aa (bD (c.cl "Known") ["row"] (aa (az (ai 0)) aq)) (aa (bD (c.cl "WrongState") ["name"] (aa (az (ai 0)) aq)) (aa (gC (c.cl "NothingLeft")) (aa (bD (c.cl "Full") ["most"] (aa (az (ai 0)) aq)) (aa (gC (c.cl "Busy")) aq))))))))))) (gName 1)))
  (aX (aE [1, 2, 3] (g8 (Hs (aa (az (ai 1)) aq)) (jE 2 (bw (gName 2) (bw (gName 3) gF))) (aE [2, 3] (aE [2, 3] (eN (cE (jq lU (bR (cW c) [] (aa (az (ai 3)) aq)) (aL (xi (iH (aa (az (bz gI (av (ai 1) aD))) aq)) (gName 4) gQ (az (aH uH (ai 4) (ai 2))) [4])))) (bG (az (aG (.bl false)))) bO)))))
  (bG (az (aG (.bl true))))))))
def fF (c : Cn) : gy := cA [false] 5 (iD c)
def d4 (c : Cn) : cq :=
  (aX (yE 3 4 5 (aa (bD (c.cl "BadKind") ["x", "y"] (aa (az (ai 0)) (aa (az (ai 1)) aq))) (aa (bD (c.cl "NotClosed") ["x", "y", "z"] (aa (az (ai 0)) (aa (az (ai 1)) (aa (az (ai 2)) aq)))) (aa (gR (c.cl "KindsDiffer") ["place", "other"] 2 [1, 0] (aa (az (ai 1)) (aa (az (ai 0)) aq))) aq))))
  (aX (aE [3, 4, 5] (cb (aL (cg (aa (cF (c.cl "BadKind") "x" (az (ai 3))) (aa (cF (c.cl "BadKind") "y" (az (ai 3))) (aa (cF (c.cl "NotClosed") "x" (az (ai 4))) (aa (cF (c.cl "NotClosed") "y" (az (ai 4))) (aa (cF (c.cl "NotClosed") "z" (az (ai 4))) (aa (cF (c.cl "KindsDiffer") "place" (az (ai 5))) (aa (cF (c.cl "KindsDiffer") "other" (az (ai 5))) (aa (cF (c.cl "BadKind") "x" (gR (c.cl "BadKind") ["x", "y"] 2 [1, 0] (aa (az (ai 1)) (aa (az (ai 0)) aq)))) aq)))))))))) (gName 6)))
  (aX (aE [1, 2, 6] (eN (kh (cE (jq lU (az (ai 6)) (aL (cg (aa (az (ai 0)) (aa (az (ai 1)) (aa (az (ai 0)) (aa (az (ai 1)) (aa (az (ai 2)) (aa (az (ai 0)) (aa (az (ai 1)) (aa (az (ai 0)) aq)))))))))))) (kh (cE (sN lU (cF (c.cl "NotClosed") "z" (gR (c.cl "NotClosed") ["x", "y", "z"] 3 [1, 2, 0] (aa (az (ai 2)) (aa (az (ai 0)) (aa (az (ai 1)) aq))))) (ai 2))) (cE (sN lU (cF (c.cl "KindsDiffer") "other" (bD (c.cl "KindsDiffer") ["place", "other"] (aa (az (ai 0)) (aa (az (ai 1)) aq)))) (ai 1))))) (bG (az (aG (.bl false)))) bO))
  (aX (cb (aL (cg (aa (cF (c.cl "BadSize") "given" (bD (c.cl "BadSize") ["given"] (aa (az (ai 0)) aq))) (aa (cF (c.cl "BadRow") "row" (bD (c.cl "BadRow") ["row"] (aa (az (ai 0)) aq))) (aa (cF (c.cl "BadName") "name" (bD (c.cl "BadName") ["name"] (aa (az (ai 0)) aq))) (aa (cF (c.cl "BadPlace") "place" (bD (c.cl "BadPlace") ["place"] (aa (az (ai 0)) aq))) (aa (cF (c.cl "UnknownName") "name" (bD (c.cl "UnknownName") ["name"] (aa (az (ai 0)) aq))) (aa (cF (c.cl "Known") "row" (bD (c.cl "Known") ["row"] (aa (az (ai 0)) aq))) aq)))))))) (gName 6))
  (aX (cb (aL (jq cG (az (ai 6)) (aL (cg (aa (cF (c.cl "DuplicateName") "name" (bD (c.cl "DuplicateName") ["name"] (aa (az (ai 0)) aq))) (aa (cF (c.cl "UnknownNumber") "number" (bD (c.cl "UnknownNumber") ["number"] (aa (az (ai 0)) aq))) (aa (cF (c.cl "WrongState") "name" (bD (c.cl "WrongState") ["name"] (aa (az (ai 0)) aq))) (aa (cF (c.cl "Full") "most" (bD (c.cl "Full") ["most"] (aa (az (ai 0)) aq))) aq)))))))) (gName 6))
  (aX (cb (aL (jq cG (az (ai 6)) (aL (cg (aa (cF (c.cl "BadSize") "given" (gR (c.cl "BadSize") ["given"] 1 [0] (aa (az (ai 0)) aq))) (aa (cF (c.cl "BadRow") "row" (gR (c.cl "BadRow") ["row"] 1 [0] (aa (az (ai 0)) aq))) (aa (cF (c.cl "BadName") "name" (gR (c.cl "BadName") ["name"] 1 [0] (aa (az (ai 0)) aq))) (aa (cF (c.cl "BadPlace") "place" (gR (c.cl "BadPlace") ["place"] 1 [0] (aa (az (ai 0)) aq))) aq)))))))) (gName 6))
  (aX (cb (aL (jq cG (az (ai 6)) (aL (cg (aa (cF (c.cl "UnknownName") "name" (gR (c.cl "UnknownName") ["name"] 1 [0] (aa (az (ai 0)) aq))) (aa (cF (c.cl "Known") "row" (gR (c.cl "Known") ["row"] 1 [0] (aa (az (ai 0)) aq))) (aa (cF (c.cl "DuplicateName") "name" (gR (c.cl "DuplicateName") ["name"] 1 [0] (aa (az (ai 0)) aq))) (aa (cF (c.cl "Full") "most" (gR (c.cl "Full") ["most"] 1 [0] (aa (az (ai 0)) aq))) aq)))))))) (gName 6))
  (bG (jq uH (aL (jq cG (az (ai 6)) (aL (cg (aa (cF (c.cl "UnknownNumber") "number" (gR (c.cl "UnknownNumber") ["number"] 1 [0] (aa (az (ai 0)) aq))) (aa (cF (c.cl "WrongState") "name" (gR (c.cl "WrongState") ["name"] 1 [0] (aa (az (ai 0)) aq))) aq)))))) (aL (sN fN (aL (cg (aa (az (ai 0)) aq))) (aG (.int 20)))))))))))))
def cB (c : Cn) : gy := cA [false, false, false] 7 (d4 c)
def iB (c : Cn) : cq :=
  (aX (cb (aL (cg (aa (az (bz (dW c (eS c)) (av (ai 0) (av (aG (.ob (c.cl "KeptError"))) aD)))) (aa (az (bz (dW c (eS c)) (av (ai 0) (av (aG (.ty "ValueError")) aD)))) (aa (az (bz (dW c (eS c)) (av (ai 0) (av (aG (.ty "LookupError")) aD)))) aq))))) (gName 1))
  (aX (cb (aL (jq cG (az (ai 1)) (aL (cg (aa (az (bz (dW c (eS c)) (av (ai 0) (av (aG (.ty "KeyError")) aD)))) (aa (az (bz (dW c (eS c)) (av (ai 0) (av (aG (.ty "IndexError")) aD)))) (aa (az (bz (dW c (eS c)) (av (ai 0) (av (aG (.ty "OverflowError")) aD)))) aq))))))) (gName 1))
  (bG (aL (jq cG (az (ai 1)) (aL (cg (aa (az (bz (dW c (eS c)) (av (ai 0) (av (aG (.ty "RuntimeError")) aD)))) aq))))))))
def b8 (c : Cn) : gy := cA [false] 2 (iB c)
def eE (c : Cn) : cq :=
  (aX (cb (aL (cg (aa (bD (c.cl "BadKind") ["x", "y"] (aa (az (ai 0)) (aa (az (ai 0)) aq))) (aa (bD (c.cl "BadSize") ["given"] (aa (az (ai 0)) aq)) (aa (gC (c.cl "BadEntries")) (aa (bD (c.cl "BadRow") ["row"] (aa (az (ai 0)) aq)) (aa (bD (c.cl "NotClosed") ["x", "y", "z"] (aa (az (ai 0)) (aa (az (ai 0)) (aa (az (ai 0)) aq)))) (aa (bD (c.cl "KindsDiffer") ["place", "other"] (aa (az (ai 0)) (aa (az (ai 0)) aq))) (aa (gC (c.cl "BadOrder")) aq))))))))) (gName 1))
  (aX (aE [1, 2] (g8 (kj (aL (jq cG (az (ai 1)) (aL (cg (aa (bD (c.cl "BadName") ["name"] (aa (az (ai 0)) aq)) (aa (gC (c.cl "BadConstraint")) (aa (gC (c.cl "BadCommand")) aq)))))))) (gName 2) (aE [2] (aE [2] (eN (cE (jq lU (bR (b8 c) [] (aa (az (ai 2)) aq)) (aL (cg (aa (az (aG (.bl true))) (aa (az (aG (.bl true))) (aa (az (aG (.bl false))) (aa (az (aG (.bl false))) (aa (az (aG (.bl false))) (aa (az (aG (.bl false))) (aa (az (aG (.bl false))) aq))))))))))) (bG (az (aG (.bl false)))) bO)))))
  (aX (aE [2] (g8 (kj (aL (cg (aa (bD (c.cl "UnknownName") ["name"] (aa (az (ai 0)) aq)) (aa (bD (c.cl "DuplicateName") ["name"] (aa (az (ai 0)) aq)) (aa (bD (c.cl "UnknownNumber") ["number"] (aa (az (ai 0)) aq)) aq)))))) (gName 2) (aE [2] (aE [2] (eN (cE (jq lU (bR (b8 c) [] (aa (az (ai 2)) aq)) (aL (cg (aa (az (aG (.bl false))) (aa (az (aG (.bl false))) (aa (az (aG (.bl true))) (aa (az (aG (.bl true))) (aa (az (aG (.bl false))) (aa (az (aG (.bl false))) (aa (az (aG (.bl false))) aq))))))))))) (bG (az (aG (.bl false)))) bO)))))
  (aX (aE [2] (g8 (kj (aL (cg (aa (gC (c.cl "EmptySet")) (aa (bD (c.cl "Known") ["row"] (aa (az (ai 0)) aq)) (aa (bD (c.cl "WrongState") ["name"] (aa (az (ai 0)) aq)) (aa (gC (c.cl "NothingLeft")) aq))))))) (gName 2) (aE [2] (aE [2] (eN (cE (jq lU (bR (b8 c) [] (aa (az (ai 2)) aq)) (aL (cg (aa (az (aG (.bl false))) (aa (az (aG (.bl false))) (aa (az (aG (.bl true))) (aa (az (aG (.bl false))) (aa (az (aG (.bl false))) (aa (az (aG (.bl false))) (aa (az (aG (.bl false))) aq))))))))))) (bG (az (aG (.bl false)))) bO)))))
  (aX (eN (cE (jq lU (bR (b8 c) [] (aa (bD (c.cl "BadPlace") ["place"] (aa (az (ai 0)) aq)) aq)) (aL (cg (aa (az (aG (.bl false))) (aa (az (aG (.bl false))) (aa (az (aG (.bl true))) (aa (az (aG (.bl false))) (aa (az (aG (.bl true))) (aa (az (aG (.bl false))) (aa (az (aG (.bl false))) aq))))))))))) (bG (az (aG (.bl false)))) bO)
  (aX (aE [0] (eN (cE (jq lU (bR (b8 c) [] (aa (bD (c.cl "Full") ["most"] (aa (az (ai 0)) aq)) aq)) (aL (cg (aa (az (aG (.bl false))) (aa (az (aG (.bl false))) (aa (az (aG (.bl false))) (aa (az (aG (.bl false))) (aa (az (aG (.bl false))) (aa (az (aG (.bl true))) (aa (az (aG (.bl false))) aq))))))))))) (bG (az (aG (.bl false)))) bO))
  (bG (jq uH (bR (b8 c) [] (aa (gC (c.cl "Busy")) aq)) (aL (cg (aa (az (aG (.bl false))) (aa (az (aG (.bl false))) (aa (az (aG (.bl false))) (aa (az (aG (.bl false))) (aa (az (aG (.bl false))) (aa (az (aG (.bl false))) (aa (az (aG (.bl true))) aq)))))))))))))))))
def cK (c : Cn) : gy := cA [false] 3 (eE c)
def kD (c : Cn) : cq :=
  (aX (eN (fm (cE (bR (fF c) [] (aa (az (aG (.int 0))) aq)))) (bG (az (aG (.bl false)))) bO)
  (aX (aE [0, 1, 2, 3] (g8 (iH (aa (az (bz tn (av (aG (.int 1)) (av (bz tm (av (aG (.int 4)) (av (bz gI (av (ai 0) aD)) aD))) aD)))) aq)) (gName 1) (aE [1, 2, 3] (aX (aE [1] (cb (bR (dM c) [] (aa (az (ai 0)) (aa (az (ai 1)) aq))) (gName 2)))
  (aX (aE [2] (cb (aL (xi (iH (aa (az (aG (.int 3))) aq)) (gName 4) gQ (bR (f7 c) [2] (mF 2 aq)) [4])) (gName 3)))
  (aE [3] (eN (kh (fm (cE (bR (cB c) [] (aa (az (aH eP (ai 3) (aG (.int 0)))) (aa (az (aH eP (ai 3) (aG (.int 1)))) (aa (az (aH eP (ai 3) (aG (.int 2)))) aq)))))) (fm (cE (bR (cK c) [] (aa (az (aH eP (ai 3) (aG (.int 0)))) aq))))) (bG (az (aG (.bl false)))) bO)))))))
  (bG (az (aG (.bl true))))))
def jZ (c : Cn) : gy := cA [false] 5 (kD c)
end KV
end
section
namespace KV
open PySem hiding Env
open _root_.SB hiding fj aW fg cN bE eI
open L2 BV KD
section
variable {K: PySem.W.Frag}
theorem kf : XD [false] (fJ K) (cW (cn K)) := iQ (n := 2) (b := fK K) (vb := eV (cn K))
  (bh (b9 (aJ (aW (ah (ax (bY bX (aw ao (aw eH aF)))) (ah (ax (bY bX (aw ao (aw eH aF)))) (ah (ax (bY bX (aw ao (aw eH aF)))) ay))))) bc)
  (bh (b9 (aJ (cN bU (ax ao) (aJ (aW (ah (ax (bY bX (aw ao (aw eH aF)))) (ah (ax (bY bX (aw ao (aw eH aF)))) (ah (ax (bY bX (aw ao (aw eH aF)))) ay))))))) bc)
  (bh (b9 (aJ (cN bU (ax ao) (aJ (aW (ah (ax (bY bX (aw ao (aw eH aF)))) (ah (ax (bY bX (aw ao (aw eH aF)))) (ah (ax (bY bX (aw ao (aw eH aF)))) ay))))))) bc)
  (bh (b9 (aJ (cN bU (ax ao) (aJ (aW (ah (ax (bY bX (aw ao (aw eH aF)))) (ah (ax (bY bX (aw ao (aw eH aF)))) (ah (ax (bY bX (aw ao (aw eH aF)))) ay))))))) bc)
  (bh (b9 (aJ (cN bU (ax ao) (aJ (aW (ah (ax (bY bX (aw ao (aw eH aF)))) (ah (ax (bY bX (aw ao (aw eH aF)))) (ah (ax (bY bX (aw ao (aw eH aF)))) ay))))))) bc)
  (bh (b9 (aJ (cN bU (ax ao) (aJ (aW (ah (ax (bY bX (aw ao (aw eH aF)))) (ah (ax (bY bX (aw ao (aw eH aF)))) (ah (ax (bY bX (aw ao (aw eH aF)))) ay))))))) bc)
  (dB (aJ (cN bU (ax ao) (aJ (aW (ah (ax (bY bX (aw ao (aw eH aF)))) (ah (ax (bY bX (aw ao (aw eH aF)))) ay)))))))))))))
theorem pA : XD [false] (jg K) (fF (cn K)) := iQ (n := 5) (b := ji K) (vb := iD (cn K))
  (bh (b9 (aJ (aW (ah (bj (ah (ax ao) (ah (ax ao) ay))) (ah (bj (ah (ax ao) ay)) (ah fh (ah (bj (ah (ax ao) ay)) (ah (bj (ah (ax ao) (ah (ax ao) (ah (ax ao) ay)))) (ah (bj (ah (ax ao) (ah (ax ao) ay))) (ah fh ay))))))))) bc)
  (bh (b9 (aJ (cN bU (ax ao) (aJ (aW (ah (bj (ah (ax ao) ay)) (ah fh (ah fh (ah (bj (ah (ax ao) ay)) (ah (bj (ah (ax ao) ay)) (ah (bj (ah (ax ao) ay)) ay)))))))))) bc)
  (bh (bC (b9 (aJ (cN bU (ax ao) (aJ (aW (ah (bj (ah (ax ao) ay)) (ah fh (ah (bj (ah (ax ao) ay)) (ah (bj (ah (ax ao) ay)) (ah fh (ah (bj (ah (ax ao) ay)) (ah fh ay))))))))))) bc))
  (bh (bC (nN (Ip (ah (ax ao) ay)) (Eg (sJ bc (sJ bc Bi))) (bC (bC (jn (bE (cN kJ (fR kf (ah (ax ao) ay) (cJ dg)) (aJ (Dr (qU (ah (ax (bY qV (aw ao aF))) ay)) bc ym (ax (bN yo ao ao)))))) (dB (ax aY)) fb)))))
  (dB (ax aY))))))
theorem jo : XD [false, false, false] (eF K) (cB (cn K)) := iQ (n := 7) (b := eG K) (vb := d4 (cn K))
  (bh (Bh (ah (bj (ah (ax ao) (ah (ax ao) ay))) (ah (bj (ah (ax ao) (ah (ax ao) (ah (ax ao) ay)))) (ah (fQ (ah (ax ao) (ah (ax ao) ay))) ay))))
  (bh (bC (b9 (aJ (aW (ah (bL (ax ao)) (ah (bL (ax ao)) (ah (bL (ax ao)) (ah (bL (ax ao)) (ah (bL (ax ao)) (ah (bL (ax ao)) (ah (bL (ax ao)) (ah (bL (fQ (ah (ax ao) (ah (ax ao) ay)))) ay)))))))))) bc))
  (bh (bC (jn (yn (bE (cN kJ (ax ao) (aJ (aW (ah (ax ao) (ah (ax ao) (ah (ax ao) (ah (ax ao) (ah (ax ao) (ah (ax ao) (ah (ax ao) (ah (ax ao) ay)))))))))))) (yn (bE (uN kJ (bL (fQ (ah (ax ao) (ah (ax ao) (ah (ax ao) ay))))) ao)) (bE (uN kJ (bL (bj (ah (ax ao) (ah (ax ao) ay)))) ao)))) (dB (ax aY)) fb))
  (bh (b9 (aJ (aW (ah (bL (bj (ah (ax ao) ay))) (ah (bL (bj (ah (ax ao) ay))) (ah (bL (bj (ah (ax ao) ay))) (ah (bL (bj (ah (ax ao) ay))) (ah (bL (bj (ah (ax ao) ay))) (ah (bL (bj (ah (ax ao) ay))) ay)))))))) bc)
  (bh (b9 (aJ (cN bU (ax ao) (aJ (aW (ah (bL (bj (ah (ax ao) ay))) (ah (bL (bj (ah (ax ao) ay))) (ah (bL (bj (ah (ax ao) ay))) (ah (bL (bj (ah (ax ao) ay))) ay)))))))) bc)
  (bh (b9 (aJ (cN bU (ax ao) (aJ (aW (ah (bL (fQ (ah (ax ao) ay))) (ah (bL (fQ (ah (ax ao) ay))) (ah (bL (fQ (ah (ax ao) ay))) (ah (bL (fQ (ah (ax ao) ay))) ay)))))))) bc)
  (bh (b9 (aJ (cN bU (ax ao) (aJ (aW (ah (bL (fQ (ah (ax ao) ay))) (ah (bL (fQ (ah (ax ao) ay))) (ah (bL (fQ (ah (ax ao) ay))) (ah (bL (fQ (ah (ax ao) ay))) ay)))))))) bc)
  (dB (cN yo (aJ (cN bU (ax ao) (aJ (aW (ah (bL (fQ (ah (ax ao) ay))) (ah (bL (fQ (ah (ax ao) ay))) ay)))))) (aJ (uN jN (aJ (aW (ah (ax ao) ay))) aI)))))))))))
theorem dI : XD [false] (cX K) (b8 (cn K)) := iQ (n := 2) (b := jh K) (vb := iB (cn K))
  (bh (b9 (aJ (aW (ah (ax (bY bX (aw ao (aw eH aF)))) (ah (ax (bY bX (aw ao (aw pQ aF)))) (ah (ax (bY bX (aw ao (aw pQ aF)))) ay))))) bc)
  (bh (b9 (aJ (cN bU (ax ao) (aJ (aW (ah (ax (bY bX (aw ao (aw pQ aF)))) (ah (ax (bY bX (aw ao (aw pQ aF)))) (ah (ax (bY bX (aw ao (aw pQ aF)))) ay))))))) bc)
  (dB (aJ (cN bU (ax ao) (aJ (aW (ah (ax (bY bX (aw ao (aw pQ aF)))) ay))))))))
theorem j2 : XD [false] (eW K) (cK (cn K)) := iQ (n := 3) (b := eY K) (vb := eE (cn K))
  (bh (b9 (aJ (aW (ah (bj (ah (ax ao) (ah (ax ao) ay))) (ah (bj (ah (ax ao) ay)) (ah fh (ah (bj (ah (ax ao) ay)) (ah (bj (ah (ax ao) (ah (ax ao) (ah (ax ao) ay)))) (ah (bj (ah (ax ao) (ah (ax ao) ay))) (ah fh ay))))))))) bc)
  (bh (bC (nN (uK (aJ (cN bU (ax ao) (aJ (aW (ah (bj (ah (ax ao) ay)) (ah fh (ah fh ay)))))))) bc (bC (bC (jn (bE (cN kJ (fR dI (ah (ax ao) ay) (cJ dg)) (aJ (aW (ah (ax aY) (ah (ax aY) (ah (ax aY) (ah (ax aY) (ah (ax aY) (ah (ax aY) (ah (ax aY) ay))))))))))) (dB (ax aY)) fb)))))
  (bh (bC (nN (uK (aJ (aW (ah (bj (ah (ax ao) ay)) (ah (bj (ah (ax ao) ay)) (ah (bj (ah (ax ao) ay)) ay)))))) bc (bC (bC (jn (bE (cN kJ (fR dI (ah (ax ao) ay) (cJ dg)) (aJ (aW (ah (ax aY) (ah (ax aY) (ah (ax aY) (ah (ax aY) (ah (ax aY) (ah (ax aY) (ah (ax aY) ay))))))))))) (dB (ax aY)) fb)))))
  (bh (bC (nN (uK (aJ (aW (ah fh (ah (bj (ah (ax ao) ay)) (ah (bj (ah (ax ao) ay)) (ah fh ay))))))) bc (bC (bC (jn (bE (cN kJ (fR dI (ah (ax ao) ay) (cJ dg)) (aJ (aW (ah (ax aY) (ah (ax aY) (ah (ax aY) (ah (ax aY) (ah (ax aY) (ah (ax aY) (ah (ax aY) ay))))))))))) (dB (ax aY)) fb)))))
  (bh (jn (bE (cN kJ (fR dI (ah (bj (ah (ax ao) ay)) ay) (cJ dg)) (aJ (aW (ah (ax aY) (ah (ax aY) (ah (ax aY) (ah (ax aY) (ah (ax aY) (ah (ax aY) (ah (ax aY) ay))))))))))) (dB (ax aY)) fb)
  (bh (bC (jn (bE (cN kJ (fR dI (ah (bj (ah (ax ao) ay)) ay) (cJ dg)) (aJ (aW (ah (ax aY) (ah (ax aY) (ah (ax aY) (ah (ax aY) (ah (ax aY) (ah (ax aY) (ah (ax aY) ay))))))))))) (dB (ax aY)) fb))
  (dB (cN yo (fR dI (ah fh ay) (cJ dg)) (aJ (aW (ah (ax aY) (ah (ax aY) (ah (ax aY) (ah (ax aY) (ah (ax aY) (ah (ax aY) (ah (ax aY) ay)))))))))))))))))
theorem xd_law_k08 : XD [false] (D_law_k08 K) (jZ (cn K)) := iQ (n := 5) (b := mE K) (vb := kD (cn K))
  (bh (jn (uJ (bE (fR pA (ah (ax aI) ay) (cJ dg)))) (dB (ax aY)) fb)
  (bh (bC (nN (qU (ah (ax (bY Bk (aw aI (aw (bY Bj (aw aI (aw (bY qV (aw ao aF)) aF))) aF)))) ay)) bc (bC (bh (bC (b9 (fR nQ (ah (ax ao) (ah (ax ao) ay)) (cJ (cJ dg))) bc))
  (bh (bC (b9 (aJ (Dr (qU (ah (ax aI) ay)) bc ym (fR sL (yu ay) (uF dg)))) bc))
  (bC (jn (yn (uJ (bE (fR jo (ah (ax (bN iG ao aI)) (ah (ax (bN iG ao aI)) (ah (ax (bN iG ao aI)) ay))) (cJ (cJ (cJ dg)))))) (uJ (bE (fR j2 (ah (ax (bN iG ao aI)) ay) (cJ dg))))) (dB (ax aY)) fb)))))))
  (dB (ax aY))))
end
end KV
end
section
set_option exponentiation.threshold 2000
namespace QP
open PySem hiding Env
open L2 hiding TE gName
open SB BV KV
def tyN : T → Option String
 | .non => ξ "NoneType"
 | .bl _ => ξ "bool"
 | .int _ => ξ "int"
 | .str _ => ξ "str"
 | .tup _ => ξ "tuple"
 | .nd _ .lst _ => ξ "list"
 | _ => ζ
def isaB (a n : String) : Bool := a == n || (a == "bool" && n == "int")
structure CnOk (c : Cn) : Prop where
 base : ∀ x a n, tyN x = ξ a → n = "int" ∨ n = "bool" ∨ n = "str" ∨ n = "tuple" ∨ n = "list" → c.isi x (.ty n) = ξ (isaB a n)
section
variable {c: Cn}
@[simp] theorem HI {x y : T} : oj c [x, y] = match c.isi x y with
  | some b => ξ (.pur (.bl b))
  | none => ζ := rfl
def uT (a b d : Int) : T := .nd true .lst [.int a, .int b, .int d]
def Src (n : Nat) (t : T) : Prop := ∃ a b d, t = uT a b d ∧ 0 ≤ a ∧ 0 ≤ b ∧ b < 2 ^ 100 ∧ 0 ≤ d ∧ d + n ≤ 2 ^ 100
theorem Src.mono {n m : Nat} {t : T} (h : Src n t) (l : m ≤ n) : Src m t := by
 obtain ⟨a, b, d, e, h1, h2, h3, h4, h5⟩ := h
 exact ⟨a, b, d, e, h1, h2, h3, h4, by omega⟩
theorem qj {i : Int} {n : Nat} (h0 : 0 ≤ i) (h : i < (n : Int)) : i.natAbs < n := by omega
@[simp] theorem HC {ts : List T} {i : Int} {y : T} : th .lst ts (.int i) y = match ixN ts.length i with
  | some j => ξ (.lst, ts.set j y)
  | none => ζ := rfl
@[simp] theorem JK {i j : Int} : zi (.int i) (.int j) = if (decide (0 < j) && sm 1073741823 j) = true then ξ (.pur (.int (i / j))) else ζ := by
  show (match (if (decide (0 < j) && sm 1073741823 j) = true then ξ (T.int (i / j)) else ζ) with
    | some t => ξ (PN.pur t)
    | none => ζ) = _
  by_cases h : (decide (0 < j) && sm 1073741823 j) = true
  · rw [if_pos h, if_pos h]
  · rw [if_neg h, if_neg h]
@[simp] theorem kR {i j : Int} : pC (.int i) (.int j) = if (decide (0 ≤ j) && (sm 1000 j && sm (2 ^ 999) i)) = true then ξ (.pur (.int (i ^ j.toNat))) else ζ := by
  show (match (if (decide (0 ≤ j) && (sm 1000 j && sm (2 ^ 999) i)) = true then ξ (T.int (i ^ j.toNat)) else ζ) with
    | some t => ξ (PN.pur t)
    | none => ζ) = _
  by_cases h : (decide (0 ≤ j) && (sm 1000 j && sm (2 ^ 999) i)) = true
  · rw [if_pos h, if_pos h]
  · rw [if_neg h, if_neg h]
theorem ix3 {a b d : T} : eP (.nd true .lst [a, b, d]) (.int 0) = ξ (.pur a) ∧ eP (.nd true .lst [a, b, d]) (.int 1) = ξ (.pur b) ∧ eP (.nd true .lst [a, b, d]) (.int 2) = ξ (.pur d) := ⟨rfl, rfl, rfl⟩
theorem Gq {n k : Nat} {s : T} (hs : Src (n + 1) s) (hk : 0 < k) (hk2 : k < 1073741824) : ∃ (v : Nat) (s' : T), e8 c [s, .int k] = ξ (.ok (.int v) [s']) ∧ v < k ∧ Src n s' := by
 obtain ⟨a, b, d, rfl, h1, h2, h3, h4, h5⟩ := hs
 have hk3 : sm 1073741823 (k : Int) = true := j8 (by omega)
 have hk4 : (0 : Int) < k := by omega
 have s1 : sm 1000000000000000000 1000003 = true := rfl
 have s2 : sm 1000000000000000000 7 = true := rfl
 have s3 : sm 1073741823 512 = true := rfl
 have s4 : sm 1073741823 32 = true := rfl
 have s5 : sm 1000 3 = true := rfl
 have s6 : sm 1000 2 = true := rfl
 have x0 : ixN 3 (0 : Int) = ξ 0 := rfl
 have x2 : ixN 3 (2 : Int) = ξ 2 := rfl
 by_cases ha : 0 < a
 ·have hv := Int.emod_nonneg a (b := (k : Int)) (by omega)
  have hv2 := Int.emod_lt_of_pos a hk4
  refine ⟨(a % k).toNat, uT (a / k) b d, ?_, by omega, ⟨a / k, b, d, rfl, Int.ediv_nonneg h1 (by omega), h2, h3, h4, by omega⟩⟩
  simp [e8, cA, gL, uT, ix3, ha, hk, hk4, hk3, x0, fM]
  rw [Int.max_eq_left hv]
 ·have p1 : sm (2 ^ 999) (b + 1000003 * (d + 1)) = true := by
   apply j8
   have : b + 1000003 * (d + 1) < 2 ^ 200 := by omega
   exact Nat.le_of_lt (Nat.lt_trans (qj (n := 2 ^ 200) (by omega) (by omega)) (Nat.pow_lt_pow_right (by decide) (by decide)))
  generalize hX : (b + 1000003 * (d + 1)) ^ 3 % 2305843009213693921 = X
  have hX0 : 0 ≤ X ∧ X < 2305843009213693921 := by
   rw [← hX]
   exact ⟨Int.emod_nonneg _ (by decide), Int.emod_lt_of_pos _ (by decide)⟩
  have p2 : sm (2 ^ 999) (X / 512 + 7 * (d + 1)) = true := by
   apply j8
   have h7 : X / 512 ≤ X := by omega
   have : X / 512 + 7 * (d + 1) < 2 ^ 200 := by omega
   exact Nat.le_of_lt (Nat.lt_trans (qj (n := 2 ^ 200) (by omega) (by omega)) (Nat.pow_lt_pow_right (by decide) (by decide)))
  generalize hY : (X / 512 + 7 * (d + 1)) ^ 2 % 2147483629 = Y
  have hv := Int.emod_nonneg (Y / 32) (b := (k : Int)) (by omega)
  have hv2 := Int.emod_lt_of_pos (Y / 32) hk4
  refine ⟨(Y / 32 % k).toNat, uT a b (d + 1), ?_, by omega, ⟨a, b, d + 1, rfl, h1, h2, h3, by omega, by omega⟩⟩
  simp [e8, cA, gL, uT, ix3, ha, hk, hk4, hk3, x2, fM, s1, s2, s3, s4, s5, s6, p1, p2, hX, hY]
  rw [Int.max_eq_left hv]
end
end QP
end
section
set_option exponentiation.threshold 2000
namespace QP
open PySem hiding Env
open L2 hiding TE gName
open SB BV KV
def qt (s : Nat) (f : Nat → Nat) : T := .tup ((List.range s).map fun z => .int (f z))
def lX (s : Nat) (f : Nat → Nat → Nat) : T := .tup ((List.range s).map fun y => qt s (f y))
abbrev Tab := Nat × (Nat → Nat → Nat → Nat)
def nX (t : Tab) : T := .tup ((List.range t.1).map fun x => lX t.1 (t.2 x))
def LineOK (s x y : Nat) (f : Nat → Nat) : Prop := ∀ z, z < s → f z < s ∧ (z = y → f z = x) ∧ (x = y → f z = z)
structure GoodT (t : Tab) : Prop where
 pos : 1 ≤ t.1
 le4 : t.1 ≤ 4
 line : ∀ x y, x < t.1 → y < t.1 → LineOK t.1 x y (t.2 x y)
theorem bQ {α : Type} {n i : Nat} {f : Nat → α} (h : i < n) : ((List.range n).map f)[i]? = ξ (f i) := by
 rw [List.getElem?_map, List.getElem?_range h]
 rfl
theorem xX {n : Nat} {f : Nat → Nat} : hots ((List.range n).map fun z => T.int (f z)) = false := aU fun x _ => rfl
@[simp] theorem Aq {s : Nat} {f : Nat → Nat} : hot (qt s f) = false := by
  unfold qt
  rw [fv]
  exact xX
@[simp] theorem x3 {s : Nat} {f : Nat → Nat → Nat} : hot (lX s f) = false := by
  unfold lX
  rw [fv]
  exact aU fun x _ => Aq
@[simp] theorem wJ {t : Tab} : hot (nX t) = false := by
  unfold nX
  rw [fv]
  exact aU fun x _ => x3
section
end
end QP
end
section
namespace QP
open PySem hiding Env
open L2 hiding TE gName
open SB BV KV
section
variable {te te1: TE}
theorem lc_v {vi : VI} {g : VG} {tt : VT} {elt : VD} {zs : List Nat} {ts : List T} (I : Nat → List T → TE → Prop) (hi : vi te = ξ (.ok ts te1)) (hl : ts.length ≤ 1000000) (hc : dZ te1 zs = true) (h0 : I 0 [] (aR te1 zs))
  (step : ∀ (i : Nat) t ys te, ts[i]? = ξ t → I i ys te → ∃ te1, g t te = ξ te1 ∧ VP (tt te1) fun b te2 => if b = true then VP (elt te2) fun y te3 => I (i + 1) (ys ++ [y]) (aR te3 zs) else I (i + 1) ys (aR te2 zs)) :
  ∃ ys te2, xi vi g tt elt zs te = ξ (.ok (.nd true .lst ys) (dO te1 te2 zs)) ∧ I ts.length ys te2 := by
 obtain ⟨ys, te2, e, h⟩ := vlc (g := g) (tt := tt) (elt := elt) (zs := zs) (ts := ts) I step h0
 refine ⟨ys, te2, ?_, h⟩
 rw [nu]
 simp only [hi, cY, if_pos (cI hl), if_pos hc, e]
theorem ED {e : VD} {v n : Nat} {elt : VD} {zs : List Nat} (I : Nat → List T → TE → Prop) (he : e te = ξ (.ok (.int (n : Nat)) te1)) (hn : n ≤ 1000000) (hc : dZ te1 zs = true) (h0 : I 0 [] (aR te1 zs))
  (step : ∀ i ys te, i < n → I i ys te → VP (elt (te.set v (ξ (.int (i : Nat))))) fun y te3 => I (i + 1) (ys ++ [y]) (aR te3 zs)) :
  ∃ ys te2, xi (iH (aa e aq)) (gName v) gQ elt zs te = ξ (.ok (.nd true .lst ys) (dO te1 te2 zs)) ∧ I n ys te2 := by
 have hs : sm 1000000000000 (n : Int) = true := j8 (by omega)
 obtain ⟨ys, te2, e1, h⟩ := lc_v (vi := iH (aa e aq)) (g := gName v) (tt := gQ) (elt := elt) (zs := zs) (te := te) (te1 := te1) (ts := iS 0 n) I (by simp [he, hs]) (by rw [sO]; exact hn) hc h0 (fun i t ys te ht hI => by
  obtain ⟨hi, rfl⟩ := yK ht
  exact ⟨_, rfl, true, _, rfl, step i ys te hi hI⟩)
 rw [sO] at h
 exact ⟨ys, te2, e1, h⟩
end
section
end
end QP
end
section
set_option exponentiation.threshold 2000
namespace QP
open PySem hiding Env
open L2 hiding TE gName
open SB BV KV
section
variable {c: Cn}
theorem La : sm (2 ^ 999) 10 = true := j8 (Nat.le_trans (by decide : 10 ≤ 2 ^ 4) (Nat.pow_le_pow_right (by decide) (by decide)))
theorem mulS {a j : Int} (h : -1000000 < a ∧ a < 1000000) : (sm 1000000000000000000 a || sm 1000000000000000000 j) = true := by rw [Bool.or_eq_true]; exact .inl (j8 (by omega))
theorem JP {a j : Int} (h : -1000000 < j ∧ j < 1000000) : (sm 1000000000000000000 a || sm 1000000000000000000 j) = true := by rw [Bool.or_eq_true]; exact .inr (j8 (by omega))
def Et : cq := bG (cg (aa (az (aH fN (bz xG (av (ai 2) aD)) (bz wj (av (aH K8 (bz xG (av (ai 2) aD)) (aH pC (aG (.int 10)) (aG (.int 18)))) aD)))) (aa (az (aH cG (aH fN (aH cG (aH cG (aH tj (ai 2) (aG (.int 2305843009213693951))) (aH fN (aG (.int 7919)) (ai 1))) (aG (.int 31))) (aG (.int 48271))) (ai 1))) (aa (az (aG (.int 0))) aq))))
theorem yV {at_ : Nat} (hat : at_ < 100) (cell : Int) : ∃ s, Et [ζ, ξ (.int at_), ξ (.int cell)] = ξ (.fl (.ret s) [ζ, ξ (.int at_), ξ (.int cell)]) ∧ Src (2 ^ 90) s := by
 have q10 : pC (.int 10) (.int 18) = ξ (.pur (.int 1000000000000000000)) := by
  rw [kR, if_pos (by rw [La]; rfl)]
  rfl
 have h1 := Int.emod_nonneg cell (b := 2305843009213693951) (by decide)
 have h2 := Int.emod_lt_of_pos cell (b := 2305843009213693951) (by decide)
 generalize hj : (if decide ((1000000000000000000 : Int) ≤ if cell < 0 then -cell else cell) = true then (1 : Int) else 0) = j
 have hj01 : j = 0 ∨ j = 1 := by
  by_cases h : decide ((1000000000000000000 : Int) ≤ if cell < 0 then -cell else cell) = true
  ·rw [if_pos h] at hj; exact .inr hj.symm
  ·rw [if_neg h] at hj; exact .inl hj.symm
 have hm1 : fN (.int (if cell < 0 then -cell else cell)) (.int j) = ξ (.pur (.int ((if cell < 0 then -cell else cell) * j))) := by rw [lV, if_pos (JP (by omega))]
 have hm2 : fN (.int 7919) (.int at_) = ξ (.pur (.int (7919 * at_))) := by rw [lV, if_pos (mulS (by omega))]
 have hm3 : fN (.int (cell % 2305843009213693951 + 7919 * at_ + 31)) (.int 48271) = ξ (.pur (.int ((cell % 2305843009213693951 + 7919 * at_ + 31) * 48271))) := by rw [lV, if_pos (JP (by omega))]
 have h3 : (0 + 1 + 1 + 1 : Nat) ≤ sizeLine := cI (by decide)
 refine ⟨uT ((if cell < 0 then -cell else cell) * j) ((cell % 2305843009213693951 + 7919 * at_ + 31) * 48271 + at_) 0, ?_, ?_⟩
 ·simp only [Et, yD, yF, ki, lN, ri, yz, nS, kg, lL, pS, Bq, ra, cY, List.getElem?_cons_zero, List.getElem?_cons_succ, zl, BQ, q10, zh, hj, hm1, zc, if_pos (show (0 : Int) < 2305843009213693951 by decide), hm2, xF, hm3, wK, Bool.false_eq_true, if_false, List.length_cons, List.length_nil, uT, if_pos h3]
 ·refine ⟨_, _, 0, rfl, ?_, ?_, ?_, by omega, by decide⟩
  ·split <;> rcases hj01 with rfl | rfl <;> omega
  ·omega
  ·omega
theorem yW {ns : List Int} {at_ : Nat} (hat : at_ < 100) : ∃ s, dM c [.scr ns, .int at_] = ξ (.ok s []) ∧ Src (2 ^ 90) s := by
 have key : Dl (dM c [.scr ns, .int at_]) fun r fs => fs = [] ∧ Src (2 ^ 90) r := by
  refine ib rfl ?_
  have hB : g5 c = aX (cb (az (aG (.int 0))) (gName 2)) (aX (aE [0] (eN (kL (aH JD (ai 1) (bz gI (av (ai 0) aD)))) (aE [0] (cb (az (aH eP (ai 0) (ai 1))) (gName 2))) bO)) Et) := rfl
  rw [hB]
  refine aS (te1 := [ξ (.scr ns), ξ (.int at_), ξ (.int 0)]) (by simp) ?_
  by_cases hl : at_ < ns.length
  ·have hix : eP (.scr ns) (.int at_) = ξ (.pur (.int ns[at_])) := gb (ts := ns.map T.int) rfl (by rw [List.getElem?_map, List.getElem?_eq_getElem hl]; rfl)
   refine aS (te1 := [ζ, ξ (.int at_), ξ (.int ns[at_])]) (by simp [hl, hix]) ?_
   obtain ⟨s, e, hs⟩ := yV hat ns[at_]
   exact ⟨_, _, e, [], rfl, rfl, hs⟩
  ·refine aS (te1 := [ζ, ξ (.int at_), ξ (.int 0)]) (by simp [hl]) ?_
   obtain ⟨s, e, hs⟩ := yV hat 0
   exact ⟨_, _, e, [], rfl, rfl, hs⟩
 obtain ⟨r, fs, e, rfl, h⟩ := key
 exact ⟨r, e, h⟩
def yJ (ts : List Tab) : T := .nd false .lst (ts.map nX)
theorem xU {ts : List Tab} : hots (ts.map nX) = false := aU fun x _ => wJ
end
end QP
end
section
namespace QP
open PySem hiding Env
open L2 hiding TE gName
open SB BV KV
structure Vl (d n : Nat) (x : T) : Prop where
 cold : hot x = false
 dat : ∃ D, dT d x = ξ D ∧ D.showable = true ∧ D.shown.length ≤ n ∧ D.canLay0 = true ∧ D.depth ≤ d ∧ PyData.strOk D.shown = true
theorem fV {a b : Str} : PyData.strOk (a ++ b) = (PyData.strOk a && PyData.strOk b) := by
 unfold PyData.strOk
 rw [Str.cps_append, Array.all_append]
theorem mH : ∀ (ts : List Str) (k : Nat) (acc : Str), PyData.strOk acc = true → (∀ t ∈ ts, PyData.strOk t = true) → PyData.strOk (textFrom k acc ts) = true
 | [], k, acc, ha, _ => ha
 | t :: r, k, acc, ha, h => by
  have e0 : PyData.strOk (((if k > 0 then ", " else "" : String)) : Str) = true := by
   split <;> decide +kernel
  refine mH r (k + 1) (acc ++ (if k > 0 then ", " else "" : String) ++ t) ?_ fun x hx => h x (by simp [hx])
  rw [fV, fV, ha, e0, h t (by simp)]
  rfl
theorem t8 {ts : List Str} (h : ∀ t ∈ ts, PyData.strOk t = true) : PyData.strOk (listText ts) = true := by
 unfold listText
 rw [fV, mH ts 0 "[" (by decide +kernel) h]
 decide +kernel
theorem wG : ∀ {ts : List Str}, (∀ t ∈ ts, PyData.strOk t = true) → PyData.strOk (Str.join ", " ts) = true
 | [], _ => by decide +kernel
 | [x], h => h x (by simp)
 | x :: y :: r, h => by
  show PyData.strOk (x ++ ((", " : String) : Str) ++ Str.join ", " (y :: r)) = true
  rw [fV, fV, h x (by simp), wG (ts := y :: r) fun t ht => h t (by simp at ht ⊢; exact .inr ht)]
  decide +kernel
theorem rk {ts : List Str} (h : ∀ t ∈ ts, PyData.strOk t = true) : PyData.strOk (tupleText ts) = true := by
 unfold tupleText
 rw [fV, fV, wG h]
 split <;> decide +kernel
theorem mI {n : Nat} : ∀ (ts : List Str) (k : Nat) (acc : Str), (∀ t ∈ ts, t.length ≤ n) → (textFrom k acc ts).length ≤ acc.length + ts.length * (n + 2)
 | [], k, acc, _ => by show acc.length ≤ _; omega
 | t :: r, k, acc, h => by
  have e0 : (((if k > 0 then ", " else "" : String)) : Str).length ≤ 2 := by
   split
   ·exact (by decide : (2 : Nat) ≤ 2)
   ·exact (by decide : (0 : Nat) ≤ 2)
  have e : (acc ++ (if k > 0 then ", " else "" : String) ++ t).length ≤ acc.length + 2 + t.length := by
   rw [Str.length_append, Str.length_append]
   omega
  have ih := mI (n := n) r (k + 1) (acc ++ (if k > 0 then ", " else "" : String) ++ t) fun x hx => h x (by simp [hx])
  have ht := h t (by simp)
  show (textFrom (k + 1) (acc ++ (if k > 0 then ", " else "" : String) ++ t) r).length ≤ _
  rw [List.length_cons, Nat.succ_mul]
  omega
theorem t9 {n : Nat} {ts : List Str} (h : ∀ t ∈ ts, t.length ≤ n) : (listText ts).length ≤ ts.length * (n + 2) + 2 := by
 unfold listText
 rw [Str.length_append]
 have := mI ts 0 "[" h
 have e1 : (("[" : String) : Str).length = 1 := rfl
 have e2 : (("]" : String) : Str).length = 1 := rfl
 omega
theorem tD {n : Nat} : ∀ (ts : List Str), (∀ t ∈ ts, t.length ≤ n) → piled ts ≤ ts.length * (n + 2)
 | [], _ => by simp [piled]
 | t :: r, h => by
  have ih := tD r fun x hx => h x (by simp [hx])
  have ht := h t (by simp)
  simp only [piled, List.map_cons, List.sum_cons, List.length_cons, Nat.succ_mul] at ih ⊢
  omega
theorem rn {n : Nat} {ts : List Str} (h : ∀ t ∈ ts, t.length ≤ n) : (tupleText ts).length ≤ ts.length * (n + 2) + 3 := by
 unfold tupleText
 rw [Str.length_append, Str.length_append]
 have e1 : ((",)" : String) : Str).length = 2 := rfl
 have e2 : ((")" : String) : Str).length = 1 := rfl
 have e3 : (("(" : String) : Str).length = 1 := rfl
 have hj : (Str.join ", " ts).length ≤ ts.length * (n + 2) := by
  cases ts with
  | nil => show (0 : Nat) ≤ _; omega
  | cons x r =>
   have := join_length_add (x :: r) (by simp)
   have := tD (x :: r) h
   omega
 split <;> omega
theorem cC : ∀ {ds : List PyData}, PyData.shownAll ds = ds.map PyData.shown
 | [] => rfl
 | d :: ds => by simp only [PyData.shownAll, List.map_cons, cC]
theorem gB : ∀ {ds : List PyData}, (∀ d ∈ ds, d.showable = true) → PyData.showableAll ds = true
 | [], _ => rfl
 | d :: ds, h => by
  simp only [PyData.showableAll, Bool.and_eq_true]
  exact ⟨h d (by simp), gB fun e he => h e (by simp [he])⟩
theorem Vl.all {d n : Nat} : ∀ {xs : List T}, (∀ x ∈ xs, Vl d n x) → ∃ ds, dR (dT d) xs = ξ ds ∧ ds.length = xs.length ∧ ∀ D ∈ ds, D.showable = true ∧ D.shown.length ≤ n ∧ D.canLay0 = true ∧ D.depth ≤ d ∧ PyData.strOk D.shown = true
 | [], _ => ⟨[], rfl, rfl, by simp⟩
 | x :: xs, h => by
  obtain ⟨D, e, hD⟩ := (h x (by simp)).dat
  obtain ⟨ds, e2, hl, hds⟩ := Vl.all (xs := xs) fun y hy => h y (by simp [hy])
  refine ⟨D :: ds, by simp only [dR, e, e2], by simp [hl], fun E hE => ?_⟩
  rcases List.mem_cons.mp hE with rfl | hE
  ·exact hD
  ·exact hds E hE
theorem Vl.hots {d n : Nat} {xs : List T} (h : ∀ x ∈ xs, Vl d n x) : hots xs = false := hots_iff.mpr fun x hx => (h x hx).cold
theorem Vl.tup {d n k : Nat} {xs : List T} (h : ∀ x ∈ xs, Vl d n x) (hl : xs.length ≤ k) : Vl (d + 1) (k * (n + 2) + 3) (.tup xs) := by
 obtain ⟨ds, e, hdl, hds⟩ := Vl.all h
 refine ⟨by simp [Vl.hots h], .tuple ds, by simp only [dT, e], ?_, ?_, ?_, ?_, ?_⟩
 ·simp only [PyData.showable]
  exact gB fun D hD => (hds D hD).1
 ·simp only [PyData.shown]
  have := rn (n := n) (ts := PyData.shownAll ds) (by
   rw [cC]
   intro t ht
   obtain ⟨D, hD, rfl⟩ := List.mem_map.mp ht
   exact (hds D hD).2.1)
  rw [cC, List.length_map, hdl] at this
  rw [cC]
  exact Nat.le_trans this (Nat.add_le_add_right (Nat.mul_le_mul_right _ hl) _)
 ·simp only [PyData.canLay0]
  exact dJ fun D hD => (hds D hD).2.2.1
 ·simp only [PyData.depth]
  exact Nat.succ_le_succ (e7 fun D hD => (hds D hD).2.2.2.1)
 ·simp only [PyData.shown]
  rw [cC]
  refine rk fun t ht => ?_
  obtain ⟨D, hD, rfl⟩ := List.mem_map.mp ht
  exact (hds D hD).2.2.2.2
theorem Vl.lst {d n k : Nat} {xs : List T} (h : ∀ x ∈ xs, Vl d n x) (hl : xs.length ≤ k) : Vl (d + 1) (k * (n + 2) + 3) (.nd false .lst xs) := by
 obtain ⟨ds, e, hdl, hds⟩ := Vl.all h
 refine ⟨by simp [Vl.hots h], .list ds, by simp only [dT, e], ?_, ?_, ?_, ?_, ?_⟩
 ·simp only [PyData.showable]
  exact gB fun D hD => (hds D hD).1
 ·simp only [PyData.shown]
  have := t9 (n := n) (ts := PyData.shownAll ds) (by
   rw [cC]
   intro t ht
   obtain ⟨D, hD, rfl⟩ := List.mem_map.mp ht
   exact (hds D hD).2.1)
  rw [cC, List.length_map, hdl] at this
  rw [cC]
  have := Nat.mul_le_mul_right (n + 2) hl
  omega
 ·simp only [PyData.canLay0]
  exact dJ fun D hD => (hds D hD).2.2.1
 ·simp only [PyData.depth]
  exact Nat.succ_le_succ (e7 fun D hD => (hds D hD).2.2.2.1)
 ·simp only [PyData.shown]
  rw [cC]
  refine t8 fun t ht => ?_
  obtain ⟨D, hD, rfl⟩ := List.mem_map.mp ht
  exact (hds D hD).2.2.2.2
theorem lA : ∀ {d e : Nat} {x : T} {D : PyData}, dT d x = ξ D → d ≤ e → dT e x = ξ D := by
 intro d
 induction d with
 | zero => intro e x D h; cases h
 | succ d ih =>
  intro e x D h hle
  obtain ⟨e, rfl⟩ : ∃ k, e = k + 1 := ⟨e - 1, by omega⟩
  have key : ∀ {xs : List T} {ds : List PyData}, dR (dT d) xs = ξ ds → dR (dT e) xs = ξ ds := by
   intro xs
   induction xs with
   | nil => intro ds h; exact h
   | cons y ys ih2 =>
    intro ds h
    unfold dR at h ⊢
    cases h1 : dT d y with
    | none => rw [h1] at h; cases h
    | some a =>
     cases h2 : dR (dT d) ys with
     | none => rw [h1, h2] at h; cases h
     | some b =>
      rw [h1, h2] at h
      rw [ih h1 (by omega), ih2 h2]
      exact h
  cases x with
  | tup xs =>
   simp only [dT] at h ⊢
   cases h1 : dR (dT d) xs with
   | none => rw [h1] at h; cases h
   | some ds => rw [h1] at h; rw [key h1]; exact h
  | nd o k xs =>
   cases k <;> first | (cases h; done) | skip
   simp only [dT] at h ⊢
   cases h1 : dR (dT d) xs with
   | none => rw [h1] at h; cases h
   | some ds => rw [h1] at h; rw [key h1]; exact h
  | im k xs => cases h
  | non => exact h
  | bl b => exact h
  | int i => exact h
  | str x => exact h
  | ob a => cases h
  | ty a => cases h
  | scr a => cases h
theorem Vl.mono {d e n m : Nat} {x : T} (h : Vl d n x) (hd : d ≤ e) (hn : n ≤ m) : Vl e m x := by
 obtain ⟨hc, D, h1, h2, h3, h4, h5⟩ := h
 exact ⟨hc, D, lA h1 hd, h2, Nat.le_trans h3 hn, h4, Nat.le_trans h5.1 hd, h5.2⟩
theorem Vl.non : Vl 1 10 .non := ⟨rfl, .none, rfl, rfl, by decide +kernel, rfl, by decide, by decide +kernel⟩
theorem Vl.bl {b : Bool} : Vl 1 10 (.bl b) := ⟨rfl, .bool b, rfl, rfl, by cases b <;> decide +kernel, rfl, by simp [PyData.depth], by cases b <;> decide +kernel⟩
theorem EF {d n : Nat} {x : T} (h : Vl d n x) (hd : d ≤ 60) (hn : n ≤ 1000000) : ∃ D, dT 60 x = ξ D ∧ qRepD [x] = ξ (.pur (.str D.shown)) ∧ PyData.strOk D.shown = true := by
 obtain ⟨hc, D, h1, h2, h3, h4, h5⟩ := h
 refine ⟨D, lA h1 hd, ?_, h5.2⟩
 have hok : we D = true := by
  unfold we
  rw [h2, PyData.hasDict_of_canLay D h4]
  simp only [Bool.true_and, Bool.not_false, Bool.and_eq_true]
  exact ⟨Nat.ble_eq_true_of_le (Nat.le_trans h5.1 hd), Nat.ble_eq_true_of_le (Nat.le_trans h3 (cI hn))⟩
 show (match dT 60 x with
  | some d => if we d = true then ξ (PN.pur (.str d.shown)) else ζ
  | none => ζ) = _
 rw [lA h1 hd]
 simp only [hok, if_true]
theorem om {d n : Nat} {x : T} (h : Vl d n x) (hd : d ≤ 60) : uH x x = ξ (.pur (.bl true)) := by
 obtain ⟨hc, D, h1, h2, h3, h4, h5⟩ := h
 unfold uH
 rw [lA h1 hd]
 simp only [SeqAt.eqv_refl D h4]
theorem Vl.ty {d n : Nat} {x : T} (h : Vl d n x) : ∃ a, tyN x = ξ a := by
 obtain ⟨hc, D, h1, _⟩ := h
 cases d with
 | zero => cases h1
 | succ d =>
  cases x <;> first | exact ⟨_, rfl⟩ | (cases h1; done) | skip
  rename_i o k xs
  cases k <;> first | exact ⟨_, rfl⟩ | (cases h1; done)
section
variable {c: Cn}
def oJ : T → Bool
 | .int _ => true
 | _ => false
def g0 (x : T) (n : Nat) : Bool := match x with
 | .int i => decide (0 ≤ i ∧ i < n)
 | _ => false
theorem Cy {x : T} {a : String} (h : tyN x = ξ a) : (isaB a "int" && !isaB a "bool") = oJ x := by
 cases x <;> simp only [tyN] at h <;> first | (cases h; rfl) | (cases h; done) | skip
 rename_i o k ts
 cases k <;> simp only [tyN] at h <;> first | (cases h; done) | (cases h; rfl)
theorem rQ (ok : CnOk c) {x : T} {a : String} (h : tyN x = ξ a) : ja c [x] = ξ (.ok (.bl (oJ x)) []) := by
 have h1 := ok.base x a "int" h (by simp)
 have h2 := ok.base x a "bool" h (by simp)
 rw [← Cy h]
 cases hb : isaB a "int" <;> rw [hb] at h1 <;> simp [ja, cA, kb, h1, h2, fM]
theorem vC (ok : CnOk c) {x : T} {n : Nat} {a : String} (h : tyN x = ξ a) (hc : hot x = false) : f6 c [x, .int n] = ξ (.ok (.bl (g0 x n)) []) := by
 have e := rQ ok h
 cases hx : oJ x with
 | false =>
  rw [hx] at e
  have hb : g0 x n = false := by cases x <;> first | rfl | (simp [oJ] at hx)
  rw [hb]
  simp [f6, cA, ie, hc, e, fM]
 | true =>
  rw [hx] at e
  cases x <;> first | (simp [oJ] at hx; done) | skip
  rename_i i
  simp only [g0]
  by_cases h0 : 0 ≤ i
  ·simp [f6, cA, ie, e, fM, h0]
  ·simp [f6, cA, ie, e, fM, h0]
theorem oY {α : Type} {f : α → Bool} : ∀ {l : List α}, oZ (l.map fun x => T.bl (f x)) = ξ (l.map f)
 | [] => rfl
 | x :: l => by simp only [List.map_cons, oZ, oY]
theorem u6 {o : Bool} {bs : List Bool} : EW [.nd o .lst (bs.map T.bl)] = ξ (.pur (.bl (bs.all id))) := by
 show (match oZ (bs.map T.bl) with
  | some bs => ξ (PN.pur (.bl (bs.all id)))
  | none => ζ) = _
 have := oY (f := id) (l := bs)
 rw [List.map_id] at this
 rw [show bs.map T.bl = bs.map fun x => T.bl (id x) from rfl, this]
def kindT (c : Cn) (t : Tab) : T := .nd false (.ins (c.cl "Kind") ["entries"]) [nX t]
@[simp] theorem Ar {t : Tab} : hot (kindT c t) = false := by simp [kindT]
theorem fY {ts : List Tab} : hots (ts.map (kindT c)) = false := aU fun x _ => Ar
theorem zf {t : Tab} : gI [nX t] = ξ (.pur (.int t.1)) := by simp [nX]
theorem BO {t : Tab} {x : Nat} (h : x < t.1) : eP (nX t) (.int x) = ξ (.pur (lX t.1 (t.2 x))) := gb (ts := (List.range t.1).map fun x => lX t.1 (t.2 x)) rfl (bQ h)
theorem xE {s : Nat} {f : Nat → Nat → Nat} {y : Nat} (h : y < s) : eP (lX s f) (.int y) = ξ (.pur (qt s (f y))) := gb (ts := (List.range s).map fun y => qt s (f y)) rfl (bQ h)
theorem zg {s : Nat} {f : Nat → Nat} {z : Nat} (h : z < s) : eP (qt s f) (.int z) = ξ (.pur (.int (f z : Nat))) := gb (ts := (List.range s).map fun z => T.int (f z : Nat)) rfl (bQ h)
theorem uy {t : Tab} : lh (c.cl "Kind") "entries" (kindT c t) = ξ (nX t) := by
 simp [lh, kindT, vZ]
theorem Ew {t : Tab} : gx c [kindT c t] = ξ (.ok (.int t.1) []) := by
 simp [gx, cA, lE, uy, zf, fM]
theorem De {t : Tab} {x y z : Nat} (hx : x < t.1) (hy : y < t.1) (hz : z < t.1) : jb c [kindT c t, .int x, .int y, .int z] = ξ (.ok (.int (t.2 x y z : Nat)) []) := by
 simp [jb, cA, kc, uy, BO hx, xE hy, zg hz, fM]
theorem Fz {vi : VI} {g : VG} {elt : VD} {zs : List Nat} {te : TE} {ts : List T} (f : Nat → T → T) (hi : vi te = ξ (.ok ts te)) (hl : ts.length ≤ 1000000) (hc : dZ te zs = true) (hw : aR te zs = te) (hr : dO te te zs = te)
  (step : ∀ (i : Nat) t, ts[i]? = ξ t → ∃ te1 te3, g t te = ξ te1 ∧ elt te1 = ξ (.ok (f i t) te3) ∧ aR te3 zs = te) : xi vi g gQ elt zs te = ξ (.ok (.nd true .lst (ts.mapIdx f)) te) := by
 have h := Br (g := g) (elt := elt) (zs := zs) (ts := ts) (te := te) f step
 rw [nu]
 simp only [hi, cY, if_pos (cI hl), if_pos hc, hw, h, hr]
theorem xO {ts : List T} {f : Nat → T → Bool} : (ts.mapIdx fun i t => T.bl (f i t)) = (ts.mapIdx f).map T.bl := by
 apply List.ext_getElem?
 intro i
 rw [List.getElem?_mapIdx, List.getElem?_map, List.getElem?_mapIdx]
 cases ts[i]? <;> rfl
end
abbrev Row := List Nat
def rowT (r : Row) : T := .tup (r.map fun v => T.int (v : Nat))
def RowOK (ts : List Tab) (r : Row) : Prop := r.length = ts.length ∧ ∀ (i : Nat) (t : Tab) (v : Nat), ts[i]? = ξ t → r[i]? = ξ v → v < t.1
def comb (ts : List Tab) (x y z : Row) : Row := (List.range ts.length).map fun i => match ts[i]?, x[i]?, y[i]?, z[i]? with
 | some t, ξ a, ξ b, ξ c => t.2 a b c
 | _, _, _, _ => 0
@[simp] theorem cL {r : Row} : hot (rowT r) = false := by
  unfold rowT
  rw [fv]
  exact aU fun _ _ => rfl
theorem fC {ts : List Tab} {x y z : Row} : (comb ts x y z).length = ts.length := by simp [comb]
theorem RowOK.at_ {ts : List Tab} {r : Row} (h : RowOK ts r) {i : Nat} {t : Tab} (e : ts[i]? = ξ t) : ∃ v, r[i]? = ξ v ∧ v < t.1 := by
 have hi := (List.getElem?_eq_some_iff.mp e).1
 have hr : i < r.length := by rw [h.1]; exact hi
 exact ⟨r[i], List.getElem?_eq_getElem hr, h.2 i t _ e (List.getElem?_eq_getElem hr)⟩
theorem lB {ts : List Tab} {x y z : Row} {i : Nat} {t : Tab} {a b c : Nat} (e : ts[i]? = ξ t) (h1 : x[i]? = ξ a) (h2 : y[i]? = ξ b) (h3 : z[i]? = ξ c) : (comb ts x y z)[i]? = ξ (t.2 a b c) := by
 have hi := (List.getElem?_eq_some_iff.mp e).1
 unfold comb
 rw [bQ hi, e, h1, h2, h3]
theorem C4 {ts : List Tab} {x y z : Row} (good : ∀ t ∈ ts, GoodT t) (hx : RowOK ts x) (hy : RowOK ts y) (hz : RowOK ts z) : RowOK ts (comb ts x y z) := by
 refine ⟨fC, fun i t v e h => ?_⟩
 obtain ⟨a, h1, h1'⟩ := hx.at_ e
 obtain ⟨b, h2, h2'⟩ := hy.at_ e
 obtain ⟨c, h3, h3'⟩ := hz.at_ e
 rw [lB e h1 h2 h3] at h
 cases h
 exact ((good t (List.mem_of_getElem? e)).line a b h1' h2' c h3').1
theorem nB {r : Row} {i v : Nat} (h : r[i]? = ξ v) : (r.map fun v => T.int (v : Nat))[i]? = ξ (.int v) := by
 rw [List.getElem?_map, h]
 rfl
@[simp] theorem J6 {ts : List Tab} : hot (yJ ts) = false := by simp [yJ, xU]
section
variable {c: Cn}
structure KindsAt (c : Cn) (ts : List Tab) (ks : T) : Prop where
 cold : hot ks = false
 seq : seqT ks = ξ (ts.map (kindT c))
theorem ml {ts : List Tab} : KindsAt c ts (.tup (ts.map (kindT c))) := ⟨by simp [fY], rfl⟩
theorem KindsAt.len {ts : List Tab} {ks : T} (h : KindsAt c ts ks) : gI [ks] = ξ (.pur (.int ts.length)) := by
 have hs := h.seq
 cases ks <;> first | (cases hs; done) | skip
 ·simp only [seqT] at hs
  rename_i ns
  have := Option.some.inj hs
  cases ns with
  | nil =>
   have h0 : ts = [] := by cases ts with | nil => rfl | cons a l => simp at this
   subst h0
   rfl
  | cons a l =>
   cases ts with
   | nil => simp at this
   | cons b l' => simp [kindT] at this
 ·cases hs
  simp
 ·rename_i o k xs
  cases k <;> first | (cases hs; done) | skip
  cases hs
  simp
 ·rename_i k xs
  cases k <;> first | (cases hs; done) | skip
  cases hs
  show ξ (PN.pur (.int (((ts.map (kindT c)).length : Nat) : Int))) = _
  rw [List.length_map]
theorem sH {xs : List (List T)} {n i : Nat} {t : T} (h : (pq xs n)[i]? = ξ t) : i < n ∧ t = .tup (yg xs i) := by
 unfold pq at h
 have hi : i < n := by
  have := (List.getElem?_eq_some_iff.mp h).1
  simpa using this
 rw [bQ hi] at h
 exact ⟨hi, (Option.some.inj h).symm⟩
theorem nM {xs : List (List T)} {n : Nat} : (pq xs n).length = n := by simp [pq]
@[simp] theorem IB {n : Nat} {as : VA} {te : TE} : Bs n as te = bu (as te) fun ts te1 => match ts with
  | [] => ζ
  | t0 :: _ => if ts.length = n ∧ hots ts = false then (match sX ts, seqT t0 with
    | some xs, ξ x0 => if xs.all (fun x => x.length == x0.length) = true then ξ (.ok (pq xs x0.length) te1) else ζ
    | _, _ => ζ) else ζ := rfl
theorem cP {α : Type} {l : List α} {i : Nat} {a d : α} (h : l[i]? = ξ a) : l.getD i d = a := by simp [List.getD, h]
theorem ye {ts : List Tab} {ks : T} {x y z : Row} (hk : KindsAt c ts ks) (hl : ts.length ≤ 1000) (hx : RowOK ts x) (hy : RowOK ts y) (hz : RowOK ts z) : mC c [ks, rowT x, rowT y, rowT z] = ξ (.ok (rowT (comb ts x y z)) []) := by
 have key : Dl (mC c [ks, rowT x, rowT y, rowT z]) fun r fs => r = rowT (comb ts x y z) ∧ fs = [] := by
  refine ib rfl ?_
  unfold o8
  refine aS (te1 := [ξ ks, ξ (rowT x), ξ (rowT y), ξ (rowT z), ξ (.nd true .lst []), ζ, ζ, ζ, ζ]) (by simp) ?_
  refine w7 (Bc ?_)
  have hsx : ∀ r, seqT (rowT r) = ξ (r.map fun v => T.int (v : Nat)) := fun r => rfl
  refine Dk (ts := pq [ts.map (kindT c), x.map fun v => T.int (v : Nat), y.map fun v => T.int (v : Nat), z.map fun v => T.int (v : Nat)] ts.length) (te1 := [ξ ks, ξ (rowT x), ξ (rowT y), ξ (rowT z), ξ (.nd true .lst []), ζ, ζ, ζ, ζ]) ?_ ?_
  ·simp [hk.cold, hk.seq, hsx, sX, hx.1, hy.1, hz.1]
  ·refine vfor (fun i te => te = [ξ ks, ξ (rowT x), ξ (rowT y), ξ (rowT z), ξ (.nd true .lst (((comb ts x y z).take i).map fun v => T.int (v : Nat))), ζ, ζ, ζ, ζ]) ?_ ?_ (by simp)
   ·rintro i t te ht rfl
    obtain ⟨hi, rfl⟩ := sH ht
    have eT := List.getElem?_eq_getElem hi
    obtain ⟨u, hu, hu'⟩ := hx.at_ eT
    obtain ⟨v, hv, hv'⟩ := hy.at_ eT
    obtain ⟨w, hw, hw'⟩ := hz.at_ eT
    have hcol : yg [ts.map (kindT c), x.map fun v => T.int (v : Nat), y.map fun v => T.int (v : Nat), z.map fun v => T.int (v : Nat)] i = [kindT c ts[i], .int u, .int v, .int w] := by
     simp only [yg, List.map_cons, List.map_nil, cP (nB hu), cP (nB hv), cP (nB hw)]
     rw [cP (show (ts.map (kindT c))[i]? = ξ (kindT c ts[i]) by rw [List.getElem?_map, eT]; rfl)]
    rw [hcol]
    have htake : (comb ts x y z).take (i + 1) = (comb ts x y z).take i ++ [(ts[i]).2 u v w] := by
     rw [List.take_add_one, lB eT hu hv hw]
     rfl
    have hsz : (((comb ts x y z).take i).map fun v => T.int (v : Nat)).length < sizeLine := szl (by simp; omega)
    have hap := De (c := c) hu' hv' hw'
    refine ⟨_, rfl, .next, [ξ ks, ξ (rowT x), ξ (rowT y), ξ (rowT z), ξ (.nd true .lst (((comb ts x y z).take (i + 1)).map fun v => T.int (v : Nat))), ζ, ζ, ζ, ζ], ?_, rfl⟩
    have hk0 : kindT c ts[i] = .nd false (.ins (c.cl "Kind") ["entries"]) [nX ts[i]] := rfl
    have hct : (["entries"] : List Str).contains "apply" = false := by decide
    simp only [xf, lP, pT, ra, cY, uf, List.set_cons_zero, List.set_cons_succ, List.getElem?_cons_zero, List.getElem?_cons_succ, qS, ki, lN, lO, pS, hk0, hct, and_self, if_true, ri, iZ, jV, oM, wJ, Bool.or_self, Bool.false_eq_true, if_false, wK, si, List.length_nil, lW, mS, if_pos hsz, uO, xa, htake, List.map_append, List.map_cons, List.map_nil]
    rw [← hk0, hap]
    have hsz2 : min i (List.length (comb ts x y z)) < sizeLine := szl (by omega)
    simp [hsz2]
   ·rintro te rfl
    rw [nM, List.take_of_length_le (by rw [fC]; exact Nat.le_refl _)]
    have hh : hots ((comb ts x y z).map fun v => T.int (v : Nat)) = false := aU fun _ _ => rfl
    exact jc (t := rowT (comb ts x y z)) (te1 := [ζ, ζ, ζ, ζ, ξ (.nd true .lst ((comb ts x y z).map fun v => T.int (v : Nat))), ζ, ζ, ζ, ζ]) (by simp [hh, rowT]) ⟨[], rfl, rfl, rfl⟩
 obtain ⟨r, fs, e, rfl, rfl⟩ := key
 exact e
end
structure Elt (x : T) : Prop where
 cold : hot x = false
 ty : ∃ a, tyN x = ξ a
theorem Vl.elt {d n : Nat} {x : T} (h : Vl d n x) : Elt x := ⟨h.cold, h.ty⟩
theorem Km {d : Nat} {x : T} {D : PyData} (h : dT d x = ξ D) : ∃ a, tyN x = ξ a := by
 cases d with
 | zero => cases h
 | succ d =>
  cases x <;> first | exact ⟨_, rfl⟩ | (cases h; done) | skip
  rename_i o k xs
  cases k <;> first | exact ⟨_, rfl⟩ | (cases h; done)
theorem qR {α β : Type} {f : α → Option β} : ∀ {xs : List α} {ds : List β}, dR f xs = ξ ds → ∀ x ∈ xs, ∃ d, f x = ξ d
 | [], _, _, x, hx => by cases hx
 | y :: ys, _, h, x, hx => by
  unfold dR at h
  cases h1 : f y with
  | none => rw [h1] at h; cases h
  | some a =>
   cases h2 : dR f ys with
   | none => rw [h1, h2] at h; cases h
   | some b =>
    rcases List.mem_cons.mp hx with rfl | hx
    ·exact ⟨a, h1⟩
    ·exact qR h2 x hx
theorem Elt.is {c : Cn} (ok : CnOk c) {x : T} (h : Elt x) (n : String) (hn : n = "int" ∨ n = "bool" ∨ n = "str" ∨ n = "tuple" ∨ n = "list") : ∃ a, tyN x = ξ a ∧ c.isi x (.ty n) = ξ (isaB a n) := by
 obtain ⟨a, ha⟩ := h.ty
 exact ⟨a, ha, ok.base x a n ha hn⟩
def isTup : T → Bool
 | .tup _ => true
 | _ => false
def isLst : T → Bool
 | .nd _ .lst _ => true
 | _ => false
theorem Elt.isTup {c : Cn} (ok : CnOk c) {x : T} (h : Elt x) : c.isi x (.ty "tuple") = ξ (QP.isTup x) := by
 obtain ⟨a, ha, e⟩ := h.is ok "tuple" (by simp)
 rw [e]
 congr 1
 cases x <;> simp only [tyN] at ha <;> first | (cases ha; rfl) | (cases ha; done) | skip
 rename_i o k ts
 cases k <;> simp only [tyN] at ha <;> first | (cases ha; done) | (cases ha; rfl)
theorem Elt.isLst {c : Cn} (ok : CnOk c) {x : T} (h : Elt x) : c.isi x (.ty "list") = ξ (QP.isLst x) := by
 obtain ⟨a, ha, e⟩ := h.is ok "list" (by simp)
 rw [e]
 congr 1
 cases x <;> simp only [tyN] at ha <;> first | (cases ha; rfl) | (cases ha; done) | skip
 rename_i o k ts
 cases k <;> simp only [tyN] at ha <;> first | (cases ha; done) | (cases ha; rfl)
def lQ (ts : List Tab) (i : Nat) : Nat := (ts.getD i (1, fun _ _ _ => 0)).1
def s9 (ts : List Tab) (xs : List T) : Bool := xs.length == ts.length && (List.range ts.length).all fun i => g0 (xs.getD i .non) (lQ ts i)
def isRowB (ts : List Tab) (x : T) : Bool := match x with
 | .tup xs => s9 ts xs
 | _ => false
theorem HS {ts : List Tab} {x : T} (h : isRowB ts x = true) : ∃ r, x = rowT r ∧ RowOK ts r := by
 cases x <;> first | (cases h; done) | skip
 rename_i xs
 simp only [isRowB, s9, Bool.and_eq_true, beq_iff_eq, List.all_eq_true, List.mem_range] at h
 obtain ⟨hl, hb⟩ := h
 have key : ∀ i, i < ts.length → ∃ v : Nat, xs[i]? = ξ (.int v) ∧ v < lQ ts i := by
  intro i hi
  have hx : i < xs.length := by omega
  have := hb i hi
  rw [cP (List.getElem?_eq_getElem hx)] at this
  cases hxi : xs[i] <;> rw [hxi] at this <;> first | (cases this; done) | skip
  rename_i j
  simp only [g0, decide_eq_true_eq] at this
  exact ⟨j.toNat, by rw [List.getElem?_eq_getElem hx, hxi]; congr 2; omega, by omega⟩
 refine ⟨(List.range ts.length).map fun (i : Nat) => (match xs[i]? with
  | some (T.int j) => j.toNat
  | _ => 0), ?_, by simp, fun i t v e hv => ?_⟩
 ·unfold rowT
  congr 1
  apply List.ext_getElem?
  intro i
  rw [List.getElem?_map]
  by_cases hi : i < ts.length
  ·obtain ⟨v, e, _⟩ := key i hi
   rw [bQ hi, e]
   simp
  ·rw [List.getElem?_eq_none (by omega), List.getElem?_eq_none (by simpa using hi)]
   rfl
 ·have hi := (List.getElem?_eq_some_iff.mp e).1
  obtain ⟨u, eu, hu⟩ := key i hi
  rw [bQ hi, eu] at hv
  have hs : lQ ts i = t.1 := by
   unfold lQ
   rw [cP e]
  simp at hv
  omega
theorem qc {ts : List Tab} {r : Row} (h : RowOK ts r) : isRowB ts (rowT r) = true := by
 simp only [isRowB, rowT, s9, Bool.and_eq_true, beq_iff_eq, List.length_map, List.all_eq_true, List.mem_range]
 refine ⟨h.1, fun i hi => ?_⟩
 have e := List.getElem?_eq_getElem hi
 obtain ⟨v, hv, hv'⟩ := h.at_ e
 rw [cP (nB hv)]
 have hs : lQ ts i = (ts[i]).1 := by
  unfold lQ
  rw [cP e]
 simp [g0, hs, hv']
theorem rM {f : Nat → Bool} {xs : List T} {n : Nat} (h : xs.length = n) : (xs.mapIdx fun i _ => f i).all id = (List.range n).all f := by
 rw [Bool.eq_iff_iff, List.all_eq_true, List.all_eq_true]
 constructor
 ·intro hh i hi
  have hi' : i < xs.length := by rw [h]; exact List.mem_range.mp hi
  exact hh (f i) (List.mem_iff_getElem?.mpr ⟨i, by rw [List.getElem?_mapIdx, List.getElem?_eq_getElem hi']; rfl⟩)
 ·intro hh b hb
  obtain ⟨i, hi⟩ := List.mem_iff_getElem?.mp hb
  rw [List.getElem?_mapIdx] at hi
  cases hx : xs[i]? with
  | none => rw [hx] at hi; cases hi
  | some t =>
   rw [hx] at hi
   cases hi
   exact hh i (List.mem_range.mpr (by rw [← h]; exact (List.getElem?_eq_some_iff.mp hx).1))
section
variable {c: Cn}
theorem vG {bs : List Bool} : hots (bs.map T.bl) = false := aU fun _ _ => rfl
theorem ug (ok : CnOk c) {ts : List Tab} {ks x : T} (hk : KindsAt c ts ks) (hl : ts.length ≤ 1000) (hx : Elt x) (hxs : ∀ xs, x = .tup xs → ∀ y ∈ xs, Elt y) : fD c [ks, x] = ξ (.ok (.bl (isRowB ts x)) []) := by
 have hT := hx.isTup ok
 cases ht : QP.isTup x with
 | false =>
  rw [ht] at hT
  have hb : isRowB ts x = false := by cases x <;> first | rfl | (simp [QP.isTup] at ht)
  rw [hb]
  simp [fD, cA, j0, hT, fM]
 | true =>
  rw [ht] at hT
  cases x <;> first | (simp [QP.isTup] at ht; done) | skip
  rename_i xs
  by_cases hlen : xs.length = ts.length
  ·have hcold : hots xs = false := by simpa using hx.cold
   have hlc := Fz (vi := Bs 2 (aa (az (ai 1)) (aa (az (ai 0)) aq))) (g := jE 2 (bw (gName 2) (bw (gName 3) gF))) (elt := bR (f6 c) [] (aa (az (ai 2)) (aa (vW (c.cl "Kind") (gx c) (ai 3)) aq))) (zs := [2, 3]) (te := [ξ ks, ξ (.tup xs), ζ, ζ]) (ts := pq [xs, ts.map (kindT c)] xs.length) (fun i _ => .bl (g0 (xs.getD i .non) (lQ ts i))) (by simp [hk.cold, hk.seq, hcold, sX, hlen]) (by rw [nM]; omega) (by simp) (by simp) (by simp) (fun i t hi0 => by
    obtain ⟨hi, rfl⟩ := sH hi0
    have eX := List.getElem?_eq_getElem hi
    have hit : i < ts.length := by omega
    have eT := List.getElem?_eq_getElem hit
    have hcol : yg [xs, ts.map (kindT c)] i = [xs[i], kindT c ts[i]] := by
     simp only [yg, List.map_cons, List.map_nil, cP eX]
     rw [cP (show (ts.map (kindT c))[i]? = ξ (kindT c ts[i]) by rw [List.getElem?_map, eT]; rfl)]
    rw [hcol, cP eX]
    have hs : lQ ts i = (ts[i]).1 := by
     unfold lQ
     rw [cP eT]
    rw [hs]
    obtain ⟨a, ha⟩ := (hxs xs rfl _ (List.getElem_mem hi)).ty
    have hcx := (hxs xs rfl _ (List.getElem_mem hi)).cold
    have hb := vC ok (n := (ts[i]).1) ha hcx
    have hsz : vW (c.cl "Kind") (gx c) (ai 3) [ξ ks, ξ (.tup xs), ξ xs[i], ξ (kindT c ts[i])] = ξ (.ok (.int (ts[i]).1) [ξ ks, ξ (.tup xs), ξ xs[i], ξ (kindT c ts[i])]) := by
     have h0 : kindT c ts[i] = .nd false (.ins (c.cl "Kind") ["entries"]) [nX ts[i]] := rfl
     have hv := Ew (c := c) (t := ts[i])
     rw [h0] at hv
     simp [vW, h0, hv]
    exact ⟨_, [ξ ks, ξ (.tup xs), ξ xs[i], ξ (kindT c ts[i])], rfl, by simp [hcx, hsz, hb], by simp⟩)
   rw [xO (f := fun i _ => g0 (xs.getD i .non) (lQ ts i))] at hlc
   have hqa : EW [.nd false .lst (((pq [xs, ts.map (kindT c)] xs.length).mapIdx fun i _ => g0 (xs.getD i .non) (lQ ts i)).map T.bl)] = ξ (.pur (.bl (s9 ts xs))) := by
    rw [u6, rM (f := fun i => g0 (xs.getD i .non) (lQ ts i)) (n := ts.length) (by rw [nM]; exact hlen)]
    simp [s9, hlen]
   generalize ((pq [xs, ts.map (kindT c)] xs.length).mapIdx fun i _ => g0 (xs.getD i .non) (lQ ts i)) = bs at hlc hqa
   simp [fD, cA, j0, hT, hk.len, hlen, fM, -nu, hlc, frzs_of vG, hqa, isRowB]
  ·have hb : isRowB ts (.tup xs) = false := by simp [isRowB, s9, hlen]
   have hl' : ¬ (xs.length : Int) = ts.length := by omega
   rw [hb]
   simp [fD, cA, j0, hT, hk.len, hl', fM]
end
structure Dat (x : T) : Prop where
 cold : hot x = false
 dat : ∃ D, dT 60 x = ξ D
theorem Dat.elt {x : T} (h : Dat x) : Elt x := ⟨h.cold, Km h.dat.choose_spec⟩
theorem Dat.tup {xs : List T} (h : Dat (.tup xs)) : ∀ x ∈ xs, Dat x := by
 obtain ⟨hc, D, h1⟩ := h
 rw [fv, hots_iff] at hc
 simp only [dT] at h1
 cases h2 : dR (dT 59) xs with
 | none => rw [h2] at h1; cases h1
 | some ds =>
  intro x hx
  obtain ⟨D', e⟩ := qR h2 x hx
  exact ⟨hc x hx, D', lA e (by decide)⟩
theorem Dat.kids {x : T} (h : Dat x) : ∀ xs, x = .tup xs → ∀ y ∈ xs, Elt y := fun xs e y hy => by subst e; exact (h.tup y hy).elt
section
theorem mq {k : List Row} : hots (k.map rowT) = false := aU fun _ _ => cL
theorem Dat.row {r : Row} : Dat (rowT r) := by
 refine ⟨cL, .tuple (r.map fun v => .int (v : Nat)), ?_⟩
 have : ∀ r : Row, dR (dT 59) (r.map fun v => T.int (v : Nat)) = ξ (r.map fun v => .int (v : Nat)) := by
  intro r
  induction r with
  | nil => rfl
  | cons a r ih =>
   simp only [List.map_cons, dR, ih, dT]
 simp only [rowT, dT, this]
def ShortL (x : T) : Prop := ∀ o xs, x = .nd o .lst xs → xs.length ≤ 1000
end
theorem Eu : ∀ n : Fin 50, (PyData.showable (.int ((n : Int) - 5)) && (Nat.ble (PyData.shown (.int ((n : Int) - 5))).length 10 && PyData.strOk (PyData.shown (.int ((n : Int) - 5))))) = true := by decide +kernel
theorem Vl.int {i : Int} (h : -5 ≤ i) (h' : i < 45) : Vl 1 10 (.int i) := by
 have := Eu ⟨(i + 5).toNat, by omega⟩
 have e : (((⟨(i + 5).toNat, by omega⟩ : Fin 50) : Nat) : Int) - 5 = i := by show ((i + 5).toNat : Int) - 5 = i; omega
 rw [e, Bool.and_eq_true, Bool.and_eq_true] at this
 exact ⟨rfl, .int i, rfl, this.1, Nat.le_of_ble_eq_true this.2.1, rfl, by simp [PyData.depth], this.2.2⟩
abbrev El (x : T) : Prop := Vl 4 1000 x
structure GV (x : T) : Prop where
 vl : Vl 5 100000 x
 short : ShortL x
theorem El.int {i : Int} (h : -5 ≤ i) (h' : i < 45) : El (.int i) := (Vl.int h h').mono (by decide) (by decide)
theorem yY {xs : List T} : ShortL (.tup xs) := fun _ _ e => by cases e
theorem GV.tup {xs : List T} (h : ∀ x ∈ xs, El x) (hl : xs.length ≤ 50) : GV (.tup xs) := ⟨(Vl.tup h hl).mono (by decide) (by decide), yY⟩
theorem Vl.row {ts : List Tab} {r : Row} (good : ∀ t ∈ ts, GoodT t) (hr : RowOK ts r) (hl : ts.length ≤ 20) : El (rowT r) := by
 refine (Vl.tup (d := 1) (n := 10) (k := 20) (xs := r.map fun v => T.int (v : Nat)) (fun x hx => ?_) (by rw [List.length_map, hr.1]; exact hl)).mono (by decide) (by decide)
 obtain ⟨v, hv, rfl⟩ := List.mem_map.mp hx
 obtain ⟨i, hi⟩ := List.mem_iff_getElem?.mp hv
 have hit : i < ts.length := by
  have := (List.getElem?_eq_some_iff.mp hi).1
  rw [hr.1] at this
  exact this
 have := hr.2 i _ v (List.getElem?_eq_getElem hit) hi
 have g := (good _ (List.getElem_mem hit)).le4
 exact Vl.int (by omega) (by omega)
def Case (x : T) : Prop := ∃ a b d, x = .tup [a, b, d] ∧ GV a ∧ GV b ∧ GV d
theorem Case.mk {a b d : T} (ha : GV a) (hb : GV b) (hd : GV d) : Case (.tup [a, b, d]) := ⟨a, b, d, rfl, ha, hb, hd⟩
theorem Case.cold {x : T} (h : Case x) : hot x = false := by
 obtain ⟨a, b, d, rfl, ha, hb, hd⟩ := h
 simp [ha.vl.cold, hb.vl.cold, hd.vl.cold]
@[simp] theorem IE {a : VV} {lo hi : VO} {te : TE} : vSlV a lo hi te = match a te, lo te, hi te with
  | some t, ξ l, ξ h => dX (Hx t l h) te
  | _, _, _ => ζ := rfl
@[simp] theorem Hh {a : VV} {te : TE} : II a te = match a te with
  | some t => dX (K3 t) te
  | none => ζ := rfl
@[simp] theorem KY {o : Bool} {xs : List T} {lo hi : Option Int} : Hx (.nd o .lst xs) lo hi = ξ (.new .lst (A0 xs lo hi)) := rfl
@[simp] theorem KW {xs : List T} {lo hi : Option Int} : Hx (.tup xs) lo hi = ξ (.pur (.tup (A0 xs lo hi))) := rfl
@[simp] theorem K1 {o : Bool} {xs : List T} : K3 (.nd o .lst xs) = ξ (.new .lst xs.reverse) := rfl
section
structure Alt (rs ss ws : List T) : Prop where
 r : ∀ x ∈ rs, El x ∧ ShortL x
 s : ∀ x ∈ ss, El x
 w : ∀ x ∈ ws, ∃ v : Nat, x = .int v ∧ v ≤ 40
 r0 : 0 < rs.length
 rl : rs.length ≤ 20
 sl : ss.length ≤ 20
 wl : ws.length ≤ 20
variable {rs ss ws: List T}
theorem cD {α : Type} {p : α → Prop} {x : α} (h : p x) : ∀ y ∈ [x], p y := fun y hy => by
 rcases List.mem_singleton.mp hy with rfl
 exact h
theorem aP {α : Type} {p : α → Prop} {x : α} {ys : List α} (h : p x) (h' : ∀ x ∈ ys, p x) : ∀ y ∈ x :: ys, p y := fun y hy => by
 rcases List.mem_cons.mp hy with rfl | hy
 ·exact h
 ·exact h' y hy
theorem Ce {α : Type} {p : α → Prop} : ∀ y ∈ ([] : List α), p y := fun y hy => by cases hy
namespace Alt
variable (A: Alt rs ss ws)
include A
theorem rE : ∀ x ∈ rs, El x := fun x hx => (A.r x hx).1
theorem wE : ∀ x ∈ ws, El x := fun x hx => by
 obtain ⟨v, rfl, h⟩ := A.w x hx
 exact El.int (by omega) (by omega)
theorem hr : hots rs = false := Vl.hots A.rE
theorem hs : hots ss = false := Vl.hots A.s
theorem hw : hots ws = false := Vl.hots A.wE
end Alt
theorem El.tup {xs : List T} (h : ∀ x ∈ xs, Vl 3 100 x) (hl : xs.length ≤ 5) : El (.tup xs) := (Vl.tup h hl).mono (by decide) (by decide)
theorem El.lst {xs : List T} (h : ∀ x ∈ xs, Vl 3 100 x) (hl : xs.length ≤ 5) : El (.nd false .lst xs) := (Vl.lst h hl).mono (by decide) (by decide)
theorem i3 {i : Int} (h : -5 ≤ i) (h' : i < 45) : Vl 3 100 (.int i) := (Vl.int h h').mono (by decide) (by decide)
end
end QP
end
section
namespace QP
open PySem hiding Env
open L2 hiding TE gName
open SB BV KV
open Builtin Builtin.Str
theorem wX (c : Char) : c.toNat < 0x110000 := by
 have h := c.valid
 rcases h with h | h
 ·exact Nat.lt_trans h (by decide)
 ·exact h.2
theorem nY {x : Str} (h : ∀ c ∈ x.cps.toList, c < 0x110000) : PyData.strOk x = true := by
 unfold PyData.strOk
 rw [Array.all_eq_true_iff_forall_mem]
 intro c hc
 exact decide_eq_true (h c (by simpa using hc))
theorem tN {x : Str} (h : PyData.strOk x = true) : ∀ c ∈ x.cps.toList, c < 0x110000 := by
 unfold PyData.strOk at h
 rw [Array.all_eq_true_iff_forall_mem] at h
 intro c hc
 exact of_decide_eq_true (h c (by simpa using hc))
theorem td (q c : Nat) (hq : q < 128) (hc : c < 0x110000) : ∀ d ∈ reprChar q c, d < 0x110000 := by
 have hd : ∀ d ∈ (Nat.toDigits 16 c).map Char.toNat, d < 0x110000 := fun d hd => by
  obtain ⟨k, _, rfl⟩ := List.mem_map.mp hd
  exact wX k
 have hh : ∀ w, ∀ d ∈ List.replicate (w - ((Nat.toDigits 16 c).map Char.toNat).length) 48 ++ (Nat.toDigits 16 c).map Char.toNat, d < 0x110000 := fun w d h => by
  rcases List.mem_append.mp h with h | h
  ·rw [(List.mem_replicate.mp h).2]; decide
  ·exact hd d h
 intro d
 unfold reprChar
 dsimp only
 repeat' split
 all_goals (intro h; simp only [List.mem_append, List.mem_cons, List.not_mem_nil, or_false] at h)
 all_goals (rcases h with h | h)
 all_goals first | omega | skip
 all_goals first | (rcases h with rfl | rfl <;> decide) | exact hh _ d (by simp only [List.mem_append]; exact h)
theorem ux (q : Nat) (hq : q < 128) : ∀ (l : List Nat) (acc : Array Nat), (∀ c ∈ l, c < 0x110000) → (∀ c ∈ acc.toList, c < 0x110000) → ∀ c ∈ (l.foldl (fun out c => out ++ (reprChar q c).toArray) acc).toList, c < 0x110000
 | [], acc, _, ha => ha
 | c :: r, acc, h, ha => by
  refine ux q hq r (acc ++ (reprChar q c).toArray) (fun d hd => h d (List.mem_cons_of_mem _ hd)) fun d hd => ?_
  rw [Array.toList_append] at hd
  rcases List.mem_append.mp hd with hd | hd
  ·exact ha d hd
  ·exact td q c hq (h c (List.mem_cons_self ..)) d hd
theorem og (x : Str) : reprQuote x < 128 := by
 unfold reprQuote
 split <;> decide
theorem uQ {x : Str} (h : PyData.strOk x = true) : PyData.strOk (reprText x) = true := by
 refine nY fun c hc => ?_
 unfold reprText at hc
 simp only [Array.toList_push, ← Array.foldl_toList] at hc
 rcases List.mem_append.mp hc with hc | hc
 ·exact ux (reprQuote x) (og x) x.cps.toList #[reprQuote x] (tN h) (fun c hc => by
   have : c = reprQuote x := by simpa using hc
   rw [this]
   exact Nat.lt_trans (og x) (by decide)) c hc
 ·have : c = reprQuote x := by simpa using hc
  rw [this]
  exact Nat.lt_trans (og x) (by decide)
theorem fu (s : String) : PyData.strOk (Str.ofString s) = true := by
 refine nY fun c hc => ?_
 rw [Str.ofString_eq_toList] at hc
 simp at hc
 obtain ⟨k, _, rfl⟩ := hc
 exact wX k
theorem Vl.str {x : Str} {n : Nat} (h : PyData.strOk x = true) (hl : x.length ≤ n) : Vl 1 (10 * n + 2) (.str x) := by
 refine ⟨rfl, .str x, by (simp only [dT]; rw [if_pos h]), rfl, ?_, h, by simp [PyData.depth], ?_⟩
 ·show (reprText x).length ≤ _
  have := StrLaws.reprText_len x fun c hc => Nat.lt_trans (tN h c hc) (by decide)
  omega
 ·exact uQ h
theorem Vl.big {i : Int} {k : Nat} (hk : 0 < k) (hk2 : k ≤ 480) (h : i.natAbs < 10 ^ k) : Vl 1 (k + 1) (.int i) := by
 refine ⟨rfl, .int i, rfl, ?_, ?_, rfl, by simp [PyData.depth], fu _⟩
 ·show decide (i.natAbs.log2 < 1920) = true
  apply decide_eq_true
  by_cases h0 : i.natAbs = 0
  ·rw [h0]; decide
  ·rw [Nat.log2_lt h0]
   refine Nat.lt_of_lt_of_le h ?_
   refine Nat.le_trans (Nat.pow_le_pow_left (show 10 ≤ 2 ^ 4 by decide) k) ?_
   rw [← Nat.pow_mul]
   exact Nat.pow_le_pow_right (by decide) (by omega)
 ·show (Str.ofString (toString i)).length ≤ _
  rw [ofString_length]
  exact int_text_length_le10 hk h
end QP
end
section
set_option exponentiation.threshold 2000
namespace QP
open PySem hiding Env
open L2 hiding TE gName
open SB BV KV
section
variable {c: Cn}
theorem p25 : pC (.int 10) (.int 25) = ξ (.pur (.int 10000000000000000000000000)) := by
 rw [kR, if_pos (by rw [La]; rfl)]
 rfl
def odds : List T := [.non, .bl true, .bl false, .int (-1), .int 4, .int 10000000000000000000000000, .str "", .str "0", .str "ab", .nd false .lst [], .nd false .lst [.int 0], .nd false .lst [.int 0, .int 0], .tup [.non], .tup [.bl true], .tup [.int (-1)], .tup [.int 4], .tup [.str "0"],
 .tup [.tup [.int 0]], .tup [.nd false .lst [.int 0]], .tup [.int 0, .bl true], .tup [.bl false, .int 0], .tup [.int 0, .non], .tup [.nd false .lst [], .int 0], .tup [.int 0, .int (-1)], .tup [.int 10000000000000000000000000, .int 0], .nd false .lst [.tup [.int 0, .int 0]]]
theorem k6 : ∀ x ∈ odds, Vl 4 1000 x := by
 have a0 : ∀ {i : Int}, -5 ≤ i → i < 45 → Vl 3 100 (.int i) := i3
 have n3 : Vl 3 100 .non := Vl.non.mono (by decide) (by decide)
 have b3 : ∀ {b}, Vl 3 100 (.bl b) := Vl.bl.mono (by decide) (by decide)
 have s0 : Vl 3 100 (.str "") := (Vl.str (n := 2) (fu _) (by decide +kernel)).mono (by decide) (by decide)
 have s1 : Vl 3 100 (.str "0") := (Vl.str (n := 2) (fu _) (by decide +kernel)).mono (by decide) (by decide)
 have s2 : Vl 3 100 (.str "ab") := (Vl.str (n := 2) (fu _) (by decide +kernel)).mono (by decide) (by decide)
 have g : Vl 3 100 (.int 10000000000000000000000000) := (Vl.big (k := 26) (by decide) (by decide) (by decide)).mono (by decide) (by decide)
 have h0 : Vl 3 100 (.int 0) := i3 (by decide) (by decide)
 have m1 : Vl 3 100 (.int (-1)) := i3 (by decide) (by decide)
 have p4 : Vl 3 100 (.int 4) := i3 (by decide) (by decide)
 have up : ∀ {x}, Vl 3 100 x → Vl 4 1000 x := fun h => h.mono (by decide) (by decide)
 have k0 : Vl 1 10 (.int 0) := Vl.int (by decide) (by decide)
 have t0 : Vl 3 100 (.tup [.int 0]) := (Vl.tup (k := 1) (cD k0) (by decide)).mono (by decide) (by decide)
 have l0 : Vl 3 100 (.nd false .lst [.int 0]) := (Vl.lst (k := 1) (cD k0) (by decide)).mono (by decide) (by decide)
 have e0 : Vl 3 100 (.nd false .lst []) := (Vl.lst (d := 1) (n := 1) (k := 0) Ce (by decide)).mono (by decide) (by decide)
 have t2 : Vl 3 100 (.tup [.int 0, .int 0]) := (Vl.tup (k := 2) (aP k0 (cD k0)) (by decide)).mono (by decide) (by decide)
 refine aP (up n3) (aP (up b3) (aP (up b3) (aP (up m1) (aP (up p4) (aP (up g) (aP (up s0) (aP (up s1) (aP (up s2) ?_))))))))
 refine aP (up e0) (aP (up l0) (aP (El.lst (aP h0 (cD h0)) (by decide)) (aP (El.tup (cD n3) (by decide)) (aP (El.tup (cD b3) (by decide)) (aP (El.tup (cD m1) (by decide)) (aP (El.tup (cD p4) (by decide)) (aP (El.tup (cD s1) (by decide)) ?_)))))))
 refine aP (El.tup (cD t0) (by decide)) (aP (El.tup (cD l0) (by decide)) (aP (El.tup (aP h0 (cD b3)) (by decide)) (aP (El.tup (aP b3 (cD h0)) (by decide)) (aP (El.tup (aP h0 (cD n3)) (by decide)) ?_))))
 exact aP (El.tup (aP e0 (cD h0)) (by decide)) (aP (El.tup (aP h0 (cD m1)) (by decide)) (aP (El.tup (aP g (cD h0)) (by decide)) (cD (El.lst (cD t2) (by decide)))))
theorem Fj {n : Nat} {s : T} (hs : Src (n + 1) s) : ∃ (x : T) (s' : T), f7 c [s] = ξ (.ok x [s']) ∧ x ∈ odds ∧ Src n s' := by
 obtain ⟨v, s', e, hv, hs'⟩ := Gq (c := c) (k := 26) hs (by decide) (by decide)
 have e' : e8 c [s, .int 26] = ξ (.ok (.int (v : Nat)) [s']) := e
 have hg := List.getElem?_eq_getElem (l := odds) (i := v) hv
 have hix : eP (.nd false .lst odds) (.int v) = ξ (.pur (odds[v]'hv)) := gb rfl hg
 have hm := List.getElem_mem (l := odds) hv
 have z1 : (1 : Nat) ≤ sizeLine := cI (by decide)
 have z2 : (2 : Nat) ≤ sizeLine := cI (by decide)
 have z9 : (9 : Nat) ≤ sizeLine := cI (by decide)
 have z17 : (17 : Nat) ≤ sizeLine := cI (by decide)
 have z26 : (26 : Nat) ≤ sizeLine := cI (by decide)
 have hco : hots odds = false := Vl.hots k6
 refine ⟨odds[v]'hv, s', ?_, hm, hs'⟩
 have key : Dl (f7 c [s]) fun r fs => fs = [s'] ∧ r = odds[v]'hv := by
  refine ib rfl ?_
  unfold jI
  refine aS (te1 := [ξ s, ξ (.nd false .lst (odds.take 17))]) (by simp [-kR, p25, z1, z2, z17, odds]) ?_
  refine aS (te1 := [ξ s, ξ (.nd false .lst odds)]) (by simp [-kR, p25, z1, z2, z9, z26, odds]) ?_
  generalize odds[v]'hv = x at hix
  have hol : odds.length = 26 := rfl
  generalize odds = os at hix hco hol
  exact jc (t := x) (te1 := [ξ s', ξ (.nd false .lst os)]) (by simp [hco, hol, e', hix]) ⟨[s'], rfl, rfl, rfl⟩
 obtain ⟨r, fs, e2, rfl, rfl⟩ := key
 exact e2
end
end QP
end
section
namespace QP
open PySem hiding Env
open L2 hiding TE gName
open SB BV KV
section
end
section
variable {te: BV.TE}
@[simp] theorem Eo {C : Addr} {fs : List Str} {vas : VA} : rh C fs vas te = ph (vas te) fun ts te1 => if ts.length = fs.length ∧ ts.length ≤ 1000 then ξ (.exc C (ξ (.nd true (.xd fs.reverse) ts.reverse)) te1) else ζ := rfl
theorem aT {zs : List Nat} {b : cq} {te te1 : BV.TE} (h : b te = ξ (.fl .next te1)) : aE zs b te = ξ (.fl .next (aR te1 zs)) := by
 unfold aE
 rw [h]
theorem gO {zs : List Nat} {b : cq} {te te1 : BV.TE} {t : T} (h : b te = ξ (.fl (.ret t) te1)) : aE zs b te = ξ (.fl (.ret t) te1) := by
 unfold aE
 rw [h]
theorem yy {zs : List Nat} {b : cq} {te te1 : BV.TE} {C : Addr} {d : Option T} (h : b te = ξ (.exc C d te1)) : aE zs b te = ξ (.exc C d te1) := by
 unfold aE
 rw [h]
theorem y3 {a b : cq} {te te1 : BV.TE} (h : a te = ξ (.fl .next te1)) : aX a b te = b te1 := by
 unfold aX
 rw [h]
theorem kP {a b : cq} {te te1 : BV.TE} {t : T} (h : a te = ξ (.fl (.ret t) te1)) : aX a b te = ξ (.fl (.ret t) te1) := by
 unfold aX
 rw [h]
theorem BD {a b : cq} {te te1 : BV.TE} {C : Addr} {d : Option T} (h : a te = ξ (.exc C d te1)) : aX a b te = ξ (.exc C d te1) := by
 unfold aX
 rw [h]
theorem gW {vi : VI} {g : VG} {body : cq} {ts : List T} {te te1 : BV.TE} (h : vi te = ξ (.ok ts te1)) : g8 vi g body te = cM g body ts te1 := by
 unfold g8
 rw [h]
 rfl
def s8 (rs : List Row) : T := .nd false .lst (rs.map rowT)
@[simp] theorem HV {rs : List Row} : hot (s8 rs) = false := by simp [s8, mq]
end
def keyR (r : Row) : List Key := r.map fun v : Nat => (Sum.inl ((v : Nat) : Int) : Key)
def wd (o : Bool) (rs : List Row) : T := .nd o (.dtp (rs.map keyR)) (rs.map fun _ => T.bl true)
def EZ (rs : List Row) (r : Row) : List Row := if r ∈ rs then rs else rs ++ [r]
theorem zp {r q : Row} {rs : List Row} : q ∈ EZ rs r ↔ q ∈ rs ∨ q = r := by
 unfold EZ
 split
 ·rename_i h
  exact ⟨.inl, fun z => z.elim id fun e => e ▸ h⟩
 ·simp
section
end
def g (r : Row) (i : Nat) : Nat := r.getD i 0
theorem jk {r : Row} {i : Nat} (h : i < r.length) : r[i]? = ξ (g r i) := by
 unfold g
 rw [List.getD_eq_getElem?_getD, List.getElem?_eq_getElem h]
 rfl
theorem kQ {x y : Row} (hl : x.length = y.length) (h : ∀ i, i < x.length → g x i = g y i) : x = y := by
 refine List.ext_getElem? fun i => ?_
 by_cases hi : i < x.length
 ·rw [jk hi, jk (by omega), h i hi]
 ·rw [List.getElem?_eq_none (by omega), List.getElem?_eq_none (by omega)]
def Ag (P : Nat → Prop) (x y : Row) : Prop := ∀ i, P i → g x i = g y i
theorem Ag.refl {P : Nat → Prop} {x : Row} : Ag P x x := fun _ _ => rfl
theorem Ag.symm {P : Nat → Prop} {x y : Row} (h : Ag P x y) : Ag P y x := fun i hi => (h i hi).symm
theorem Ag.trans {P : Nat → Prop} {x y z : Row} (h : Ag P x y) (k : Ag P y z) : Ag P x z := fun i hi => (h i hi).trans (k i hi)
theorem Ag.mono {P Q : Nat → Prop} {x y : Row} (h : Ag P x y) (k : ∀ i, Q i → P i) : Ag Q x y := fun i hi => h i (k i hi)
structure Cl (ts : List Tab) (S : Row → Prop) : Prop where
 good : ∀ t ∈ ts, GoodT t
 ok : ∀ r, S r → RowOK ts r
 clo : ∀ x y z, S x → S y → S z → S (comb ts x y z)
section
variable {ts: List Tab}{S: Row → Prop}{x y z r: Row}{i q: Nat}
theorem Cl.len (C : Cl ts S) (h : S r) : r.length = ts.length := (C.ok r h).1
theorem oO (hx : RowOK ts x) (hy : RowOK ts y) (hz : RowOK ts z) (hi : i < ts.length) : g (comb ts x y z) i = (ts[i]'hi).2 (g x i) (g y i) (g z i) := by
 have e := lB (List.getElem?_eq_getElem hi) (jk (r := x) (i := i) (by rw [hx.1]; exact hi)) (jk (r := y) (i := i) (by rw [hy.1]; exact hi)) (jk (r := z) (i := i) (by rw [hz.1]; exact hi))
 unfold g
 rw [List.getD_eq_getElem?_getD, e]
 rfl
theorem RowOK.lt (h : RowOK ts r) (hi : i < ts.length) : g r i < (ts[i]'hi).1 := h.2 i _ _ (List.getElem?_eq_getElem hi) (jk (by rw [h.1]; exact hi))
theorem A2 (C : Cl ts S) (hx : S x) (hy : S y) (hz : S z) (hi : i < ts.length) (h : g y i = g z i) : g (comb ts x y z) i = g x i := by
 have G := C.good _ (List.getElem_mem hi)
 rw [oO (C.ok x hx) (C.ok y hy) (C.ok z hz) hi, ← h]
 exact (G.line _ _ ((C.ok x hx).lt hi) ((C.ok y hy).lt hi) _ ((C.ok y hy).lt hi)).2.1 rfl
theorem A1 (C : Cl ts S) (hx : S x) (hy : S y) (hz : S z) (hi : i < ts.length) (h : g x i = g y i) : g (comb ts x y z) i = g z i := by
 have G := C.good _ (List.getElem_mem hi)
 rw [oO (C.ok x hx) (C.ok y hy) (C.ok z hz) hi, ← h]
 exact (G.line _ _ ((C.ok x hx).lt hi) ((C.ok x hx).lt hi) _ ((C.ok z hz).lt hi)).2.2 rfl
def Rel (S : Row → Prop) (P : Nat → Prop) (q a b : Nat) : Prop := ∃ x y, S x ∧ S y ∧ Ag P x y ∧ g x q = a ∧ g y q = b
variable {P: Nat → Prop}{a b d: Nat}
theorem Rel.ext (C : Cl ts S) (hP : ∀ i, P i → i < ts.length) (hq : q < ts.length) (h : Rel S P q a b) (hr : S r) (e : g r q = a) : ∃ r', S r' ∧ Ag P r r' ∧ g r' q = b := by
 obtain ⟨x, y, hx, hy, ag, rfl, rfl⟩ := h
 exact ⟨comb ts r x y, C.clo _ _ _ hr hx hy, fun i hi => (A2 C hr hx hy (hP i hi) (ag i hi)).symm, A1 C hr hx hy hq e⟩
theorem Rel.symm (h : Rel S P q a b) : Rel S P q b a := by
 obtain ⟨x, y, hx, hy, ag, e1, e2⟩ := h
 exact ⟨y, x, hy, hx, ag.symm, e2, e1⟩
theorem Rel.trans (C : Cl ts S) (hP : ∀ i, P i → i < ts.length) (hq : q < ts.length) (h : Rel S P q a b) (k : Rel S P q b d) : Rel S P q a d := by
 obtain ⟨x, y, hx, hy, ag, rfl, rfl⟩ := h
 obtain ⟨r', h1, h2, h3⟩ := k.ext C hP hq hy rfl
 exact ⟨x, r', hx, h1, ag.trans h2, rfl, h3⟩
end
abbrev Lot := List (Nat × Row)
abbrev Fk := List (List Lot)
def keys (l : Lot) : List Nat := l.map (·.1)
structure LotOK (S : Row → Prop) (p : Nat) (l : Lot) : Prop where
 mem : ∀ e ∈ l, S e.2 ∧ g e.2 p = e.1
 ag : ∀ e ∈ l, ∀ e' ∈ l, Ag (· < p) e.2 e'.2
 ne : l ≠ []
structure PlOK (S : Row → Prop) (p : Nat) (here : List Lot) : Prop where
 lot : ∀ l ∈ here, LotOK S p l
 nd : (here.flatMap keys).Nodup
 cov : ∀ r r', S r → S r' → Ag (· < p) r r' → ∃ l ∈ here, g r p ∈ keys l ∧ g r' p ∈ keys l
structure FkOf (ts : List Tab) (S : Row → Prop) (f : Fk) : Prop where
 cl : Cl ts S
 one : ∃ r, S r
 len : f.length = ts.length
 pl : ∀ p here, f[p]? = ξ here → PlOK S p here
def eB (here : List Lot) (v : Nat) : Lot := (here.find? fun l => (keys l).contains v).getD []
def bI (l : Lot) (v : Nat) : Row := (l.lookup v).getD []
def aO (f : Fk) (r : Row) (p : Nat) : Lot := eB (f.getD p []) (g r p)
def bF (ts : List Tab) (f : Fk) (r : Row) (p v : Nat) : Row := comb ts r (bI (aO f r p) (g r p)) (bI (aO f r p) v)
section
variable {ts: List Tab}{S: Row → Prop}{f: Fk}{r r': Row}{p v: Nat}{here: List Lot}{l l': Lot}
theorem jS {e : Nat × Row} (h : e ∈ l) : e.1 ∈ keys l := List.mem_map.mpr ⟨e, h, rfl⟩
theorem gN (h : v ∈ keys l) : (v, bI l v) ∈ l := by
 unfold bI
 induction l with
 | nil => simp [keys] at h
 | cons e l ih =>
  obtain ⟨k, x⟩ := e
  simp only [List.lookup]
  by_cases hk : v = k
  ·subst hk
   simp
  ·have hb : (v == k) = false := by simpa using hk
   rw [hb]
   simp only
   have h2 : v ∈ keys l := by
    simp only [keys, List.map_cons, List.mem_cons] at h
    rcases h with h | h
    ·exact absurd h hk
    ·exact h
   exact List.mem_cons_of_mem _ (ih h2)
theorem t6 (h : l ∈ here) (hv : v ∈ keys l) : eB here v ∈ here ∧ v ∈ keys (eB here v) := by
 unfold eB
 cases hf : here.find? fun l => (keys l).contains v with
 | none =>
  have := List.find?_eq_none.mp hf l h
  simp at this
  exact absurd hv this
 | some l2 =>
  have h1 := List.find?_some hf
  exact ⟨List.mem_of_find?_eq_some hf, by simpa using h1⟩
theorem PlOK.uniq (P : PlOK S p here) (h : l ∈ here) (h' : l' ∈ here) (hv : v ∈ keys l) (hv' : v ∈ keys l') : l = l' := by
 have nd := P.nd
 clear P
 induction here with
 | nil => cases h
 | cons x xs ih =>
  rw [List.flatMap_cons, List.nodup_append] at nd
  rcases List.mem_cons.mp h with rfl | h1
  ·rcases List.mem_cons.mp h' with rfl | h2
   ·rfl
   ·exact absurd rfl (nd.2.2 v hv v (List.mem_flatMap.mpr ⟨l', h2, hv'⟩))
  ·rcases List.mem_cons.mp h' with rfl | h2
   ·exact absurd rfl (nd.2.2 v hv' v (List.mem_flatMap.mpr ⟨l, h1, hv⟩))
   ·exact ih h1 h2 nd.2.1
theorem PlOK.at_ (P : PlOK S p here) (h : l ∈ here) (hv : v ∈ keys l) : eB here v = l := by
 obtain ⟨h1, h2⟩ := t6 h hv
 exact P.uniq h1 h h2 hv
theorem FkOf.hat (F : FkOf ts S f) (hp : p < ts.length) : f[p]? = ξ (f.getD p []) := by
 rw [List.getD_eq_getElem?_getD, List.getElem?_eq_getElem (by rw [F.len]; exact hp)]
 rfl
theorem FkOf.place (F : FkOf ts S f) (hp : p < ts.length) : PlOK S p (f.getD p []) := F.pl p _ (F.hat hp)
theorem FkOf.lot (F : FkOf ts S f) (hp : p < ts.length) (hr : S r) : aO f r p ∈ f.getD p [] ∧ g r p ∈ keys (aO f r p) := by
 obtain ⟨l, h1, h2, _⟩ := (F.place hp).cov r r hr hr Ag.refl
 exact t6 h1 h2
theorem tZ {q : Nat} (F : FkOf ts S f) (hp : p < ts.length) (hl : l ∈ f.getD p []) (hv : v ∈ keys l) : S (bI l v) ∧ g (bI l v) p = v := ((F.place hp).lot l hl).mem _ (gN hv)
theorem FkOf.moved (F : FkOf ts S f) (hp : p < ts.length) (hr : S r) (hv : v ∈ keys (aO f r p)) : S (bF ts f r p v) ∧ Ag (· < p) r (bF ts f r p v) ∧ g (bF ts f r p v) p = v := by
 obtain ⟨h1, h2⟩ := F.lot hp hr
 have L := (F.place hp).lot _ h1
 have m1 := gN h2
 have m2 := gN hv
 have a1 : S (bI (aO f r p) (g r p)) ∧ g (bI (aO f r p) (g r p)) p = g r p := L.mem _ m1
 have a2 : S (bI (aO f r p) v) ∧ g (bI (aO f r p) v) p = v := L.mem _ m2
 have ag : Ag (· < p) (bI (aO f r p) (g r p)) (bI (aO f r p) v) := L.ag _ m1 _ m2
 refine ⟨F.cl.clo _ _ _ hr a1.1 a2.1, fun i hi => (A2 F.cl hr a1.1 a2.1 (by omega) (ag i hi)).symm, ?_⟩
 exact (A1 F.cl hr a1.1 a2.1 hp a1.2.symm).trans a2.2
theorem FkOf.class (F : FkOf ts S f) (hp : p < ts.length) (hr : S r) : v ∈ keys (aO f r p) ↔ ∃ r', S r' ∧ Ag (· < p) r r' ∧ g r' p = v := by
 constructor
 ·intro hv
  obtain ⟨h1, h2, h3⟩ := F.moved hp hr hv
  exact ⟨_, h1, h2, h3⟩
 ·rintro ⟨r', h1, h2, rfl⟩
  obtain ⟨l, hl, k1, k2⟩ := (F.place hp).cov r r' hr h1 h2
  unfold aO
  rw [(F.place hp).at_ hl k1]
  exact k2
theorem FkOf.same (F : FkOf ts S f) (hp : p < ts.length) (hr : S r) (hr' : S r') (h : Ag (· < p) r r') : aO f r p = aO f r' p := by
 obtain ⟨l, hl, k1, k2⟩ := (F.place hp).cov r r' hr hr' h
 unfold aO
 rw [(F.place hp).at_ hl k1, (F.place hp).at_ hl k2]
end
abbrev Lk := Nat × Nat × Row × Row
abbrev Pth := List (Row × Row)
abbrev Pths := List (Nat × Pth)
def pkeys (ps : Pths) : List Nat := ps.map (·.1)
def jw (ps : Pths) (v : Nat) : Pth := (ps.lookup v).getD []
def Dir (ls : List Lk) (b e : Nat) (t u : Row) : Prop := (b, e, t, u) ∈ ls ∨ (e, b, u, t) ∈ ls
inductive Chain (ls : List Lk) (v : Nat) : Pth → Nat → Prop
 | nil : Chain ls v [] v
 | snoc {es : Pth} {k e : Nat} {t u : Row} : Chain ls v es k → Dir ls k e t u → Chain ls v (es ++ [(t, u)]) e
def Conn (ls : List Lk) (a b : Nat) : Prop := ∃ es, Chain ls a es b
theorem Dir.symm {ls : List Lk} {b e : Nat} {t u : Row} (h : Dir ls b e t u) : Dir ls e b u t := h.elim .inr .inl
theorem Conn.refl {ls : List Lk} {a : Nat} : Conn ls a a := ⟨[], .nil⟩
theorem Conn.step {ls : List Lk} {a b d : Nat} {t u : Row} (h : Conn ls a b) (k : Dir ls b d t u) : Conn ls a d := h.elim fun _ c => ⟨_, c.snoc k⟩
theorem Conn.trans {ls : List Lk} {a b d : Nat} (h : Conn ls a b) (k : Conn ls b d) : Conn ls a d := by
 obtain ⟨es, c⟩ := k
 induction c with
 | nil => exact h
 | snoc _ hd ih => exact ih.step hd
theorem Conn.symm {ls : List Lk} {a b : Nat} (h : Conn ls a b) : Conn ls b a := by
 obtain ⟨es, c⟩ := h
 induction c with
 | nil => exact .refl
 | snoc _ hd ih => exact Conn.trans (Conn.refl.step hd.symm) ih
theorem Conn.mono {ls ls' : List Lk} {a b : Nat} (hs : ∀ l ∈ ls, l ∈ ls') (h : Conn ls a b) : Conn ls' a b := by
 obtain ⟨es, c⟩ := h
 induction c with
 | nil => exact .refl
 | snoc _ hd ih => exact ih.step (hd.imp (hs _) (hs _))
abbrev Bst := Pths × List Nat
section
variable {N: Nat}
theorem oq {ps : Pths} {k : Nat} (h : k ∈ pkeys ps) : (k, jw ps k) ∈ ps := by
 unfold jw
 induction ps with
 | nil => simp [pkeys] at h
 | cons e ps ih =>
  obtain ⟨j, x⟩ := e
  simp only [List.lookup]
  by_cases hk : k = j
  ·subst hk
   simp
  ·have hb : (k == j) = false := by simpa using hk
   rw [hb]
   simp only
   have h2 : k ∈ pkeys ps := by
    simp only [pkeys, List.map_cons, List.mem_cons] at h
    rcases h with h | h
    ·exact absurd h hk
    ·exact h
   exact List.mem_cons_of_mem _ (ih h2)
theorem tU : ∀ {N : Nat} {l : List Nat}, l.Nodup → (∀ k ∈ l, k < N) → l.length ≤ N
 | 0, l, _, h => by
  cases l with
  | nil => simp
  | cons a l => exact absurd (h a (by simp)) (by omega)
 | N + 1, l, nd, h => by
  have h1 : (l.erase N).length ≤ N := tU (nd.erase N) fun k hk => by
   have := h k (List.mem_of_mem_erase hk)
   have : k ≠ N := fun z => by subst z; exact (List.Nodup.not_mem_erase nd) hk
   omega
  have h2 : l.length ≤ (l.erase N).length + 1 := by
   rw [List.length_erase]
   split <;> omega
  omega
end
structure LkOK (S : Row → Prop) (p : Nat) (l : Lk) : Prop where
 t : S l.2.2.1
 u : S l.2.2.2
 ag : Ag (· < p) l.2.2.1 l.2.2.2
 a : g l.2.2.1 p = l.1
 b : g l.2.2.2 p = l.2.1
 ne : l.1 ≠ l.2.1
section
variable {S: Row → Prop}{p: Nat}{ls: List Lk}
theorem Dir.ok (L : ∀ l ∈ ls, LkOK S p l) {b e : Nat} {t u : Row} (hd : Dir ls b e t u) : S t ∧ S u ∧ Ag (· < p) t u ∧ g t p = b ∧ g u p = e := by
 rcases hd with hd | hd
 ·have := L _ hd
  exact ⟨this.t, this.u, this.ag, this.a, this.b⟩
 ·have := L _ hd
  exact ⟨this.u, this.t, this.ag.symm, this.b, this.a⟩
end
abbrev Fst := List (List Lk)
structure FsOK (ts : List Tab) (S : Row → Prop) (F : Fst) : Prop where
 len : F.length = ts.length
 ok : ∀ p, p < ts.length → ∀ l ∈ F.getD p [], LkOK S p l
section
variable {ts: List Tab}{S: Row → Prop}{p: Nat}{F: Fst}
theorem FsOK.lt (C : Cl ts S) (L : FsOK ts S F) (hp : p < ts.length) : ∀ l ∈ F.getD p [], l.1 < 4 ∧ l.2.1 < 4 := fun l hl => by
 have o := L.ok p hp l hl
 have h4 : (ts[p]'hp).1 ≤ 4 := (C.good _ (List.getElem_mem hp)).le4
 have h1 := (C.ok _ o.t).lt hp
 have h2 := (C.ok _ o.u).lt hp
 rw [o.a] at h1
 rw [o.b] at h2
 omega
end
inductive Forest : List Lk → Prop
 | nil : Forest []
 | snoc {ls : List Lk} {l : Lk} : Forest ls → ¬ Conn ls l.1 l.2.1 → Forest (ls ++ [l])
theorem mX {z : Nat} {p q : Nat → Bool} : ∀ {V : List Nat}, V.Nodup → z ∈ V → p z = true → (∀ v ∈ V, q v = (p v && decide (v ≠ z))) → V.countP q + 1 = V.countP p
 | [], _, h, _, _ => by simp at h
 | v :: V, nd, hz, hp, hq => by
  have nd' := List.nodup_cons.mp nd
  have hq1 := hq v (by simp)
  rw [List.countP_cons, List.countP_cons]
  by_cases e : v = z
  ·subst e
   have : V.countP q = V.countP p := List.countP_congr fun w hw => by
    have hne : w ≠ v := fun x => nd'.1 (x ▸ hw)
    rw [hq w (List.mem_cons_of_mem _ hw)]
    simp [hne]
   rw [hq1, hp, this]
   simp
  ·have ih := mX (V := V) nd'.2 ((List.mem_cons.mp hz).resolve_left (Ne.symm e)) hp fun w hw => hq w (List.mem_cons_of_mem _ hw)
   rw [hq1]
   simp only [e, ne_eq, not_false_eq_true, decide_true, Bool.and_true]
   omega
def SameLot (lots : List (List Nat)) (a b : Nat) : Prop := ∃ l ∈ lots, a ∈ l ∧ b ∈ l
theorem mi : ∀ {lots : List (List Nat)} {l l' : List Nat} {v : Nat}, lots.flatten.Nodup → l ∈ lots → l' ∈ lots → v ∈ l → v ∈ l' → l = l'
 | [], _, _, _, _, h, _, _, _ => by simp at h
 | m :: lots, l, l', v, nd, h, h', hv, hv' => by
  rw [List.flatten_cons] at nd
  obtain ⟨n1, n2, n3⟩ := List.nodup_append.mp nd
  rcases List.mem_cons.mp h with e1 | e1 <;> rcases List.mem_cons.mp h' with e2 | e2
  ·rw [e1, e2]
  ·subst e1
   exact absurd rfl (n3 v hv v (List.mem_flatten.mpr ⟨l', e2, hv'⟩))
  ·subst e2
   exact absurd rfl (n3 v hv' v (List.mem_flatten.mpr ⟨l, e1, hv⟩))
  ·exact mi n2 e1 e2 hv hv'
theorem SameLot.trans {lots : List (List Nat)} {a b d : Nat} (nd : lots.flatten.Nodup) (h : SameLot lots a b) (k : SameLot lots b d) : SameLot lots a d := by
 obtain ⟨l, h1, h2, h3⟩ := h
 obtain ⟨m, k1, k2, k3⟩ := k
 cases mi nd h1 k1 h3 k2
 exact ⟨l, h1, h2, k3⟩
theorem SameLot.symm {lots : List (List Nat)} {a b : Nat} (h : SameLot lots a b) : SameLot lots b a := by
 obtain ⟨l, h1, h2, h3⟩ := h
 exact ⟨l, h1, h3, h2⟩
theorem SameLot.mem {lots : List (List Nat)} {a b : Nat} (h : SameLot lots a b) : a ∈ lots.flatten := by
 obtain ⟨l, h1, h2, h3⟩ := h
 exact List.mem_flatten.mpr ⟨l, h1, h2⟩
theorem mW {q : Nat → Bool} : ∀ {lots : List (List Nat)}, (∀ l ∈ lots, ∃ v ∈ l, q v = true) → lots.length ≤ lots.flatten.countP q
 | [], _ => by simp
 | l :: lots, h => by
  obtain ⟨v, hv, hq⟩ := h l (by simp)
  have ih := mW (lots := lots) fun m hm => h m (List.mem_cons_of_mem _ hm)
  have : 0 < l.countP q := List.countP_pos_iff.mpr ⟨v, hv, hq⟩
  rw [List.flatten_cons, List.countP_append, List.length_cons]
  omega
theorem pM {lots : List (List Nat)} (nd : lots.flatten.Nodup) {ls : List Lk} (fo : Forest ls) : (∀ l ∈ ls, SameLot lots l.1 l.2.1) → ∃ f : Nat → Nat, (∀ x, Conn ls x (f x)) ∧ (∀ x, f (f x) = f x) ∧ (∀ x ∈ lots.flatten, SameLot lots x (f x)) ∧ lots.flatten.countP (fun v => decide (f v = v)) + ls.length = lots.flatten.length := by
  induction fo with
  | nil =>
    refine fun _ => ⟨id, fun _ => .refl, fun _ => rfl, fun x hx => ?_, ?_⟩
    · obtain ⟨l, h1, h2⟩ := List.mem_flatten.mp hx
      exact ⟨l, h1, h2, h2⟩
    · simp
  | @snoc ls l _ hc ih =>
    intro hl
    obtain ⟨a, b, t, u⟩ := l
    obtain ⟨f, f1, f2, f3, f4⟩ := ih fun l h => hl l (List.mem_append.mpr (.inl h))
    have hab : SameLot lots a b := hl (a, b, t, u) (by simp)
    have hne : f a ≠ f b := fun z => hc (Conn.trans (f1 a) (z ▸ (f1 b).symm))
    have up : ∀ {x y : Nat}, Conn ls x y → Conn (ls ++ [(a, b, t, u)]) x y := fun h => h.mono fun l hl => List.mem_append.mpr (.inl hl)
    have st : Conn (ls ++ [(a, b, t, u)]) a b := Conn.refl.step (t := t) (u := u) (.inl (List.mem_append.mpr (.inr (by simp))))
    refine ⟨fun x => if f x = f b then f a else f x, fun x => ?_, fun x => ?_, fun x hx => ?_, ?_⟩
    · show Conn _ x (if f x = f b then f a else f x)
      by_cases h : f x = f b
      · rw [if_pos h]
        have c1 := up (f1 x)
        rw [h] at c1
        exact (c1.trans (up (f1 b)).symm).trans (st.symm.trans (up (f1 a)))
      · rw [if_neg h]
        exact up (f1 x)
    · show (if f (if f x = f b then f a else f x) = f b then f a else f (if f x = f b then f a else f x)) = if f x = f b then f a else f x
      by_cases h : f x = f b
      · rw [if_pos h, f2, if_neg hne]
      · rw [if_neg h, f2, if_neg h]
    · show SameLot lots x (if f x = f b then f a else f x)
      by_cases h : f x = f b
      · rw [if_pos h]
        have h1 := f3 x hx
        rw [h] at h1
        exact (h1.trans nd (f3 b hab.symm.mem).symm).trans nd (hab.symm.trans nd (f3 a hab.mem))
      · rw [if_neg h]
        exact f3 x hx
    · have := mX (z := f b) (p := fun v => decide (f v = v)) (q := fun v => decide ((if f v = f b then f a else f v) = v)) nd (f3 b hab.symm.mem).symm.mem (by simp [f2]) (fun v hv => by
        show decide ((if f v = f b then f a else f v) = v) = (decide (f v = v) && decide (v ≠ f b))
        by_cases h : f v = f b
        · rw [if_pos h]
          have h1 : ¬ (f a = v) := fun z => hne (by rw [← f2 a, z, h])
          rw [decide_eq_false h1]
          by_cases h2 : f v = v
          · have : v = f b := h2.symm.trans h
            simp [this]
          · simp [h2]
        · rw [if_neg h]
          by_cases h2 : f v = v
          · have : v ≠ f b := fun z => h (by rw [h2]; exact z)
            simp [h2, this]
          · simp [h2])
      show lots.flatten.countP (fun v => decide ((if f v = f b then f a else f v) = v)) + (ls ++ [(a, b, t, u)]).length = lots.flatten.length
      rw [List.length_append, List.length_cons, List.length_nil]
      omega
theorem rY {lots : List (List Nat)} (nd : lots.flatten.Nodup) (ne : ∀ l ∈ lots, l ≠ []) {ls : List Lk} (fo : Forest ls) (hl : ∀ l ∈ ls, SameLot lots l.1 l.2.1) : ls.length + lots.length ≤ lots.flatten.length := by
 obtain ⟨f, f1, f2, f3, f4⟩ := pM nd fo hl
 have := mW (q := fun v => decide (f v = v)) (lots := lots) fun l h => by
  obtain ⟨x, hx⟩ := List.exists_mem_of_ne_nil _ (ne l h)
  obtain ⟨m, m1, m2, m3⟩ := f3 x (List.mem_flatten.mpr ⟨l, h, hx⟩)
  cases mi nd h m1 hx m2
  exact ⟨f x, m3, by simp [f2]⟩
 omega
def rP (lots : List (List Nat)) : Nat := (lots.map fun l => l.length - 1).sum
theorem oI : ∀ {lots : List (List Nat)}, (∀ l ∈ lots, l ≠ []) → rP lots + lots.length = lots.flatten.length
 | [], _ => rfl
 | l :: lots, h => by
  have ih := oI (lots := lots) fun m hm => h m (List.mem_cons_of_mem _ hm)
  have : 0 < l.length := List.length_pos_iff.mpr (h l (by simp))
  unfold rP at *
  rw [List.map_cons, List.sum_cons, List.flatten_cons, List.length_append, List.length_cons]
  omega
def Lx (x y : Row) : Prop := ∃ k, k < x.length ∧ Ag (· < k) x y ∧ g x k < g y k
theorem Lx.asym {x y : Row} (h : Lx x y) (h' : Lx y x) : False := by
 obtain ⟨k, _, a, b⟩ := h
 obtain ⟨j, _, c, d⟩ := h'
 rcases Nat.lt_trichotomy k j with z | z | z
 ·have := c k z
  omega
 ·subst z; omega
 ·have := a j z
  omega
def jX (up : Bool) : List Nat → Nat
 | [] => 0
 | [v] => v
 | v :: vs => if up then max v (jX up vs) else min v (jX up vs)
theorem gu {up : Bool} : ∀ {vs : List Nat}, vs ≠ [] → jX up vs ∈ vs ∧ ∀ v ∈ vs, if up then v ≤ jX up vs else jX up vs ≤ v
 | [], h => absurd rfl h
 | [v], _ => by cases up <;> simp [jX]
 | v :: w :: vs, _ => by
  obtain ⟨h1, h2⟩ := gu (up := up) (vs := w :: vs) (by simp)
  have e : jX up (v :: w :: vs) = if up then max v (jX up (w :: vs)) else min v (jX up (w :: vs)) := rfl
  rw [e]
  cases up
  ·simp only [Bool.false_eq_true, if_false] at h2 ⊢
   refine ⟨?_, fun u hu => ?_⟩
   ·rcases Nat.le_total v (jX false (w :: vs)) with z | z
    ·rw [Nat.min_eq_left z]; exact List.mem_cons_self
    ·rw [Nat.min_eq_right z]; exact List.mem_cons_of_mem _ h1
   ·rcases List.mem_cons.mp hu with rfl | hu
    ·exact Nat.min_le_left _ _
    ·exact Nat.le_trans (Nat.min_le_right _ _) (h2 u hu)
  ·simp only [if_true] at h2 ⊢
   refine ⟨?_, fun u hu => ?_⟩
   ·rcases Nat.le_total v (jX true (w :: vs)) with z | z
    ·rw [Nat.max_eq_right z]; exact List.mem_cons_of_mem _ h1
    ·rw [Nat.max_eq_left z]; exact List.mem_cons_self
   ·rcases List.mem_cons.mp hu with rfl | hu
    ·exact Nat.le_max_left _ _
    ·exact Nat.le_trans (h2 u hu) (Nat.le_max_right _ _)
def AW (ts : List Tab) (f : Fk) (up : Bool) : Nat → Nat → Row → Row
 | _, 0, r => r
 | b, k + 1, r => AW ts f up (b + 1) k (bF ts f r b (jX up (keys (aO f r b))))
def bW (ts : List Tab) (f : Fk) (up : Bool) (r : Row) (b : Nat) : Row := AW ts f up b (ts.length - b) r
def GO (up : Bool) (x r : Row) : Prop := if up then Lx x r else Lx r x
section
variable {ts: List Tab}{S: Row → Prop}{f: Fk}{up: Bool}
theorem uB (F : FkOf ts S f) : ∀ {k b : Nat} {r : Row}, b + k = ts.length → S r → S (AW ts f up b k r) ∧ Ag (· < b) r (AW ts f up b k r) ∧ ∀ x, S x → Ag (· < b) r x → x = AW ts f up b k r ∨ GO up x (AW ts f up b k r)
 | 0, b, r, hb, hr => ⟨hr, Ag.refl, fun x hx ag => .inl (kQ ((F.cl.len hx).trans (F.cl.len hr).symm) fun i hi => (ag i (by have := F.cl.len hx; omega)).symm)⟩
 | k + 1, b, r, hb, hr => by
  have hbn : b < ts.length := by omega
  obtain ⟨_, hm⟩ := F.lot hbn hr
  have hne : keys (aO f r b) ≠ [] := fun e => by rw [e] at hm; simp at hm
  obtain ⟨h1, h2⟩ := gu (up := up) hne
  obtain ⟨m1, m2, m3⟩ := F.moved hbn hr h1
  obtain ⟨d1, d2, d3⟩ := uB F (k := k) (b := b + 1) (r := bF ts f r b (jX up (keys (aO f r b)))) (by omega) m1
  have e : AW ts f up b (k + 1) r = AW ts f up (b + 1) k (bF ts f r b (jX up (keys (aO f r b)))) := rfl
  rw [e]
  refine ⟨d1, m2.trans (d2.mono fun i hi => by omega), fun x hx ag => ?_⟩
  have hxk : g x b ∈ keys (aO f r b) := (F.class hbn hr).mpr ⟨x, hx, ag, rfl⟩
  by_cases hv : g x b = jX up (keys (aO f r b))
  ·refine d3 x hx fun i hi => ?_
   by_cases hi' : i = b
   ·subst hi'
    rw [m3, hv]
   ·exact (m2 i (by omega)).symm.trans (ag i (by omega))
  ·right
   have hb2 := h2 _ hxk
   have hd : g (AW ts f up (b + 1) k (bF ts f r b (jX up (keys (aO f r b))))) b = jX up (keys (aO f r b)) := by
    rw [← d2 b (by omega)]
    exact m3
   have hag : Ag (· < b) x (AW ts f up (b + 1) k (bF ts f r b (jX up (keys (aO f r b))))) := ag.symm.trans (m2.trans (d2.mono fun i hi => by omega))
   unfold GO
   cases up
   ·simp only [Bool.false_eq_true, if_false] at hb2 ⊢
    exact ⟨b, by rw [F.cl.len d1]; exact hbn, hag.symm, by omega⟩
   ·simp only [if_true] at hb2 ⊢
    exact ⟨b, by rw [F.cl.len hx]; exact hbn, hag, by omega⟩
theorem gr (F : FkOf ts S f) {r : Row} {b : Nat} (hb : b ≤ ts.length) (hr : S r) : S (bW ts f up r b) ∧ Ag (· < b) r (bW ts f up r b) ∧ ∀ x, S x → Ag (· < b) r x → x = bW ts f up r b ∨ GO up x (bW ts f up r b) := uB F (by omega) hr
end
def tw (p i : Nat) : Nat := if i = p then p + 1 else if i = p + 1 then p else i
theorem I8 {p i : Nat} : tw p (tw p i) = i := by
 unfold tw
 split
 ·rename_i h; subst h; simp
 ·rename_i h
  split
  ·rename_i h2; subst h2; simp
  ·rename_i h2; simp [h, h2]
theorem I9 {p i n : Nat} (h : p + 1 < n) (hi : i < n) : tw p i < n := by
 unfold tw
 split
 ·omega
 ·split <;> omega
def swp {α : Type} (p : Nat) (l : List α) : List α := l.take p ++ ((l[p + 1]?).toList ++ ((l[p]?).toList ++ l.drop (p + 2)))
theorem kN {α : Type} {p : Nat} {l : List α} (h : p + 1 < l.length) : (swp p l).length = l.length := by
 unfold swp
 rw [List.getElem?_eq_getElem h, List.getElem?_eq_getElem (show p < l.length by omega)]
 simp
 omega
theorem fq {α : Type} {p i : Nat} {l : List α} (h : p + 1 < l.length) : (swp p l)[i]? = l[tw p i]? := by
 unfold swp tw
 rw [List.getElem?_eq_getElem h, List.getElem?_eq_getElem (show p < l.length by omega)]
 have hp : (l.take p).length = p := by simp; omega
 rcases Nat.lt_trichotomy i p with z | z | z
 ·rw [List.getElem?_append_left (by omega), List.getElem?_take_of_lt z, if_neg (by omega), if_neg (by omega)]
 ·subst z
  rw [List.getElem?_append_right (by omega), hp, if_pos rfl]
  simp [h]
 ·rw [List.getElem?_append_right (by omega), hp, if_neg (by omega)]
  by_cases z2 : i = p + 1
  ·subst z2
   rw [if_pos rfl]
   have e : p + 1 - p = 1 := by omega
   rw [e]
   simp
  ·rw [if_neg z2]
   obtain ⟨j, rfl⟩ : ∃ j, i = p + 2 + j := ⟨i - (p + 2), by omega⟩
   have e : p + 2 + j - p = j + 2 := by omega
   rw [e]
   simp [Nat.add_comm, Nat.add_left_comm]
theorem uo {p i : Nat} {r : Row} (h : p + 1 < r.length) : g (swp p r) i = g r (tw p i) := by
 unfold g
 rw [List.getD_eq_getElem?_getD, List.getD_eq_getElem?_getD, fq h]
structure LotP (S : Row → Prop) (P : Nat → Prop) (q : Nat) (l : Lot) : Prop where
 mem : ∀ e ∈ l, S e.2 ∧ g e.2 q = e.1
 ag : ∀ e ∈ l, ∀ e' ∈ l, Ag P e.2 e'.2
 ne : l ≠ []
structure PlP (S : Row → Prop) (P : Nat → Prop) (q : Nat) (here : List Lot) : Prop where
 lot : ∀ l ∈ here, LotP S P q l
 nd : (here.flatMap keys).Nodup
 cov : ∀ r r', S r → S r' → Ag P r r' → ∃ l ∈ here, g r q ∈ keys l ∧ g r' q ∈ keys l
theorem PlP.ok {S : Row → Prop} {p : Nat} {here : List Lot} (h : PlP S (· < p) p here) : PlOK S p here := ⟨fun l hl => ⟨(h.lot l hl).mem, (h.lot l hl).ag, (h.lot l hl).ne⟩, h.nd, h.cov⟩
theorem PlOK.p {S : Row → Prop} {p : Nat} {here : List Lot} (h : PlOK S p here) : PlP S (· < p) p here := ⟨fun l hl => ⟨(h.lot l hl).mem, (h.lot l hl).ag, (h.lot l hl).ne⟩, h.nd, h.cov⟩
def jj {α : Type} (val : α → Nat) (mk : α → Lot) : List α → List Lot → List Lot
 | [], found => found
 | a :: as, found => if val a ∈ found.flatMap keys then jj val mk as found else jj val mk as (found ++ [mk a])
structure MkOk {α : Type} (S : Row → Prop) (P : Nat → Prop) (q : Nat) (val : α → Nat) (mk : α → Lot) (a : α) : Prop where
 lot : LotP S P q (mk a)
 nd : (keys (mk a)).Nodup
 cls : ∀ v, v ∈ keys (mk a) ↔ Rel S P q (val a) v
section
variable {ts: List Tab}{S: Row → Prop}{P: Nat → Prop}{q: Nat}{α: Type}{val: α → Nat}{mk: α → Lot}
theorem MkOk.self {a : α} (C : Cl ts S) (h : MkOk S P q val mk a) (hP : ∀ i, P i → i < ts.length) (hq : q < ts.length) : val a ∈ keys (mk a) := by
 obtain ⟨e, he⟩ := List.exists_mem_of_ne_nil _ h.lot.ne
 have h1 := (h.cls _).mp (jS he)
 exact (h.cls _).mpr (h1.trans C hP hq h1.symm)
theorem lY (C : Cl ts S) (hP : ∀ i, P i → i < ts.length) (hq : q < ts.length) : ∀ {as : List α} {found : List Lot}, (∀ a ∈ as, MkOk S P q val mk a) → (∀ l ∈ found, ∃ a, l = mk a ∧ MkOk S P q val mk a) → (found.flatMap keys).Nodup →
    (∀ l ∈ jj val mk as found, ∃ a, l = mk a ∧ MkOk S P q val mk a) ∧ ((jj val mk as found).flatMap keys).Nodup ∧ (∀ l ∈ found, l ∈ jj val mk as found) ∧ ∀ a ∈ as, val a ∈ (jj val mk as found).flatMap keys
  | [], found, _, h1, h2 => ⟨h1, h2, fun _ h => h, fun a ha => by cases ha⟩
  | a :: as, found, hm, h1, h2 => by
    have ha := hm a List.mem_cons_self
    have hm' : ∀ b ∈ as, MkOk S P q val mk b := fun b hb => hm b (List.mem_cons_of_mem _ hb)
    unfold jj
    by_cases hk : val a ∈ found.flatMap keys
    · rw [if_pos hk]
      obtain ⟨i1, i2, i3, i4⟩ := lY C hP hq hm' h1 h2
      refine ⟨i1, i2, i3, fun b hb => ?_⟩
      rcases List.mem_cons.mp hb with rfl | hb
      · obtain ⟨l, hl, hv⟩ := List.mem_flatMap.mp hk
        exact List.mem_flatMap.mpr ⟨l, i3 l hl, hv⟩
      · exact i4 b hb
    · rw [if_neg hk]
      have nd : ((found ++ [mk a]).flatMap keys).Nodup := by
        rw [List.flatMap_append, List.nodup_append]
        refine ⟨h2, by simpa using ha.nd, fun v hv w hw e => ?_⟩
        subst e
        obtain ⟨l, hl, hvl⟩ := List.mem_flatMap.mp hv
        obtain ⟨b, rfl, hb⟩ := h1 l hl
        have hw' : v ∈ keys (mk a) := by simpa using hw
        have r1 := (hb.cls v).mp hvl
        have r2 := (ha.cls v).mp hw'
        exact hk (List.mem_flatMap.mpr ⟨mk b, hl, (hb.cls _).mpr (r1.trans C hP hq r2.symm)⟩)
      obtain ⟨i1, i2, i3, i4⟩ := lY C hP hq (found := found ++ [mk a]) hm' (fun l hl => by
        rcases List.mem_append.mp hl with hl | hl
        · exact h1 l hl
        · simp at hl
          exact ⟨a, hl, ha⟩) nd
      refine ⟨i1, i2, fun l hl => i3 l (List.mem_append_left _ hl), fun b hb => ?_⟩
      rcases List.mem_cons.mp hb with rfl | hb
      · exact List.mem_flatMap.mpr ⟨mk b, i3 _ (by simp), ha.self C hP hq⟩
      · exact i4 b hb
theorem kU (C : Cl ts S) (hP : ∀ i, P i → i < ts.length) (hq : q < ts.length) {as : List α} (hm : ∀ a ∈ as, MkOk S P q val mk a) (hc : ∀ r, S r → ∃ a ∈ as, Rel S P q (val a) (g r q)) : PlP S P q (jj val mk as []) := by
 obtain ⟨i1, i2, _, i4⟩ := lY C hP hq (found := []) hm (fun l hl => by cases hl) (by simp)
 refine ⟨fun l hl => ?_, i2, fun r r' hr hr' ag => ?_⟩
 ·obtain ⟨a, rfl, ha⟩ := i1 l hl
  exact ha.lot
 ·obtain ⟨a, ha, h1⟩ := hc r hr
  obtain ⟨l, hl, hv⟩ := List.mem_flatMap.mp (i4 a ha)
  obtain ⟨b, rfl, hb⟩ := i1 l hl
  have r1 := ((hb.cls _).mp hv).trans C hP hq h1
  exact ⟨mk b, hl, (hb.cls _).mpr r1, (hb.cls _).mpr (r1.trans C hP hq ⟨r, r', hr, hr', ag, rfl, rfl⟩)⟩
end
def rO (l : Lot) (v : Nat) (r : Row) : Lot := if v ∈ keys l then l.map fun e => if e.1 = v then (v, r) else e else l ++ [(v, r)]
def puts (l es : Lot) : Lot := es.foldl (fun acc e => rO acc e.1 e.2) l
theorem qm {l : Lot} {v : Nat} {r : Row} : keys (rO l v r) = if v ∈ keys l then keys l else keys l ++ [v] := by
 unfold rO
 split
 ·unfold keys
  rw [List.map_map]
  refine List.map_congr_left fun e _ => ?_
  show (if e.1 = v then (v, r) else e).1 = e.1
  split
  ·rename_i h; exact h.symm
  ·rfl
 ·simp [keys]
theorem zO {l : Lot} {v : Nat} {r : Row} {e : Nat × Row} (h : e ∈ rO l v r) : e ∈ l ∨ e = (v, r) := by
 unfold rO at h
 split at h
 ·obtain ⟨x, hx, rfl⟩ := List.mem_map.mp h
  split
  ·exact .inr rfl
  ·exact .inl hx
 ·rcases List.mem_append.mp h with h | h
  ·exact .inl h
  ·exact .inr (by simpa using h)
theorem tq : ∀ {es l : Lot} {e : Nat × Row}, e ∈ puts l es → e ∈ l ∨ e ∈ es
 | [], l, e, h => .inl h
 | x :: es, l, e, h => by
  rcases tq (es := es) (l := rO l x.1 x.2) h with h | h
  ·rcases zO h with h | h
   ·exact .inl h
   ·exact .inr (by rw [h]; exact List.mem_cons_self)
  ·exact .inr (List.mem_cons_of_mem _ h)
theorem qe : ∀ {es l : Lot} {v : Nat}, v ∈ keys (puts l es) ↔ v ∈ keys l ∨ v ∈ keys es
 | [], l, v => by simp [puts, keys]
 | x :: es, l, v => by
  have ih := qe (es := es) (l := rO l x.1 x.2) (v := v)
  show v ∈ keys (puts (rO l x.1 x.2) es) ↔ _
  rw [ih, qm]
  have e : keys (x :: es) = x.1 :: keys es := rfl
  rw [e, List.mem_cons]
  by_cases hx : x.1 ∈ keys l
  ·rw [if_pos hx]
   constructor
   ·rintro (h | h)
    ·exact .inl h
    ·exact .inr (.inr h)
   ·rintro (h | h | h)
    ·exact .inl h
    ·subst h; exact .inl hx
    ·exact .inr h
  ·rw [if_neg hx, List.mem_append, List.mem_singleton]
   constructor
   ·rintro ((h | h) | h)
    ·exact .inl h
    ·exact .inr (.inl h)
    ·exact .inr (.inr h)
   ·rintro (h | h | h)
    ·exact .inl (.inl h)
    ·exact .inl (.inr h)
    ·exact .inr h
theorem oo : ∀ {es l : Lot}, (keys l).Nodup → (keys (puts l es)).Nodup
 | [], l, h => h
 | x :: es, l, h => by
  refine oo (es := es) (l := rO l x.1 x.2) ?_
  rw [qm]
  split
  ·exact h
  ·rename_i hx
   rw [List.nodup_append]
   exact ⟨h, by simp, fun a ha b hb e => by simp at hb; subst hb; subst e; exact hx ha⟩
theorem DP {α : Type} {ts : List Tab} {S : Row → Prop} {P : Nat → Prop} {q : Nat} {val : α → Nat} {mk : α → Lot} {a : α} {es : Lot} {row : Row} (C : Cl ts S) (hP : ∀ i, P i → i < ts.length) (hq : q < ts.length) (he : mk a = puts [] es) (hr : S row) (hv : g row q = val a)
  (h1 : ∀ e ∈ es, S e.2 ∧ g e.2 q = e.1 ∧ Ag P row e.2) (h2 : ∀ r', S r' → Ag P row r' → g r' q ∈ keys es) : MkOk S P q val mk a := by
 have hm : ∀ e ∈ mk a, e ∈ es := fun e h => by
  rw [he] at h
  rcases tq h with h | h
  ·cases h
  ·exact h
 have hk : ∀ v, v ∈ keys (mk a) ↔ v ∈ keys es := fun v => by
  rw [he, qe]
  simp [keys]
 refine ⟨⟨fun e h => ⟨(h1 e (hm e h)).1, (h1 e (hm e h)).2.1⟩, fun e h e' h' => (h1 e (hm e h)).2.2.symm.trans (h1 e' (hm e' h')).2.2, fun e => ?_⟩, by rw [he]; exact oo (by simp [keys]), fun v => ?_⟩
 ·have := (hk (g row q)).mpr (h2 row hr Ag.refl)
  rw [e] at this
  simp [keys] at this
 ·rw [hk]
  constructor
  ·intro h
   obtain ⟨e, he', rfl⟩ := List.mem_map.mp h
   obtain ⟨a1, a2, a3⟩ := h1 e he'
   exact ⟨row, e.2, hr, a1, a3, hv, a2⟩
  ·intro h
   obtain ⟨r', b1, b2, b3⟩ := h.ext C hP hq hr hv
   rw [← b3]
   exact h2 r' b1 b2
def Ay (ts : List Tab) (f : Fk) (p v : Nat) : Lot := (keys (aO f (bI (eB (f.getD (p + 1) []) v) v) p)).flatMap fun a =>
 (keys (aO f (bF ts f (bI (eB (f.getD (p + 1) []) v) v) p a) (p + 1))).map fun b => (b, bF ts f (bF ts f (bI (eB (f.getD (p + 1) []) v) v) p a) (p + 1) b)
def rR (ts : List Tab) (f : Fk) (p : Nat) : List Lot := jj id (fun v => puts [] (Ay ts f p v)) ((f.getD (p + 1) []).flatMap keys) []
def Kr (ts : List Tab) (f : Fk) (p v : Nat) : Lot := (keys (aO f (bI (eB (f.getD p []) v) v) p)).filterMap fun a =>
 if g (bI (eB (f.getD p []) v) v) (p + 1) ∈ keys (aO f (bF ts f (bI (eB (f.getD p []) v) v) p a) (p + 1)) then ξ (a, bF ts f (bF ts f (bI (eB (f.getD p []) v) v) p a) (p + 1) (g (bI (eB (f.getD p []) v) v) (p + 1))) else ζ
def sA (ts : List Tab) (f : Fk) (p : Nat) : List Lot := jj id (fun v => puts [] (Kr ts f p v)) ((f.getD p []).flatMap keys) []
section
variable {ts: List Tab}{S: Row → Prop}{f: Fk}{p: Nat}
theorem FkOf.rep {q v : Nat} (F : FkOf ts S f) (hq : q < ts.length) (hv : v ∈ (f.getD q []).flatMap keys) : S (bI (eB (f.getD q []) v) v) ∧ g (bI (eB (f.getD q []) v) v) q = v := by
 obtain ⟨l, hl, hk⟩ := List.mem_flatMap.mp hv
 rw [(F.place hq).at_ hl hk]
 exact tZ (q := q) F hq hl hk
theorem FkOf.occ {q : Nat} {r : Row} (F : FkOf ts S f) (hq : q < ts.length) (hr : S r) : g r q ∈ (f.getD q []).flatMap keys := by
 obtain ⟨h1, h2⟩ := F.lot hq hr
 exact List.mem_flatMap.mpr ⟨_, h1, h2⟩
theorem vD (F : FkOf ts S f) (hp : p + 1 < ts.length) : PlP S (· < p) (p + 1) (rR ts f p) := by
 refine kU F.cl (fun i hi => by omega) hp (fun v hv => ?_) fun r hr => ⟨g r (p + 1), F.occ hp hr, r, r, hr, hr, Ag.refl, rfl, rfl⟩
 obtain ⟨h1, h2⟩ := F.rep hp hv
 refine DP F.cl (fun i hi => by omega) hp (es := Ay ts f p v) rfl h1 h2 (fun e he => ?_) fun r' hr' ag => ?_
 ·obtain ⟨a, ha, hb⟩ := List.mem_flatMap.mp he
  obtain ⟨b, hb2, rfl⟩ := List.mem_map.mp hb
  obtain ⟨m1, m2, m3⟩ := F.moved (by omega) h1 ha
  obtain ⟨n1, n2, n3⟩ := F.moved hp m1 hb2
  exact ⟨n1, n3, m2.trans (n2.mono fun i hi => by omega)⟩
 ·have ha : g r' p ∈ keys (aO f (bI (eB (f.getD (p + 1) []) v) v) p) := (F.class (by omega) h1).mpr ⟨r', hr', ag, rfl⟩
  obtain ⟨m1, m2, m3⟩ := F.moved (by omega) h1 ha
  have hb : g r' (p + 1) ∈ keys (aO f (bF ts f (bI (eB (f.getD (p + 1) []) v) v) p (g r' p)) (p + 1)) := (F.class hp m1).mpr ⟨r', hr', fun i hi => by
   by_cases hi' : i = p
   ·subst hi'; exact m3
   ·exact (m2 i (by omega)).symm.trans (ag i (by omega)), rfl⟩
  exact List.mem_map.mpr ⟨_, List.mem_flatMap.mpr ⟨_, ha, List.mem_map.mpr ⟨_, hb, rfl⟩⟩, rfl⟩
theorem yi (F : FkOf ts S f) (hp : p + 1 < ts.length) : PlP S (fun i => i < p ∨ i = p + 1) p (sA ts f p) := by
 refine kU F.cl (fun i hi => by omega) (by omega) (fun v hv => ?_) fun r hr => ⟨g r p, F.occ (by omega) hr, r, r, hr, hr, Ag.refl, rfl, rfl⟩
 obtain ⟨h1, h2⟩ := F.rep (by omega) hv
 refine DP F.cl (fun i hi => by omega) (by omega) (es := Kr ts f p v) rfl h1 h2 (fun e he => ?_) fun r' hr' ag => ?_
 ·obtain ⟨a, ha, hb⟩ := List.mem_filterMap.mp he
  split at hb
  ·rename_i hc
   cases hb
   obtain ⟨m1, m2, m3⟩ := F.moved (by omega) h1 ha
   obtain ⟨n1, n2, n3⟩ := F.moved hp m1 hc
   refine ⟨n1, (n2 p (by omega)).symm.trans m3, fun i hi => ?_⟩
   rcases hi with hi | hi
   ·exact (m2 i hi).trans (n2 i (by omega))
   ·subst hi; exact n3.symm
  ·cases hb
 ·have ha : g r' p ∈ keys (aO f (bI (eB (f.getD p []) v) v) p) := (F.class (by omega) h1).mpr ⟨r', hr', ag.mono fun i hi => .inl hi, rfl⟩
  obtain ⟨m1, m2, m3⟩ := F.moved (by omega) h1 ha
  have hb : g (bI (eB (f.getD p []) v) v) (p + 1) ∈ keys (aO f (bF ts f (bI (eB (f.getD p []) v) v) p (g r' p)) (p + 1)) := (F.class hp m1).mpr ⟨r', hr', fun i hi => by
   by_cases hi' : i = p
   ·subst hi'; exact m3
   ·exact (m2 i (by omega)).symm.trans (ag i (.inl (by omega))), (ag (p + 1) (.inr rfl)).symm⟩
  exact List.mem_map.mpr ⟨_, List.mem_filterMap.mpr ⟨_, ha, if_pos hb⟩, rfl⟩
end
def KU (p : Nat) (S : Row → Prop) : Row → Prop := fun r' => ∃ r, S r ∧ r' = swp p r
def rL (h : Row → Row) (l : Lot) : Lot := l.map fun e => (e.1, h e.2)
theorem mm {h : Row → Row} {l : Lot} : keys (rL h l) = keys l := by
 unfold keys rL
 rw [List.map_map]
 rfl
theorem x7 {h : Row → Row} {here : List Lot} : (here.map (rL h)).flatMap keys = here.flatMap keys := by
 induction here with
 | nil => rfl
 | cons l here ih => simp only [List.map_cons, List.flatMap_cons, mm, ih]
theorem PlP.map {S S' : Row → Prop} {P P' : Nat → Prop} {q q' : Nat} {here : List Lot} {h : Row → Row} (H : PlP S P q here) (to : ∀ r, S r → S' (h r)) (frm : ∀ r', S' r' → ∃ r, S r ∧ r' = h r) (at_ : ∀ r, S r → g (h r) q' = g r q) (ag1 : ∀ x y, S x → S y → Ag P x y → Ag P' (h x) (h y)) (ag2 : ∀ x y, S x → S y → Ag P' (h x) (h y) → Ag P x y) : PlP S' P' q' (here.map (rL h)) := by
 refine ⟨fun l hl => ?_, by rw [x7]; exact H.nd, fun r r' hr hr' ag => ?_⟩
 ·obtain ⟨l, hl2, rfl⟩ := List.mem_map.mp hl
  have L := H.lot l hl2
  refine ⟨fun e he => ?_, fun e he e' he' => ?_, fun z => L.ne ?_⟩
  ·obtain ⟨e, he2, rfl⟩ := List.mem_map.mp he
   obtain ⟨a, b⟩ := L.mem e he2
   exact ⟨to _ a, (at_ _ a).trans b⟩
  ·obtain ⟨e, he2, rfl⟩ := List.mem_map.mp he
   obtain ⟨e', he2', rfl⟩ := List.mem_map.mp he'
   exact ag1 _ _ (L.mem e he2).1 (L.mem e' he2').1 (L.ag e he2 e' he2')
  ·simpa [rL] using z
 ·obtain ⟨x, hx, rfl⟩ := frm r hr
  obtain ⟨y, hy, rfl⟩ := frm r' hr'
  obtain ⟨l, hl, k1, k2⟩ := H.cov x y hx hy (ag2 x y hx hy ag)
  exact ⟨rL h l, List.mem_map.mpr ⟨l, hl, rfl⟩, by rw [mm, at_ x hx]; exact k1, by rw [mm, at_ y hy]; exact k2⟩
theorem Es {ts : List Tab} {r : Row} {p : Nat} (hp : p + 1 < ts.length) (h : RowOK ts r) : RowOK (swp p ts) (swp p r) := by
 have hr : p + 1 < r.length := by rw [h.1]; exact hp
 refine ⟨by rw [kN hp, kN hr]; exact h.1, fun i t v e1 e2 => ?_⟩
 rw [fq hp] at e1
 rw [fq hr] at e2
 exact h.2 _ t v e1 e2
theorem yO {ts : List Tab} {x y z : Row} {p : Nat} (hp : p + 1 < ts.length) (hx : RowOK ts x) (hy : RowOK ts y) (hz : RowOK ts z) : comb (swp p ts) (swp p x) (swp p y) (swp p z) = swp p (comb ts x y z) := by
 have lc : p + 1 < (comb ts x y z).length := by rw [fC]; exact hp
 have lx : p + 1 < x.length := by rw [hx.1]; exact hp
 have ly : p + 1 < y.length := by rw [hy.1]; exact hp
 have lz : p + 1 < z.length := by rw [hz.1]; exact hp
 refine List.ext_getElem? fun i => ?_
 by_cases hi : i < ts.length
 ·have hj := I9 hp hi
  have e1 : (swp p ts)[i]? = ξ (ts[tw p i]'hj) := by rw [fq hp, List.getElem?_eq_getElem hj]
  obtain ⟨a, ha, _⟩ := hx.at_ (List.getElem?_eq_getElem hj)
  obtain ⟨b, hb, _⟩ := hy.at_ (List.getElem?_eq_getElem hj)
  obtain ⟨d, hd, _⟩ := hz.at_ (List.getElem?_eq_getElem hj)
  rw [fq lc, lB e1 (by rw [fq lx]; exact ha) (by rw [fq ly]; exact hb) (by rw [fq lz]; exact hd), lB (List.getElem?_eq_getElem hj) ha hb hd]
 ·rw [List.getElem?_eq_none (by rw [fC, kN hp]; omega), List.getElem?_eq_none (by rw [kN lc, fC]; omega)]
theorem Bx {α : Type} {p : Nat} {l : List α} (h : p + 1 < l.length) {a : α} (ha : a ∈ swp p l) : a ∈ l := by
 obtain ⟨i, hi⟩ := List.mem_iff_getElem?.mp ha
 rw [fq h] at hi
 exact List.mem_of_getElem? hi
theorem Cl.swp {ts : List Tab} {S : Row → Prop} {p : Nat} (C : Cl ts S) (hp : p + 1 < ts.length) : Cl (swp p ts) (KU p S) := by
 refine ⟨fun t ht => C.good t (Bx hp ht), fun r' ⟨r, hr, e⟩ => by rw [e]; exact Es hp (C.ok r hr), fun x y z ⟨x', hx, ex⟩ ⟨y', hy, ey⟩ ⟨z', hz, ez⟩ => ?_⟩
 subst ex ey ez
 exact ⟨_, C.clo _ _ _ hx hy hz, yO hp (C.ok _ hx) (C.ok _ hy) (C.ok _ hz)⟩
def uA (ts : List Tab) (f : Fk) (p : Nat) : Fk := (f.take p ++ (rR ts f p :: sA ts f p :: f.drop (p + 2))).map fun here => here.map (rL (swp p))
section
variable {ts: List Tab}{S: Row → Prop}{f: Fk}{p: Nat}
theorem CZ {i : Nat} (hl : f.length = ts.length) (hp : p + 1 < ts.length) : (uA ts f p)[i]? = (if i = p then ξ (rR ts f p) else if i = p + 1 then ξ (sA ts f p) else f[i]?).map fun here => here.map (rL (swp p)) := by
 unfold uA
 rw [List.getElem?_map]
 congr 1
 have ht : (f.take p).length = p := by simp; omega
 rcases Nat.lt_trichotomy i p with z | z | z
 ·rw [List.getElem?_append_left (by omega), List.getElem?_take_of_lt z, if_neg (by omega), if_neg (by omega)]
 ·subst z
  rw [List.getElem?_append_right (by omega), ht, if_pos rfl]
  simp
 ·rw [List.getElem?_append_right (by omega), ht, if_neg (by omega)]
  by_cases z2 : i = p + 1
  ·subst z2
   rw [if_pos rfl]
   have e : p + 1 - p = 1 := by omega
   rw [e]
   rfl
  ·rw [if_neg z2]
   obtain ⟨j, rfl⟩ : ∃ j, i = p + 2 + j := ⟨i - (p + 2), by omega⟩
   have e : p + 2 + j - p = j + 2 := by omega
   rw [e]
   simp [Nat.add_comm, Nat.add_left_comm]
theorem CY (F : FkOf ts S f) (hp : p + 1 < ts.length) : FkOf (swp p ts) (KU p S) (uA ts f p) := by
  have len : ∀ r, S r → p + 1 < r.length := fun r hr => by rw [F.cl.len hr]; exact hp
  have mp : ∀ {P P' : Nat → Prop} {q q' : Nat} {here : List Lot}, PlP S P q here → tw p q' = q → (∀ i, P' i → P (tw p i)) → (∀ i, P i → P' (tw p i)) → PlP (KU p S) P' q' (here.map (rL (swp p))) := fun H hq h1 h2 =>
    H.map (fun r hr => ⟨r, hr, rfl⟩) (fun _ h => h) (fun r hr => by rw [uo (len r hr), hq]) (fun x y hx hy ag i hi => by rw [uo (len x hx), uo (len y hy)]; exact ag _ (h1 i hi)) fun x y hx hy ag i hi => by
      have := ag (tw p i) (h2 i hi)
      rw [uo (len x hx), uo (len y hy), I8] at this
      exact this
  refine ⟨F.cl.swp hp, let ⟨r, hr⟩ := F.one; ⟨swp p r, r, hr, rfl⟩, ?_, fun i here e => ?_⟩
  · rw [kN hp, ← F.len]
    unfold uA
    have := F.len
    simp
    omega
  · rw [CZ F.len hp] at e
    by_cases h1 : i = p
    · subst h1
      rw [if_pos rfl] at e
      cases e
      exact (mp (vD F hp) (by unfold tw; simp) (fun j hj => by unfold tw; rw [if_neg (by omega), if_neg (by omega)]; exact hj) fun j hj => by unfold tw; rw [if_neg (by omega), if_neg (by omega)]; exact hj).ok
    · rw [if_neg h1] at e
      by_cases h2 : i = p + 1
      · subst h2
        rw [if_pos rfl] at e
        cases e
        exact (mp (yi F hp) (by unfold tw; simp) (fun j hj => by unfold tw; split <;> (try split) <;> omega) fun j hj => by unfold tw; split <;> (try split) <;> omega).ok
      · rw [if_neg h2] at e
        obtain ⟨h0, e0, rfl⟩ := Option.map_eq_some_iff.mp e
        exact (mp (F.pl i h0 e0).p (by unfold tw; rw [if_neg h1, if_neg h2]) (fun j hj => by unfold tw; split <;> (try split) <;> omega) fun j hj => by unfold tw; split <;> (try split) <;> omega).ok
end
theorem FkOf.congr {ts : List Tab} {S S' : Row → Prop} {f : Fk} (F : FkOf ts S f) (h : ∀ r, S r ↔ S' r) : FkOf ts S' f := by
 have e : S = S' := funext fun r => propext (h r)
 rw [← e]
 exact F
def jQ (o : List Nat) (r : Row) : Row := o.map (g r)
def pmS (o : List Nat) (S : Row → Prop) : Row → Prop := fun r' => ∃ r, S r ∧ r' = jQ o r
def gm (ts : List Tab) (i : Nat) : Tab := ts.getD i (1, fun _ _ _ => 0)
def pmT (o : List Nat) (ts : List Tab) : List Tab := o.map (gm ts)
theorem swp_map {α β : Type} {p : Nat} {l : List α} {h : α → β} : swp p (l.map h) = (swp p l).map h := by
 unfold swp
 simp only [List.map_append, List.map_take, List.map_drop, List.getElem?_map]
 cases l[p + 1]? <;> cases l[p]? <;> rfl
theorem BZ {p : Nat} {o : List Nat} {S : Row → Prop} {r : Row} : KU p (pmS o S) r ↔ pmS (swp p o) S r := by
 constructor
 ·rintro ⟨x, ⟨y, hy, rfl⟩, rfl⟩
  exact ⟨y, hy, swp_map⟩
 ·rintro ⟨y, hy, rfl⟩
  exact ⟨_, ⟨y, hy, rfl⟩, swp_map.symm⟩
theorem yN {α : Type} {p : Nat} {l : List α} (h : p + 1 < l.length) : (swp p l).Perm l := by
 have e : l = l.take p ++ (l[p]'(by omega) :: l[p + 1] :: l.drop (p + 2)) := by
  have h1 : l.drop p = l[p]'(by omega) :: l.drop (p + 1) := List.drop_eq_getElem_cons (by omega)
  have h2 : l.drop (p + 1) = l[p + 1] :: l.drop (p + 2) := List.drop_eq_getElem_cons h
  rw [← h2, ← h1, List.take_append_drop]
 have e2 : swp p l = l.take p ++ (l[p + 1] :: l[p]'(by omega) :: l.drop (p + 2)) := by
  unfold swp
  rw [List.getElem?_eq_getElem h, List.getElem?_eq_getElem (show p < l.length by omega)]
  rfl
 rw [e2]
 refine ((List.Perm.swap _ _ _).append_left _).trans ?_
 rw [← e]
abbrev Sto := List Tab × Fk × List Nat
def yR (p : Nat) (s : Sto) : Sto := (swp p s.1, uA s.1 s.2.1 p, swp p s.2.2)
def tv (place : Nat) : Nat → Sto → Sto
 | 0, s => s
 | k + 1, s => tv place k (yR (place + k) s)
def rD : List Nat → Nat → Sto → Sto
 | [], _, s => s
 | w :: ws, place, s => rD ws (place + 1) (tv place (s.2.2.idxOf w - place) s)
structure StOk (n : Nat) (ts0 : List Tab) (S : Row → Prop) (s : Sto) : Prop where
 tab : s.1 = pmT s.2.2 ts0
 fk : FkOf s.1 (pmS s.2.2 S) s.2.1
 perm : s.2.2.Perm (List.range n)
section
variable {n: Nat}{ts0: List Tab}{S: Row → Prop}{s: Sto}
theorem StOk.len (h : StOk n ts0 S s) : s.2.2.length = n := by rw [h.perm.length_eq, List.length_range]
theorem StOk.tlen (h : StOk n ts0 S s) : s.1.length = n := by rw [h.tab, pmT, List.length_map]; exact h.len
theorem StOk.step {p : Nat} (h : StOk n ts0 S s) (hp : p + 1 < n) : StOk n ts0 S (yR p s) := by
 have ht : p + 1 < s.1.length := by rw [h.tlen]; exact hp
 have ho : p + 1 < s.2.2.length := by rw [h.len]; exact hp
 refine ⟨?_, (CY h.fk ht).congr fun r => BZ, (yN ho).trans h.perm⟩
 show swp p s.1 = pmT (swp p s.2.2) ts0
 rw [h.tab]
 exact swp_map
theorem wk : ∀ {k place : Nat} {s : Sto} {w : Nat}, StOk n ts0 S s → place + k < n → s.2.2[place + k]? = ξ w → StOk n ts0 S (tv place k s) ∧ (tv place k s).2.2[place]? = ξ w ∧ ∀ i, i < place → (tv place k s).2.2[i]? = s.2.2[i]?
 | 0, place, s, w, h, hk, e => ⟨h, e, fun i _ => rfl⟩
 | k + 1, place, s, w, h, hk, e => by
  have hp : place + k + 1 < s.2.2.length := by rw [h.len]; omega
  have h1 := h.step (p := place + k) (by omega)
  have e1 : (yR (place + k) s).2.2[place + k]? = ξ w := by
   show (swp (place + k) s.2.2)[place + k]? = ξ w
   rw [fq hp]
   unfold tw
   rw [if_pos rfl]
   exact e
  obtain ⟨a, b, d⟩ := wk (k := k) (place := place) h1 (by omega) e1
  refine ⟨a, b, fun i hi => (d i hi).trans ?_⟩
  show (swp (place + k) s.2.2)[i]? = _
  rw [fq hp]
  unfold tw
  rw [if_neg (by omega), if_neg (by omega)]
theorem tF {order : List Nat} (ho : order.Perm (List.range n)) : ∀ {ws : List Nat} {place : Nat} {s : Sto}, order.drop place = ws → StOk n ts0 S s → (∀ i, i < place → s.2.2[i]? = order[i]?) → StOk n ts0 S (rD ws place s) ∧ (rD ws place s).2.2 = order
 | [], place, s, hd, h, hi => by
  have hl : order.length = n := by rw [ho.length_eq, List.length_range]
  have hp : order.length ≤ place := List.drop_eq_nil_iff.mp hd
  refine ⟨h, List.ext_getElem? fun i => ?_⟩
  show s.2.2[i]? = order[i]?
  by_cases hlt : i < place
  ·exact hi i hlt
  ·rw [List.getElem?_eq_none (by rw [h.len]; omega), List.getElem?_eq_none (by omega)]
 | w :: ws, place, s, hd, h, hi => by
  have hl : order.length = n := by rw [ho.length_eq, List.length_range]
  have hlt : place < order.length := by
   apply Classical.byContradiction
   intro hn
   rw [List.drop_eq_nil_of_le (by omega)] at hd
   cases hd
  rw [List.drop_eq_getElem_cons hlt] at hd
  injection hd with hw hws
  have hwo : order[place]? = ξ w := by rw [List.getElem?_eq_getElem hlt, hw]
  have nd : order.Nodup := ho.nodup_iff.mpr List.nodup_range
  have hwm : w ∈ s.2.2 := h.perm.mem_iff.mpr (ho.mem_iff.mp (List.mem_of_getElem? hwo))
  have hix : s.2.2.idxOf w < s.2.2.length := List.idxOf_lt_length_of_mem hwm
  have hat : s.2.2[s.2.2.idxOf w]? = ξ w := by rw [List.getElem?_eq_getElem hix, List.getElem_idxOf hix]
  have hge : place ≤ s.2.2.idxOf w := by
   apply Classical.byContradiction
   intro hn
   have h1 := (hi _ (by omega)).symm.trans hat
   obtain ⟨l1, e1⟩ := List.getElem?_eq_some_iff.mp h1
   obtain ⟨l2, e2⟩ := List.getElem?_eq_some_iff.mp hwo
   have := (List.getElem_inj nd).mp (e1.trans e2.symm)
   omega
  have hk : place + (s.2.2.idxOf w - place) = s.2.2.idxOf w := by omega
  obtain ⟨a, b, d⟩ := wk (k := s.2.2.idxOf w - place) (place := place) (w := w) h (by rw [hk, ← h.len]; exact hix) (by rw [hk]; exact hat)
  refine tF ho (ws := ws) (place := place + 1) hws a fun i hi' => ?_
  by_cases hip : i = place
  ·subst hip
   rw [b, hwo]
  ·rw [d i (by omega)]
   exact hi i (by omega)
end
def bZ (ts : List Tab) (f : Fk) (order : List Nat) : Fk := (rD order 0 (ts, f, List.range ts.length)).2.1
theorem pmT_id {ts : List Tab} : pmT (List.range ts.length) ts = ts := by
 refine List.ext_getElem? fun i => ?_
 unfold pmT gm
 rw [List.getElem?_map]
 by_cases h : i < ts.length
 ·rw [List.getElem?_range h, List.getElem?_eq_getElem h]
  show ξ (ts.getD i _) = _
  rw [List.getD_eq_getElem?_getD, List.getElem?_eq_getElem h]
  rfl
 ·rw [List.getElem?_eq_none (by simp; omega), List.getElem?_eq_none (by omega)]
  rfl
theorem pmR_id {r : Row} : jQ (List.range r.length) r = r := by
 refine kQ (by simp [jQ]) fun i hi => ?_
 have hl : i < r.length := by simpa [jQ] using hi
 unfold jQ g
 rw [List.getD_eq_getElem?_getD, List.getElem?_map, List.getElem?_range hl]
 rfl
theorem gV {ts : List Tab} {S : Row → Prop} {f : Fk} {order : List Nat} (F : FkOf ts S f) (ho : order.Perm (List.range ts.length)) : FkOf (pmT order ts) (pmS order S) (bZ ts f order) := by
 have h0 : StOk ts.length ts S (ts, f, List.range ts.length) := ⟨pmT_id.symm, F.congr fun r => ⟨fun hr => ⟨r, hr, by rw [← F.cl.len hr]; exact pmR_id.symm⟩, fun ⟨x, hx, e⟩ => by
  rw [e, ← F.cl.len hx, pmR_id]
  exact hx⟩, List.Perm.refl _⟩
 obtain ⟨a, b⟩ := tF ho (ws := order) (place := 0) rfl h0 (fun i hi => by omega)
 have h1 := a.fk
 rw [a.tab, b] at h1
 exact h1
def dq (ks : List Nat) : List Nat := (jB (ks.map fun v : Nat => (v : Int))).map Int.toNat
theorem n5 {ks : List Nat} : (dq ks).map (fun v : Nat => (v : Int)) = jB (ks.map fun v : Nat => (v : Int)) := by
 unfold dq
 rw [List.map_map]
 refine (List.map_congr_left fun i hi => ?_).trans (List.map_id _)
 obtain ⟨v, _, rfl⟩ := List.mem_map.mp ((mP _).mem_iff.mp hi)
 simp
theorem sortN_perm {ks : List Nat} : (dq ks).Perm ks := by
 have h := (mP (ks.map fun v : Nat => (v : Int))).map Int.toNat
 rw [List.map_map] at h
 have e : ks.map (Int.toNat ∘ fun v : Nat => (v : Int)) = ks := (List.map_congr_left fun v _ => by simp).trans (List.map_id _)
 rw [e] at h
 exact h
theorem iT {ks : List Nat} : (dq ks).Pairwise (· ≤ ·) := by
 have h := pJ (ks.map fun v : Nat => (v : Int))
 rw [← n5, List.pairwise_map] at h
 exact h.imp fun h => by omega
theorem jt {ks : List Nat} (h : ks ≠ []) : dq ks ≠ [] := fun e => by
 have := sortN_perm (ks := ks)
 rw [e] at this
 exact h (List.Perm.nil_eq this).symm
theorem n9 {ks : List Nat} (h : ks ≠ []) : (dq ks).head? = ξ (jX false ks) := by
 cases hs : dq ks with
 | nil => exact absurd hs (jt h)
 | cons v vs =>
  have hp := sortN_perm (ks := ks)
  have hsrt := iT (ks := ks)
  rw [hs] at hp hsrt
  obtain ⟨h1, h2⟩ := gu (up := false) h
  have hv : v ∈ ks := hp.mem_iff.mp List.mem_cons_self
  have e1 := h2 v hv
  simp only [Bool.false_eq_true, if_false] at e1
  have e2 : v ≤ jX false ks := by
   rcases List.mem_cons.mp (hp.mem_iff.mpr h1) with z | z
   ·omega
   ·exact (List.pairwise_cons.mp hsrt).1 _ z
  show ξ v = ξ _
  rw [show v = jX false ks by omega]
theorem uU {ks : List Nat} (h : ks ≠ []) : (dq ks).getLast? = ξ (jX true ks) := by
 have hp := sortN_perm (ks := ks)
 have hsrt := iT (ks := ks)
 have hne := jt h
 obtain ⟨h1, h2⟩ := gu (up := true) h
 rw [List.getLast?_eq_some_getLast hne]
 congr 1
 have hv : (dq ks).getLast hne ∈ ks := hp.mem_iff.mp (List.getLast_mem hne)
 have e1 := h2 _ hv
 simp only [if_true] at e1
 have hb : jX true ks ∈ dq ks := hp.mem_iff.mpr h1
 have e2 : jX true ks ≤ (dq ks).getLast hne := by
  have hd := List.dropLast_concat_getLast hne
  rw [← hd] at hb hsrt
  rcases List.mem_append.mp hb with z | z
  ·exact (List.pairwise_append.mp hsrt).2.2 _ z _ (by simp)
  ·simp at z
   omega
 omega
theorem oS {α β : Type} {f h : α → List β} : ∀ {l : List α}, (∀ a ∈ l, f a = h a) → l.flatMap f = l.flatMap h
 | [], _ => rfl
 | a :: l, k => by
  rw [List.flatMap_cons, List.flatMap_cons, k a List.mem_cons_self, oS fun b hb => k b (List.mem_cons_of_mem _ hb)]
theorem qK {α β : Type} {f h : α → List β} : ∀ {l : List α}, (∀ a ∈ l, (f a).Perm (h a)) → (l.flatMap f).Perm (l.flatMap h)
 | [], _ => List.Perm.refl _
 | a :: l, k => by
  rw [List.flatMap_cons, List.flatMap_cons]
  exact (k a List.mem_cons_self).append (qK fun b hb => k b (List.mem_cons_of_mem _ hb))
def fr {α : Type} (p : Nat) (l : List α) : List α := (l[p]?).toList ++ (l.take p ++ l.drop (p + 1))
def bk {α : Type} (p : Nat) (l : List α) : List α := (l.drop 1).take p ++ ((l[0]?).toList ++ (l.drop 1).drop p)
theorem Gj {α β : Type} {p : Nat} {l : List α} {h : α → β} : fr p (l.map h) = (fr p l).map h := by
 unfold fr
 simp only [List.map_append, List.map_take, List.map_drop, List.getElem?_map]
 cases l[p]? <;> rfl
theorem wO {α : Type} {p : Nat} {l : List α} (h : p < l.length) : (fr p l).Perm l := by
 have e : l = l.take p ++ (l[p] :: l.drop (p + 1)) := by
  rw [← List.drop_eq_getElem_cons h, List.take_append_drop]
 have e2 : fr p l = l[p] :: (l.take p ++ l.drop (p + 1)) := by
  unfold fr
  rw [List.getElem?_eq_getElem h]
  rfl
 rw [e2]
 refine List.perm_middle.symm.trans ?_
 rw [← e]
theorem A9 {α : Type} {p : Nat} {l : List α} (h : p < l.length) : bk p (fr p l) = l := by
 have e2 : fr p l = l[p] :: (l.take p ++ l.drop (p + 1)) := by
  unfold fr
  rw [List.getElem?_eq_getElem h]
  rfl
 have ht : (l.take p).length = p := by simp; omega
 rw [e2]
 unfold bk
 simp only [List.drop_succ_cons, List.drop_zero, List.getElem?_cons_zero, Option.toList_some]
 rw [List.take_append_of_le_length (by omega), List.take_of_length_le (by omega), List.drop_append_of_le_length (by omega), List.drop_eq_nil_of_le (by omega), List.nil_append]
 show l.take p ++ (l[p] :: l.drop (p + 1)) = l
 rw [← List.drop_eq_getElem_cons h, List.take_append_drop]
theorem CT {α : Type} {p : Nat} {l : List α} (h : p < l.length) : (fr p l)[0]? = l[p]? := by
 unfold fr
 rw [List.getElem?_eq_getElem h]
 rfl
theorem vI {p : Nat} {r : Row} (h : p < r.length) : fr p r = jQ (fr p (List.range r.length)) r := by
 have e := pmR_id (r := r)
 unfold jQ at e ⊢
 rw [← Gj, e]
def t4 (ts : List Tab) (f front : Fk) (p : Nat) (l : Lot) : Lot := match dq (keys l) with
 | [] => []
 | v :: vs => (v, bk p (bW (pmT (fr p (List.range ts.length)) ts) front false (fr p (bI l v)) 1)) :: vs.map fun w =>
  (w, bW ts f false (bF ts f (bk p (bW (pmT (fr p (List.range ts.length)) ts) front false (fr p (bI l v)) 1)) p w) (p + 1))
def dG (here : List Lot) : List Lot := (iV (here.map fun l => (((jX false (keys l) : Nat) : Int), l))).map (·.2)
theorem sortLots_perm {here : List Lot} : (dG here).Perm here := by
 have h := (hW (here.map fun l => (((jX false (keys l) : Nat) : Int), l))).map (·.2)
 simpa [dG, Function.comp_def] using h
def iw (ts : List Tab) (f : Fk) : Fk := (List.range ts.length).map fun p => (dG (f.getD p [])).map (t4 ts f (bZ ts f (fr p (List.range ts.length))) p)
section
variable {ts: List Tab}{S: Row → Prop}{f: Fk}{p: Nat}{l: Lot}
theorem uv (hp : p < ts.length) : (fr p (List.range ts.length)).Perm (List.range ts.length) := wO (by simpa using hp)
theorem B1 {o : List Nat} {r : Row} : (jQ o r).length = o.length := by simp [jQ]
theorem cZ {o : List Nat} {r : Row} {i j : Nat} (h : o[i]? = ξ j) : g (jQ o r) i = g r j := by
 unfold jQ g
 rw [List.getD_eq_getElem?_getD, List.getElem?_map, h]
 rfl
theorem ud {v : Nat} (F : FkOf ts S f) (hp : p < ts.length) (hl : l ∈ f.getD p []) (hv : v ∈ keys l) :
  S (bk p (bW (pmT (fr p (List.range ts.length)) ts) (bZ ts f (fr p (List.range ts.length))) false (fr p (bI l v)) 1)) ∧ g (bk p (bW (pmT (fr p (List.range ts.length)) ts) (bZ ts f (fr p (List.range ts.length))) false (fr p (bI l v)) 1)) p = v ∧
  ∀ x, S x → g x p = v → x = bk p (bW (pmT (fr p (List.range ts.length)) ts) (bZ ts f (fr p (List.range ts.length))) false (fr p (bI l v)) 1) ∨ Lx (fr p (bk p (bW (pmT (fr p (List.range ts.length)) ts) (bZ ts f (fr p (List.range ts.length))) false (fr p (bI l v)) 1))) (fr p x) := by
 obtain ⟨h1, h2⟩ := tZ (q := p) F hp hl hv
 have G := gV F (uv hp)
 have lr := F.cl.len h1
 have e1 : fr p (bI l v) = jQ (fr p (List.range ts.length)) (bI l v) := by rw [← lr]; exact vI (by rw [lr]; exact hp)
 have hS : pmS (fr p (List.range ts.length)) S (fr p (bI l v)) := ⟨_, h1, e1⟩
 have hlen : (pmT (fr p (List.range ts.length)) ts).length = ts.length := by
  unfold pmT
  rw [List.length_map, (uv hp).length_eq, List.length_range]
 obtain ⟨d1, d2, d3⟩ := gr (up := false) G (b := 1) (by rw [hlen]; omega) hS
 obtain ⟨r, hr, er⟩ := d1
 have lr' := F.cl.len hr
 have er' : bW (pmT (fr p (List.range ts.length)) ts) (bZ ts f (fr p (List.range ts.length))) false (fr p (bI l v)) 1 = fr p r := by rw [er, ← lr']; exact (vI (by rw [lr']; exact hp)).symm
 have o0 : (fr p (List.range ts.length))[0]? = ξ p := by
  rw [CT (by simpa using hp), List.getElem?_range hp]
 rw [er', A9 (by rw [lr']; exact hp)]
 refine ⟨hr, ?_, fun x hx hxv => ?_⟩
 ·have := d2 0 (by omega)
  rw [er, e1, cZ o0, cZ o0] at this
  rw [← this]
  exact h2
 ·have lx := F.cl.len hx
  have ex : fr p x = jQ (fr p (List.range ts.length)) x := by rw [← lx]; exact vI (by rw [lx]; exact hp)
  rcases d3 (fr p x) ⟨x, hx, ex⟩ (fun i hi => by
   have : i = 0 := by omega
   subst this
   rw [e1, ex, cZ o0, cZ o0, h2, hxv]) with z | z
  ·left
   rw [er'] at z
   have := congrArg (bk p) z
   rw [A9 (by rw [lx]; exact hp), A9 (by rw [lr']; exact hp)] at this
   exact this
  ·right
   rw [er'] at z
   exact z
theorem k7 (F : FkOf ts S f) (hp : p < ts.length) (hl : l ∈ f.getD p []) : LotOK S p (t4 ts f (bZ ts f (fr p (List.range ts.length))) p l) ∧ keys (t4 ts f (bZ ts f (fr p (List.range ts.length))) p l) = dq (keys l) := by
 have L := (F.place hp).lot l hl
 have hkn : keys l ≠ [] := fun e => L.ne (by simpa [keys] using e)
 have hpm := sortN_perm (ks := keys l)
 unfold t4
 cases hs : dq (keys l) with
 | nil => exact absurd hs (jt hkn)
 | cons v vs =>
  rw [hs] at hpm
  have hv : v ∈ keys l := hpm.mem_iff.mp List.mem_cons_self
  obtain ⟨a1, a2, _⟩ := ud F hp hl hv
  simp only
  generalize bk p (bW (pmT (fr p (List.range ts.length)) ts) (bZ ts f (fr p (List.range ts.length))) false (fr p (bI l v)) 1) = least at a1 a2 ⊢
  have hlo : aO f least p = l := by
   unfold aO
   rw [a2]
   exact (F.place hp).at_ hl hv
  have key : ∀ w ∈ vs, S (bW ts f false (bF ts f least p w) (p + 1)) ∧ g (bW ts f false (bF ts f least p w) (p + 1)) p = w ∧ Ag (· < p) least (bW ts f false (bF ts f least p w) (p + 1)) := fun w hw => by
   have hwk : w ∈ keys (aO f least p) := by rw [hlo]; exact hpm.mem_iff.mp (List.mem_cons_of_mem _ hw)
   obtain ⟨m1, m2, m3⟩ := F.moved hp a1 hwk
   obtain ⟨d1, d2, _⟩ := gr (up := false) F (b := p + 1) (by omega) m1
   exact ⟨d1, (d2 p (by omega)).symm.trans m3, m2.trans (d2.mono fun i hi => by omega)⟩
  have all : ∀ e ∈ (v, least) :: vs.map (fun w => (w, bW ts f false (bF ts f least p w) (p + 1))), S e.2 ∧ g e.2 p = e.1 ∧ Ag (· < p) least e.2 := fun e he => by
   rcases List.mem_cons.mp he with rfl | he
   ·exact ⟨a1, a2, Ag.refl⟩
   ·obtain ⟨w, hw, rfl⟩ := List.mem_map.mp he
    exact key w hw
  refine ⟨⟨fun e he => ⟨(all e he).1, (all e he).2.1⟩, fun e he e' he' => (all e he).2.2.symm.trans (all e' he').2.2, by simp⟩, ?_⟩
  simp [keys, Function.comp_def]
theorem qu (F : FkOf ts S f) : FkOf ts S (iw ts f) := by
 refine ⟨F.cl, F.one, by simp [iw], fun p here e => ?_⟩
 have hp : p < ts.length := by
  have := (List.getElem?_eq_some_iff.mp e).1
  simpa [iw] using this
 unfold iw at e
 rw [bQ hp] at e
 cases e
 have P := F.place hp
 have hm : ∀ l, l ∈ dG (f.getD p []) ↔ l ∈ f.getD p [] := fun l => sortLots_perm.mem_iff
 have hk : ∀ l ∈ f.getD p [], keys (t4 ts f (bZ ts f (fr p (List.range ts.length))) p l) = dq (keys l) := fun l hl => (k7 F hp hl).2
 refine ⟨fun l hl => ?_, ?_, fun r r' hr hr' ag => ?_⟩
 ·obtain ⟨l0, h0, rfl⟩ := List.mem_map.mp hl
  exact (k7 F hp ((hm l0).mp h0)).1
 ·have e1 : ((dG (f.getD p [])).map (t4 ts f (bZ ts f (fr p (List.range ts.length))) p)).flatMap keys = (dG (f.getD p [])).flatMap fun l => dq (keys l) := by
   rw [List.flatMap_map]
   exact oS fun l hl => hk l ((hm l).mp hl)
  rw [e1]
  have e2 : ((dG (f.getD p [])).flatMap fun l => dq (keys l)).Perm ((f.getD p []).flatMap keys) := (qK fun l _ => sortN_perm).trans (sortLots_perm.flatMap_right _)
  exact e2.nodup_iff.mpr P.nd
 ·obtain ⟨l, hl, k1, k2⟩ := P.cov r r' hr hr' ag
  exact ⟨_, List.mem_map.mpr ⟨l, (hm l).mpr hl, rfl⟩, by rw [hk l hl]; exact sortN_perm.mem_iff.mpr k1, by rw [hk l hl]; exact sortN_perm.mem_iff.mpr k2⟩
end
theorem EC {ts : List Tab} {r : Row} (hl : r.length = ts.length) (h : ∀ i, i < ts.length → g r i < (gm ts i).1) : RowOK ts r := by
 refine ⟨hl, fun i t v e1 e2 => ?_⟩
 have hi : i < ts.length := (List.getElem?_eq_some_iff.mp e1).1
 have := h i hi
 unfold gm g at this
 rw [List.getD_eq_getElem?_getD, List.getD_eq_getElem?_getD, e1, e2] at this
 exact this
theorem RowOK.at2 {ts : List Tab} {r : Row} {i : Nat} (h : RowOK ts r) (hi : i < ts.length) : g r i < (gm ts i).1 := by
 have := h.lt hi
 unfold gm
 rw [List.getD_eq_getElem?_getD, List.getElem?_eq_getElem hi]
 exact this
def n' (f : Fk) : Row := match f with
 | [] => []
 | here :: _ => match here with
  | [] => []
  | l :: _ => match l with
   | [] => []
   | e :: _ => e.2
theorem kO {ts : List Tab} {S : Row → Prop} {f : Fk} (F : FkOf ts S f) : S (n' f) := by
 cases f with
 | nil =>
  obtain ⟨r, hr⟩ := F.one
  have h1 := F.cl.len hr
  have h2 := F.len
  have : r = [] := List.eq_nil_of_length_eq_zero (by rw [h1, ← h2]; rfl)
  subst this
  exact hr
 | cons here rest =>
  have P := F.pl 0 here rfl
  obtain ⟨r, hr⟩ := F.one
  obtain ⟨l, hl, _, _⟩ := P.cov r r hr hr Ag.refl
  cases here with
  | nil => cases hl
  | cons l0 ls =>
   have L := P.lot l0 List.mem_cons_self
   cases l0 with
   | nil => exact absurd rfl L.ne
   | cons e es => exact (L.mem e List.mem_cons_self).1
def C9 (ts : List Tab) (f : Fk) : Nat → List Row
 | 0 => [n' f]
 | k + 1 => (C9 ts f k).flatMap fun r => (dq (keys (aO f r k))).map fun v => bF ts f r k v
theorem w4 {ts : List Tab} {S : Row → Prop} {f : Fk} (F : FkOf ts S f) : ∀ {k : Nat}, k ≤ ts.length → (∀ r ∈ C9 ts f k, S r) ∧ ∀ x, S x → ∃ r ∈ C9 ts f k, Ag (· < k) x r
 | 0, _ => ⟨fun r hr => by rw [List.mem_singleton.mp hr]; exact kO F, fun x hx => ⟨_, List.mem_singleton.mpr rfl, fun i hi => by have : i < 0 := hi; omega⟩⟩
 | k + 1, hk => by
  obtain ⟨h1, h2⟩ := w4 F (k := k) (by omega)
  refine ⟨fun r hr => ?_, fun x hx => ?_⟩
  ·obtain ⟨r0, h0, hr⟩ := List.mem_flatMap.mp hr
   obtain ⟨v, hv, rfl⟩ := List.mem_map.mp hr
   exact (F.moved (by omega) (h1 r0 h0) (sortN_perm.mem_iff.mp hv)).1
  ·obtain ⟨r, hr, ag⟩ := h2 x hx
   have hv : g x k ∈ keys (aO f r k) := (F.class (by omega) (h1 r hr)).mpr ⟨x, hx, ag.symm, rfl⟩
   obtain ⟨m1, m2, m3⟩ := F.moved (by omega) (h1 r hr) hv
   refine ⟨_, List.mem_flatMap.mpr ⟨r, hr, List.mem_map.mpr ⟨_, sortN_perm.mem_iff.mpr hv, rfl⟩⟩, fun i hi => ?_⟩
   by_cases hi' : i = k
   ·subst hi'
    exact m3.symm
   ·have hi2 : i < k + 1 := hi
    exact (ag i (by omega)).trans (m2 i (by omega))
theorem zM {α : Type} {ts : List Tab} {S : Row → Prop} {P : Nat → Prop} {q : Nat} {val : α → Nat} {mk : α → Lot} {a : α} {es : Lot} {row : Row} (C : Cl ts S) (hP : ∀ i, P i → i < ts.length) (hq : q < ts.length) (hm : ∀ e ∈ mk a, e ∈ es) (hk : ∀ v, v ∈ keys es → v ∈ keys (mk a)) (hnd : (keys (mk a)).Nodup) (hr : S row) (hv : g row q = val a)
  (h1 : ∀ e ∈ es, S e.2 ∧ g e.2 q = e.1 ∧ Ag P row e.2) (h2 : ∀ r', S r' → Ag P row r' → g r' q ∈ keys es) : MkOk S P q val mk a := by
 refine ⟨⟨fun e h => ⟨(h1 e (hm e h)).1, (h1 e (hm e h)).2.1⟩, fun e h e' h' => (h1 e (hm e h)).2.2.symm.trans (h1 e' (hm e' h')).2.2, fun e => ?_⟩, hnd, fun v => ?_⟩
 ·have := hk (g row q) (h2 row hr Ag.refl)
  rw [e] at this
  simp [keys] at this
 ·constructor
  ·intro h
   obtain ⟨e, he', rfl⟩ := List.mem_map.mp h
   obtain ⟨a1, a2, a3⟩ := h1 e (hm e he')
   exact ⟨row, e.2, hr, a1, a3, hv, a2⟩
  ·intro h
   obtain ⟨r', b1, b2, b3⟩ := h.ext C hP hq hr hv
   rw [← b3]
   exact hk _ (h2 r' b1 b2)
def vr (l : Lot) (v : Nat) (r : Row) : Lot := if v ∈ keys l then l else l ++ [(v, r)]
def BC (l es : Lot) : Lot := es.foldl (fun acc e => vr acc e.1 e.2) l
theorem qk {l : Lot} {v : Nat} {r : Row} : keys (vr l v r) = if v ∈ keys l then keys l else keys l ++ [v] := by
 unfold vr
 split
 ·rfl
 ·simp [keys]
theorem sT : ∀ {es l : Lot} {e : Nat × Row}, e ∈ BC l es → e ∈ l ∨ e ∈ es
 | [], l, e, h => .inl h
 | x :: es, l, e, h => by
  rcases sT (es := es) (l := vr l x.1 x.2) h with h | h
  ·unfold vr at h
   split at h
   ·exact .inl h
   ·rcases List.mem_append.mp h with h | h
    ·exact .inl h
    ·exact .inr (by rw [List.mem_singleton.mp h]; exact List.mem_cons_self)
  ·exact .inr (List.mem_cons_of_mem _ h)
theorem pY : ∀ {es l : Lot} {v : Nat}, v ∈ keys l ∨ v ∈ keys es → v ∈ keys (BC l es)
 | [], l, v, h => by
  rcases h with h | h
  ·exact h
  ·simp [keys] at h
 | x :: es, l, v, h => by
  refine pY (es := es) (l := vr l x.1 x.2) ?_
  rw [qk]
  rcases h with h | h
  ·left
   split
   ·exact h
   ·exact List.mem_append_left _ h
  ·have e : keys (x :: es) = x.1 :: keys es := rfl
   rw [e, List.mem_cons] at h
   rcases h with h | h
   ·left
    subst h
    split
    ·rename_i hx; exact hx
    ·simp
   ·exact .inr h
theorem oa : ∀ {es l : Lot}, (keys l).Nodup → (keys (BC l es)).Nodup
 | [], l, h => h
 | x :: es, l, h => by
  refine oa (es := es) (l := vr l x.1 x.2) ?_
  rw [qk]
  split
  ·exact h
  ·rename_i hx
   rw [List.nodup_append]
   exact ⟨h, by simp, fun a ha b hb e => by simp at hb; subst hb; subst e; exact hx ha⟩
def fpE (rows : List Row) (p : Nat) (row : Row) : Lot := (rows.filter fun o => decide (o.take p = row.take p)).map fun o => (g o p, o)
def Ax (rows : List Row) (p : Nat) : List Lot := jj (fun r => g r p) (fun row => BC [] (fpE rows p row)) rows []
theorem kM {x y : Row} {p : Nat} (hl : x.length = y.length) (hp : p ≤ x.length) : x.take p = y.take p ↔ Ag (· < p) x y := by
 constructor
 ·intro h i hi
  have hi' : i < p := hi
  have e := congrArg (fun l : List Nat => l[i]?) h
  simp only [List.getElem?_take_of_lt hi'] at e
  rw [jk (by omega), jk (by omega)] at e
  exact Option.some.inj e
 ·intro h
  refine List.ext_getElem? fun i => ?_
  by_cases hi : i < p
  ·rw [List.getElem?_take_of_lt hi, List.getElem?_take_of_lt hi, jk (by omega), jk (by omega), h i hi]
  ·rw [List.getElem?_eq_none (by simp; omega), List.getElem?_eq_none (by simp; omega)]
theorem x6 {ts : List Tab} {S : Row → Prop} {rows : List Row} {many p : Nat} (C : Cl ts S) (hm : many ≤ ts.length) (hp : p < many) (h1 : ∀ r ∈ rows, S r) (h2 : ∀ x, S x → ∃ r ∈ rows, Ag (· < many) x r) : PlP S (· < p) p (Ax rows p) := by
 refine kU C (fun i hi => by omega) (by omega) (fun row hrow => ?_) fun r hr => ?_
 ·refine zM C (fun i hi => by omega) (by omega) (es := fpE rows p row) (row := row) (fun e he => ?_) (fun v hv => pY (.inr hv)) (oa (by simp [keys])) (h1 row hrow) rfl (fun e he => ?_) fun r' hr' ag => ?_
  ·rcases sT he with h | h
   ·cases h
   ·exact h
  ·obtain ⟨o, ho, rfl⟩ := List.mem_map.mp he
   obtain ⟨ho1, ho2⟩ := List.mem_filter.mp ho
   have hS := h1 o ho1
   have l1 := C.len hS
   have l2 := C.len (h1 row hrow)
   exact ⟨hS, rfl, ((kM (by omega) (by omega)).mp (of_decide_eq_true ho2)).symm⟩
  ·obtain ⟨o, ho, ag2⟩ := h2 r' hr'
   have l1 := C.len (h1 o ho)
   have l2 := C.len (h1 row hrow)
   have ag3 : Ag (· < p) o row := (ag.trans (ag2.mono fun i hi => by have : i < p := hi; omega)).symm
   exact List.mem_map.mpr ⟨(g o p, o), List.mem_map.mpr ⟨o, List.mem_filter.mpr ⟨ho, decide_eq_true ((kM (by omega) (by omega)).mpr ag3)⟩, rfl⟩, (ag2 p hp).symm⟩
 ·obtain ⟨o, ho, ag⟩ := h2 r hr
  exact ⟨o, ho, o, o, h1 o ho, h1 o ho, Ag.refl, rfl, (ag p hp).symm⟩
def bo (n many p : Nat) : List Nat := (List.range n).take many ++ (p :: ((List.range n).drop many).filter fun i => decide (i ≠ p))
theorem jG {p : Nat} : ∀ {l : List Nat}, l.Nodup → p ∈ l → (p :: l.filter fun i => decide (i ≠ p)).Perm l
 | [], _, h => by cases h
 | a :: l, nd, h => by
  obtain ⟨h1, h2⟩ := List.nodup_cons.mp nd
  by_cases ha : a = p
  ·subst ha
   have e : (a :: l).filter (fun i => decide (i ≠ a)) = l := by
    rw [List.filter_cons_of_neg (by simp)]
    exact List.filter_eq_self.mpr fun i hi => decide_eq_true fun z => h1 (z ▸ hi)
   rw [e]
  ·have hp : p ∈ l := by
    rcases List.mem_cons.mp h with z | z
    ·exact absurd z.symm ha
    ·exact z
   rw [List.filter_cons_of_pos (by simpa using ha)]
   exact (List.Perm.swap _ _ _).trans ((jG h2 hp).cons a)
theorem sy {n many p : Nat} (h1 : many ≤ p) (h2 : p < n) : (bo n many p).Perm (List.range n) := by
 unfold bo
 have e : (List.range n).take many ++ (List.range n).drop many = List.range n := List.take_append_drop _ _
 refine (List.Perm.append_left _ (jG (List.nodup_range.sublist (List.drop_sublist _ _)) ?_)).trans (by rw [e])
 rw [List.mem_iff_getElem?]
 exact ⟨p - many, by rw [List.getElem?_drop, List.getElem?_range (by omega)]; congr 1; omega⟩
theorem wZ {n many p i : Nat} (h1 : many ≤ p) (h2 : p < n) (hi : i < many) : (bo n many p)[i]? = ξ i := by
 unfold bo
 rw [List.getElem?_append_left (by simp; omega), List.getElem?_take_of_lt hi, List.getElem?_range (by omega)]
theorem wY {n many p : Nat} (h1 : many ≤ p) (h2 : p < n) : (bo n many p)[many]? = ξ p := by
 unfold bo
 have hl : ((List.range n).take many).length = many := by simp; omega
 rw [List.getElem?_append_right (by omega), hl]
 simp
def I7 (n : Nat) (o : List Nat) (r : Row) : Row := (List.range n).map fun i => g r (o.idxOf i)
theorem nI {n : Nat} {o : List Nat} (ho : o.Perm (List.range n)) {i : Nat} (hi : i < n) : o[o.idxOf i]? = ξ i := by
 have hm : i ∈ o := ho.mem_iff.mpr (List.mem_range.mpr hi)
 have hl := List.idxOf_lt_length_of_mem hm
 rw [List.getElem?_eq_getElem hl, List.getElem_idxOf hl]
theorem yH {n : Nat} {o : List Nat} {x : Row} (ho : o.Perm (List.range n)) (hx : x.length = n) : I7 n o (jQ o x) = x := by
 have e := pmR_id (r := x)
 unfold jQ at e
 rw [hx] at e
 refine Eq.trans ?_ e
 unfold I7
 exact List.map_congr_left fun i hi => cZ (nI ho (List.mem_range.mp hi))
def k9 (ts : List Tab) (f : Fk) (many p : Nat) (a : Row × Nat) : Row := I7 ts.length (bo ts.length many p) (bF (pmT (bo ts.length many p) ts) (bZ ts f (bo ts.length many p)) (jQ (bo ts.length many p) a.1) many a.2)
def Ks (ts : List Tab) (f : Fk) (rows : List Row) (many p : Nat) : List (Row × Nat) := rows.flatMap fun row => (keys (aO (bZ ts f (bo ts.length many p)) (jQ (bo ts.length many p) row) many)).map fun v => (row, v)
def w6 (ts : List Tab) (f : Fk) (many p : Nat) (a : Row × Nat) : Lot := (keys (aO f (k9 ts f many p a) p)).map fun o => (o, bF ts f (k9 ts f many p a) p o)
def D6 (ts : List Tab) (f : Fk) (rows : List Row) (many p : Nat) : List Lot := jj (·.2) (w6 ts f many p) (Ks ts f rows many p) []
section
variable {ts: List Tab}{S: Row → Prop}{f: Fk}{many p: Nat}
theorem nD {o : List Nat} : (pmT o ts).length = o.length := by simp [pmT]
theorem CP {row : Row} {v : Nat} (F : FkOf ts S f) (h1 : many ≤ p) (h2 : p < ts.length) (hr : S row) (hv : v ∈ keys (aO (bZ ts f (bo ts.length many p)) (jQ (bo ts.length many p) row) many)) :
  S (k9 ts f many p (row, v)) ∧ Ag (· < many) row (k9 ts f many p (row, v)) ∧ g (k9 ts f many p (row, v)) p = v := by
 have ho := sy h1 h2
 have G := gV F ho
 have hl : (pmT (bo ts.length many p) ts).length = ts.length := by rw [nD, ho.length_eq, List.length_range]
 obtain ⟨m1, m2, m3⟩ := G.moved (r := jQ (bo ts.length many p) row) (by rw [hl]; omega) ⟨row, hr, rfl⟩ hv
 obtain ⟨x, hx, e⟩ := m1
 have ef : k9 ts f many p (row, v) = x := by
  unfold k9
  rw [e]
  exact yH ho (F.cl.len hx)
 rw [ef]
 rw [e] at m2 m3
 refine ⟨hx, fun i hi => ?_, ?_⟩
 ·have hi' : i < many := hi
  have := m2 i hi
  rw [cZ (wZ h1 h2 hi'), cZ (wZ h1 h2 hi')] at this
  exact this
 ·rw [cZ (wY h1 h2)] at m3
  exact m3
theorem Bb {S' : Row → Prop} {rows : List Row} (F : FkOf ts S f) (C : Cl ts S') (h1 : many ≤ p) (h2 : p < ts.length) (sub : ∀ r, S' r → S r) (sup : ∀ r x, S' r → S x → Ag (· < many) r x → S' x) (hr : ∀ r ∈ rows, S' r) (hc : ∀ x, S' x → ∃ r ∈ rows, Ag (· < many) x r) : PlP S' (· < p) p (D6 ts f rows many p) := by
 have nd : ∀ r, S r → (keys (aO f r p)).Nodup := fun r hr => by
  obtain ⟨a, _⟩ := F.lot h2 hr
  have := (F.place h2).nd
  exact (List.pairwise_flatMap.mp this).1 _ a
 refine kU C (fun i hi => by have : i < p := hi; omega) h2 (fun a ha => ?_) fun r hr' => ?_
 ·obtain ⟨row, hrow, ha⟩ := List.mem_flatMap.mp ha
  obtain ⟨v, hv, rfl⟩ := List.mem_map.mp ha
  obtain ⟨f1, f2, f3⟩ := CP F h1 h2 (sub row (hr row hrow)) hv
  have fS := sup row _ (hr row hrow) f1 f2
  have hke : keys (w6 ts f many p (row, v)) = keys (aO f (k9 ts f many p (row, v)) p) := by
   unfold w6 keys
   rw [List.map_map]
   exact List.map_id _
  refine zM C (fun i hi => by have : i < p := hi; omega) h2 (es := w6 ts f many p (row, v)) (row := k9 ts f many p (row, v)) (fun e he => he) (fun v hv => hv) (by rw [hke]; exact nd _ f1) fS f3 (fun e he => ?_) fun r' hr' ag => ?_
  ·obtain ⟨o, ho, rfl⟩ := List.mem_map.mp he
   obtain ⟨m1, m2, m3⟩ := F.moved h2 f1 ho
   exact ⟨sup _ _ fS m1 (m2.mono fun i hi => by have : i < many := hi; omega), m3, m2⟩
  ·rw [hke]
   exact (F.class h2 f1).mpr ⟨r', sub r' hr', ag, rfl⟩
 ·obtain ⟨o, ho, ag⟩ := hc r hr'
  have G := gV F (sy h1 h2)
  have hl : (pmT (bo ts.length many p) ts).length = ts.length := by rw [nD, (sy h1 h2).length_eq, List.length_range]
  have hv : g r p ∈ keys (aO (bZ ts f (bo ts.length many p)) (jQ (bo ts.length many p) o) many) := (G.class (r := jQ (bo ts.length many p) o) (by rw [hl]; omega) ⟨o, sub o (hr o ho), rfl⟩).mpr ⟨jQ (bo ts.length many p) r, ⟨r, sub r hr', rfl⟩, fun i hi => by
   have hi' : i < many := hi
   rw [cZ (wZ h1 h2 hi'), cZ (wZ h1 h2 hi')]
   exact (ag i hi).symm, cZ (wY h1 h2)⟩
  exact ⟨(o, g r p), List.mem_flatMap.mpr ⟨o, ho, List.mem_map.mpr ⟨_, hv, rfl⟩⟩, r, r, hr', hr', Ag.refl, rfl, rfl⟩
def qA (ts : List Tab) (f : Fk) (many : Nat) (al : List Row) : List Row := (C9 ts f many).filter fun r => decide (r.take many ∈ al)
def wF (ts : List Tab) (f : Fk) (many : Nat) (al : List Row) : Option Fk := if qA ts f many al = [] then ζ else ξ ((List.range ts.length).map fun p => if p < many then Ax (qA ts f many al) p else D6 ts f (qA ts f many al) many p)
theorem zU {al : List Row} (F : FkOf ts S f) (hm : many ≤ ts.length) (C : Cl ts fun r => S r ∧ r.take many ∈ al) : match wF ts f many al with
  | none => ∀ r, S r → r.take many ∉ al
  | some f' => FkOf ts (fun r => S r ∧ r.take many ∈ al) f' := by
 obtain ⟨b1, b2⟩ := w4 F hm
 have hr : ∀ r ∈ qA ts f many al, S r ∧ r.take many ∈ al := fun r h => by
  obtain ⟨h1, h2⟩ := List.mem_filter.mp h
  exact ⟨b1 r h1, of_decide_eq_true h2⟩
 have tk : ∀ r x, S r → S x → Ag (· < many) r x → r.take many = x.take many := fun r x h1 h2 ag => (kM ((F.cl.len h1).trans (F.cl.len h2).symm) (by rw [F.cl.len h1]; exact hm)).mpr ag
 have hc : ∀ x, S x ∧ x.take many ∈ al → ∃ r ∈ qA ts f many al, Ag (· < many) x r := fun x hx => by
  obtain ⟨r, h1, h2⟩ := b2 x hx.1
  exact ⟨r, List.mem_filter.mpr ⟨h1, decide_eq_true (by rw [← tk x r hx.1 (b1 r h1) h2]; exact hx.2)⟩, h2⟩
 unfold wF
 by_cases hk : qA ts f many al = []
 ·rw [if_pos hk]
  intro r h1 h2
  obtain ⟨x, hx, _⟩ := hc r ⟨h1, h2⟩
  rw [hk] at hx
  cases hx
 ·rw [if_neg hk]
  obtain ⟨r0, h0⟩ := List.exists_mem_of_ne_nil _ hk
  refine ⟨C, ⟨r0, hr r0 h0⟩, by simp, fun p here e => ?_⟩
  have hp : p < ts.length := by
   have := (List.getElem?_eq_some_iff.mp e).1
   simpa using this
  rw [bQ hp] at e
  cases e
  by_cases hpm : p < many
  ·rw [if_pos hpm]
   exact (x6 C hm hpm hr hc).ok
  ·rw [if_neg hpm]
   exact (Bb F C (by omega) hp (fun r h => h.1) (fun r x h1 h2 ag => ⟨h2, by rw [← tk r x h1.1 h2 ag]; exact h1.2⟩) hr hc).ok
end
def mU (ko : List Nat) : List Nat → List Nat
 | [] => []
 | p :: ps => if p ∈ ko then mU (ko ++ [p]) ps else p :: mU (ko ++ [p]) ps
def ku (places : List Nat) : List Nat := mU [] places
theorem fstsG_mem : ∀ {ps ko : List Nat} {p : Nat}, p ∈ mU ko ps ↔ p ∈ ps ∧ p ∉ ko
  | [], ko, p => by simp [mU]
  | q :: ps, ko, p => by
    unfold mU
    by_cases h : q ∈ ko
    · rw [if_pos h, fstsG_mem]
      constructor
      · rintro ⟨h1, h2⟩
        exact ⟨List.mem_cons_of_mem _ h1, fun z => h2 (List.mem_append_left _ z)⟩
      · rintro ⟨h1, h2⟩
        rcases List.mem_cons.mp h1 with rfl | h1
        · exact absurd h h2
        · refine ⟨h1, fun z => ?_⟩
          rcases List.mem_append.mp z with z | z
          · exact h2 z
          · exact h2 (by rw [List.mem_singleton.mp z]; exact h)
    · rw [if_neg h, List.mem_cons, fstsG_mem]
      constructor
      · rintro (rfl | ⟨h1, h2⟩)
        · exact ⟨List.mem_cons_self, h⟩
        · exact ⟨List.mem_cons_of_mem _ h1, fun z => h2 (List.mem_append_left _ z)⟩
      · rintro ⟨h1, h2⟩
        rcases List.mem_cons.mp h1 with rfl | h1
        · exact .inl rfl
        · by_cases hq : p = q
          · exact .inl hq
          · exact .inr ⟨h1, fun z => by
              rcases List.mem_append.mp z with z | z
              · exact h2 z
              · exact hq (List.mem_singleton.mp z)⟩
theorem fsts_mem {ps : List Nat} {p : Nat} : p ∈ ku ps ↔ p ∈ ps := by
 unfold ku
 rw [fstsG_mem]
 simp
theorem jF : ∀ {ps ko : List Nat}, (mU ko ps).Nodup
 | [], _ => List.nodup_nil
 | p :: ps, ko => by
  unfold mU
  split
  ·exact jF
  ·exact List.nodup_cons.mpr ⟨fun z => (fstsG_mem.mp z).2 (by simp), jF⟩
def fL (n : Nat) (places : List Nat) : List Nat := ku places ++ (List.range n).filter fun i => decide (i ∉ ku places)
theorem sP {a : List Nat} : ∀ {l : List Nat}, a.Nodup → l.Nodup → (∀ x ∈ a, x ∈ l) → (a ++ l.filter fun i => decide (i ∉ a)).Perm l := by
 intro l na nl h
 refine (List.perm_ext_iff_of_nodup ?_ nl).mpr fun x => ?_
 ·rw [List.nodup_append]
  exact ⟨na, nl.sublist List.filter_sublist, fun x hx y hy e => by
   subst e
   have := of_decide_eq_true (List.mem_filter.mp hy).2
   exact this hx⟩
 ·rw [List.mem_append, List.mem_filter]
  constructor
  ·rintro (h1 | h1)
   ·exact h x h1
   ·exact h1.1
  ·intro hx
   by_cases ha : x ∈ a
   ·exact .inl ha
   ·exact .inr ⟨hx, decide_eq_true ha⟩
theorem qg {n : Nat} {places : List Nat} (h : ∀ p ∈ places, p < n) : (fL n places).Perm (List.range n) := sP jF List.nodup_range fun x hx => List.mem_range.mpr (h x (fsts_mem.mp hx))
theorem Aw {n : Nat} {places : List Nat} (h : ∀ p ∈ places, p < n) : (ku places).length ≤ n := by
 have := (qg h).length_eq
 unfold fL at this
 simp at this
 omega
def D5 : List Nat → Row → Nat → Nat
 | p :: ps, v :: vs, q => if q ∈ ps.take vs.length then D5 ps vs q else if p = q then v else D5 ps vs q
 | _, _, _ => 0
theorem sv {r : Row} : ∀ {ps : List Nat} {q : Nat}, q ∈ ps → D5 ps (ps.map (g r)) q = g r q
 | [], q, h => by cases h
 | p :: ps, q, h => by
  have e : (p :: ps).map (g r) = g r p :: ps.map (g r) := rfl
  rw [e]
  unfold D5
  have et : ps.take (ps.map (g r)).length = ps := List.take_of_length_le (by simp)
  rw [et]
  by_cases hq : q ∈ ps
  ·rw [if_pos hq]
   exact sv hq
  ·rw [if_neg hq]
   rcases List.mem_cons.mp h with rfl | h
   ·rw [if_pos rfl]
   ·exact absurd h hq
def GL (places : List Nat) (rows : List Row) : List Row := rows.filterMap fun row => if row = places.map (D5 places row) then ξ ((ku places).map (D5 places row)) else ζ
theorem alK_mem {places : List Nat} {rows : List Row} {r : Row} : (ku places).map (g r) ∈ GL places rows ↔ places.map (g r) ∈ rows := by
 unfold GL
 rw [List.mem_filterMap]
 constructor
 ·rintro ⟨row, h1, h2⟩
  split at h2
  ·rename_i hc
   have e := Option.some.inj h2
   have ep : ∀ p ∈ places, D5 places row p = g r p := fun p hp => by
    have hf : p ∈ ku places := fsts_mem.mpr hp
    exact List.map_inj_left.mp e p hf
   have : row = places.map (g r) := hc.trans (List.map_congr_left ep)
   rw [← this]
   exact h1
  ·cases h2
 ·intro h
  refine ⟨_, h, ?_⟩
  have e1 : places.map (g r) = places.map (D5 places (places.map (g r))) := List.map_congr_left fun p hp => (sv hp).symm
  rw [if_pos e1]
  congr 1
  exact List.map_congr_left fun p hp => sv (fsts_mem.mp hp)
def pK (n : Nat) (o : List Nat) : List Nat := (List.range n).map fun i => o.idxOf i
def ue (ts : List Tab) (f : Fk) (places : List Nat) (rows : List Row) : Option Fk := match wF (pmT (fL ts.length places) ts) (bZ ts f (fL ts.length places)) (ku places).length (GL places rows) with
 | none => ζ
 | some k => ξ (bZ (pmT (fL ts.length places) ts) k (pK ts.length (fL ts.length places)))
section
variable {ts: List Tab}{S: Row → Prop}{f: Fk}{places: List Nat}{rows: List Row}
theorem Ab {n : Nat} {o : List Nat} (ho : o.Perm (List.range n)) : (pK n o).Perm (List.range n) := by
 have nd : (pK n o).Nodup := by
  unfold pK
  refine List.pairwise_map.mpr (List.Pairwise.imp_of_mem (fun {a b} ha hb hne e => hne ?_) List.nodup_range)
  have h1 := nI ho (List.mem_range.mp ha)
  have h2 := nI ho (List.mem_range.mp hb)
  rw [e, h2] at h1
  exact (Option.some.inj h1).symm
 refine (List.perm_ext_iff_of_nodup nd List.nodup_range).mpr fun x => ?_
 unfold pK
 rw [List.mem_map, List.mem_range]
 constructor
 ·rintro ⟨i, hi, rfl⟩
  have := List.idxOf_lt_length_of_mem (ho.mem_iff.mpr hi)
  rw [ho.length_eq, List.length_range] at this
  exact this
 ·intro hx
  have hl : x < o.length := by rw [ho.length_eq, List.length_range]; exact hx
  have hm : o[x] ∈ o := List.getElem_mem hl
  refine ⟨o[x], ho.mem_iff.mp hm, ?_⟩
  exact (ho.nodup_iff.mpr List.nodup_range).idxOf_getElem x hl
theorem vX {n : Nat} {o : List Nat} {r : Row} : I7 n o r = jQ (pK n o) r := by
 unfold I7 jQ pK
 rw [List.map_map]
 rfl
theorem BX {o : List Nat} (ho : o.Perm (List.range ts.length)) : pmT (pK ts.length o) (pmT o ts) = ts := by
 refine Eq.trans ?_ (pmT_id (ts := ts))
 unfold pmT pK
 rw [List.map_map]
 refine List.map_congr_left fun i hi => ?_
 show gm (o.map (gm ts)) (o.idxOf i) = gm ts i
 have e := nI ho (List.mem_range.mp hi)
 conv => lhs; unfold gm
 rw [List.getD_eq_getElem?_getD, List.getElem?_map, e]
 rfl
theorem lZ {r : Row} (h : ∀ p ∈ places, p < ts.length) : (jQ (fL ts.length places) r).take (ku places).length = (ku places).map (g r) := by
 unfold jQ fL
 rw [List.map_append, List.take_append_of_le_length (by simp), List.take_of_length_le (by simp)]
theorem zV (F : FkOf ts S f) (hp : ∀ p ∈ places, p < ts.length) (C : Cl ts fun r => S r ∧ places.map (g r) ∈ rows) : match ue ts f places rows with
  | none => ∀ r, S r → places.map (g r) ∉ rows
  | some f' => FkOf ts (fun r => S r ∧ places.map (g r) ∈ rows) f' := by
 have ho := qg hp
 have G := gV F ho
 have hl : (pmT (fL ts.length places) ts).length = ts.length := by rw [nD, ho.length_eq, List.length_range]
 have eqS : ∀ r', (pmS (fL ts.length places) S r' ∧ r'.take (ku places).length ∈ GL places rows) ↔ pmS (fL ts.length places) (fun r => S r ∧ places.map (g r) ∈ rows) r' := fun r' => by
  constructor
  ·rintro ⟨⟨r, hr, rfl⟩, h2⟩
   rw [lZ hp] at h2
   exact ⟨r, ⟨hr, alK_mem.mp h2⟩, rfl⟩
  ·rintro ⟨r, ⟨hr, h2⟩, rfl⟩
   exact ⟨⟨r, hr, rfl⟩, by rw [lZ hp]; exact alK_mem.mpr h2⟩
 have eqS' : (fun r' => pmS (fL ts.length places) S r' ∧ r'.take (ku places).length ∈ GL places rows) = pmS (fL ts.length places) (fun r => S r ∧ places.map (g r) ∈ rows) := funext fun r' => propext (eqS r')
 have C2 : Cl (pmT (fL ts.length places) ts) (fun r' => pmS (fL ts.length places) S r' ∧ r'.take (ku places).length ∈ GL places rows) := by
  rw [eqS']
  refine ⟨G.cl.good, fun r' ⟨r, hr, e⟩ => G.cl.ok r' ⟨r, hr.1, e⟩, fun x y z ⟨x', hx, ex⟩ ⟨y', hy, ey⟩ ⟨z', hz, ez⟩ => ?_⟩
  subst ex ey ez
  refine ⟨comb ts x' y' z', C.clo _ _ _ hx hy hz, ?_⟩
  have ox := G.cl.ok _ ⟨x', hx.1, rfl⟩
  have oy := G.cl.ok _ ⟨y', hy.1, rfl⟩
  have oz := G.cl.ok _ ⟨z', hz.1, rfl⟩
  refine kQ (by rw [fC, B1, hl, ho.length_eq, List.length_range]) fun i hi => ?_
  have hi' : i < (pmT (fL ts.length places) ts).length := by rw [fC] at hi; exact hi
  have hio : i < (fL ts.length places).length := by rw [← nD (ts := ts)]; exact hi'
  have ei : (fL ts.length places)[i]? = ξ (fL ts.length places)[i] := List.getElem?_eq_getElem hio
  have hj : (fL ts.length places)[i] < ts.length := List.mem_range.mp (ho.mem_iff.mp (List.getElem_mem hio))
  rw [oO ox oy oz hi', cZ ei, cZ ei, cZ ei, cZ ei, oO (F.cl.ok _ hx.1) (F.cl.ok _ hy.1) (F.cl.ok _ hz.1) hj]
  have et : (pmT (fL ts.length places) ts)[i] = ts[(fL ts.length places)[i]] := by
   have e1 : (pmT (fL ts.length places) ts)[i]? = ξ (gm ts (fL ts.length places)[i]) := by
    unfold pmT
    rw [List.getElem?_map, ei]
    rfl
   rw [List.getElem?_eq_getElem hi'] at e1
   have e2 := Option.some.inj e1
   rw [e2]
   unfold gm
   rw [List.getD_eq_getElem?_getD, List.getElem?_eq_getElem hj]
   rfl
  rw [et]
 have K := zU G (by rw [hl]; exact Aw hp) C2
 unfold ue
 cases hk : wF (pmT (fL ts.length places) ts) (bZ ts f (fL ts.length places)) (ku places).length (GL places rows) with
 | none =>
  rw [hk] at K
  intro r hr h
  exact K _ ⟨r, hr, rfl⟩ (by rw [lZ hp]; exact alK_mem.mpr h)
 | some k =>
  rw [hk] at K
  simp only at K ⊢
  have K2 := gV K (order := pK ts.length (fL ts.length places)) (by rw [hl]; exact Ab ho)
  rw [BX ho] at K2
  refine K2.congr fun r => ?_
  constructor
  ·rintro ⟨r', h', rfl⟩
   obtain ⟨x, hx, rfl⟩ := (eqS r').mp h'
   rw [← vX, yH ho (F.cl.len hx.1)]
   exact hx
  ·intro hr
   refine ⟨jQ (fL ts.length places) r, (eqS _).mpr ⟨r, hr, rfl⟩, ?_⟩
   rw [← vX, yH ho (F.cl.len hr.1)]
end
section
theorem xZ {k : List Row} : hot (wd false k) = false := by
 unfold wd
 simp only [hot, Bool.false_or]
 exact aU fun _ _ => rfl
@[simp] theorem Kf {te : BV.TE} {C : Addr} {d : Option T} : sj [] te (ξ (.exc C d [])) = ξ (.exc C d te) := rfl
def badL (pre : List Row) (bad : T) (rest : List T) : T := .nd false .lst (pre.map rowT ++ bad :: rest)
theorem Au {pre : List Row} {bad : T} {rest : List T} (hb : hot bad = false) (hr : hots rest = false) : hots (pre.map rowT ++ bad :: rest) = false := by
 refine hots_iff.mpr fun x hx => ?_
 rcases List.mem_append.mp hx with h | h
 ·exact hots_iff.mp (mq (k := pre)) x h
 ·rcases List.mem_cons.mp h with rfl | h
  ·exact hb
  ·exact hots_iff.mp hr x h
def vJ (bad : T) : T := .nd true (.xd ["row"]) [bad]
def T4 (ts : List Tab) (k d : List Row) (x y z : Option T) : BV.TE := [ξ (yJ ts), ζ, ξ (s8 k), ξ (s8 k), ξ (wd true d), x, y, z, ζ]
theorem it2 {ts : List Tab} {k d : List Row} {x y z : Option T} : kj (az (ai 2)) (T4 ts k d x y z) = ξ (.ok (k.map rowT) (T4 ts k d x y z)) := by simp [T4, s8, mq]
@[simp] theorem Hi {a : VD} {te : BV.TE} : IJ a te = bu (a te) fun t te1 => kW (Jq t) te1 := rfl
theorem jv {d n : Nat} {x : T} (h : Vl d n x) (hd : d ≤ 60) : lU x x = ξ (.pur (.bl false)) := by
 have e := om h hd
 unfold uH at e
 unfold lU
 cases hx : dT 60 x with
 | none => rw [hx] at e; cases e
 | some D =>
  rw [hx] at e
  simp only at e ⊢
  have : PyData.eqv D D = true := by
   injection e with e
   injection e with e
   injection e
  rw [this]
  rfl
theorem aC {a : VD} {as : VA} {te te1 te2 : BV.TE} {x : T} {xs : List T} (h1 : a te = ξ (.ok x te1)) (h2 : as te1 = ξ (.ok xs te2)) : aa a as te = ξ (.ok (x :: xs) te2) := by
 unfold aa
 rw [h1]
 show bu (as te1) _ = _
 rw [h2]
 rfl
theorem sq {a : VD} {te te1 : BV.TE} {t : T} (h : a te = ξ (.ok t te1)) : aL a te = ξ (.ok (frz t) te1) := by
 unfold aL
 rw [h]
 rfl
theorem Gi {xs : List T} (h : hots xs = false) : frz (.nd true .lst xs) = .nd false .lst xs := by
 simp only [frz]
 rw [frzs_of h]
end
def ky (v : Nat) : Key := .inl (v : Int)
def jA (l : Lot) : T := .nd false (.dct (l.map fun e => ky e.1)) (l.map fun e => rowT e.2)
def iM (here : List Lot) : T := .nd false .lst (here.map jA)
def oX (here : List Lot) : List (Nat × Lot) := here.flatMap fun l => l.map fun e => (e.1, l)
def uD (here : List Lot) : T := .nd false (.dct ((oX here).map fun e => ky e.1)) ((oX here).map fun e => jA e.2)
def bq (c : Cn) (ts : List Tab) (f : Fk) : T := .nd false (.ins (c.cl "Forks") ["row_kinds", "lots", "by_value"]) [.tup (ts.map (kindT c)), .nd false .lst (f.map iM), .nd false .lst (f.map uD)]
@[simp] theorem nJ {l : Lot} : hot (jA l) = false := by
  simp only [jA, iZ, Bool.false_or]
  exact aU fun _ _ => cL
@[simp] theorem um {here : List Lot} : hot (iM here) = false := by
  simp only [iM, iZ, Bool.false_or]
  exact aU fun _ _ => nJ
@[simp] theorem CN {here : List Lot} : hot (uD here) = false := by
  simp only [uD, iZ, Bool.false_or]
  exact aU fun _ _ => nJ
@[simp] theorem eZ {c : Cn} {ts : List Tab} {f : Fk} : hot (bq c ts f) = false := by
  simp only [bq, iZ, Bool.false_or, jV, fv, fY, oM, Bool.or_false]
  rw [aU fun _ _ => um, aU fun _ _ => CN]
  rfl
section
variable {c: Cn}{ts: List Tab}{S: Row → Prop}{f: Fk}{r: Row}{p v: Nat}{here: List Lot}{l: Lot}
theorem AD : lh (c.cl "Forks") "row_kinds" (bq c ts f) = ξ (.tup (ts.map (kindT c))) := by simp [lh, bq, vZ]
theorem AG : lh (c.cl "Forks") "lots" (bq c ts f) = ξ (.nd false .lst (f.map iM)) := by
 simp only [lh, bq, if_true]
 rfl
theorem CV : lh (c.cl "Forks") "by_value" (bq c ts f) = ξ (.nd false .lst (f.map uD)) := by
 simp only [lh, bq, if_true]
 rfl
theorem ky_inj {a b : Nat} : ky a = ky b ↔ a = b := by
 unfold ky
 constructor
 ·intro h
  injection h with h
  omega
 ·rintro rfl
  rfl
theorem nv {α : Type} {h : α → T} {k : α → Nat} : ∀ {l : List α}, yM (ky v) (l.map fun e => ky (k e)) (l.map h) = (l.find? fun e => decide (k e = v)).map h
 | [] => rfl
 | e :: l => by
  simp only [List.map_cons, yM, List.find?_cons]
  by_cases hk : k e = v
  ·simp [hk]
  ·rw [if_neg (fun z => hk (ky_inj.mp z))]
   simp only [hk, decide_false]
   exact nv
theorem mO : ∀ {l : Lot}, l.lookup v = (l.find? fun e => decide (e.1 = v)).map (·.2)
 | [] => rfl
 | (k, x) :: l => by
  simp only [List.lookup, List.find?_cons]
  by_cases hk : v = k
  ·subst hk; simp
  ·have hb : (v == k) = false := by simpa using hk
   have hb2 : decide (k = v) = false := by simpa using fun z => hk z.symm
   rw [hb, hb2]
   exact mO
theorem zY (h : v ∈ keys l) : u5 (jA l) (.int (v : Nat)) = ξ (.pur (rowT (bI l v))) := by
 have hm := gN h
 unfold bI at hm ⊢
 rw [mO] at hm ⊢
 have e : yM (ky v) (l.map fun e => ky e.1) (l.map fun e => rowT e.2) = (l.find? fun e => decide (e.1 = v)).map fun e => rowT e.2 := nv (k := fun e : Nat × Row => e.1)
 show (match (ξ (yM (ky v) (l.map fun e => ky e.1) (l.map fun e => rowT e.2)) : Option (Option T)) with
  | some (ξ t) => ξ (PN.pur t)
  | _ => ζ) = _
 rw [e]
 obtain ⟨x, hx, e1⟩ := List.mem_map.mp h
 cases hf : l.find? fun e => decide (e.1 = v) with
 | none =>
  have := List.find?_eq_none.mp hf x hx
  simp at this
  exact absurd e1 this
 | some y => rfl
theorem FL {neg : Bool} : BP neg (.int (v : Nat)) (jA l) = ξ (.pur (.bl ((keys l).contains v != neg))) := by
 have e : yM (ky v) (l.map fun e => ky e.1) (l.map fun e => rowT e.2) = (l.find? fun e => decide (e.1 = v)).map fun e => rowT e.2 := nv (k := fun e : Nat × Row => e.1)
 show (match (ξ (yM (ky v) (l.map fun e => ky e.1) (l.map fun e => rowT e.2)) : Option (Option T)) with
  | some o => ξ (PN.pur (.bl (o.isSome != neg)))
  | none => ζ) = _
 rw [e]
 have : ((l.find? fun e => decide (e.1 = v)).map fun e => rowT e.2).isSome = (keys l).contains v := by
  rw [Option.isSome_map]
  cases hf : l.find? fun e => decide (e.1 = v) with
  | none =>
   have h := List.find?_eq_none.mp hf
   simp only [Option.isSome_none]
   symm
   rw [← Bool.not_eq_true]
   intro hc
   have hc2 : v ∈ keys l := by simpa using hc
   obtain ⟨x, hx, e1⟩ := List.mem_map.mp hc2
   have := h x hx
   simp at this
   exact this e1
  | some y =>
   have h1 := List.find?_some hf
   have h2 := List.mem_of_find?_eq_some hf
   simp only [Option.isSome_some]
   symm
   have : y.1 ∈ keys l := jS h2
   simp at h1
   subst h1
   simpa using this
 simp only [this]
theorem qO : ∀ {here : List Lot}, ((oX here).find? fun e => decide (e.1 = v)).map (·.2) = here.find? fun l => (keys l).contains v
 | [] => rfl
 | l :: here => by
  unfold oX
  rw [List.flatMap_cons, List.find?_append, List.find?_cons]
  have ih := qO (here := here)
  unfold oX at ih
  cases hk : (keys l).contains v with
  | true =>
   have hm : v ∈ keys l := by simpa using hk
   obtain ⟨x, hx, e1⟩ := List.mem_map.mp hm
   cases hf : (l.map fun e => (e.1, l)).find? fun e => decide (e.1 = v) with
   | none =>
    have := List.find?_eq_none.mp hf (x.1, l) (List.mem_map.mpr ⟨x, hx, rfl⟩)
    simp at this
    exact absurd e1 this
   | some y =>
    obtain ⟨z, hz, rfl⟩ := List.mem_map.mp (List.mem_of_find?_eq_some hf)
    rfl
  | false =>
   have : (l.map fun e => (e.1, l)).find? (fun e => decide (e.1 = v)) = ζ := by
    rw [List.find?_eq_none]
    intro y hy
    obtain ⟨z, hz, rfl⟩ := List.mem_map.mp hy
    have : ¬ v ∈ keys l := by simpa using hk
    simp
    rintro rfl
    exact this (jS hz)
   rw [this]
   simpa using ih
theorem FJ (h : v ∈ here.flatMap keys) : u5 (uD here) (.int (v : Nat)) = ξ (.pur (jA (eB here v))) := by
 have e : yM (ky v) ((oX here).map fun e => ky e.1) ((oX here).map fun e => jA e.2) = ((oX here).find? fun e => decide (e.1 = v)).map fun e => jA e.2 := nv (k := fun e : Nat × Lot => e.1)
 show (match (ξ (yM (ky v) ((oX here).map fun e => ky e.1) ((oX here).map fun e => jA e.2)) : Option (Option T)) with
  | some (ξ t) => ξ (PN.pur t)
  | _ => ζ) = _
 rw [e]
 have e2 := qO (here := here) (v := v)
 obtain ⟨l, hl, hv⟩ := List.mem_flatMap.mp h
 unfold eB
 cases hf : here.find? fun l => (keys l).contains v with
 | none =>
  have := List.find?_eq_none.mp hf l hl
  simp at this
  exact absurd hv this
 | some y =>
  rw [hf] at e2
  cases hg : (oX here).find? fun e => decide (e.1 = v) with
  | none => rw [hg] at e2; cases e2
  | some z =>
   rw [hg] at e2
   cases e2
   rfl
theorem vB (h : p < r.length) : eP (rowT r) (.int (p : Nat)) = ξ (.pur (.int (g r p : Nat))) := gb (ts := r.map fun v => T.int (v : Nat)) rfl (by rw [List.getElem?_map, jk h]; rfl)
theorem FkOf.ixB (F : FkOf ts S f) (hp : p < ts.length) : eP (.nd false .lst (f.map uD)) (.int (p : Nat)) = ξ (.pur (uD (f.getD p []))) := gb (ts := f.map uD) rfl (by rw [List.getElem?_map, F.hat hp]; rfl)
theorem oH (F : FkOf ts S f) (hp : p < ts.length) (hr : S r) : bT c [bq c ts f, rowT r, .int (p : Nat)] = ξ (.ok (jA (aO f r p)) []) := by
 have h1 := F.occ hp hr
 simp [bT, cA, jl, CV, F.ixB hp, -List.getD_eq_getElem?_getD, vB (show p < r.length by rw [F.cl.len hr]; exact hp), FJ h1, fM]
 rfl
theorem eR {mn : Str} {V : gy} {o : VV} {as : VA} {te te1 : BV.TE} {xs : List T} {x : T} (hm : (["row_kinds", "lots", "by_value"] : List Str).contains mn = false) (ho : o te = ξ (bq c ts f)) (ha : as te = ξ (.ok xs te1)) (hV : V xs = ξ (.ok x [])) : dj (c.cl "Forks") mn V [] o as te = ξ (.ok x te1) := by
 rw [lO, ho]
 unfold bq
 simp only [hm, and_self, if_true, cY, ha, hV, si, List.length_nil, lW]
theorem gH {ms : List Bool} {n : Nat} {b : cq} {xs fs : List T} {t : T} {te : BV.TE} (hl : xs.length = ms.length) (h : b (xs.map ξ ++ List.replicate (n - ms.length) ζ) = ξ (.fl (.ret t) te)) (hf : fM ms te = ξ fs) : cA ms n b xs = ξ (.ok t fs) := by
 unfold cA
 rw [if_pos hl, h]
 simp only [hf]
theorem g9 {a b : cq} {te te1 : BV.TE} {R : Option VS} (h : a te = ξ (.fl .next te1)) (k : b te1 = R) : aX a b te = R := by
 rw [y3 h, k]
theorem kB {a : VD} {i : Nat} {x : T} {te te1 : BV.TE} (h : a te = ξ (.ok x te1)) : cb a (gName i) te = ξ (.fl .next (te1.set i (ξ x))) := by
 simp [h]
theorem lT {a : VD} {x : T} {te te1 : BV.TE} (h : a te = ξ (.ok x te1)) : bG a te = ξ (.fl (.ret x) te1) := by
 simp [h]
theorem gi {V : gy} {as : VA} {te te1 : BV.TE} {xs : List T} {x : T} (ha : as te = ξ (.ok xs te1)) (hV : V xs = ξ (.ok x [])) : bR V [] as te = ξ (.ok x te1) := by
 simp [ha, hV]
theorem vj {i : Nat} {te : BV.TE} {x : T} (h : te[i]? = ξ (ξ x)) (hc : hot x = false) : az (ai i) te = ξ (.ok x te) := by
 simp [h, hc]
theorem iq {i : Nat} {te : BV.TE} {x : T} (h : te[i]? = ξ (ξ x)) : ai i te = ξ x := by
 simp [h]
theorem aN {te : BV.TE} : aq te = ξ (.ok [] te) := rfl
theorem aV {i : Nat} {te te1 : BV.TE} {x : T} {xs : List T} {as : VA} (h : te[i]? = ξ (ξ x)) (hc : hot x = false) (k : as te = ξ (.ok xs te1)) : aa (az (ai i)) as te = ξ (.ok (x :: xs) te1) := aC (vj h hc) k
theorem wC (F : FkOf ts S f) (hn : ts.length ≤ 1000) (hp : p < ts.length) (hr : S r) (hv : v ∈ keys (aO f r p)) : dN c [bq c ts f, rowT r, .int (p : Nat), .int (v : Nat)] = ξ (.ok (rowT (bF ts f r p v)) []) := by
 obtain ⟨h1, h2⟩ := F.lot hp hr
 have L := (F.place hp).lot _ h1
 have a1 := L.mem _ (gN h2)
 have a2 := L.mem _ (gN hv)
 have hl : p < r.length := by rw [F.cl.len hr]; exact hp
 have hc := ye (c := c) (ks := .tup (ts.map (kindT c))) ml hn (F.cl.ok r hr) (F.cl.ok _ a1.1) (F.cl.ok _ a2.1)
 refine gH rfl (g9 (kB (eR (by decide) (iq rfl) (aV rfl eZ (aV rfl cL (aV rfl rfl aN))) (oH F hp hr))) (lT (gi (te1 := [ξ (bq c ts f), ξ (rowT r), ξ (.int (p : Nat)), ξ (.int (v : Nat)), ξ (jA (aO f r p))]) ?_ hc))) rfl
 simp [AD, fY, vB hl, zY h2, zY hv]
def Sq (x : T) (xs : List T) : Prop := hots xs = false ∧ (x = .tup xs ∨ x = .nd false .lst xs)
theorem Sq.cold {x : T} {xs : List T} (h : Sq x xs) : hot x = false := by
 obtain ⟨h1, rfl | rfl⟩ := h <;> simp [h1]
theorem Sq.seq {x : T} {xs : List T} (h : Sq x xs) : seqT x = ξ xs := by
 obtain ⟨h1, rfl | rfl⟩ := h <;> rfl
theorem yI {as : VA} {te te1 : BV.TE} {xs : List T} (h : as te = ξ (.ok xs te1)) (hl : xs.length ≤ sizeLine) : nV as te = ξ (.ok (.tup xs) te1) := by
 unfold nV
 rw [h]
 show (if xs.length ≤ sizeLine then ξ (VR.ok (T.tup xs) te1) else ζ) = _
 rw [if_pos hl]
theorem Sq.ix {x : T} {xs : List T} (q : Sq x xs) {t : T} (h : xs[p]? = ξ t) : eP x (.int (p : Nat)) = ξ (.pur t) ∧ hot t = false := ⟨gb q.seq h, hots_iff.mp q.1 t (List.mem_of_getElem? h)⟩
theorem Sq.row : Sq (rowT r) (r.map fun v => T.int (v : Nat)) := ⟨aU fun _ _ => rfl, .inl rfl⟩
theorem opI {g : G2} {a b : BV.VV} {x y z : T} {te : BV.TE} (ha : a te = ξ x) (hb : b te = ξ y) (h : g x y = ξ (.pur z)) : aH g a b te = ξ z := by
 simp [ha, hb, h]
theorem hU {a : BV.VV} {x : T} {te : BV.TE} (h : a te = ξ x) (hc : hot x = false) : az a te = ξ (.ok x te) := by
 simp [h, hc]
def jz (vs : List Nat) : T := .nd false .lst (vs.map fun v => T.int (v : Nat))
theorem mr {vs : List Nat} : hots (vs.map fun v : Nat => T.int (v : Nat)) = false := aU fun _ _ => rfl
@[simp] theorem qH {vs : List Nat} : hot (jz vs) = false := by simp [jz, mr]
theorem xr {n : Nat} : iS 0 n = (List.range n).map fun v : Nat => T.int (v : Nat) := by
 unfold iS
 refine List.map_congr_left fun i _ => ?_
 simp
theorem oK : ∀ {vs : List Nat}, qC (vs.map ky) = ξ (vs.map fun v : Nat => (v : Int))
 | [] => rfl
 | v :: vs => by
  show (match qC (vs.map ky) with
   | some is => ξ ((v : Int) :: is)
   | none => ζ) = _
  rw [oK]
  rfl
theorem zP : (l.map fun e => ky e.1) = (keys l).map ky := by simp [keys]
theorem yX (h : l.length < 64) : oh [jA l] = ξ (.new .lst ((dq (keys l)).map fun v => T.int (v : Nat))) := by
 show (match qC (l.map fun e => ky e.1) with
  | some is => if is.length < 64 then ξ (PN.new .lst ((jB is).map T.int)) else ζ
  | none => ζ) = _
 rw [zP, oK]
 simp only
 rw [if_pos (by simpa [keys] using h), ← n5, List.map_map]
 rfl
theorem zJ {n : Nat} {vs : List Nat} (nd : vs.Nodup) (h : ∀ v ∈ vs, v < n) : vs.length ≤ n := by
 have := (sP nd List.nodup_range fun x hx => List.mem_range.mpr (h x hx)).length_eq
 simp at this
 omega
theorem FkOf.val4 (F : FkOf ts S f) (hp : p < ts.length) (h : v ∈ (f.getD p []).flatMap keys) : v < 4 := by
 obtain ⟨h1, h2⟩ := F.rep hp h
 have := (F.cl.ok _ h1).lt hp
 have := (F.cl.good _ (List.getElem_mem hp)).le4
 omega
theorem FkOf.few (F : FkOf ts S f) (hp : p < ts.length) : ((f.getD p []).flatMap keys).length ≤ 4 := zJ (F.place hp).nd fun v h => F.val4 hp h
theorem uc : ∀ {here : List Lot} {l : Lot}, l ∈ here → l.length ≤ (here.flatMap keys).length
 | x :: here, l, h => by
  rw [List.flatMap_cons, List.length_append]
  rcases List.mem_cons.mp h with rfl | h
  ·simp [keys]
  ·have := uc h
   omega
theorem FkOf.few1 (F : FkOf ts S f) (hp : p < ts.length) (h : l ∈ f.getD p []) : l.length ≤ 4 := Nat.le_trans (uc h) (F.few hp)
theorem Cw {vs : List Nat} (h : vs.head? = ξ v) : eP (jz vs) (.int 0) = ξ (.pur (.int (v : Nat))) := by
 cases vs with
 | nil => cases h
 | cons w vs => cases h; exact gb (i := 0) (ts := (v :: vs).map fun v => T.int (v : Nat)) rfl rfl
theorem Cv {vs : List Nat} (h : vs.getLast? = ξ v) : eP (jz vs) (.int (-1)) = ξ (.pur (.int (v : Nat))) := by
 have hne : vs ≠ [] := by rintro rfl; cases h
 have hl : 0 < vs.length := List.length_pos_iff.mpr hne
 rw [List.getLast?_eq_getElem?] at h
 have e : atI (vs.map fun v => T.int (v : Nat)) (-1) = ξ (.int (v : Nat)) := by
  unfold atI ixN
  rw [if_neg (by omega), if_pos (by simp; omega)]
  simp only [Option.bind_some, List.length_map]
  rw [show ((-1 : Int) + (vs.length : Nat)).toNat = vs.length - 1 by omega, List.getElem?_map, h]
  rfl
 show (match atI (vs.map fun v => T.int (v : Nat)) (-1) with
  | some t => ξ (PN.pur t)
  | none => ζ) = _
 rw [e]
def AV (c : Cn) : cq := (aE [4, 5] (aX (cb (aL (Hu oh (aa (dj (c.cl "Forks") "lot_of" (bT c) [] (ai 0) (aa (az (ai 0)) (aa (az (ai 1)) (aa (az (ai 4)) aq)))) aq))) (gName 5))
  (aE [4, 5] (cb (dj (c.cl "Forks") "moved" (dN c) [] (ai 0) (aa (az (ai 0)) (aa (az (ai 1)) (aa (az (ai 4)) (aa (I0 (kL (ai 3)) (az (aH eP (ai 5) (qZ rB (aG (.int 1))))) (az (aH eP (ai 5) (aG (.int 0))))) aq))))) (gName 1)))))
theorem Gp {up : Bool} {b : T} (F : FkOf ts S f) (hn : ts.length ≤ 1000) (hp : p < ts.length) (hr : S r) : AV c [ξ (bq c ts f), ξ (rowT r), ξ b, ξ (.bl up), ξ (.int (p : Nat)), ζ] = ξ (.fl .next [ξ (bq c ts f), ξ (rowT (bF ts f r p (jX up (keys (aO f r p))))), ξ b, ξ (.bl up), ζ, ζ]) := by
 obtain ⟨h1, h2⟩ := F.lot hp hr
 have hne : keys (aO f r p) ≠ [] := fun e => by rw [e] at h2; simp at h2
 have h3 := (gu (up := up) hne).1
 have h4 := F.few1 hp h1
 have hs := yX (l := aO f r p) (by omega)
 have ix : ∀ te : BV.TE, te[3]? = ξ (ξ (.bl up)) → te[5]? = ξ (ξ (jz (dq (keys (aO f r p))))) → I0 (kL (ai 3)) (az (aH eP (ai 5) (qZ rB (aG (.int 1))))) (az (aH eP (ai 5) (aG (.int 0)))) te = ξ (.ok (.int (jX up (keys (aO f r p)) : Nat)) te) := fun te e3 e5 => by
  cases up
  ·simp [e3, e5, Cw (n9 hne)]
  ·simp [e3, e5, Cv (uU hne)]
 have a1 : aL (Hu oh (aa (dj (c.cl "Forks") "lot_of" (bT c) [] (ai 0) (aa (az (ai 0)) (aa (az (ai 1)) (aa (az (ai 4)) aq)))) aq)) [ξ (bq c ts f), ξ (rowT r), ξ b, ξ (.bl up), ξ (.int (p : Nat)), ζ] = ξ (.ok (jz (dq (keys (aO f r p)))) [ξ (bq c ts f), ξ (rowT r), ξ b, ξ (.bl up), ξ (.int (p : Nat)), ζ]) := by
  have m := aC (eR (mn := "lot_of") (by decide) (iq (i := 0) rfl) (aV (i := 0) rfl eZ (aV (i := 1) rfl cL (aV (i := 4) (te := [ξ (bq c ts f), ξ (rowT r), ξ b, ξ (.bl up), ξ (.int (p : Nat)), ζ]) rfl rfl aN))) (oH (c := c) F hp hr)) aN
  have : ∀ (as : VA) (te : BV.TE), as te = ξ (.ok [jA (aO f r p)] te) → Hu oh as te = ξ (.ok (.nd true .lst ((dq (keys (aO f r p))).map fun v => T.int (v : Nat))) te) := fun as te h => by simp [h, hs]
  have := sq (this _ _ m)
  rw [Gi mr] at this
  exact this
 have a2 := kB (i := 1) (eR (mn := "moved") (by decide) (iq (i := 0) rfl) (aV (i := 0) rfl eZ (aV (i := 1) rfl cL (aV (i := 4) rfl rfl (aC (ix [ξ (bq c ts f), ξ (rowT r), ξ b, ξ (.bl up), ξ (.int (p : Nat)), ξ (jz (dq (keys (aO f r p))))] rfl rfl) aN)))) (wC (c := c) F hn hp hr h3))
 exact aT (g9 (kB (i := 5) a1) (aT (zs := [4, 5]) a2))
theorem xq {b k : Nat} : iS (b : Int) (k + 1) = .int (b : Nat) :: iS ((b + 1 : Nat) : Int) k := by
 unfold iS
 rw [List.range_succ_eq_map, List.map_cons, List.map_map]
 refine congr (congrArg List.cons (by simp)) (List.map_congr_left fun i _ => ?_)
 simp
 omega
theorem uC {up : Bool} {b0 : T} (F : FkOf ts S f) (hn : ts.length ≤ 1000) : ∀ {k b : Nat} {r : Row}, b + k = ts.length → S r → cM (gName 4) (AV c) (iS (b : Int) k) [ξ (bq c ts f), ξ (rowT r), ξ b0, ξ (.bl up), ζ, ζ] = ξ (.fl .next [ξ (bq c ts f), ξ (rowT (AW ts f up b k r)), ξ b0, ξ (.bl up), ζ, ζ])
 | 0, b, r, _, _ => rfl
 | k + 1, b, r, hb, hr => by
  have hp : b < ts.length := by omega
  obtain ⟨h1, h2⟩ := F.lot hp hr
  have hne : keys (aO f r b) ≠ [] := fun e => by rw [e] at h2; simp at h2
  have h3 := (gu (up := up) hne).1
  rw [xq]
  unfold cM
  simp only [mv]
  show (match AV c [ξ (bq c ts f), ξ (rowT r), ξ b0, ξ (.bl up), ξ (.int (b : Nat)), ζ] with
   | some (.fl .next te2) => cM (gName 4) (AV c) (iS ((b + 1 : Nat) : Int) k) te2
   | some (.fl .cont te2) => cM (gName 4) (AV c) (iS ((b + 1 : Nat) : Int) k) te2
   | some (.fl .brk te2) => ξ (.fl .next te2)
   | x => x) = _
  rw [Gp F hn hp hr]
  exact uC F hn (by omega) (F.moved hp hr h3).1
theorem AX {up : Bool} {b : Nat} (F : FkOf ts S f) (hn : ts.length ≤ 1000) (hb : b ≤ ts.length) (hr : S r) : g4 c [bq c ts f, rowT r, .int (b : Nat), .bl up] = ξ (.ok (rowT (bW ts f up r b)) []) := by
 have it : yC (aa (az (ai 2)) (aa (az (bz gI (av (bx (c.cl "Forks") "row_kinds" (ai 0)) aD))) aq)) [ξ (bq c ts f), ξ (rowT r), ξ (.int (b : Nat)), ξ (.bl up), ζ, ζ] = ξ (.ok (iS (b : Int) (ts.length - b)) [ξ (bq c ts f), ξ (rowT r), ξ (.int (b : Nat)), ξ (.bl up), ζ, ζ]) := by
  have s1 : sm 1000000000000 (b : Int) = true := j8 (by omega)
  have s2 : sm 1000000000000 (ts.length : Int) = true := j8 (by omega)
  simp [yC, AD, s1, s2]
 refine gH rfl (g9 (aT ((gW it).trans (uC F hn (by omega) hr))) (lT (vj rfl cL))) rfl
end
section
variable {α: Type}{te te0 te1: BV.TE}{i: Nat}{zs: List Nat}
theorem zR {tt : VT} {elt : VD} {h k : α → T} {b : α → Bool} : ∀ {xs : List α}, (∀ x ∈ xs, tt (te0.set i (ξ (h x))) = ξ (.ok (b x) (te0.set i (ξ (h x)))) ∧ aR (te0.set i (ξ (h x))) zs = te0 ∧ (b x = true → ∃ te3, elt (te0.set i (ξ (h x))) = ξ (.ok (k x) te3) ∧ aR te3 zs = te0)) →
  jr (gName i) tt elt zs (xs.map h) te0 = ξ ((xs.filter b).map k, te0)
 | [], _ => rfl
 | x :: xs, hx => by
  obtain ⟨h1, h2, h3⟩ := hx x (by simp)
  have ih := zR (xs := xs) fun y hy => hx y (List.mem_cons_of_mem _ hy)
  rw [List.map_cons]
  unfold jr
  simp only [mv, h1]
  cases hb : b x with
  | false =>
   simp only
   rw [h2, ih, List.filter_cons_of_neg (by simp [hb])]
  | true =>
   obtain ⟨te3, e3, w3⟩ := h3 hb
   simp only [e3]
   rw [w3, ih, List.filter_cons_of_pos hb]
   rfl
theorem JT {vi : VI} {tt : VT} {elt : VD} {h k : α → T} {b : α → Bool} {xs : List α} (hi : vi te = ξ (.ok (xs.map h) te1)) (hl : xs.length ≤ 1000000) (hc : dZ te1 zs = true) (hx : ∀ x ∈ xs, tt ((aR te1 zs).set i (ξ (h x))) = ξ (.ok (b x) ((aR te1 zs).set i (ξ (h x)))) ∧ aR ((aR te1 zs).set i (ξ (h x))) zs = aR te1 zs ∧ (b x = true → ∃ te3, elt ((aR te1 zs).set i (ξ (h x))) = ξ (.ok (k x) te3) ∧ aR te3 zs = aR te1 zs)) :
  xi vi (gName i) tt elt zs te = ξ (.ok (.nd true .lst ((xs.filter b).map k)) (dO te1 (aR te1 zs) zs)) := by
 rw [nu, hi]
 simp only [cY]
 rw [if_pos (cI (by simpa using hl)), if_pos hc, zR hx]
theorem Fy {vi : VI} {elt : VD} {h k : α → T} {xs : List α} (hi : vi te = ξ (.ok (xs.map h) te1)) (hl : xs.length ≤ 1000000) (hc : dZ te1 zs = true) (hx : ∀ x ∈ xs, aR ((aR te1 zs).set i (ξ (h x))) zs = aR te1 zs ∧ ∃ te3, elt ((aR te1 zs).set i (ξ (h x))) = ξ (.ok (k x) te3) ∧ aR te3 zs = aR te1 zs) :
  xi vi (gName i) gQ elt zs te = ξ (.ok (.nd true .lst (xs.map k)) (dO te1 (aR te1 zs) zs)) := by
 have := JT (b := fun _ => true) (tt := gQ) hi hl hc fun x m => ⟨rfl, (hx x m).1, fun _ => (hx x m).2⟩
 rw [this, List.filter_eq_self.mpr fun _ _ => rfl]
theorem z0 {a : VD} {x : T} {xs : List T} (h : a te = ξ (.ok x te1)) (q : Sq x xs) : kj a te = ξ (.ok xs te1) := by
 obtain ⟨h1, rfl | rfl⟩ := q <;> simp [h, h1]
end
section
variable {ts: List Tab}{S: Row → Prop}{f: Fk}{p v: Nat}{here: List Lot}{l: Lot}
def HOk (f : Fk) : Prop := ∀ here ∈ f, (here.flatMap keys).Nodup ∧ (here.flatMap keys).length ≤ 1000
theorem FkOf.hok (F : FkOf ts S f) : HOk f := fun here hh => by
 obtain ⟨p, hp⟩ := List.getElem?_of_mem hh
 have hl : p < ts.length := by
  rw [← F.len]
  exact (List.getElem?_eq_some_iff.mp hp).1
 have e : f.getD p [] = here := by
  have := F.hat hl
  rw [hp] at this
  exact (Option.some.inj this).symm
 have h1 := (F.place hl).nd
 have h2 := F.few hl
 rw [e] at h1 h2
 exact ⟨h1, by omega⟩
theorem GJ {i : Nat} {as : VA} {te te1 : BV.TE} {x : T} {xs ys : List T} (h0 : te[i]? = ξ (ξ (.nd true .lst ys))) (ha : as te = ξ (.ok [x] te1)) (h1 : te1[i]? = ξ (ξ (.nd true .lst xs))) (hl : xs.length < 1000000) : j7 (mG "list" i5 i as) te = ξ (.fl .next (te1.set i (ξ (.nd true .lst (xs ++ [x]))))) := by
 have e : mG "list" i5 i as te = ξ (.ok .non (te1.set i (ξ (.nd true .lst (xs ++ [x]))))) := by
  rw [pT]
  simp only [uf, h0, qS, cY, ha, h1, mS]
  rw [if_pos ⟨trivial, by decide⟩, if_pos (szl hl)]
 simp only [lP, e, ra]
theorem ur {i : Nat} {te : BV.TE} {x : T} (h : te[i]? = ξ (ξ x)) : xk i te = ξ (.ok (frz x) (te.set i (ξ (frz x)))) := by
 simp [h]
theorem zT : (keys l).length = l.length := by simp [keys]
structure KF (kn : Lot) (found : List Lot) : Prop where
 nd : (keys kn).Nodup
 eq : ∀ v, v ∈ keys kn ↔ v ∈ found.flatMap keys
 lt : ∀ v ∈ keys kn, v < 4
theorem KF.len {kn : Lot} {found : List Lot} (h : KF kn found) : kn.length ≤ 4 := by
 rw [← zT]
 exact zJ h.nd h.lt
end
section
variable {v: Nat}{l: Lot}
theorem iX {t : VT} {a b : cq} {te te1 : BV.TE} {R : Option VS} (h : t te = ξ (.ok false te1)) (k : b te1 = R) : eN t a b te = R := by
 simp [h, k]
theorem nH {t : VT} {a b : cq} {te te1 : BV.TE} {R : Option VS} (h : t te = ξ (.ok true te1)) (k : a te1 = R) : eN t a b te = R := by
 simp [h, k]
theorem Bv {a b : VD} {te te1 te2 : BV.TE} {neg : Bool} (ha : a te = ξ (.ok (.int (v : Nat)) te1)) (hb : b te1 = ξ (.ok (jA l) te2)) : cE (jq (BP neg) a b) te = ξ (.ok ((keys l).contains v != neg) te2) := by
 simp only [jO, Bt, cY, ha, hb, FL, xJ, Dd]
end
section
end
section
end
section
variable {ts: List Tab}{S: Row → Prop}{f: Fk}{p: Nat}{here: List Lot}
theorem FkOf.at_ (F : FkOf ts S f) (h : here ∈ f) : ∃ p, p < ts.length ∧ PlOK S p here := by
 obtain ⟨p, hp⟩ := List.getElem?_of_mem h
 have hl : p < ts.length := by
  rw [← F.len]
  exact (List.getElem?_eq_some_iff.mp hp).1
 exact ⟨p, hl, F.pl p here hp⟩
end
section
theorem DX {as : VA} {te te1 : BV.TE} {x : T} {xs : List T} (q : Sq x xs) (h : as te = ξ (.ok [x] te1)) : Hs as te = ξ (.ok (hZ 0 xs) te1) := by
 unfold Hs
 rw [h]
 simp only [cY]
 rw [q.cold]
 obtain ⟨_, rfl | rfl⟩ := q <;> rfl
end
section
variable {c: Cn}{ts: List Tab}{S: Row → Prop}{f: Fk}{v: Nat}{here: List Lot}{l: Lot}
theorem za {a : VD} {te te1 : BV.TE} {n : Nat} (h : a te = ξ (.ok (.int (n : Nat)) te1)) (hn : n ≤ 1000000) : iH (aa a aq) te = ξ (.ok ((List.range n).map fun v : Nat => T.int (v : Nat)) te1) := by
 have hs : sm 1000000000000 (n : Int) = true := j8 (by omega)
 rw [xg]
 simp only [ki, lN, cY, h, hs, if_true]
 rw [← xr]
 simp
theorem uw {g : VG} {body : cq} {t x : T} {us : List T} {te te1 te2 : BV.TE} (h1 : g t te = ξ te1) (h2 : body te1 = ξ (.fl (.ret x) te2)) : cM g body (t :: us) te = ξ (.fl (.ret x) te2) := by
 unfold cM
 simp only [h1, h2]
theorem uW {e : Nat × Row} {es : Lot} {ls : List Lot} {hs : Fk} : n' (((e :: es) :: ls) :: hs) = e.2 := rfl
theorem uV (F : FkOf ts S f) : f9 c [bq c ts f] = ξ (.ok (rowT (n' f)) []) := by
 have hL : hots (f.map iM) = false := aU fun _ _ => um
 have it : kj (az (bx (c.cl "Forks") "lots" (ai 0))) [ξ (bq c ts f), ζ, ζ] = ξ (.ok (f.map iM) [ξ (bq c ts f), ζ, ζ]) := z0 (hU (show bx (c.cl "Forks") "lots" (ai 0) _ = ξ (.nd false .lst (f.map iM)) from AG) (by simpa using hL)) ⟨hL, .inr rfl⟩
 cases f with
 | nil =>
  have s1 := aT (zs := [0, 1, 2]) ((gW (g := gName 1) (body := (aE [1, 2] (aE [1, 2] (g8 (xj oU (az (aH eP (ai 1) (aG (.int 0))))) (gName 2) (aE [2] (bG (az (ai 2)))))))) it).trans rfl)
  have s2 : bG (az (ew aD)) [ζ, ζ, ζ] = ξ (.fl (.ret (rowT [])) [ζ, ζ, ζ]) := by
   simp [show (0 : Nat) ≤ sizeLine from cI (by decide), rowT]
  exact gH rfl (g9 s1 s2) rfl
 | cons here hs =>
  have h0 : 0 < ts.length := by rw [← F.len]; simp
  have P := F.place h0
  obtain ⟨r0, hr0⟩ := F.one
  obtain ⟨l0, hl0, _⟩ := P.cov r0 r0 hr0 hr0 Ag.refl
  have hh : (here :: hs).getD 0 [] = here := rfl
  rw [hh] at P hl0
  cases here with
  | nil => cases hl0
  | cons l ls =>
   have hne := (P.lot l (by simp)).ne
   cases l with
   | nil => exact absurd rfl hne
   | cons e es =>
    rw [uW]
    have it2 : xj oU (az (aH eP (ai 1) (aG (.int 0)))) [ξ (bq c ts (((e :: es) :: ls) :: hs)), ξ (iM ((e :: es) :: ls)), ζ] = ξ (.ok ((e :: es).map fun e => rowT e.2) [ξ (bq c ts (((e :: es) :: ls) :: hs)), ξ (iM ((e :: es) :: ls)), ζ]) := by
     have ix : aH eP (ai 1) (aG (.int 0)) [ξ (bq c ts (((e :: es) :: ls) :: hs)), ξ (iM ((e :: es) :: ls)), ζ] = ξ (jA (e :: es)) := opI (iq rfl) rfl (gb (i := 0) (ts := ((e :: es) :: ls).map jA) rfl rfl)
     have o := hU ix nJ
     unfold xj
     rw [o]
     simp only [cY, nJ, Bool.false_eq_true, if_false]
     rfl
    have f2 : g8 (xj oU (az (aH eP (ai 1) (aG (.int 0))))) (gName 2) (aE [2] (bG (az (ai 2)))) [ξ (bq c ts (((e :: es) :: ls) :: hs)), ξ (iM ((e :: es) :: ls)), ζ] = ξ (.fl (.ret (rowT e.2)) [ξ (bq c ts (((e :: es) :: ls) :: hs)), ξ (iM ((e :: es) :: ls)), ξ (rowT e.2)]) := by
     rw [gW it2, List.map_cons]
     unfold cM
     simp
    have f1 : g8 (kj (az (bx (c.cl "Forks") "lots" (ai 0)))) (gName 1) (aE [1, 2] (aE [1, 2] (g8 (xj oU (az (aH eP (ai 1) (aG (.int 0))))) (gName 2) (aE [2] (bG (az (ai 2))))))) [ξ (bq c ts (((e :: es) :: ls) :: hs)), ζ, ζ] = ξ (.fl (.ret (rowT e.2)) [ξ (bq c ts (((e :: es) :: ls) :: hs)), ξ (iM ((e :: es) :: ls)), ξ (rowT e.2)]) := by
     rw [gW it, List.map_cons]
     exact uw rfl (gO (zs := [1, 2]) (gO (zs := [1, 2]) f2))
    exact gH rfl (kP (gO f1)) rfl
end
section
end
section
def rowsT (rs : List Row) : T := .nd false .lst (rs.map rowT)
theorem iY {rs : List Row} : hots (rs.map rowT) = false := aU fun _ _ => cL
@[simp] theorem xY {rs : List Row} : hot (rowsT rs) = false := by simp [rowsT, iY]
theorem Sq.rows {rs : List Row} : Sq (rowsT rs) (rs.map rowT) := ⟨iY, .inr rfl⟩
end
section
theorem Cg {a b : BV.VV} {te : BV.TE} {i j : Nat} (ha : a te = ξ (.int (i : Nat))) (hb : b te = ξ (.int (j : Nat))) : kL (aH lU a b) te = ξ (.ok (decide (i ≠ j)) te) := by
 have : aH lU a b te = ξ (.bl (decide (i ≠ j))) := opI ha hb (by
  rw [BM]
  congr 3
  by_cases h : i = j
  ·simp [h]
  ·have h' : ¬ ((i : Int) = (j : Int)) := by omega
   simp [h, h'])
 unfold kL
 rw [this]
end
section
end
section
end
section
end
section
variable {c: Cn}{ts: List Tab}{S: Row → Prop}{f: Fk}{r: Row}{places: List Nat}{rows: List Row}
def optF (c : Cn) (ts : List Tab) : Option Fk → T
 | some f => bq c ts f
 | none => .non
@[simp] theorem An {o : Option Fk} : hot (optF c ts o) = false := by
  cases o
  · rfl
  · exact eZ
def setT (c : Cn) (ts : List Tab) (o : Option Fk) : T := .nd false (.ins (c.cl "ClosedSet") ["set_kinds", "forks"]) [.tup (ts.map (kindT c)), optF c ts o]
@[simp] theorem rW {o : Option Fk} : hot (setT c ts o) = false := by
  simp only [setT, iZ, Bool.false_or, jV, fv, fY, oM, Bool.or_false, An]
theorem AB {o : Option Fk} : lh (c.cl "ClosedSet") "set_kinds" (setT c ts o) = ξ (.tup (ts.map (kindT c))) := by
 simp only [lh, setT, if_true]
 rfl
theorem rZ {o : Option Fk} : lh (c.cl "ClosedSet") "forks" (setT c ts o) = ξ (optF c ts o) := by
 simp only [lh, setT, if_true]
 rfl
def FkOp (ts : List Tab) (S : Row → Prop) : Option Fk → Prop
 | some f => FkOf ts S f
 | none => ∀ r, ¬ S r
theorem CA {o : Option Fk} : kT (optF c ts o) .non = ξ (.pur (.bl o.isNone)) := by
 cases o <;> rfl
theorem sU {mn : Str} {V : gy} {a : BV.VV} {as : VA} {te te1 : BV.TE} {xs : List T} {x : T} {o : Option Fk} (hm : (["set_kinds", "forks"] : List Str).contains mn = false) (ho : a te = ξ (setT c ts o)) (ha : as te = ξ (.ok xs te1)) (hV : V xs = ξ (.ok x [])) : dj (c.cl "ClosedSet") mn V [] a as te = ξ (.ok x te1) := by
 rw [lO, ho]
 unfold setT
 simp only [hm, and_self, if_true, cY, ha, hV, si, List.length_nil, lW]
def Fi : Option Row → T
 | some r => rowT r
 | none => .non
@[simp] theorem J7 {o : Option Row} : hot (Fi o) = false := by
  cases o
  · rfl
  · exact cL
def JW (ts : List Tab) (places : List Nat) (rows : List Row) : Option Fk → Option Fk
 | some f => (ue ts f places rows).map (iw ts)
 | none => ζ
end
section
theorem v5 {α : Type} [DecidableEq α] : ∀ {a b : List α}, a.Nodup → (∀ x ∈ a, x ∈ b) → a.length ≤ b.length
 | [], b, _, _ => by simp
 | x :: a, b, nd, h => by
  obtain ⟨h1, h2⟩ := List.nodup_cons.mp nd
  have hx := h x (by simp)
  have ih := v5 (a := a) (b := b.erase x) h2 fun y hy => (List.mem_erase_of_ne (show y ≠ x from fun e => h1 (e ▸ hy))).mpr (h y (List.mem_cons_of_mem _ hy))
  rw [List.length_erase_of_mem hx] at ih
  have := List.length_pos_of_mem hx
  simp
  omega
end
abbrev Wk := List (Nat × Nat) × Option Nat × Row
def kK (ts : List Tab) (f : Fk) : List Nat → Nat → Row → List (Nat × Nat) → Wk
 | [], _, cur, st => (st, ζ, cur)
 | v :: vs, i, cur, st => if v ∉ keys (aO f cur i) then (st, ξ i, cur) else if v ≠ g cur i then kK ts f vs (i + 1) (bF ts f cur i v) (st ++ [(i, v)]) else kK ts f vs (i + 1) cur st
section
variable {c: Cn}{ts: List Tab}{S: Row → Prop}{f: Fk}{p v: Nat}
theorem qY (F : FkOf ts S f) {row : Row} (hr : row.length = ts.length) : ∀ {vs : List Nat} {i : Nat} {cur : Row} {st : List (Nat × Nat)}, row.drop i = vs → S cur → Ag (· < i) row cur → ((kK ts f vs i cur st).2.1 = ζ ↔ S row)
  | [], i, cur, st, hd, hc, ag => by
    have hi : row.length ≤ i := List.drop_eq_nil_iff.mp hd
    have e : row = cur := kQ (hr.trans (F.cl.len hc).symm) fun j hj => ag j (show j < i by omega)
    rw [e]
    exact ⟨fun _ => hc, fun _ => rfl⟩
  | v :: vs, i, cur, st, hd, hc, ag => by
    have hlt : i < row.length := by
      apply Classical.byContradiction
      intro hn
      rw [List.drop_eq_nil_of_le (by omega)] at hd
      cases hd
    rw [List.drop_eq_getElem_cons hlt] at hd
    injection hd with hv hvs
    have hg : g row i = v := by
      have := jk hlt
      rw [List.getElem?_eq_getElem hlt, hv] at this
      exact (Option.some.inj this).symm
    have hit : i < ts.length := by omega
    unfold kK
    by_cases hk : v ∈ keys (aO f cur i)
    · rw [if_neg (fun z => z hk)]
      obtain ⟨m1, m2, m3⟩ := F.moved hit hc hk
      by_cases hne : v ≠ g cur i
      · rw [if_pos hne]
        refine qY F hr hvs m1 fun j hj => ?_
        by_cases hj' : j = i
        · subst hj'
          rw [hg, m3]
        · have hj2 : j < i + 1 := hj
          exact (ag j (show j < i by omega)).trans (m2 j (show j < i by omega))
      · rw [if_neg hne]
        refine qY F hr hvs hc fun j hj => ?_
        by_cases hj' : j = i
        · subst hj'
          rw [hg]
          exact Classical.byContradiction hne
        · have hj2 : j < i + 1 := hj
          exact ag j (show j < i by omega)
    · rw [if_pos hk]
      refine ⟨fun h => (by cases h), fun h => absurd ((F.class hit hc).mpr ⟨row, h, ag.symm, hg⟩) hk⟩
def v8 (st : List (Nat × Nat)) : List T := st.map fun e => T.tup [.int (e.1 : Nat), .int (e.2 : Nat)]
theorem uj {st : List (Nat × Nat)} : hots (v8 st) = false := aU fun _ _ => rfl
def KH (c : Cn) : cq := (aE [4, 5] (aX (eN (cE (jq (BP true) (az (ai 5)) (dj (c.cl "Forks") "lot_of" (bT c) [] (bx (c.cl "ClosedSet") "forks" (ai 0)) (aa (az (bx (c.cl "ClosedSet") "forks" (ai 0))) (aa (az (ai 2)) (aa (az (ai 4)) aq)))))) (bG (nV (aa (xk 3) (aa (az (ai 4)) (aa (az (ai 2)) aq))))) bO)
  (aE [4, 5] (eN (kL (aH lU (ai 5) (aH eP (ai 2) (ai 4)))) (aX (cb (dj (c.cl "Forks") "moved" (dN c) [] (bx (c.cl "ClosedSet") "forks" (ai 0)) (aa (az (bx (c.cl "ClosedSet") "forks" (ai 0))) (aa (az (ai 2)) (aa (az (ai 4)) (aa (az (ai 5)) aq))))) (gName 2))
  (aE [4, 5] (j7 (mG "list" i5 3 (aa (az (ew (av (ai 4) (av (ai 5) aD)))) aq))))) bO))))
def pB (c : Cn) (ts : List Tab) (f : Fk) (row : T) (cur : Row) (st : List (Nat × Nat)) (x y : Option T) : BV.TE := [ξ (setT c ts (ξ f)), ξ row, ξ (rowT cur), ξ (.nd true .lst (v8 st)), x, y]
theorem CW {row : T} {cur : Row} {st : List (Nat × Nat)} {x y : Option T} : bx (c.cl "ClosedSet") "forks" (ai 0) (pB c ts f row cur st x y) = ξ (bq c ts f) := rZ
theorem Iv {row : T} {cur : Row} {st : List (Nat × Nat)} (F : FkOf ts S f) (hn : ts.length ≤ 900) (hp : p < ts.length) (hc : S cur) (hl : st.length ≤ 1000) :
    if v ∉ keys (aO f cur p) then ∃ te', KH c (pB c ts f row cur st (ξ (.int (p : Nat))) (ξ (.int (v : Nat)))) = ξ (.fl (.ret (.tup [.nd false .lst (v8 st), .int (p : Nat), rowT cur])) te') ∧ te'.length = 6
    else if v ≠ g cur p then KH c (pB c ts f row cur st (ξ (.int (p : Nat))) (ξ (.int (v : Nat)))) = ξ (.fl .next (pB c ts f row (bF ts f cur p v) (st ++ [(p, v)]) ζ ζ))
    else KH c (pB c ts f row cur st (ξ (.int (p : Nat))) (ξ (.int (v : Nat)))) = ξ (.fl .next (pB c ts f row cur st ζ ζ)) := by
  have hcl : p < cur.length := by rw [F.cl.len hc]; exact hp
  have lo := eR (mn := "lot_of") (by decide) (CW (row := row) (cur := cur) (st := st) (x := ξ (.int (p : Nat))) (y := ξ (.int (v : Nat)))) (aC (hU CW eZ) (aV (i := 2) rfl cL (aV (i := 4) rfl rfl aN))) (oH (c := c) F hp hc)
  have tst := Bv (neg := true) (v := v) (vj (i := 5) (te := pB c ts f row cur st (ξ (.int (p : Nat))) (ξ (.int (v : Nat)))) rfl rfl) lo
  by_cases hk : v ∈ keys (aO f cur p)
  · rw [if_neg (fun z => z hk)]
    have ht : ((keys (aO f cur p)).contains v != true) = false := by simp [hk]
    rw [ht] at tst
    have s1 := iX (a := bG (nV (aa (xk 3) (aa (az (ai 4)) (aa (az (ai 2)) aq))))) (b := bO) tst rfl
    have t2 := Cg (a := ai 5) (b := aH eP (ai 2) (ai 4)) (te := pB c ts f row cur st (ξ (.int (p : Nat))) (ξ (.int (v : Nat)))) (i := v) (j := g cur p) (iq rfl) (opI (iq rfl) (iq rfl) (vB hcl))
    by_cases hne : v ≠ g cur p
    · rw [if_pos hne]
      rw [decide_eq_true hne] at t2
      have s2 := kB (i := 2) (eR (mn := "moved") (by decide) (CW (row := row) (cur := cur) (st := st) (x := ξ (.int (p : Nat))) (y := ξ (.int (v : Nat)))) (aC (hU CW eZ) (aV (i := 2) rfl cL (aV (i := 4) rfl rfl (aV (i := 5) rfl rfl aN)))) (wC (c := c) F (by omega) hp hc hk))
      have tp : az (ew (av (ai 4) (av (ai 5) aD))) (pB c ts f row (bF ts f cur p v) st (ξ (.int (p : Nat))) (ξ (.int (v : Nat)))) = ξ (.ok (.tup [.int (p : Nat), .int (v : Nat)]) (pB c ts f row (bF ts f cur p v) st (ξ (.int (p : Nat))) (ξ (.int (v : Nat))))) := by
        have z2 : (2 : Nat) ≤ sizeLine := cI (by decide)
        simp [pB, z2]
      have s3 := aT (zs := [4, 5]) (GJ (i := 3) (xs := v8 st) (ys := v8 st) rfl (aC tp aN) rfl (by simp [v8]; omega))
      have hs : v8 (st ++ [(p, v)]) = v8 st ++ [.tup [.int (p : Nat), .int (v : Nat)]] := by simp [v8]
      unfold pB
      rw [hs]
      exact aT (zs := [4, 5]) (g9 s1 (aT (zs := [4, 5]) (nH (b := bO) t2 (g9 s2 s3))))
    · rw [if_neg hne]
      rw [decide_eq_false hne] at t2
      exact aT (zs := [4, 5]) (g9 s1 (aT (zs := [4, 5]) (iX (b := bO) t2 rfl)))
  · rw [if_pos hk]
    have ht : ((keys (aO f cur p)).contains v != true) = true := by simp [hk]
    rw [ht] at tst
    have fz := ur (i := 3) (te := pB c ts f row cur st (ξ (.int (p : Nat))) (ξ (.int (v : Nat)))) rfl
    rw [Gi uj] at fz
    have tu := yI (aC fz (aV (i := 4) rfl rfl (aV (i := 2) rfl cL aN))) (cI (by simp))
    exact ⟨_, gO (kP (nH (b := bO) tst (lT tu))), rfl⟩
end
section
variable {c: Cn}{ts: List Tab}{S: Row → Prop}{f: Fk}{r: Row}{v: Nat}
def Kw (c : Cn) (ts : List Tab) (f : Fk) (row : T) (w : Wk) (x : Option VS) : Prop := match w.2.1 with
 | none => x = ξ (.fl .next (pB c ts f row w.2.2 w.1 ζ ζ))
 | some k => ∃ te', x = ξ (.fl (.ret (.tup [.nd false .lst (v8 w.1), .int (k : Nat), rowT w.2.2])) te') ∧ te'.length = 6
theorem oQ {g : VG} {body : cq} {t : T} {us : List T} {te te1 te2 : BV.TE} (h1 : g t te = ξ te1) (h2 : body te1 = ξ (.fl .next te2)) : cM g body (t :: us) te = cM g body us te2 := by
 rw [cM]
 simp only [h1, h2]
theorem qX {row : T} (F : FkOf ts S f) (hn : ts.length ≤ 900) : ∀ {vs : List Nat} {i : Nat} {cur : Row} {st : List (Nat × Nat)}, i + vs.length = ts.length → S cur → st.length ≤ i → Kw c ts f row (kK ts f vs i cur st) (cM (jE 2 (bw (gName 4) (bw (gName 5) gF))) (KH c) (hZ i (vs.map fun v => T.int (v : Nat))) (pB c ts f row cur st ζ ζ))
 | [], i, cur, st, _, _, _ => rfl
 | v :: vs, i, cur, st, hi, hc, hs => by
  rw [List.length_cons] at hi
  have hit : i < ts.length := by omega
  have turn := Iv (c := c) (row := row) (v := v) (st := st) F hn hit hc (by omega)
  have hg : jE 2 (bw (gName 4) (bw (gName 5) gF)) (.tup [.int (i : Nat), .int (v : Nat)]) (pB c ts f row cur st ζ ζ) = ξ (pB c ts f row cur st (ξ (.int (i : Nat))) (ξ (.int (v : Nat)))) := by
   simp [pB]
  rw [List.map_cons, hZ, kK]
  by_cases hk : v ∉ keys (aO f cur i)
  ·rw [if_pos hk] at turn ⊢
   obtain ⟨te', e, l⟩ := turn
   exact ⟨te', uw hg e, l⟩
  ·rw [if_neg hk] at turn ⊢
   have hk' : v ∈ keys (aO f cur i) := Classical.byContradiction hk
   by_cases hne : v ≠ g cur i
   ·rw [if_pos hne] at turn ⊢
    rw [oQ hg turn]
    exact qX F hn (by omega) (F.moved hit hc hk').1 (by simp; omega)
   ·rw [if_neg hne] at turn ⊢
    rw [oQ hg turn]
    exact qX F hn (by omega) hc (by omega)
def Ca : Option Nat → T
 | some k => .int (k : Nat)
 | none => .non
def Bp (ts : List Tab) (f : Fk) (r : Row) : Wk := kK ts f r 0 (bW ts f false (n' f) 0) []
theorem En (ok : CnOk c) (F : FkOf ts S f) (hn : ts.length ≤ 900) (hr : RowOK ts r) : eh c [setT c ts (ξ f), rowT r] = ξ (.ok (.tup [.nd false .lst (v8 (Bp ts f r).1), Ca (Bp ts f r).2.1, rowT (Bp ts f r).2.2]) []) := by
 have ir := ug ok (ml (c := c) (ts := ts)) (by omega) (x := rowT r) Dat.row.elt Dat.row.kids
 rw [qc hr] at ir
 generalize hte : [ξ (setT c ts (ξ f)), ξ (rowT r), ζ, ζ, ζ, ζ] = te
 have sk : bx (c.cl "ClosedSet") "set_kinds" (ai 0) te = ξ (.tup (ts.map (kindT c))) := by subst hte; exact AB
 have fk : bx (c.cl "ClosedSet") "forks" (ai 0) te = ξ (bq c ts f) := by subst hte; exact rZ
 have w1 : te[1]? = ξ (ξ (rowT r)) := by subst hte; rfl
 have c1 := gi (te := te) (aC (hU sk (by simp [fY])) (aV w1 cL aN)) ir
 have t1 : fm (cE (bR (fD c) [] (aa (az (bx (c.cl "ClosedSet") "set_kinds" (ai 0))) (aa (az (ai 1)) aq)))) te = ξ (.ok false te) := by
  rw [lM, jO, c1]
  rfl
 have s1 := iX (a := rj) (b := bO) t1 rfl
 have t2 : kL (aH kT (bx (c.cl "ClosedSet") "forks" (ai 0)) (aG .non)) te = ξ (.ok false te) := by
  have : aH kT (bx (c.cl "ClosedSet") "forks" (ai 0)) (aG .non) te = ξ (.bl false) := opI fk rfl rfl
  unfold kL
  rw [this]
 have s2 := iX (a := rj) (b := bO) t2 rfl
 have sr := eR (mn := "some_row") (by decide) fk (aC (hU fk eZ) aN) (uV (c := c) F)
 have dr := eR (mn := "driven") (by decide) fk (aC (hU fk eZ) (aC sr (aC (hU (show aG (.int 0) te = ξ (.int ((0 : Nat) : Int)) from rfl) rfl) (aC (hU (show aG (.bl false) te = ξ (.bl false) from rfl) rfl) aN)))) (AX (c := c) (up := false) (b := 0) F (by omega) (by omega) (kO F))
 have s3 := kB (i := 2) dr
 have hcur := (gr (up := false) F (b := 0) (by omega) (kO F)).1
 generalize hcu : bW ts f false (n' f) 0 = cur at s3 hcur
 have s4 : cb (cg aq) (gName 3) [ξ (setT c ts (ξ f)), ξ (rowT r), ξ (rowT cur), ζ, ζ, ζ] = ξ (.fl .next (pB c ts f (rowT r) cur [] ζ ζ)) := by
  simp [show (0 : Nat) ≤ sizeLine from cI (by decide), pB, v8]
 have it := DX (Sq.row (r := r)) (aV (i := 1) (te := pB c ts f (rowT r) cur [] ζ ζ) rfl cL aN)
 have lp := qX (c := c) (row := rowT r) F hn (vs := r) (i := 0) (cur := cur) (st := []) (by rw [hr.1]; omega) hcur (by simp)
 have hw : Bp ts f r = kK ts f r 0 cur [] := by unfold Bp; rw [hcu]
 rw [hw]
 generalize kK ts f r 0 cur [] = w at lp
 obtain ⟨st, k, cu⟩ := w
 subst hte
 cases k with
 | none =>
  have lp : cM _ _ _ _ = _ := lp
  have s5 := aT (zs := [0, 1, 4, 5]) ((gW it).trans lp)
  have fz := ur (i := 3) (te := [ζ, ζ, ξ (rowT cu), ξ (.nd true .lst (v8 st)), ζ, ζ]) rfl
  rw [Gi uj] at fz
  have tu := yI (aC fz (aC (hU (show aG .non [ζ, ζ, ξ (rowT cu), ξ (.nd false .lst (v8 st)), ζ, ζ] = ξ .non from rfl) rfl) (aV (i := 2) rfl cL aN))) (cI (by simp))
  exact gH rfl (g9 s1 (g9 s2 (g9 s3 (g9 s4 (g9 s5 (lT tu)))))) rfl
 | some k =>
  obtain ⟨te', e, l⟩ := lp
  have s5 := gO (zs := [0, 1, 4, 5]) ((gW it).trans e)
  refine gH rfl (g9 s1 (g9 s2 (g9 s3 (g9 s4 (kP s5))))) ?_
  match te', l with
  | [a, b, d, e, f, g], _ => rfl
theorem J' (ok : CnOk c) (F : FkOf ts S f) (hn : ts.length ≤ 900) (hr : RowOK ts r) : V_ClosedSet_has c [setT c ts (ξ f), rowT r] = ξ (.ok (.bl (Bp ts f r).2.1.isNone) []) := by
 have ir := ug ok (ml (c := c) (ts := ts)) (by omega) (x := rowT r) Dat.row.elt Dat.row.kids
 rw [qc hr] at ir
 generalize hte : [ξ (setT c ts (ξ f)), ξ (rowT r), ζ, ζ, ζ] = te
 have sk : bx (c.cl "ClosedSet") "set_kinds" (ai 0) te = ξ (.tup (ts.map (kindT c))) := by subst hte; exact AB
 have fk : bx (c.cl "ClosedSet") "forks" (ai 0) te = ξ (bq c ts f) := by subst hte; exact rZ
 have w0 : te[0]? = ξ (ξ (setT c ts (ξ f))) := by subst hte; rfl
 have w1 : te[1]? = ξ (ξ (rowT r)) := by subst hte; rfl
 have c1 := gi (te := te) (aC (hU sk (by simp [fY])) (aV w1 cL aN)) ir
 have t1 : fm (cE (bR (fD c) [] (aa (az (bx (c.cl "ClosedSet") "set_kinds" (ai 0))) (aa (az (ai 1)) aq)))) te = ξ (.ok false te) := by
  rw [lM, jO, c1]
  rfl
 have t2 : kL (aH kT (bx (c.cl "ClosedSet") "forks" (ai 0)) (aG .non)) te = ξ (.ok false te) := by
  have : aH kT (bx (c.cl "ClosedSet") "forks" (ai 0)) (aG .non) te = ξ (.bl false) := opI fk rfl rfl
  unfold kL
  rw [this]
 have t3 : kh (kL (aH kT (bx (c.cl "ClosedSet") "forks" (ai 0)) (aG .non))) (fm (cE (bR (fD c) [] (aa (az (bx (c.cl "ClosedSet") "set_kinds" (ai 0))) (aa (az (ai 1)) aq))))) te = ξ (.ok false te) := by
  rw [nT, t2]
  exact t1
 have s1 := iX (a := bG (az (aG (.bl false)))) (b := bO) t3 rfl
 have m := sU (mn := "walk") (by decide) (iq w0) (aV w0 rW (aV w1 cL aN)) (En (c := c) ok F hn hr)
 generalize Bp ts f r = w at m
 obtain ⟨st, k, cu⟩ := w
 subst hte
 have s2 : aE [0, 1, 2, 4] (cb (dj (c.cl "ClosedSet") "walk" (eh c) [] (ai 0) (aa (az (ai 0)) (aa (az (ai 1)) aq))) (jE 3 (bw (gName 2) (bw (gName 3) (bw (gName 4) gF))))) [ξ (setT c ts (ξ f)), ξ (rowT r), ζ, ζ, ζ] = ξ (.fl .next [ζ, ζ, ζ, ξ (Ca k), ζ]) := by
  have gen : ∀ (a : VD) (te : BV.TE) (x y z : T), te.length = 5 → a te = ξ (.ok (.tup [x, y, z]) te) → ∃ te1, cb a (jE 3 (bw (gName 2) (bw (gName 3) (bw (gName 4) gF)))) te = ξ (.fl .next te1) ∧ te1 = ((te.set 2 (ξ x)).set 3 (ξ y)).set 4 (ξ z) := fun a te x y z _ h => ⟨_, by simp [h], rfl⟩
  obtain ⟨te1, e1, e2⟩ := gen _ _ _ _ _ rfl m
  rw [aT e1, e2]
  rfl
 have t5 : aH kT (ai 3) (aG .non) [ζ, ζ, ζ, ξ (Ca k), ζ] = ξ (.bl k.isNone) := by
  cases k <;> rfl
 exact gH rfl (g9 s1 (g9 s2 (lT (hU t5 rfl)))) rfl
end
section
end
section
variable {ts: List Tab}{S: Row → Prop}{places: List Nat}{x y z r: Row}
theorem DL (hp : ∀ p ∈ places, p < ts.length) {i : Nat} (hi : i < places.length) : gm (pmT places ts) i = gm ts places[i] := by
 unfold pmT gm
 rw [List.getD_eq_getElem?_getD, List.getElem?_map, List.getElem?_eq_getElem hi]
 rfl
theorem u9 (hp : ∀ p ∈ places, p < ts.length) (h : RowOK ts r) : RowOK (pmT places ts) (jQ places r) := by
 refine EC (by simp [jQ, pmT]) fun i hi => ?_
 have hi' : i < places.length := by simpa [pmT] using hi
 rw [DL hp hi', cZ (List.getElem?_eq_getElem hi')]
 exact h.at2 (hp _ (List.getElem_mem hi'))
theorem wN (hx : RowOK ts x) (hy : RowOK ts y) (hz : RowOK ts z) {i : Nat} (hi : i < ts.length) : g (comb ts x y z) i = (gm ts i).2 (g x i) (g y i) (g z i) := by
 rw [oO hx hy hz hi]
 unfold gm
 rw [List.getD_eq_getElem?_getD, List.getElem?_eq_getElem hi]
 rfl
theorem BW (hp : ∀ p ∈ places, p < ts.length) (hx : RowOK ts x) (hy : RowOK ts y) (hz : RowOK ts z) : comb (pmT places ts) (jQ places x) (jQ places y) (jQ places z) = jQ places (comb ts x y z) := by
 refine kQ (by rw [fC]; simp [jQ, pmT]) fun i hi => ?_
 rw [fC] at hi
 have hi' : i < places.length := by simpa [pmT] using hi
 have hj := hp _ (List.getElem_mem hi')
 have e := List.getElem?_eq_getElem hi'
 rw [wN (u9 hp hx) (u9 hp hy) (u9 hp hz) hi, DL hp hi', cZ e, cZ e, cZ e, cZ e, wN hx hy hz hj]
structure LimOK (ts : List Tab) (l : List Nat × List Row) : Prop where
 pl : ∀ p ∈ l.1, p < ts.length
 len : l.1.length ≤ 3
 row : ∀ r ∈ l.2, RowOK (pmT l.1 ts) r
 few : l.2.length < 64
 clo : ∀ x y z, x ∈ l.2 → y ∈ l.2 → z ∈ l.2 → comb (pmT l.1 ts) x y z ∈ l.2
theorem LimOK.cl {l : List Nat × List Row} (L : LimOK ts l) (C : Cl ts S) : Cl ts fun r => S r ∧ l.1.map (g r) ∈ l.2 := ⟨C.good, fun r h => C.ok r h.1, fun x y z hx hy hz => ⟨C.clo x y z hx.1 hy.1 hz.1, by
 have e := BW (places := l.1) L.pl (C.ok x hx.1) (C.ok y hy.1) (C.ok z hz.1)
 have := L.clo _ _ _ hx.2 hy.2 hz.2
 have e2 : comb (pmT l.1 ts) (l.1.map (g x)) (l.1.map (g y)) (l.1.map (g z)) = l.1.map (g (comb ts x y z)) := e
 rw [← e2]
 exact this⟩⟩
end
section
abbrev Kz := List Nat × List Row
def Cm (l : Kz) : T := .tup [jz l.1, rowsT l.2]
@[simp] theorem CK {l : Kz} : hot (Cm l) = false := by simp [Cm]
end
section
def DQ (ls : List Kz) : T := .nd false .lst (ls.map Cm)
theorem xW {ls : List Kz} : hots (ls.map Cm) = false := aU fun _ _ => CK
@[simp] theorem J9 {ls : List Kz} : hot (DQ ls) = false := by simp [DQ, xW]
end
inductive Gen (ts : List Tab) (rs : List Row) : Row → Prop
 | base {r : Row} : r ∈ rs → Gen ts rs r
 | comb {x y z : Row} : Gen ts rs x → Gen ts rs y → Gen ts rs z → Gen ts rs (comb ts x y z)
section
variable {ts: List Tab}{rs: List Row}{r: Row}
theorem Gen.ok (good : ∀ t ∈ ts, GoodT t) (hr : ∀ r ∈ rs, RowOK ts r) (h : Gen ts rs r) : RowOK ts r := by
 induction h with
 | base h => exact hr _ h
 | comb _ _ _ a b d => exact C4 good a b d
structure Clo (ts : List Tab) (rs k : List Row) : Prop where
 nd : k.Nodup
 gen : ∀ r ∈ k, Gen ts rs r
 sub : ∀ r ∈ rs, r ∈ k
 clo : ∀ x y z, x ∈ k → y ∈ k → z ∈ k → comb ts x y z ∈ k
end
section
theorem yU {V : gy} {i : Nat} {as : VA} {te te1 : BV.TE} {s s1 s' x : T} {xs : List T} (h0 : te[i]? = ξ (ξ s)) (ha : as te = ξ (.ok xs te1)) (h1 : te1[i]? = ξ (ξ s1)) (hV : V (s1 :: xs) = ξ (.ok x [s'])) : bR V [i] (mF i as) te = ξ (.ok x (te1.set i (ξ s'))) := by
 simp [h0, ha, h1, hV]
theorem ve {G : G2} {a b : VD} {te te1 te2 : BV.TE} {x y z : T} (h1 : a te = ξ (.ok x te1)) (h2 : b te1 = ξ (.ok y te2)) (h3 : G x y = ξ (.pur z)) : jq G a b te = ξ (.ok z te2) := by
 simp [h1, h2, h3]
theorem Fw {α : Type} {enc : α → T} {P : α → Prop} {cost n k v : Nat} {zs : List Nat} {mk : T → BV.TE} {e elt : VD} {te : BV.TE} {s1 : T}
  (he : e te = ξ (.ok (.int (k : Nat)) (mk s1))) (hs : Src (n + cost * k) s1) (hk : k ≤ 1000000)
  (hc : dZ (mk s1) zs = true) (hw : ∀ s, aR (mk s) zs = mk s) (hr : ∀ s s', dO (mk s) (mk s') zs = mk s')
  (step : ∀ (m : Nat) (s : T) (i : Nat), Src (m + cost) s → ∃ x s' te3, elt ((mk s).set v (ξ (.int (i : Nat)))) = ξ (.ok (enc x) te3) ∧ aR te3 zs = mk s' ∧ P x ∧ Src m s') :
  ∃ (xs : List α) (s' : T), xi (iH (aa e aq)) (gName v) gQ elt zs te = ξ (.ok (.nd true .lst (xs.map enc)) (mk s')) ∧ xs.length = k ∧ (∀ x ∈ xs, P x) ∧ Src n s' := by
 obtain ⟨ys, te2, e2, xs, s2, rfl, hl, hp, hs2, rfl⟩ := ED (v := v) (zs := zs) (e := e) (n := k) (elt := elt) (te := te) (te1 := mk s1)
  (fun i ys te => ∃ (xs : List α) (s' : T), ys = xs.map enc ∧ xs.length = i ∧ (∀ x ∈ xs, P x) ∧ Src (n + cost * (k - i)) s' ∧ te = mk s') he hk hc ⟨[], s1, rfl, rfl, by simp, by simpa using hs, hw s1⟩ (fun i ys te hi hI => by
   obtain ⟨xs, s', rfl, hl, hp, hs', rfl⟩ := hI
   have e1 : k - i = (k - (i + 1)) + 1 := by omega
   rw [e1, Nat.mul_succ, ← Nat.add_assoc] at hs'
   obtain ⟨x, s3, te3, e3, w3, p3, hs3⟩ := step _ s' i hs'
   refine ⟨enc x, te3, e3, xs ++ [x], s3, by simp, by simp [hl], fun q hq => ?_, hs3, w3⟩
   rcases List.mem_append.mp hq with h | h
   ·exact hp q h
   ·simp at h
    subst h
    exact p3)
 refine ⟨xs, s2, ?_, hl, hp, by simpa using hs2⟩
 rw [e2, hr]
end
section
variable {te te1: BV.TE}
theorem jP {a : VD} {b : Bool} (h : a te = ξ (.ok (.bl b) te1)) : cE a te = ξ (.ok b te1) := by
 rw [jO, h]
 rfl
end
section
def lt1 : Row → Row → Prop
 | a :: x, b :: y => a < b ∨ (a = b ∧ lt1 x y)
 | _, _ => False
end
section
variable {ts: List Tab}
variable {S: Row → Prop}
theorem Bo {f : Fk} {r : Row} (F : FkOf ts S f) (hr : r.length = ts.length) : (Bp ts f r).2.1.isNone = true ↔ S r := by
 have h := qY F hr (vs := r) (i := 0) (cur := bW ts f false (n' f) 0) (st := []) (by simp) (gr (up := false) F (b := 0) (by omega) (kO F)).1 (fun i hi => absurd hi (by omega))
 rw [Option.isNone_iff_eq_none]
 exact h
theorem mw {v : Nat} {body : cq} {te : BV.TE} : ∀ {us : List T}, (∀ t ∈ us, body (te.set v (ξ t)) = ξ (.fl .next te)) → cM (gName v) body us te = ξ (.fl .next te)
 | [], _ => rfl
 | t :: us, h => by
  rw [cM]
  simp only [mv, h t (by simp)]
  exact mw fun t ht => h t (List.mem_cons_of_mem _ ht)
end
section
theorem JM {a b : VT} {te te1 : BV.TE} {R : Option (VR Bool)} (h : a te = ξ (.ok false te1)) (k : b te1 = R) : kh a b te = R := by
 rw [nT, h]
 exact k
theorem Fh {a b : VT} {te te1 : BV.TE} (h : a te = ξ (.ok true te1)) : kh a b te = ξ (.ok true te1) := by
 rw [nT, h]
 rfl
theorem rH {a : VT} {te te1 : BV.TE} {b : Bool} (h : a te = ξ (.ok b te1)) : fm a te = ξ (.ok (!b) te1) := by
 rw [lM, h]
 rfl
def Kl (rs : List Row) : T := .nd false .lst [Fi rs.head?, Fi rs.getLast?]
@[simp] theorem Li {rs : List Row} : hot (Kl rs) = false := by simp [Kl]
end
section
variable {c: Cn}{ts: List Tab}{S: Row → Prop}
theorem Gf (ok : CnOk c) {o : Option Fk} {rs : List Row} {r : Row} (F : FkOp ts S o) (hn : ts.length ≤ 900) (hm : ∀ r, r ∈ rs ↔ S r) (hr : RowOK ts r) : V_ClosedSet_has c [setT c ts o, rowT r] = ξ (.ok (.bl (decide (r ∈ rs))) []) := by
 cases o with
 | none =>
  have t2 : kL (aH kT (bx (c.cl "ClosedSet") "forks" (ai 0)) (aG .non)) [ξ (setT c ts ζ), ξ (rowT r), ζ, ζ, ζ] = ξ (.ok true [ξ (setT c ts ζ), ξ (rowT r), ζ, ζ, ζ]) := by
   have : aH kT (bx (c.cl "ClosedSet") "forks" (ai 0)) (aG .non) [ξ (setT c ts ζ), ξ (rowT r), ζ, ζ, ζ] = ξ (.bl true) := opI rZ rfl (CA (o := ζ))
   unfold kL
   rw [this]
  rw [decide_eq_false fun h => F r ((hm r).mp h)]
  exact gH rfl (kP (nH (Fh t2) (lT (hU rfl rfl)))) rfl
 | some f =>
  have h := J' (c := c) ok F hn hr
  have e : (Bp ts f r).2.1.isNone = decide (r ∈ rs) := by
   have := Bo F hr.1
   rw [← hm] at this
   by_cases hh : r ∈ rs
   ·rw [this.mpr hh, decide_eq_true hh]
   ·rw [decide_eq_false hh, ← Bool.not_eq_true]
    exact fun z => hh (this.mp z)
  rw [e] at h
  exact h
structure NoR (ts : List Tab) (x : T) : Prop where
 vl : Vl 5 100000 x
 no : isRowB ts x = false
theorem NoR.cold {x : T} (h : NoR ts x) : hot x = false := h.vl.cold
theorem NoR.len {xs : List T} (h : Vl 5 100000 (.tup xs)) (hl : xs.length ≠ ts.length) : NoR ts (.tup xs) := ⟨h, by
 show s9 ts xs = false
 unfold s9
 rw [beq_eq_false_iff_ne.mpr hl]
 rfl⟩
end
section
variable {ts: List Tab}{rs: List Row}
@[simp] theorem FY {k : List Row} : hot (wd false k) = false := xZ
structure CloS (ts : List Tab) (rs k : List Row) : Prop extends Clo ts rs k where
 srt : k.Pairwise lt1
end
section
end
section
end
section
end
section
end
section
variable {ts: List Tab}{rs: List Row}
theorem CloS.ok {k : List Row} (h : CloS ts rs k) (good : ∀ t ∈ ts, GoodT t) (hr : ∀ r ∈ rs, RowOK ts r) : ∀ r ∈ k, RowOK ts r := fun r hk => (h.gen r hk).ok good hr
end
end QP
end
section
set_option exponentiation.threshold 2000
namespace QP
open PySem hiding Env
open L2 hiding TE gName
open SB BV KV
section
end
end QP
end
section
namespace QP
open PySem hiding Env
open L2 hiding TE gName
open SB BV KV
section
def zq (P : List Row) : T := .tup (P.map rowT)
@[simp] theorem Ge {P : List Row} : hot (zq P) = false := by simp [zq, iY]
end
section
end
section
end
section
end
section
end
section
end
section
variable {S: Row → Prop}{p: Nat}{here here': List Lot}{l l': Lot}
theorem CO {r : Row} {i : Nat} (hp : p < r.length) : g (fr p r) i = g r (if i = 0 then p else if i ≤ p then i - 1 else i) := by
 have e2 : fr p r = r[p] :: (r.take p ++ r.drop (p + 1)) := by
  unfold fr
  rw [List.getElem?_eq_getElem hp]
  rfl
 have ht : (r.take p).length = p := by rw [List.length_take]; omega
 rw [e2]
 unfold g
 cases i with
 | zero =>
  rw [if_pos rfl, List.getD_eq_getElem?_getD, List.getD_eq_getElem?_getD, List.getElem?_eq_getElem hp]
  rfl
 | succ j =>
  rw [if_neg (by omega), List.getD_eq_getElem?_getD, List.getD_eq_getElem?_getD, List.getElem?_cons_succ]
  by_cases hj : j + 1 ≤ p
  ·rw [if_pos hj, List.getElem?_append_left (by omega), List.getElem?_take, if_pos (by omega)]
   rfl
  ·rw [if_neg hj, List.getElem?_append_right (by omega), ht, List.getElem?_drop]
   rw [show p + 1 + (j - p) = j + 1 by omega]
theorem Gk {r : Row} (hp : p < r.length) : (fr p r).length = r.length := (wO hp).length_eq
theorem Ky {a b : Row} (hl : a.length = b.length) (hp : p < a.length) (e : g a p = g b p) (h : Lx (fr p a) (fr p b)) : Lx a b := by
  obtain ⟨k, hk, ag, lt⟩ := h
  rw [Gk hp] at hk
  rw [CO hp, CO (show p < b.length by omega)] at lt
  have ag' : ∀ i, i < k → g a (if i = 0 then p else if i ≤ p then i - 1 else i) = g b (if i = 0 then p else if i ≤ p then i - 1 else i) := fun i hi => by
    have := ag i hi
    rw [CO hp, CO (show p < b.length by omega)] at this
    exact this
  by_cases h0 : k = 0
  · subst h0
    rw [if_pos rfl] at lt
    omega
  · rw [if_neg h0] at lt
    by_cases hkp : k ≤ p
    · rw [if_pos hkp] at lt
      refine ⟨k - 1, by omega, fun i hi => ?_, lt⟩
      have hi : i < k - 1 := hi
      have := ag' (i + 1) (by omega)
      rw [if_neg (by omega), if_pos (by omega)] at this
      exact this
    · rw [if_neg hkp] at lt
      refine ⟨k, by omega, fun i hi => ?_, lt⟩
      have hi : i < k := hi
      by_cases hip : i < p
      · have := ag' (i + 1) (by omega)
        rw [if_neg (by omega), if_pos (by omega)] at this
        exact this
      · by_cases hip2 : i = p
        · rw [hip2]; exact e
        · have := ag' i hi
          rw [if_neg (by omega), if_neg (by omega)] at this
          exact this
def Least (P : Row → Prop) (r : Row) : Prop := P r ∧ ∀ x, P x → x = r ∨ Lx r x
theorem Least.uniq {P : Row → Prop} {r r' : Row} (h : Least P r) (h' : Least P r') : r = r' := by
 rcases h.2 r' h'.1 with e | e
 ·exact e.symm
 ·rcases h'.2 r h.1 with e' | e'
  ·exact e'
  ·exact (Lx.asym e e').elim
def LotL (S : Row → Prop) (p : Nat) : Lot → Prop
 | [] => False
 | e :: l => Least (fun x => S x ∧ g x p = e.1) e.2 ∧ ∀ d ∈ l, Least (fun x => S x ∧ Ag (· < p) e.2 x ∧ g x p = d.1) d.2
structure LeastPl (S : Row → Prop) (p : Nat) (here : List Lot) : Prop where
 pl : PlOK S p here
 srt : ∀ l ∈ here, (keys l).Pairwise (· < ·)
 ord : here.Pairwise fun l l' => (keys l).headD 0 < (keys l').headD 0
 lst : ∀ l ∈ here, LotL S p l
theorem Cj : ∀ {l l' : Lot}, LotL S p l → LotL S p l' → keys l = keys l' → l = l'
 | [], _, h, _, _ => h.elim
 | _ :: _, [], _, h, _ => h.elim
 | (v, r) :: l, (v', r') :: l', h, h', e => by
  injection e with e1 e2
  have e1 : v = v' := e1
  subst e1
  have er : r = r' := h.1.uniq h'.1
  subst er
  have : ∀ {l l' : Lot}, (∀ d ∈ l, Least (fun x => S x ∧ Ag (· < p) r x ∧ g x p = d.1) d.2) → (∀ d ∈ l', Least (fun x => S x ∧ Ag (· < p) r x ∧ g x p = d.1) d.2) → keys l = keys l' → l = l' := by
   intro l
   induction l with
   | nil =>
    intro l' _ _ e
    cases l' with
    | nil => rfl
    | cons _ _ => simp [keys] at e
   | cons d l ih =>
    intro l' h h' e
    cases l' with
    | nil => simp [keys] at e
    | cons d' l' =>
     injection e with e1 e2
     have e1 : d.1 = d'.1 := e1
     have hd := h d (by simp)
     have hd' := h' d' (by simp)
     rw [← e1] at hd'
     have : d = d' := Prod.ext e1 (hd.uniq hd')
     rw [this, ih (fun x hx => h x (List.mem_cons_of_mem _ hx)) (fun x hx => h' x (List.mem_cons_of_mem _ hx)) e2]
  rw [this h.2 h'.2 e2]
theorem km : ∀ {a b : List Nat}, a.Pairwise (· < ·) → b.Pairwise (· < ·) → (∀ v, v ∈ a ↔ v ∈ b) → a = b
  | [], [], _, _, _ => rfl
  | [], y :: b, _, _, h => by have := (h y).mpr (by simp); simp at this
  | x :: a, [], _, _, h => by have := (h x).mp (by simp); simp at this
  | x :: a, y :: b, ha, hb, h => by
    obtain ⟨a1, a2⟩ := List.pairwise_cons.mp ha
    obtain ⟨b1, b2⟩ := List.pairwise_cons.mp hb
    have e : x = y := by
      rcases List.mem_cons.mp ((h x).mp (by simp)) with e | e
      · exact e
      · rcases List.mem_cons.mp ((h y).mpr (by simp)) with e' | e'
        · exact e'.symm
        · have := a1 y e'
          have := b1 x e
          omega
    subst e
    rw [km a2 b2 fun v => by
      constructor
      · intro hv
        rcases List.mem_cons.mp ((h v).mp (List.mem_cons_of_mem _ hv)) with e | e
        · have := a1 v hv; omega
        · exact e
      · intro hv
        rcases List.mem_cons.mp ((h v).mpr (List.mem_cons_of_mem _ hv)) with e | e
        · have := b1 v hv; omega
        · exact e]
theorem LotOK.rel (L : LotOK S p l) {v w : Nat} (hv : v ∈ keys l) (hw : w ∈ keys l) : ∃ r r', S r ∧ S r' ∧ Ag (· < p) r r' ∧ g r p = v ∧ g r' p = w := by
 obtain ⟨e, he, rfl⟩ := List.mem_map.mp hv
 obtain ⟨d, hd, rfl⟩ := List.mem_map.mp hw
 exact ⟨e.2, d.2, (L.mem e he).1, (L.mem d hd).1, L.ag e he d hd, (L.mem e he).2, (L.mem d hd).2⟩
theorem LeastPl.sub (h : LeastPl S p here) (h' : LeastPl S p here') : ∀ l ∈ here, l ∈ here' := fun l hl => by
 have L := h.pl.lot l hl
 obtain ⟨e, he⟩ : ∃ e, e ∈ l := List.exists_mem_of_ne_nil l L.ne
 have hv := jS he
 obtain ⟨l', hl', k1, _⟩ := h'.pl.cov e.2 e.2 (L.mem e he).1 (L.mem e he).1 Ag.refl
 rw [(L.mem e he).2] at k1
 have L' := h'.pl.lot l' hl'
 have same : ∀ v, v ∈ keys l ↔ v ∈ keys l' := fun v => by
  constructor
  ·intro hv2
   obtain ⟨r, r', s1, s2, ag, g1, g2⟩ := L.rel hv hv2
   obtain ⟨l2, hl2, a1, a2⟩ := h'.pl.cov r r' s1 s2 ag
   rw [g1] at a1
   rw [g2] at a2
   rw [h'.pl.uniq hl' hl2 k1 a1]
   exact a2
  ·intro hv2
   obtain ⟨r, r', s1, s2, ag, g1, g2⟩ := L'.rel k1 hv2
   obtain ⟨l2, hl2, a1, a2⟩ := h.pl.cov r r' s1 s2 ag
   rw [g1] at a1
   rw [g2] at a2
   rw [h.pl.uniq hl hl2 hv a1]
   exact a2
 rw [Cj (h.lst l hl) (h'.lst l' hl') (km (h.srt l hl) (h'.srt l' hl') same)]
 exact hl'
end
theorem gp {α : Type} {x : Int × α} : ∀ {l : List (Int × α)}, l.Pairwise (fun a b => a.1 ≤ b.1) → (pL x l).Pairwise (fun a b => a.1 ≤ b.1)
 | [], _ => by simp [pL]
 | y :: ys, h => by
  obtain ⟨h1, h2⟩ := List.pairwise_cons.mp h
  unfold pL
  by_cases e : x.1 ≤ y.1
  ·rw [if_pos e]
   refine List.pairwise_cons.mpr ⟨fun z hz => ?_, h⟩
   rcases List.mem_cons.mp hz with rfl | hz
   ·exact e
   ·have := h1 z hz
    omega
  ·rw [if_neg e]
   refine List.pairwise_cons.mpr ⟨fun z hz => ?_, gp h2⟩
   rcases List.mem_cons.mp ((jU x ys).mem_iff.mp hz) with rfl | hz
   ·omega
   ·exact h1 z hz
theorem eK {α : Type} : ∀ {l : List (Int × α)}, (iV l).Pairwise (fun a b => a.1 ≤ b.1)
 | [] => by simp [iV]
 | x :: l => gp eK
section
variable {ts: List Tab}{S: Row → Prop}{f: Fk}{p: Nat}{here: List Lot}{l l': Lot}
theorem sortLots_sorted {here : List Lot} : (dG here).Pairwise fun l l' => jX false (keys l) ≤ jX false (keys l') := by
 have h := eK (l := here.map fun l => (((jX false (keys l) : Nat) : Int), l))
 have hm : ∀ e ∈ iV (here.map fun l => (((jX false (keys l) : Nat) : Int), l)), e.1 = ((jX false (keys e.2) : Nat) : Int) := fun e he => by
  obtain ⟨l, _, rfl⟩ := List.mem_map.mp ((hW _).mem_iff.mp he)
  rfl
 unfold dG
 rw [List.pairwise_map]
 exact h.imp_of_mem fun {a b} ha hb hab => by
  rw [hm a ha, hm b hb] at hab
  omega
theorem mR {ks : List Nat} (h : ks ≠ []) : (dq ks).headD 0 = jX false ks := by
 have := n9 h
 cases hs : dq ks with
 | nil => exact absurd hs (jt h)
 | cons v vs =>
  rw [hs] at this
  exact Option.some.inj this
theorem qL {α : Type} {k : α → List Nat} : ∀ {ls : List α}, (ls.flatMap k).Nodup → ls.Pairwise fun a b => ∀ v, v ∈ k a → v ∉ k b
 | [], _ => by simp
 | a :: ls, h => by
  rw [List.flatMap_cons, List.nodup_append] at h
  exact List.pairwise_cons.mpr ⟨fun b hb v h1 h2 => h.2.2 v h1 v (List.mem_flatMap.mpr ⟨b, hb, h2⟩) rfl, qL h.2.1⟩
theorem wU {α : Type} {k : α → List Nat} : ∀ {ls : List α}, (ls.flatMap k).Nodup → ∀ a ∈ ls, (k a).Nodup
 | [], _, a, h => by simp at h
 | b :: ls, h, a, ha => by
  rw [List.flatMap_cons, List.nodup_append] at h
  rcases List.mem_cons.mp ha with rfl | ha
  ·exact h.1
  ·exact wU h.2.1 a ha
theorem xQ (F : FkOf ts S f) (hp : p < ts.length) : LeastPl S p ((iw ts f).getD p []) := by
  have P := F.place hp
  have e0 : (iw ts f).getD p [] = (dG (f.getD p [])).map (t4 ts f (bZ ts f (fr p (List.range ts.length))) p) := by
    unfold iw
    rw [List.getD_eq_getElem?_getD, bQ hp]
    rfl
  have hm : ∀ l, l ∈ dG (f.getD p []) ↔ l ∈ f.getD p [] := fun l => sortLots_perm.mem_iff
  have ne : ∀ l ∈ f.getD p [], keys l ≠ [] := fun l hl e => (P.lot l hl).ne (by simpa [keys] using e)
  have nd : ((dG (f.getD p [])).flatMap keys).Nodup := (sortLots_perm.flatMap_right _).nodup_iff.mpr P.nd
  refine ⟨(qu F).place hp, fun l hl => ?_, ?_, fun l hl => ?_⟩
  · rw [e0] at hl
    obtain ⟨l0, h0, rfl⟩ := List.mem_map.mp hl
    have h0' := (hm l0).mp h0
    rw [(k7 F hp h0').2]
    have n0 := sortN_perm.nodup_iff.mpr (wU nd l0 h0)
    exact (iT (ks := keys l0)).imp₂ (fun {a b} h1 h2 => Nat.lt_of_le_of_ne h1 h2) n0
  · rw [e0, List.pairwise_map]
    refine List.Pairwise.imp_of_mem (fun {a b} ha hb h => ?_) (sortLots_sorted.and (qL nd))
    have ha' := (hm a).mp ha
    have hb' := (hm b).mp hb
    rw [(k7 F hp ha').2, (k7 F hp hb').2, mR (ne a ha'), mR (ne b hb')]
    obtain ⟨h1, h2⟩ := h
    refine Nat.lt_of_le_of_ne h1 fun e => ?_
    have b1 := (gu (up := false) (ne a ha')).1
    have b2 := (gu (up := false) (ne b hb')).1
    rw [← e] at b2
    exact h2 _ b1 b2
  · rw [e0] at hl
    obtain ⟨l0, h0, rfl⟩ := List.mem_map.mp hl
    have h0' := (hm l0).mp h0
    have hkn := ne l0 h0'
    have hpm := sortN_perm (ks := keys l0)
    unfold t4
    cases hs : dq (keys l0) with
    | nil => exact absurd hs (jt hkn)
    | cons v vs =>
      rw [hs] at hpm
      have hv : v ∈ keys l0 := hpm.mem_iff.mp List.mem_cons_self
      obtain ⟨a1, a2, a3⟩ := ud F hp h0' hv
      simp only
      generalize bk p (bW (pmT (fr p (List.range ts.length)) ts) (bZ ts f (fr p (List.range ts.length))) false (fr p (bI l0 v)) 1) = least at a1 a2 a3 ⊢
      have ll := F.cl.len a1
      have hlo : aO f least p = l0 := by
        unfold aO
        rw [a2]
        exact (F.place hp).at_ h0' hv
      refine ⟨⟨⟨a1, a2⟩, fun x hx => ?_⟩, fun d hd => ?_⟩
      · rcases a3 x hx.1 hx.2 with e | e
        · exact .inl e
        · have lx := F.cl.len hx.1
          exact .inr (Ky (ll.trans lx.symm) (by rw [ll]; exact hp) (a2.trans hx.2.symm) e)
      · obtain ⟨w, hw, rfl⟩ := List.mem_map.mp hd
        have hwk : w ∈ keys (aO f least p) := by rw [hlo]; exact hpm.mem_iff.mp (List.mem_cons_of_mem _ hw)
        obtain ⟨m1, m2, m3⟩ := F.moved hp a1 hwk
        obtain ⟨d1, d2, d3⟩ := gr (up := false) F (b := p + 1) (by omega) m1
        refine ⟨⟨d1, m2.trans (d2.mono fun i hi => by omega), (d2 p (by omega)).symm.trans m3⟩, fun x hx => ?_⟩
        rcases d3 x hx.1 (fun i hi => by
          by_cases hip : i = p
          · rw [hip, m3, hx.2.2]
          · have hi : i < p + 1 := hi
            exact (m2 i (show i < p by omega)).symm.trans (hx.2.1 i (show i < p by omega))) with e | e
        · exact .inl e
        · exact .inr e
def KeptO (ts : List Tab) (S : Row → Prop) : Option Fk → Prop
 | some f => FkOf ts S f ∧ ∀ p, p < ts.length → LeastPl S p (f.getD p [])
 | none => ∀ r, ¬ S r
theorem KeptO.op {o : Option Fk} (h : KeptO ts S o) : FkOp ts S o := by
 cases o with
 | none => exact h
 | some f => exact h.1
theorem KeptO.least (F : FkOf ts S f) : KeptO ts S (ξ (iw ts f)) := ⟨qu F, fun p hp => xQ F hp⟩
theorem KeptO.kept {o : Option Fk} {places : List Nat} {rows : List Row} (F : FkOp ts S o) (hp : ∀ p ∈ places, p < ts.length) (C : Cl ts fun r => S r ∧ places.map (g r) ∈ rows) : KeptO ts (fun r => S r ∧ places.map (g r) ∈ rows) (JW ts places rows o) := by
 cases o with
 | none => exact fun r h => F r h.1
 | some f =>
  have K := zV F hp C
  show KeptO ts (fun r => S r ∧ places.map (g r) ∈ rows) ((ue ts f places rows).map (iw ts))
  cases hk : ue ts f places rows with
  | none =>
   rw [hk] at K
   exact fun r h => K r h.1 h.2
  | some f' =>
   rw [hk] at K
   exact KeptO.least K
end
section
end
section
end
section
theorem xR {L N : Int} {m : Nat} {zs : List Nat} {out : cq} {ns : List Int} (hN : 1 ≤ L ∧ L ≤ 64 ∧ 1 ≤ N ∧ N ≤ 64) (hout : ∀ i, i < 100 → out (ξ (.scr ns) :: ξ (.int (i : Nat)) :: List.replicate m ζ) = ξ (.fl .next (ξ (.scr ns) :: ζ :: List.replicate m ζ))) (b : cq)
  (hb : b = aX (aE zs (g8 (iH (aa (az (bz tn (av (aG (.int L)) (av (bz tm (av (aG (.int N)) (av (bz gI (av (ai 0) aD)) aD))) aD)))) aq)) (gName 1) out)) (bG (az (aG (.bl true))))) :
  cA [false] (m + 2) b [.scr ns] = ξ (.ok (.bl true) []) := by
 obtain ⟨k, hk, hk64⟩ : ∃ k : Nat, (az (bz tn (av (aG (.int L)) (av (bz tm (av (aG (.int N)) (av (bz gI (av (ai 0) aD)) aD))) aD)))) (ξ (.scr ns) :: ζ :: List.replicate m ζ) = ξ (VR.ok (T.int (k : Nat)) (ξ (.scr ns) :: ζ :: List.replicate m ζ)) ∧ k ≤ 64 := by
  refine ⟨(max L (min N (ns.length : Int))).toNat, ?_, by omega⟩
  simp
  split <;> split <;> omega
 have it := za hk (by omega)
 have e := mw (v := 1) (body := out) (te := ξ (.scr ns) :: ζ :: List.replicate m ζ) (us := (List.range k).map fun v : Nat => T.int (v : Nat)) (fun t ht => by
  obtain ⟨i, hi, rfl⟩ := List.mem_map.mp ht
  exact hout i (by have := List.mem_range.mp hi; omega))
 have s1 := aT (zs := zs) ((gW it).trans e)
 have hl : ∀ (te : BV.TE) (zs : List Nat), (aR te zs).length = te.length := fun te zs => by
  induction zs with
  | nil => rfl
  | cons z zs ih => rw [aR, List.length_set, ih]
 have hx : b ([T.scr ns].map ξ ++ List.replicate (m + 2 - [false].length) ζ) = ξ (.fl (.ret (.bl true)) (aR (ξ (.scr ns) :: ζ :: List.replicate m ζ) zs)) := by
  rw [hb]
  exact g9 s1 (by simp)
 unfold cA
 have hl1 : [T.scr ns].length = [false].length := rfl
 rw [if_pos hl1, hx]
 simp only
 have hw := hl (ξ (.scr ns) :: ζ :: List.replicate m ζ) zs
 generalize aR (ξ (.scr ns) :: ζ :: List.replicate m ζ) zs = te at hw
 match te, hw with
 | [], hw => simp at hw
 | a :: te, _ => rfl
@[simp] theorem J8 {e : Option Nat} : hot (Ca e) = false := by cases e <;> rfl
end
def C1 (e : Nat × Row) : T := .tup [.int (e.1 : Nat), rowT e.2]
def Ck (l : Lot) : T := .nd false .lst (l.map C1)
def wL (here : List Lot) : T := .nd false .lst (here.map Ck)
def fkC (f : Fk) : T := .nd false .lst (f.map wL)
def Kq : Option Fk → T
 | some f => fkC f
 | none => .non
@[simp] theorem CM {e : Nat × Row} : hot (C1 e) = false := by simp [C1, hots]
theorem Ak {l : Lot} : hots (l.map C1) = false := aU fun _ _ => CM
@[simp] theorem Ao {l : Lot} : hot (Ck l) = false := by simp [Ck, Ak]
theorem xV {l : List Lot} : hots (l.map Ck) = false := aU fun _ _ => Ao
@[simp] theorem x4 {l : List Lot} : hot (wL l) = false := by simp [wL, xV]
theorem vF {f : Fk} : hots (f.map wL) = false := aU fun _ _ => x4
@[simp] theorem CL {f : Fk} : hot (fkC f) = false := by simp [fkC, vF]
@[simp] theorem HW {o : Option Fk} : hot (Kq o) = false := by
  cases o
  · rfl
  · exact CL
section
end
section
end
section
end
section
def Kn (here : List Lot) : T := .nd false .lst (here.map fun l => jz (keys l))
theorem Am {here : List Lot} : hots (here.map fun l => jz (keys l)) = false := aU fun _ _ => qH
@[simp] theorem Lj {here : List Lot} : hot (Kn here) = false := by simp [Kn, Am]
end
section
variable {S: Row → Prop}{p: Nat}
def CB (x : Nat) : List Nat → List Nat
 | [] => [x]
 | y :: ys => if x < y then x :: y :: ys else if x = y then y :: ys else y :: CB x ys
def y0 (vs : List Nat) : List Nat := vs.foldr CB []
theorem qD {x : Nat} : ∀ {l : List Nat}, nk ((x : Nat) : Int) (l.map fun v : Nat => ((v : Nat) : Int)) = (CB x l).map fun v : Nat => ((v : Nat) : Int)
 | [] => rfl
 | y :: ys => by
  show (if ((x : Nat) : Int) < ((y : Nat) : Int) then _ else if ((x : Nat) : Int) = ((y : Nat) : Int) then _ else ((y : Nat) : Int) :: nk ((x : Nat) : Int) (ys.map fun v : Nat => ((v : Nat) : Int))) = List.map _ (if x < y then _ else if x = y then _ else y :: CB x ys)
  by_cases h : x < y
  ·rw [if_pos h, if_pos (by omega)]
   rfl
  ·rw [if_neg h, if_neg (by omega)]
   by_cases e : x = y
   ·rw [if_pos e, if_pos (by omega)]
    rfl
   ·rw [if_neg e, if_neg (by omega), qD]
    rfl
theorem lS : ∀ {vs : List Nat}, xu (vs.map fun v : Nat => ((v : Nat) : Int)) = (y0 vs).map fun v : Nat => ((v : Nat) : Int)
 | [] => rfl
 | v :: vs => by
  show nk _ (xu (vs.map fun v : Nat => ((v : Nat) : Int))) = _
  rw [lS, qD]
  rfl
theorem sV {vs : List Nat} {v : Nat} : v ∈ y0 vs ↔ v ∈ vs := by
 have := sW (z := ((v : Nat) : Int)) (is := vs.map fun v : Nat => ((v : Nat) : Int))
 rw [lS] at this
 constructor
 ·intro h
  obtain ⟨a, ha, e⟩ := List.mem_map.mp (this.mp (List.mem_map.mpr ⟨v, h, rfl⟩))
  have : a = v := by omega
  rw [← this]
  exact ha
 ·intro h
  obtain ⟨a, ha, e⟩ := List.mem_map.mp (this.mpr (List.mem_map.mpr ⟨v, h, rfl⟩))
  have : a = v := by omega
  rw [← this]
  exact ha
theorem mJ {vs : List Nat} : (y0 vs).Pairwise (· < ·) := by
 have := mK (is := vs.map fun v : Nat => ((v : Nat) : Int))
 rw [lS, List.pairwise_map] at this
 exact this.imp fun h => by omega
def vL (cl : Nat → List Nat) : List Nat → List (List Nat) → List (List Nat)
 | [], found => found
 | v :: vs, found => if found.any (fun l => decide (v ∈ l)) = true then vL cl vs found else vL cl vs (found ++ [cl v])
theorem zm {α : Type} {m : α → Nat} : ∀ {a b : List α}, a.Pairwise (fun x y => m x < m y) → b.Pairwise (fun x y => m x < m y) → (∀ v, v ∈ a ↔ v ∈ b) → a = b
 | [], [], _, _, _ => rfl
 | [], y :: b, _, _, h => absurd ((h y).mpr (by simp)) (by simp)
 | x :: a, [], _, _, h => absurd ((h x).mp (by simp)) (by simp)
 | x :: a, y :: b, ha, hb, h => by
  obtain ⟨a1, a2⟩ := List.pairwise_cons.mp ha
  obtain ⟨b1, b2⟩ := List.pairwise_cons.mp hb
  have e : x = y := by
   rcases List.mem_cons.mp ((h x).mp (by simp)) with h1 | h1
   ·exact h1
   ·rcases List.mem_cons.mp ((h y).mpr (by simp)) with h2 | h2
    ·exact h2.symm
    ·have := a1 y h2
     have := b1 x h1
     omega
  subst e
  rw [zm a2 b2 fun v => ⟨fun hv => ?_, fun hv => ?_⟩]
  ·rcases List.mem_cons.mp ((h v).mp (List.mem_cons_of_mem _ hv)) with e | e
   ·subst e
    exact absurd (a1 v hv) (by omega)
   ·exact e
  ·rcases List.mem_cons.mp ((h v).mpr (List.mem_cons_of_mem _ hv)) with e | e
   ·subst e
    exact absurd (b1 v hv) (by omega)
   ·exact e
theorem su {ks : List (List Nat)} {cl : Nat → List Nat} (srt : ∀ l ∈ ks, l.Pairwise (· < ·)) (dis : ∀ l ∈ ks, ∀ l' ∈ ks, ∀ v, v ∈ l → v ∈ l' → l = l') (hcl : ∀ l ∈ ks, ∀ v ∈ l, cl v = l) :
    ∀ {vs done : List Nat} {found : List (List Nat)}, (done ++ vs).Pairwise (· < ·) → (∀ v, v ∈ done ++ vs ↔ ∃ l ∈ ks, v ∈ l) → (∀ l ∈ found, l ∈ ks) → (∀ v ∈ done, ∃ l ∈ found, v ∈ l) → found.Pairwise (fun l l' => l.headD 0 < l'.headD 0) → (∀ l ∈ found, l.headD 0 ∈ done) →
      (∀ l, l ∈ vL cl vs found ↔ l ∈ ks ∧ l ≠ []) ∧ (vL cl vs found).Pairwise (fun l l' => l.headD 0 < l'.headD 0) ∨ (∃ l ∈ found, l = [])
  | [], done, found, hp, hv, hf, hd, pw, hh => by
    by_cases hnil : ∃ l ∈ found, l = []
    · exact .inr hnil
    · refine .inl ⟨fun l => ⟨fun h => ⟨hf l h, fun z => hnil ⟨l, h, z⟩⟩, fun h => ?_⟩, pw⟩
      obtain ⟨v, hv'⟩ := List.exists_mem_of_ne_nil l h.2
      obtain ⟨l', h1, h2⟩ := hd v (by simpa using (hv v).mpr ⟨l, h.1, hv'⟩)
      rw [dis l h.1 l' (hf l' h1) v hv' h2]
      exact h1
  | v :: vs, done, found, hp, hv, hf, hd, pw, hh => by
    have hp' : ((done ++ [v]) ++ vs).Pairwise (· < ·) := by simpa using hp
    have hv' : ∀ w, w ∈ (done ++ [v]) ++ vs ↔ ∃ l ∈ ks, w ∈ l := fun w => by rw [← hv w]; simp
    unfold vL
    by_cases hc : found.any (fun l => decide (v ∈ l)) = true
    · rw [if_pos hc]
      refine su srt dis hcl hp' hv' hf (fun w hw => ?_) pw (fun l hl => List.mem_append.mpr (.inl (hh l hl)))
      rcases List.mem_append.mp hw with h | h
      · exact hd w h
      · simp at h
        subst h
        obtain ⟨l, hl, h⟩ := List.any_eq_true.mp hc
        exact ⟨l, hl, by simpa using h⟩
    · rw [if_neg hc]
      obtain ⟨l, hl, hvl⟩ := (hv v).mp (by simp)
      have ec := hcl l hl v hvl
      have hnew : ∀ l' ∈ found, v ∉ l' := fun l' h' z => hc (List.any_eq_true.mpr ⟨l', h', by simpa using z⟩)
      have hhead : l.headD 0 = v := by
        cases l with
        | nil => simp at hvl
        | cons a l0 =>
          show a = v
          rcases List.mem_cons.mp hvl with e | e
          · exact e.symm
          · exfalso
            have lt := (List.pairwise_cons.mp (srt _ hl)).1 v e
            have ha : a ∈ done ++ v :: vs := (hv a).mpr ⟨_, hl, by simp⟩
            rcases List.mem_append.mp ha with h | h
            · obtain ⟨l', h1, h2⟩ := hd a h
              have := dis _ hl l' (hf l' h1) a (by simp) h2
              subst this
              exact hnew _ h1 hvl
            · rcases List.mem_cons.mp h with h | h
              · omega
              · have := (List.pairwise_cons.mp (List.pairwise_append.mp hp).2.1).1 a h
                omega
      refine su srt dis hcl hp' hv' (fun l' h' => ?_) (fun w hw => ?_) ?_ (fun l' h' => ?_) |>.elim .inl fun ⟨l', h1, h2⟩ => ?_
      · rcases List.mem_append.mp h' with h | h
        · exact hf l' h
        · simp at h
          rw [h, ec]
          exact hl
      · rcases List.mem_append.mp hw with h | h
        · obtain ⟨l', h1, h2⟩ := hd w h
          exact ⟨l', by simp [h1], h2⟩
        · simp at h
          subst h
          exact ⟨cl w, by simp, by rw [ec]; exact hvl⟩
      · refine List.pairwise_append.mpr ⟨pw, by simp, fun x hx y hy => ?_⟩
        simp at hy
        rw [hy, ec, hhead]
        exact (List.pairwise_append.mp hp).2.2 _ (hh x hx) v (by simp)
      · rcases List.mem_append.mp h' with h | h
        · exact List.mem_append.mpr (.inl (hh l' h))
        · simp at h
          rw [h, ec, hhead]
          simp
      · rcases List.mem_append.mp h1 with h | h
        · exact .inr ⟨l', h, h2⟩
        · simp at h
          rw [h, ec] at h2
          rw [h2] at hvl
          simp at hvl
theorem A5 {here : List Lot} {cl : Nat → List Nat} {vs : List Nat} (h : LeastPl S p here) (hcl : ∀ l ∈ here, ∀ v ∈ keys l, cl v = keys l) (hp : vs.Pairwise (· < ·)) (hv : ∀ v, v ∈ vs ↔ v ∈ here.flatMap keys) : vL cl vs [] = here.map keys := by
 have dis : ∀ l ∈ here.map keys, ∀ l' ∈ here.map keys, ∀ v, v ∈ l → v ∈ l' → l = l' := fun l hl l' hl' v h1 h2 => by
  obtain ⟨a, ha, rfl⟩ := List.mem_map.mp hl
  obtain ⟨b, hb, rfl⟩ := List.mem_map.mp hl'
  rw [h.pl.uniq ha hb h1 h2]
 rcases su (ks := here.map keys) (cl := cl) (fun l hl => by
  obtain ⟨a, ha, rfl⟩ := List.mem_map.mp hl
  exact h.srt a ha) dis (fun l hl v hv => by
  obtain ⟨a, ha, rfl⟩ := List.mem_map.mp hl
  exact hcl a ha v hv) (vs := vs) (done := []) (found := []) (by simpa using hp) (fun v => by
   rw [List.nil_append, hv v]
   constructor
   ·intro h
    obtain ⟨l, hl, hk⟩ := List.mem_flatMap.mp h
    exact ⟨keys l, List.mem_map.mpr ⟨l, hl, rfl⟩, hk⟩
   ·rintro ⟨l, hl, hk⟩
    obtain ⟨a, ha, rfl⟩ := List.mem_map.mp hl
    exact List.mem_flatMap.mpr ⟨a, ha, hk⟩) (by simp) (by simp) (by simp) (by simp) with ⟨h1, h2⟩ | ⟨l, h, _⟩
 ·refine zm (m := fun l => l.headD 0) h2 (by rw [List.pairwise_map]; exact h.ord) fun l => ?_
  rw [h1]
  constructor
  ·exact fun z => z.1
  ·intro z
   refine ⟨z, fun e => ?_⟩
   obtain ⟨a, ha, rfl⟩ := List.mem_map.mp z
   have := (h.pl.lot a ha).ne
   unfold keys at e
   rw [List.map_eq_nil_iff] at e
   exact this e
 ·simp at h
end
section
variable {S: Row → Prop}{p: Nat}{r: Row}{rs: List Row}{here: List Lot}
def zK : List Row → List Row → List Row
 | [], acc => acc
 | r :: more, acc => zK more (EZ acc r)
theorem oC {x : Row} : ∀ {more acc : List Row}, x ∈ zK more acc ↔ x ∈ acc ∨ x ∈ more
 | [], acc => by simp [zK]
 | r :: more, acc => by
  unfold zK
  rw [oC, zp, List.mem_cons, or_assoc]
def stsR (rs : List Row) (p v : Nat) : List Row := (rs.filter fun r => decide (g r p = v)).map fun r => r.take p
def LD (rs : List Row) (p v : Nat) : List Nat := y0 ((rs.filter fun r => decide (r.take p ∈ zK (stsR rs p v) [])).map fun r => g r p)
theorem C7 {w v : Nat} (hl : ∀ x ∈ rs, p < x.length) (hle : ∀ x ∈ rs, ∀ y ∈ rs, x.length = y.length) : w ∈ LD rs p v ↔ ∃ x ∈ rs, ∃ y ∈ rs, g x p = w ∧ g y p = v ∧ Ag (· < p) x y := by
 unfold LD
 rw [sV, List.mem_map]
 constructor
 ·rintro ⟨x, hx, rfl⟩
  obtain ⟨h1, h2⟩ := List.mem_filter.mp hx
  have h2 := of_decide_eq_true h2
  rw [oC] at h2
  rcases h2 with h2 | h2
  ·simp at h2
  ·obtain ⟨y, hy, e⟩ := List.mem_map.mp h2
   obtain ⟨y1, y2⟩ := List.mem_filter.mp hy
   exact ⟨x, h1, y, y1, rfl, of_decide_eq_true y2, (kM (hle x h1 y y1) (by have := hl x h1; omega)).mp e.symm⟩
 ·rintro ⟨x, hx, y, hy, e1, e2, ag⟩
  refine ⟨x, List.mem_filter.mpr ⟨hx, decide_eq_true ?_⟩, e1⟩
  rw [oC]
  exact .inr (List.mem_map.mpr ⟨y, List.mem_filter.mpr ⟨hy, decide_eq_true e2⟩, ((kM (hle x hx y hy) (by have := hl x hx; omega)).mpr ag).symm⟩)
theorem A6 {l : Lot} {v : Nat} (h : LeastPl S p here) (hm : ∀ r, r ∈ rs ↔ S r) (hl : ∀ x ∈ rs, p < x.length) (hle : ∀ x ∈ rs, ∀ y ∈ rs, x.length = y.length) (hh : l ∈ here) (hv : v ∈ keys l) : LD rs p v = keys l := by
 refine km mJ (h.srt l hh) fun w => ?_
 rw [C7 hl hle]
 constructor
 ·rintro ⟨x, hx, y, hy, e1, e2, ag⟩
  obtain ⟨l', h1, h2, h3⟩ := h.pl.cov x y ((hm x).mp hx) ((hm y).mp hy) ag
  rw [e2] at h3
  rw [e1] at h2
  rw [h.pl.uniq hh h1 hv h3]
  exact h2
 ·intro hw
  obtain ⟨x, y, hx, hy, ag, e1, e2⟩ := (h.pl.lot l hh).rel hw hv
  exact ⟨x, (hm x).mpr hx, y, (hm y).mpr hy, e1, e2, ag⟩
def yh (rs : List Row) (p : Nat) : List (List Nat) := vL (LD rs p) (y0 (rs.map fun r => g r p)) []
theorem C5 (h : LeastPl S p here) (hm : ∀ r, r ∈ rs ↔ S r) (hl : ∀ x ∈ rs, p < x.length) (hle : ∀ x ∈ rs, ∀ y ∈ rs, x.length = y.length) : yh rs p = here.map keys := by
 refine A5 h (fun l hh v hv => A6 h hm hl hle hh hv) mJ fun v => ?_
 rw [sV]
 constructor
 ·intro hv
  obtain ⟨x, hx, rfl⟩ := List.mem_map.mp hv
  obtain ⟨l, h1, h2, _⟩ := h.pl.cov x x ((hm x).mp hx) ((hm x).mp hx) Ag.refl
  exact List.mem_flatMap.mpr ⟨l, h1, h2⟩
 ·intro hv
  obtain ⟨l, h1, h2⟩ := List.mem_flatMap.mp hv
  obtain ⟨e, he, rfl⟩ := List.mem_map.mp h2
  obtain ⟨m1, m2⟩ := (h.pl.lot l h1).mem e he
  exact List.mem_map.mpr ⟨e.2, (hm _).mpr m1, m2⟩
end
section
end
structure Enc (α : Type) [DecidableEq α] (k : Nat) (enc : α → T) (D : α → PyData) : Prop where
 d : ∀ a, dT k (enc a) = ξ (D a)
 e : ∀ a b, PyData.eqv (D a) (D b) = decide (a = b)
section
variable {α: Type}[DecidableEq α]{k: Nat}{enc: α → T}{D: α → PyData}
theorem Enc.all (E : Enc α k enc D) : ∀ {as : List α}, dR (dT k) (as.map enc) = ξ (as.map D)
 | [] => rfl
 | a :: as => by
  rw [List.map_cons, List.map_cons]
  unfold dR
  rw [E.d, E.all]
theorem Enc.eqAll (E : Enc α k enc D) : ∀ {as bs : List α}, PyData.eqvAll (as.map D) (bs.map D) = decide (as = bs)
 | [], [] => rfl
 | [], _ :: _ => rfl
 | _ :: _, [] => rfl
 | a :: as, b :: bs => by
  show (PyData.eqv (D a) (D b) && PyData.eqvAll (as.map D) (bs.map D)) = _
  rw [E.eqAll, E.e]
  by_cases h1 : a = b <;> by_cases h2 : as = bs <;> simp [h1, h2]
end
section
end
section
end
section
end
theorem A7 {V : gy} {as : VA} {te te1 : BV.TE} {xs : List T} {C : Addr} {d : Option T} (ha : as te = ξ (.ok xs te1)) (hV : V xs = ξ (.exc C d [])) : bR V [] as te = ξ (.exc C d te1) := by
 rw [xl, ha]
 simp only [cY, hV]
 rfl
theorem BI {ms : List Bool} {n : Nat} {b : cq} {xs fs : List T} {C : Addr} {d : Option T} {te : BV.TE} (hl : xs.length = ms.length) (h : b (xs.map ξ ++ List.replicate (n - ms.length) ζ) = ξ (.exc C d te)) (hf : fM ms te = ξ fs) : cA ms n b xs = ξ (.exc C d fs) := by
 unfold cA
 rw [if_pos hl, h]
 simp only [hf]
theorem zb {C : Addr} {fs : List Str} {as : VA} {te te1 : BV.TE} {xs : List T} (ha : as te = ξ (.ok xs te1)) (hl : xs.length = fs.length := by rfl) (hz : fs.length ≤ 1000 := by decide) : rh C fs as te = ξ (.exc C (ξ (.nd true (.xd fs.reverse) xs.reverse)) te1) := by
 unfold rh
 rw [ha]
 simp [hl, hz]
section
theorem yf {pre : List Row} {bad : T} {rest : List T} (hb : hot bad = false) (hr : hots rest = false) : hot (badL pre bad rest) = false := by
 unfold badL
 simp only [hot, Bool.false_or]
 exact Au hb hr
end
section
variable {ts: List Tab}
structure NoQ (ts : List Tab) (x : T) : Prop where
 vl : Vl 5 31000 x
 no : isRowB ts x = false
theorem NoQ.cold {x : T} (h : NoQ ts x) : hot x = false := h.vl.cold
theorem NoQ.len {xs : List T} (h : Vl 5 31000 (.tup xs)) (hl : xs.length ≠ ts.length) : NoQ ts (.tup xs) := ⟨h, (NoR.len (ts := ts) (h.mono (by decide) (by decide)) hl).no⟩
section
end
end
theorem Bu {exm : Addr → Option Bool} {C : Addr} {i : Nat} {vb : cq} {vd : VD} {te te1 te2 : BV.TE} {d : Option T} {t : T} (h : vb te = ξ (.exc C d te1)) (he : exm C = ξ true) (hi : i < te1.length) (hd : vd (te1.set i d) = ξ (.ok t te2)) : yB exm C i vb vd te = ξ (.fl (.ret t) te2) := by
 unfold yB
 rw [h]
 simp only [he]
 rw [if_pos ⟨trivial, hi⟩, hd]
section
end
section
section
end
end
section
end
section
end
section
theorem C0 {x : Str} (h : PyData.strOk x = true) : uH (.str x) (.str x) = ξ (.pur (.bl true)) := by
 have e : dT 60 (.str x) = ξ (.str x) := by simp only [dT]; rw [if_pos h]
 unfold uH
 rw [e]
 simp only [SeqAt.eqv_refl (.str x) (show PyData.canLay0 (.str x) = true from h)]
def HeldOK (e : T) : Prop := ∃ L y, e = .tup [.nd false .lst L, .str y] ∧ hots L = false ∧ qRepD [.nd false .lst L] = ξ (.pur (.str y)) ∧ PyData.strOk y = true
theorem HeldOK.cold {e : T} (h : HeldOK e) : hot e = false := by
 obtain ⟨L, y, rfl, h1, _⟩ := h
 simp [hot, hots, h1]
theorem BJ {i : Nat} {te : BV.TE} {x : T} {y : Str} (h : te[i]? = ξ (ξ x)) (e : qRepD [x] = ξ (.pur (.str y))) : bz qRepD (av (ai i) aD) te = ξ (.str y) := by
 simp only [nS, kg, iq h, lL, e]
end
section
end
section
end
section
end
section
end
section
end
section
variable {c: Cn}{ts: List Tab}{S: Row → Prop}{f: Fk}{r cur fin: Row}{st: List (Nat × Nat)}
def Wd (ts : List Tab) (f : Fk) (S : Row → Prop) : Row → List (Nat × Nat) → Row → Prop
 | cur, [], fin => S cur ∧ cur = fin
 | cur, e :: st, fin => S cur ∧ e.1 < ts.length ∧ e.2 ∈ keys (aO f cur e.1) ∧ Wd ts f S (bF ts f cur e.1 e.2) st fin
theorem Wd.here : ∀ {st : List (Nat × Nat)} {cur fin : Row}, Wd ts f S cur st fin → S cur
 | [], _, _, h => h.1
 | _ :: _, _, _, h => h.1
theorem pN {cl x : T} (hx : hot x = false) (hm : ∀ te : BV.TE, te[0]? = ξ (ξ cl) → te[1]? = ξ (ξ x) → cE (dj (c.cl "ClosedSet") "has" (V_ClosedSet_has c) [] (ai 0) (aa (az (ai 0)) (aa (az (ai 1)) aq))) te = ξ (.ok false te)) : fE c [cl, x] = ξ (.exc (c.cl "BadRow") (ξ (vJ x)) []) := by
 have t := rH (hm (ξ cl :: ξ x :: List.replicate 11 ζ) rfl rfl)
 have r := zb (C := c.cl "BadRow") (fs := ["row"]) (aV (i := 1) (te := ξ cl :: ξ x :: List.replicate 11 ζ) rfl hx aN)
 exact BI rfl (BD (nH (b := bO) t r)) rfl
end
section
variable {c: Cn}
def le1 (c : Cn) : cq := (eN (kh (fm (kL (bz (oj c) (av (ai 2) (av (aG (.ty "tuple")) aD))))) (kh (fm (kL (bz (oj c) (av (aH eP (ai 2) (aG (.int 0))) (av (aG (.ty "list")) aD))))) (fm (kL (bz (oj c) (av (aH eP (ai 2) (aG (.int 1))) (av (aG (.ty "list")) aD))))))) (bG (az (aG (.bl false)))) bO)
def le3 : cq := (aE [1] (eN (kh (cE (Dw uH 4 (aL (cg aq)))) (kh (cE (jq lU (aL (vLcP 4 (gName 6) (aH (JI true) (ai 6) (ai 1)) (ai 6) [6])) (aL (cg aq)))) (kL (aH K7 (bz gI (av (aH eP (ai 2) (aG (.int 1))) aD)) (bz gI (av (ai 0) aD)))))) (bG (az (aG (.bl false)))) bO))
theorem xC (rr : c.exm (c.cl "BadRow") (.ob (c.cl "BadRow")) = ξ true) {cl x : T} {y : Str} (hcl : hot cl = false) (hx : hot x = false) (hd : fE c [cl, x] = ξ (.exc (c.cl "BadRow") (ξ (vJ x)) [])) (hy : qRepD [x] = ξ (.pur (.str y))) (hs : PyData.strOk y = true) : ia c [cl, x] = ξ (.ok (.bl true) []) := by
 have ce := A7 (te := [ξ cl, ξ x, ζ]) (aV (i := 0) rfl hcl (aV (i := 1) rfl hx aN)) hd
 have b : aE [0] (j7 (bR (fE c) [] (aa (az (ai 0)) (aa (az (ai 1)) aq)))) [ξ cl, ξ x, ζ] = ξ (.exc (c.cl "BadRow") (ξ (vJ x)) [ξ cl, ξ x, ζ]) := (yy (zs := [0]) (show j7 (bR (fE c) [] (aa (az (ai 0)) (aa (az (ai 1)) aq))) [ξ cl, ξ x, ζ] = ξ (.exc (c.cl "BadRow") (ξ (vJ x)) [ξ cl, ξ x, ζ]) from by rw [lP, ce]; rfl)).trans rfl
 have fl : yG 2 "row" [ξ cl, ξ x, ξ (vJ x)] = ξ x := by
  show List.lookup ("row" : Str) [(("row" : Str), x)] = ξ x
  simp
 have r1 : bz qRepD (av (yG 2 "row") aD) [ξ cl, ξ x, ξ (vJ x)] = ξ (.str y) := by
  simp only [nS, kg, fl, lL, hy]
 have h := hU (opI r1 (BJ (i := 1) (te := [ξ cl, ξ x, ξ (vJ x)]) rfl hy) (C0 hs)) rfl
 have t := Bu (exm := fun C' => c.exm C' (.ob (c.cl "BadRow"))) (C := c.cl "BadRow") (i := 2) b rr (by simp) h
 exact gH rfl (kP (gO (zs := [0, 1, 2]) t)) rfl
end
section
end
section
section
end
end
section
variable {c: Cn}{ts: List Tab}{S: Row → Prop}{rs: List Row}{r: Row}{o: Option Fk}
structure Rf (c : Cn) (cl x : T) : Prop where
 cold : hot x = false
 no : V_ClosedSet_has c [cl, x] = ξ (.ok (.bl false) [])
 rep : ∃ y, qRepD [x] = ξ (.pur (.str y)) ∧ PyData.strOk y = true
theorem Rf.ref (rr : c.exm (c.cl "BadRow") (.ob (c.cl "BadRow")) = ξ true) {x : T} (h : Rf c (setT c ts o) x) : ia c [setT c ts o, x] = ξ (.ok (.bl true) []) := by
 obtain ⟨y, hy, hs⟩ := h.rep
 refine xC rr rW h.cold (pN h.cold fun te w0 w1 => ?_) hy hs
 exact jP (sU (mn := "has") (by decide) (iq w0) (aV w0 rW (aV w1 h.cold aN)) h.no)
theorem Rf.row (ok : CnOk c) (good : ∀ t ∈ ts, GoodT t) (hn : ts.length ≤ 20) (F : FkOp ts S o) (hm : ∀ r, r ∈ rs ↔ S r) (hr : RowOK ts r) (h : r ∉ rs) : Rf c (setT c ts o) (rowT r) := by
 have e := Gf (c := c) ok F (by omega) hm hr
 rw [decide_eq_false h] at e
 refine ⟨cL, e, ?_⟩
 obtain ⟨D, _, e, hs⟩ := EF (Vl.row good hr hn) (by decide) (by decide)
 exact ⟨_, e, hs⟩
end
section
end
section
end
section
end
section
variable {ts: List Tab}
inductive TryL (ts : List Tab) : T → Prop
 | rows {rs : List Row} (h : ∀ r ∈ rs, RowOK ts r) (hl : rs.length ≤ 20) : TryL ts (rowsT rs)
 | bad {pre post : List Row} {x : T} (h1 : ∀ r ∈ pre, RowOK ts r) (h2 : ∀ r ∈ post, RowOK ts r) (hx : NoQ ts x) (hl : pre.length + post.length ≤ 20) : TryL ts (badL pre x (post.map rowT))
theorem TryL.cold {L : T} (h : TryL ts L) : hot L = false := by
 cases h with
 | rows _ _ => exact xY
 | bad _ _ hx _ => exact yf hx.cold iY
section
end
end
section
def HeldG (e : T) : Prop := ∃ x y, e = .tup [x, .str y] ∧ hot x = false ∧ qRepD [x] = ξ (.pur (.str y)) ∧ PyData.strOk y = true
theorem HeldG.cold {e : T} (h : HeldG e) : hot e = false := by
 obtain ⟨x, y, rfl, h1, _⟩ := h
 simp [hot, hots, h1]
end
section
end
section
end
section
end
section
end
section
end
section
end
section
end
section
end
section
variable {α: Type}[DecidableEq α]{k: Nat}{enc: α → T}{D: α → PyData}
theorem Enc.tup (E : Enc α k enc D) : Enc (List α) (k + 1) (fun as => .tup (as.map enc)) (fun as => .tuple (as.map D)) := ⟨fun as => by
 show (match dR (dT k) (as.map enc) with
  | some ds => ξ (PyData.tuple ds)
  | none => ζ) = _
 rw [E.all], fun a b => by
 show PyData.eqvAll (a.map D) (b.map D) = _
 rw [E.eqAll]⟩
theorem Enc.ne (E : Enc α 60 enc D) {a b : α} : lU (enc a) (enc b) = ξ (.pur (.bl (decide (a ≠ b)))) := by
 unfold lU
 rw [E.d, E.d]
 simp only [E.e]
 by_cases h : a = b <;> simp [h]
end
section
end
section
end
section
end
section
end
section
end
theorem oR {vg : VG} {body : cq} {te : BV.TE} : ∀ {us : List T}, (∀ t ∈ us, ∃ te2, vg t te = ξ te2 ∧ body te2 = ξ (.fl .next te)) → cM vg body us te = ξ (.fl .next te)
 | [], _ => rfl
 | t :: us, h => by
  obtain ⟨te2, e1, e2⟩ := h t (by simp)
  rw [cM]
  simp only [e1, e2]
  exact oR fun t ht => h t (List.mem_cons_of_mem _ ht)
section
end
section
section
end
end
def OutR (x : Option VS) (te : BV.TE) (o : Option Row) : Prop := match o with
 | none => x = ξ (.fl .next te)
 | some r => ∃ te2, x = ξ (.fl (.ret (rowT r)) te2) ∧ ∃ a b l, te2 = a :: b :: l
theorem OutR.wipe {b : cq} {zs : List Nat} {te te1 : BV.TE} {o : Option Row} (h : OutR (b te) te1 o) (hw : aR te1 zs = te1) : OutR (aE zs b te) te1 o := by
 cases o with
 | none => exact (aT h).trans (by rw [hw])
 | some r =>
  obtain ⟨te2, e, q⟩ := h
  exact ⟨te2, gO e, q⟩
section
end
section
end
structure Sm (N : Nat) (s : Bst) : Prop where
 nd : (pkeys s.1).Nodup
 lt : ∀ k ∈ pkeys s.1, k < N
 wt : ∀ k ∈ s.2, k ∈ pkeys s.1
 wnd : s.2.Nodup
 pl : ∀ e ∈ s.1, e.2.length ≤ s.1.length
section
variable {N: Nat}{s: Bst}
theorem Sm.len (h : Sm N s) : s.1.length ≤ N := by
 have := tU h.nd h.lt
 simpa [pkeys] using this
end
def K' (e : Row × Row) : T := .tup [rowT e.1, rowT e.2]
def Fc (es : Pth) : T := .nd false .lst (es.map K')
def zQ (l : Lk) : T := .tup [.int (l.1 : Nat), .int (l.2.1 : Nat), rowT l.2.2.1, rowT l.2.2.2]
section
variable {e: Nat}{ps: Pths}{ls: List Lk}
@[simp] theorem FZ {x : Row × Row} : hot (K' x) = false := by simp [K']
@[simp] theorem J5 {es : Pth} : hots (es.map K') = false := aU fun _ _ => FZ
@[simp] theorem CJ {es : Pth} : hot (Fc es) = false := by simp [Fc]
@[simp] theorem HU {ps : Pths} : hots (ps.map fun e => Fc e.2) = false := aU fun _ _ => CJ
@[simp] theorem Ap {l : Lk} : hot (zQ l) = false := by simp [zQ]
@[simp] theorem FX {ls : List Lk} : hots (ls.map zQ) = false := aU fun _ _ => Ap
end
section
variable {ts: List Tab}{S: Row → Prop}{o: Option Row}{F: Fst}{r: Row}
def LrnS (ts : List Tab) (S : Row → Prop) (o : Option Row) (F : Fst) : Prop := FsOK ts S F ∧ ∀ r, o = ξ r → S r
end
section
variable {ts: List Tab}{S: Row → Prop}{o: Option Row}{F: Fst}{n p: Nat}{r: Row}{rs: List Row}
def Lc (ts : List Tab) : Fst := List.replicate ts.length []
def JU (rs : List Row) (p : Nat) : Nat := 1 + ((List.range p).map fun q => rP (yh rs q)).sum
theorem zS : JU rs (p + 1) = JU rs p + rP (yh rs p) := by
 unfold JU
 rw [List.range_succ, List.map_append, List.sum_append]
 simp
 omega
def fsum (F : Fst) (k : Nat) : Nat := ((List.range k).map fun p => (F.getD p []).length).sum
theorem qJ {k : Nat} : fsum F (k + 1) = fsum F k + (F.getD k []).length := by
 unfold fsum
 rw [List.range_succ, List.map_append, List.sum_append]
 simp
structure LrnI (ts : List Tab) (S : Row → Prop) (o : Option Row) (F : Fst) (n : Nat) : Prop where
 s : LrnS ts S o F
 fo : ∀ p, Forest (F.getD p [])
 c0 : o = ζ → n = 0
 c1 : ∀ r, o = ξ r → n = 1 + fsum F ts.length
 e0 : o = ζ → ∀ p, F.getD p [] = []
theorem rJ : (Lc ts).getD p [] = [] := by
 unfold Lc
 rw [List.getD_eq_getElem?_getD, List.getElem?_replicate]
 split <;> rfl
theorem LrnI.new : LrnI ts S ζ (Lc ts) 0 := ⟨⟨⟨by simp [Lc], fun p hp l h => by
  rw [rJ] at h
  simp at h⟩, fun r h => (by cases h)⟩, fun p => by
  rw [rJ]
  exact .nil, fun _ => rfl, fun r h => (by cases h), fun _ p => rJ⟩
theorem A4 {o2 : Option Fk} (K : KeptO ts S o2) (C : Cl ts S) (hm : ∀ r, r ∈ rs ↔ S r) (hne : rs ≠ []) (hp : p < ts.length) : (yh rs p).flatten.Nodup ∧ (∀ l ∈ yh rs p, l ≠ []) ∧ ∀ x y, S x → S y → Ag (· < p) x y → SameLot (yh rs p) (g x p) (g y p) := by
 obtain ⟨x0, hx0⟩ := List.exists_mem_of_ne_nil _ hne
 cases o2 with
 | none => exact absurd ((hm x0).mp hx0) (K x0)
 | some f =>
  have P := K.2 p hp
  rw [C5 P hm (fun x hx => by rw [C.len ((hm x).mp hx)]; exact hp) (fun x hx y hy => by rw [C.len ((hm x).mp hx), C.len ((hm y).mp hy)])]
  refine ⟨?_, fun l hl => ?_, fun x y hx hy ag => ?_⟩
  ·have := P.pl.nd
   rwa [List.flatMap_def] at this
  ·obtain ⟨h, hh, rfl⟩ := List.mem_map.mp hl
   have := (P.pl.lot h hh).ne
   intro z
   exact this (List.map_eq_nil_iff.mp z)
  ·obtain ⟨l, h1, h2, h3⟩ := P.pl.cov x y hx hy ag
   exact ⟨keys l, List.mem_map.mpr ⟨l, h1, rfl⟩, h2, h3⟩
theorem LrnI.le {o2 : Option Fk} (C : Cl ts S) (L : LrnI ts S o F n) (K : KeptO ts S o2) (hm : ∀ r, r ∈ rs ↔ S r) (hne : rs ≠ []) : n ≤ JU rs ts.length := by
 have key : ∀ k, k ≤ ts.length → 1 + fsum F k ≤ JU rs k := by
  intro k
  induction k with
  | zero => exact fun _ => Nat.le_refl _
  | succ k ih =>
   intro hk
   have ih := ih (by omega)
   rw [qJ, zS]
   obtain ⟨h1, h2, h3⟩ := A4 (p := k) K C hm hne (by omega)
   have fc := rY h1 h2 (L.fo k) fun l hl => by
    have o := L.s.1.ok k (by omega) l hl
    have := h3 _ _ o.t o.u o.ag
    rwa [o.a, o.b] at this
   have ls := oI h2
   omega
 cases ho : o with
 | none =>
  have := L.c0 ho
  omega
 | some r =>
  have := L.c1 r ho
  have := key ts.length (Nat.le_refl _)
  omega
theorem LrnI.len (L : LrnI ts S o F n) (hF : n ≤ 1000) : (F.getD p []).length < 1000000 := by
 cases ho : o with
 | none => rw [L.e0 ho]; simp
 | some r =>
  have c1 := L.c1 r ho
  have mono : ∀ k, p < k → (F.getD p []).length ≤ fsum F k := by
   intro k
   induction k with
   | zero => intro h; omega
   | succ k ih =>
    intro h
    rw [qJ]
    by_cases e : p = k
    ·subst e
     omega
    ·have := ih (by omega)
     omega
  by_cases hp : p < ts.length
  ·have := mono ts.length hp
   omega
  ·rw [List.getD_eq_getElem?_getD, List.getElem?_eq_none (by rw [L.s.1.len]; omega)]
   simp
end
inductive SC (ls : List Lk) (v : Nat) : List Nat → Pth → Nat → Prop
 | nil : SC ls v [v] [] v
 | snoc {vs : List Nat} {es : Pth} {k e : Nat} {t u : Row} : SC ls v vs es k → e ∉ vs → Dir ls k e t u → SC ls v (vs ++ [e]) (es ++ [(t, u)]) e
section
variable {ls: List Lk}{v k a b here: Nat}{vs: List Nat}{es es': Pth}{t u: Row}{p: Nat}
theorem SC.chain (h : SC ls v vs es k) : Chain ls v es k := by
 induction h with
 | nil => exact .nil
 | snoc _ _ hd ih => exact ih.snoc hd
theorem SC.last (h : SC ls v vs es k) : k ∈ vs := by
 induction h <;> simp
theorem SC.first (h : SC ls v vs es k) : v ∈ vs := by
 induction h with
 | nil => simp
 | snoc _ _ _ ih => exact List.mem_append.mpr (.inl ih)
theorem SC.conn (h : SC ls v vs es k) : Conn ls v k := ⟨_, h.chain⟩
theorem SC.cut (h : SC (ls ++ [(a, b, t, u)]) v vs es k) : SC ls v vs es k ∨ ∃ (x y : Nat) (p q : Row) (es1 es2 : Pth) (vs1 vs2 : List Nat), ((x = a ∧ y = b ∧ p = t ∧ q = u) ∨ (x = b ∧ y = a ∧ p = u ∧ q = t)) ∧ SC ls v vs1 es1 x ∧ SC ls y vs2 es2 k ∧ es = es1 ++ [(p, q)] ++ es2 ∧ vs = vs1 ++ vs2 := by
 induction h with
 | nil => exact .inl .nil
 | @snoc vs es k e t' u' _ hn hd ih =>
  have hd' : Dir ls k e t' u' ∨ (k = a ∧ e = b ∧ t' = t ∧ u' = u) ∨ (k = b ∧ e = a ∧ t' = u ∧ u' = t) := by
   rcases hd with hd | hd
   ·rcases List.mem_append.mp hd with hd | hd
    ·exact .inl (.inl hd)
    ·simp only [List.mem_singleton, Prod.mk.injEq] at hd
     exact .inr (.inl hd)
   ·rcases List.mem_append.mp hd with hd | hd
    ·exact .inl (.inr hd)
    ·simp only [List.mem_singleton, Prod.mk.injEq] at hd
     exact .inr (.inr ⟨hd.2.1, hd.1, hd.2.2.2, hd.2.2.1⟩)
  rcases ih with ih | ⟨x, y, p, q, es1, es2, vs1, vs2, hx, h1, h2, rfl, rfl⟩
  ·rcases hd' with hd' | hd'
   ·exact .inl (ih.snoc hn hd')
   ·exact .inr ⟨k, e, t', u', es, [], vs, [e], hd', ih, .nil, by simp, rfl⟩
  ·simp only [List.mem_append, not_or] at hn
   rcases hd' with hd' | hd'
   ·exact .inr ⟨x, y, p, q, es1, es2 ++ [(t', u')], vs1, vs2 ++ [e], hx, h1, h2.snoc hn.2 hd', by simp, by simp⟩
   ·exfalso
    have ex := h1.last
    have ey := h2.first
    have : e = x ∨ e = y := by
     rcases hx with ⟨rfl, rfl, _⟩ | ⟨rfl, rfl, _⟩ <;> rcases hd' with ⟨_, rfl, _⟩ | ⟨_, rfl, _⟩ <;> simp
    rcases this with rfl | rfl
    ·exact hn.1 ex
    ·exact hn.2 ey
theorem SC.uniq (fo : Forest ls) : ∀ {v k : Nat} {vs vs' : List Nat} {es es' : Pth}, SC ls v vs es k → SC ls v vs' es' k → es = es' := by
 induction fo with
 | nil =>
  intro v k vs vs' es es' h h'
  have e : ∀ {vs es k}, SC [] v vs es k → es = [] := fun h => by
   cases h with
   | nil => rfl
   | snoc _ _ hd => simp [Dir] at hd
  rw [e h, e h']
 | @snoc ls l _ hc ih =>
  obtain ⟨a, b, t, u⟩ := l
  intro v k vs vs' es es' h h'
  have hc : ¬ Conn ls a b := hc
  rcases h.cut with h | ⟨x, y, p, q, es1, es2, vs1, vs2, hx, h1, h2, rfl, rfl⟩ <;> rcases h'.cut with h' | ⟨x', y', p', q', es1', es2', vs1', vs2', hx', h1', h2', rfl, rfl⟩
  ·exact ih h h'
  ·exfalso
   have c1 : Conn ls x' y' := (h1'.conn.symm.trans h.conn).trans h2'.conn.symm
   rcases hx' with ⟨rfl, rfl, _⟩ | ⟨rfl, rfl, _⟩
   ·exact hc c1
   ·exact hc c1.symm
  ·exfalso
   have c1 : Conn ls x y := (h1.conn.symm.trans h'.conn).trans h2.conn.symm
   rcases hx with ⟨rfl, rfl, _⟩ | ⟨rfl, rfl, _⟩
   ·exact hc c1
   ·exact hc c1.symm
  ·rcases hx with ⟨rfl, rfl, rfl, rfl⟩ | ⟨rfl, rfl, rfl, rfl⟩ <;> rcases hx' with ⟨rfl, rfl, rfl, rfl⟩ | ⟨rfl, rfl, rfl, rfl⟩
   ·rw [ih h1 h1', ih h2 h2']
   ·exact absurd (h1.conn.symm.trans h1'.conn) hc
   ·exact absurd (h1'.conn.symm.trans h1.conn) hc
   ·rw [ih h1 h1', ih h2 h2']
structure Gr (ls : List Lk) (v : Nat) (ps : Pths) : Prop where
 nd : (pkeys ps).Nodup
 start : (v, []) ∈ ps
 sc : ∀ k es, (k, es) ∈ ps → ∃ vs, SC ls v vs es k ∧ ∀ x ∈ vs, x ∈ pkeys ps
theorem Gr.new : Gr ls v [(v, [])] := ⟨by simp [pkeys], by simp, fun k es h => by
 simp only [List.mem_singleton] at h
 cases h
 exact ⟨[v], .nil, by simp [pkeys]⟩⟩
theorem Gr.step {ps : Pths} {e : Nat} (h : Gr ls v ps) (hh : here ∈ pkeys ps) (he : e ∉ pkeys ps) (hd : Dir ls here e t u) : Gr ls v (ps ++ [(e, jw ps here ++ [(t, u)])]) := by
 have hk : ∀ {x : Nat}, x ∈ pkeys ps → x ∈ pkeys (ps ++ [(e, jw ps here ++ [(t, u)])]) := fun z => by
  simp only [pkeys, List.map_append, List.mem_append]
  exact .inl z
 refine ⟨?_, List.mem_append.mpr (.inl h.start), fun k es hm => ?_⟩
 ·simp only [pkeys, List.map_append, List.map_cons, List.map_nil]
  refine List.nodup_append.mpr ⟨h.nd, by simp, fun a ha b' hb => ?_⟩
  simp only [List.mem_singleton] at hb
  subst hb
  intro z
  subst z
  exact he ha
 ·rcases List.mem_append.mp hm with hm | hm
  ·obtain ⟨vs, h1, h2⟩ := h.sc k es hm
   exact ⟨vs, h1, fun x hx => hk (h2 x hx)⟩
  ·simp only [List.mem_singleton] at hm
   cases hm
   obtain ⟨vs, h1, h2⟩ := h.sc _ _ (oq hh)
   refine ⟨vs ++ [e], h1.snoc (fun z => he (h2 _ z)) hd, fun x hx => ?_⟩
   rcases List.mem_append.mp hx with hx | hx
   ·exact hk (h2 x hx)
   ·simp only [List.mem_singleton] at hx
    subst hx
    simp [pkeys]
theorem Gr.path {ps : Pths} (h : Gr ls v ps) (hk : k ∈ pkeys ps) : ∃ vs, SC ls v vs (jw ps k) k := by
 obtain ⟨vs, h1, _⟩ := h.sc _ _ (oq hk)
 exact ⟨vs, h1⟩
theorem Gr.same (fo : Forest ls) {ps qs : Pths} (h : Gr ls v ps) (h' : Gr ls v qs) (hk : k ∈ pkeys ps) (hk' : k ∈ pkeys qs) : jw ps k = jw qs k := by
 obtain ⟨vs, h1⟩ := h.path hk
 obtain ⟨vs', h2⟩ := h'.path hk'
 exact SC.uniq fo h1 h2
theorem Gr.is (fo : Forest ls) {ps : Pths} (h : Gr ls v ps) (hk : k ∈ pkeys ps) (hs : SC ls v vs es k) : jw ps k = es := by
 obtain ⟨vs, h1⟩ := h.path hk
 exact SC.uniq fo h1 hs
end
section
end
section
end
section
end
section
end
section
end
section
end
section
end
section
end
def hL (us : List T) : T := .nd true .lst us
section
end
section
end
theorem wW (x y : Str) : (x ++ y).cps.toList = x.cps.toList ++ y.cps.toList := by
 show (x.cps ++ y.cps).toList = _
 rw [Array.toList_append]
theorem Cp (x y : Str) : (x ++ y).length = x.length + y.length := by
 have e : ∀ z : Str, z.length = z.cps.toList.length := fun z => by show z.cps.size = _; rw [Array.length_toList]
 rw [e, e, e, wW, List.length_append]
def nmS : List Nat := [97, 98, 99, 112, 113, 114, 115, 116, 117, 120, 121, 122]
def Nm (x : Str) : Prop := ∃ l : List Nat, 1 ≤ l.length ∧ l.length ≤ 3 ∧ (∀ a ∈ l, a ∈ nmS) ∧ x = ⟨l.toArray⟩
theorem Nm.len {x : Str} (h : Nm x) : x.length ≤ 3 := by
 obtain ⟨l, _, h2, _, rfl⟩ := h
 show l.toArray.size ≤ 3
 simpa using h2
section
theorem qG : ∀ (xs : List Str), hots (xs.map T.str) = false
 | [] => rfl
 | x :: xs => by show (hot (.str x) || hots (xs.map T.str)) = _; rw [qG xs]; rfl
end
def nsT (xs : List Str) : List T := xs.map T.str
section
variable {c: Cn}{xs: List Str}
def equT (c : Cn) (xs : List Str) : T := .nd false (.ins (c.cl "Equal") ["variables"]) [.tup (nsT xs)]
end
def Tx (n : Nat) (x : Str) : Prop := x.length ≤ n ∧ ∀ c ∈ x.cps.toList, c < 0x110000
theorem Tx.ok {n : Nat} {x : Str} (h : Tx n x) : PyData.strOk x = true := nY h.2
theorem Tx.mono {n m : Nat} {x : Str} (h : Tx n x) (l : n ≤ m) : Tx m x := ⟨Nat.le_trans h.1 l, h.2⟩
theorem Tx.app {n m : Nat} {x y : Str} (hx : Tx n x) (hy : Tx m y) : Tx (n + m) (x ++ y) := ⟨by rw [Cp]; exact Nat.add_le_add hx.1 hy.1, fun c hc => by
 rw [wW] at hc
 rcases List.mem_append.mp hc with h | h
 ·exact hx.2 c h
 ·exact hy.2 c h⟩
theorem Tx.emp : Tx 0 Str.empty := ⟨Nat.le_refl _, fun c hc => by cases hc⟩
theorem Tx.join {n m : Nat} {s : Str} (hs : Tx m s) : ∀ {xs : List Str}, (∀ x ∈ xs, Tx n x) → Tx (xs.length * (n + m)) (Str.join s xs)
 | [], _ => Tx.emp.mono (by simp)
 | [x], h => (h x (by simp)).mono (by simp)
 | x :: z :: r, h => by
  have h1 := h x (by simp)
  have h2 := Tx.join hs (xs := z :: r) fun y hy => h y (by simp [hy])
  have h3 := (h1.app hs).app h2
  refine Tx.mono (x := Str.join s (x :: z :: r)) h3 ?_
  simp only [List.length_cons, Nat.add_mul, Nat.one_mul]
  omega
theorem Tx.le {n : Nat} {x : Str} (h : Tx n x) (l : n ≤ 1000000) : x.length ≤ sizeLine := Nat.le_trans h.1 (cI l)
section
end
section
end
section
end
section
end
def nmB (x : Str) : Bool := decide (1 ≤ x.length ∧ x.length ≤ 3) && x.cps.toList.all fun a => decide (a ∈ ("abcdefghijklmnopqrstuvwxyz" : Str).cps.toList)
section
end
theorem As {k : Im} {ts : List T} : hot (.im k ts) = hots ts := by simp only [hot]
structure Sta where
 ev : List Str
 ks : List Tab
 sh : List Str
 sd : List T
 la : Int
 sol : T
structure Sta.Ok (s : Sta) : Prop where
 sd : hots s.sd = false
 sol : hot s.sol = false
section
section
end
def nsL (xs : List Str) : T := .nd false .lst (xs.map T.str)
@[simp] theorem Lg {xs : List Str} : hot (nsL xs) = false := by
  unfold nsL
  simp only [iZ, qG, Bool.false_or]
structure Nam (x : Str) : Prop where
 nm : nmB x = true
 ok : PyData.strOk x = true
theorem Nam.len {x : Str} (h : Nam x) : 1 ≤ x.length ∧ x.length ≤ 3 := by
 have := h.nm
 unfold nmB at this
 rw [Bool.and_eq_true] at this
 exact of_decide_eq_true this.1
end
section
section
end
end
section
variable {s: Sta}
theorem J0 {a : VD} {te te1 : BV.TE} {xs : List T} {b : Bool} (h : a te = ξ (.ok (.im (.tpl b) xs) te1)) (q : hots xs = false) : kj a te = ξ (.ok xs te1) := by
 unfold kj
 rw [h]
 show (if hots xs = true then ζ else ξ (VR.ok xs te1)) = _
 rw [if_neg (by rw [q]; decide)]
def Sta.as (s : Sta) (ys : List Str) : Sta := ⟨s.ev, s.ks, ys, s.sd, s.la, s.sol⟩
end
section
end
section
variable {s: Sta}
def Tp (y : T) (xs : List T) : Prop := y = .tup xs ∨ ∃ b, y = .im (.tpl b) xs
theorem Tp.cold {y : T} {xs : List T} (h : Tp y xs) (q : hots xs = false) : hot y = false := by
 rcases h with rfl | ⟨b, rfl⟩
 ·rw [fv]; exact q
 ·rw [As]; exact q
theorem Sta.Ok.as (h : s.Ok) {ys : List Str} : (s.as ys).Ok := ⟨h.sd, h.sol⟩
end
section
variable {ps: List Nat}
def PlT (x : T) (ps : List Nat) : Prop := x = .tup (ps.map fun v : Nat => T.int (v : Nat)) ∨ x = jz ps
theorem PlT.cold {x : T} (h : PlT x ps) : hot x = false := by
 rcases h with rfl | rfl
 ·simp only [fv]
  exact mr
 ·exact qH
end
section
end
section
variable {c: Cn}{xs: List Str}
def SqN (y : T) (xs : List T) : Prop := hots xs = false ∧ (y = .tup xs ∨ y = .nd false .lst xs ∨ ∃ b, y = .im (.tpl b) xs)
theorem SqN.cold {y : T} {xs : List T} (h : SqN y xs) : hot y = false := by
 obtain ⟨q, rfl | rfl | ⟨b, rfl⟩⟩ := h
 ·rw [fv]; exact q
 ·rw [iZ, q]; rfl
 ·rw [As]; exact q
theorem SqN.it {y : T} {xs : List T} {a : VD} {te te1 : BV.TE} (q : SqN y xs) (h : a te = ξ (.ok y te1)) : kj a te = ξ (.ok xs te1) := by
 obtain ⟨q, rfl | rfl | ⟨b, rfl⟩⟩ := q
 ·exact z0 h ⟨q, .inl rfl⟩
 ·exact z0 h ⟨q, .inr rfl⟩
 ·exact J0 h q
def entE (c : Cn) (e : Int × List Str) : T := .tup [.int e.1, equT c e.2]
end
section
variable {c: Cn}{s: Sta}{t: Tab}{S: Row → Prop}{o: Option Fk}{es: List (Int × List Str)}
structure StoE (c : Cn) (s : Sta) (es : List (Int × List Str)) (S : Row → Prop) (o : Option Fk) : Prop where
 ok : s.Ok
 kl : s.ks.length = s.ev.length
 good : ∀ t ∈ s.ks, GoodT t
 n : s.ks.length ≤ 100
 sh : s.sh.length ≤ 100
 sd : s.sd = es.map (entE c)
 sol : s.sol = optF c s.ks o
 F : FkOp s.ks S o
end
section
end
section
end
section
end
section
end
section
end
section
end
section
end
def ba65 : List Str := ["p", "q", "rr", "sss", "t"]
def us65 : List Str := ["uv", "uw", "ux", "uy", "uz"]
def own65 (m k : Nat) : List Str := ba65.take m ++ (us65.drop (m - 3)).take k
structure Own65 (m k : Nat) : Prop where
 len : (own65 m k).length = m + k
 nd : (own65 m k).Nodup
 nam : ∀ x ∈ own65 m k, PyData.strOk x = true ∧ nmB x = true
 new : ("new" : Str) ∉ own65 m k
 up : ("P" : Str) ∉ own65 m k
 p : ("p" : Str) ∈ own65 m k
 q : ("q" : Str) ∈ own65 m k
 r : ("rr" : Str) ∈ own65 m k
 nx : m + k < 8 → own65 m (k + 1) = own65 m k ++ [us65.getD (m + k - 3) ""]
theorem zv {m k : Nat} (h1 : 3 ≤ m) (h2 : m ≤ 5) (h3 : m + k ≤ 8) : Own65 m k := by
 have key : ∀ m ∈ [3, 4, 5], ∀ k ∈ [0, 1, 2, 3, 4, 5], m + k ≤ 8 → (own65 m k).length = m + k ∧ (own65 m k).Nodup ∧ (∀ x ∈ own65 m k, PyData.strOk x = true ∧ nmB x = true) ∧ ("new" : Str) ∉ own65 m k ∧ ("P" : Str) ∉ own65 m k ∧ ("p" : Str) ∈ own65 m k ∧ ("q" : Str) ∈ own65 m k ∧ ("rr" : Str) ∈ own65 m k ∧ (m + k < 8 → own65 m (k + 1) = own65 m k ++ [us65.getD (m + k - 3) ""]) := by decide +kernel
 have hm : m ∈ [3, 4, 5] := by
  simp only [List.mem_cons, List.not_mem_nil, or_false]
  omega
 have hk : k ∈ [0, 1, 2, 3, 4, 5] := by
  simp only [List.mem_cons, List.not_mem_nil, or_false]
  omega
 obtain ⟨a1, a2, a3, a4, a5, a6, a7, a8, a9⟩ := key m hm k hk h3
 exact ⟨a1, a2, a3, a4, a5, a6, a7, a8, a9⟩
def es65 : List (Int × List Str) := [(1, ["p", "q"]), (2, ["q", "rr"])]
structure I65 (c : Cn) (t : Tab) (m k : Nat) (s : Sta) (p : List Sta) (n : Nat) : Prop where
 m3 : 3 ≤ m
 m5 : m ≤ 5
 m8 : m + k ≤ 8
 ev : s.ev = own65 m k
 ks : s.ks = List.replicate (m + k) t
 sub : ∀ x ∈ s.sh, x ∈ s.ev
 nd : s.sh.Nodup
 sto : ∃ S o, StoE c s es65 S o
 la : s.la = 2
 pl : p.length ≤ n
section
variable {c: Cn}{s: Sta}{p: List Sta}{t: Tab}{m k n: Nat}
theorem I65.own (I : I65 c t m k s p n) : Own65 m k := zv I.m3 I.m5 I.m8
theorem I65.el (I : I65 c t m k s p n) : s.ev.length = m + k := by rw [I.ev]; exact I.own.len
theorem I65.ok (I : I65 c t m k s p n) : s.Ok := let ⟨_, _, h⟩ := I.sto; h.ok
theorem I65.as (I : I65 c t m k s p n) {ys : List Str} (h1 : ∀ x ∈ ys, x ∈ s.ev) (h2 : ys.Nodup) : I65 c t m k (s.as ys) (p ++ [s]) (n + 1) where
 m3 := I.m3
 m5 := I.m5
 m8 := I.m8
 ev := I.ev
 ks := I.ks
 sub := h1
 nd := h2
 sto := by
  obtain ⟨S, o, h⟩ := I.sto
  have := v5 h2 h1
  have := I.el
  have := I.m8
  exact ⟨S, o, h.ok.as, h.kl, h.good, h.n, by show ys.length ≤ 100; omega, h.sd, h.sol, h.F⟩
 la := I.la
 pl := by have := I.pl; rw [List.length_append]; simpa using this
theorem I65.up (I : I65 c t m k s p n) : I65 c t m k s p (n + 1) := { I with pl := Nat.le_succ_of_le I.pl }
end
structure Ex08 (c : Cn) : Prop where
 own : ∀ n m, n ∈ xNames → m ∈ xNames → c.xis (c.cl n) (.ob (c.cl m)) = ξ (n == m)
 kept : ∀ n ∈ xNames, c.xis (c.cl n) (.ob (c.cl "KeptError")) = ξ ((xUp n).contains "KeptError")
 ty : ∀ n ∈ xNames, ∀ t ∈ xTys, c.xis (c.cl n) (.ty t) = ξ ((xUp n).contains t)
theorem ex08_ok {K : PySem.W.Frag} (h : xisB K = true) : Ex08 (cn K) := by
 unfold xisB at h
 simp only [List.all_eq_true, Bool.and_eq_true, beq_iff_eq] at h
 exact ⟨fun n m hn hm => (h n hn).1 m hm, fun n hn => (h n hn).2.1, fun n hn t ht => (h n hn).2.2 t ht⟩
section
variable {c: Cn}{n: Str}{fs: List Str}{ts: List T}
abbrev gA (c : Cn) (n : Str) (fs : List Str) (ts : List T) : T := .im (.exc (c.cl n) fs) ts
theorem vp (hn : n ∈ xNames) : c.cl n ∈ eS c := List.mem_map.mpr ⟨n, hn, rfl⟩
theorem c' (E : Ex08 c) (hn : n ∈ xNames) {m : Str} (hm : m ∈ xNames) : dW c (eS c) [gA c n fs ts, .ob (c.cl m)] = ξ (.pur (.bl (n == m))) := by
 unfold dW
 simp only [if_pos (vp hn), E.own n m hn hm]
theorem Cz (E : Ex08 c) (hn : n ∈ xNames) : dW c (eS c) [gA c n fs ts, .ob (c.cl "KeptError")] = ξ (.pur (.bl ((xUp n).contains "KeptError"))) := by
 unfold dW
 simp only [if_pos (vp hn), E.kept n hn]
theorem qB (E : Ex08 c) (hn : n ∈ xNames) {t : String} (ht : t ∈ xTys) : dW c (eS c) [gA c n fs ts, .ty t] = ξ (.pur (.bl ((xUp n).contains t))) := by
 unfold dW
 simp only [if_pos (vp hn), E.ty n hn t ht]
def ord08 : List Str := ["BadKind", "BadSize", "BadEntries", "BadRow", "NotClosed", "KindsDiffer", "BadOrder", "BadName", "BadConstraint", "BadCommand", "BadPlace", "UnknownName", "DuplicateName", "UnknownNumber", "EmptySet", "Known", "WrongState", "NothingLeft", "Full", "Busy"]
theorem bK {m : Str} (i : Nat) (h : xNames[i]? = ξ m) : m ∈ xNames := List.mem_of_getElem? h
def j' (l : List Bool) : T := .nd false .lst (l.map T.bl)
theorem C6 (E : Ex08 c) (hn : n ∈ xNames) (hh : hot (gA c n fs ts) = false) : cW c [gA c n fs ts] = ξ (.ok (j' (ord08.map fun m => n == m)) []) := by
 have q0 := c' (fs := fs) (ts := ts) E hn (bK 0 rfl)
 have q1 := c' (fs := fs) (ts := ts) E hn (bK 1 rfl)
 have q2 := c' (fs := fs) (ts := ts) E hn (bK 2 rfl)
 have q3 := c' (fs := fs) (ts := ts) E hn (bK 3 rfl)
 have q4 := c' (fs := fs) (ts := ts) E hn (bK 4 rfl)
 have q5 := c' (fs := fs) (ts := ts) E hn (bK 5 rfl)
 have q6 := c' (fs := fs) (ts := ts) E hn (bK 6 rfl)
 have q7 := c' (fs := fs) (ts := ts) E hn (bK 7 rfl)
 have q8 := c' (fs := fs) (ts := ts) E hn (bK 8 rfl)
 have q9 := c' (fs := fs) (ts := ts) E hn (bK 9 rfl)
 have q10 := c' (fs := fs) (ts := ts) E hn (bK 10 rfl)
 have q11 := c' (fs := fs) (ts := ts) E hn (bK 11 rfl)
 have q12 := c' (fs := fs) (ts := ts) E hn (bK 12 rfl)
 have q13 := c' (fs := fs) (ts := ts) E hn (bK 13 rfl)
 have q14 := c' (fs := fs) (ts := ts) E hn (bK 14 rfl)
 have q15 := c' (fs := fs) (ts := ts) E hn (bK 15 rfl)
 have q16 := c' (fs := fs) (ts := ts) E hn (bK 16 rfl)
 have q17 := c' (fs := fs) (ts := ts) E hn (bK 17 rfl)
 have q18 := c' (fs := fs) (ts := ts) E hn (bK 18 rfl)
 have q19 := c' (fs := fs) (ts := ts) E hn (bK 19 rfl)
 have z3 : (3 : Nat) ≤ sizeLine := cI (by decide)
 have z2 : (2 : Nat) ≤ sizeLine := cI (by decide)
 have z6 : (6 : Nat) ≤ sizeLine := cI (by decide)
 have z9 : (9 : Nat) ≤ sizeLine := cI (by decide)
 have z12 : (12 : Nat) ≤ sizeLine := cI (by decide)
 have z15 : (15 : Nat) ≤ sizeLine := cI (by decide)
 have z18 : (18 : Nat) ≤ sizeLine := cI (by decide)
 have z20 : (20 : Nat) ≤ sizeLine := cI (by decide)
 generalize gA c n fs ts = x at *
 have key : Dl (cW c [x]) fun r gs => gs = [] ∧ r = j' (ord08.map fun m => n == m) := by
  refine ib rfl ?_
  unfold eV
  refine aS (te1 := [ξ x, ξ (j' ((ord08.take 3).map fun m => n == m))]) (by simp [j', ord08, *]) ?_
  refine aS (te1 := [ξ x, ξ (j' ((ord08.take 6).map fun m => n == m))]) (by simp [j', ord08, *]) ?_
  refine aS (te1 := [ξ x, ξ (j' ((ord08.take 9).map fun m => n == m))]) (by simp [j', ord08, *]) ?_
  refine aS (te1 := [ξ x, ξ (j' ((ord08.take 12).map fun m => n == m))]) (by simp [j', ord08, *]) ?_
  refine aS (te1 := [ξ x, ξ (j' ((ord08.take 15).map fun m => n == m))]) (by simp [j', ord08, *]) ?_
  refine aS (te1 := [ξ x, ξ (j' ((ord08.take 18).map fun m => n == m))]) (by simp [j', ord08, *]) ?_
  exact jc (t := j' (ord08.map fun m => n == m)) (te1 := [ξ x, ξ (j' ((ord08.take 18).map fun m => n == m))]) (by simp [j', ord08, *]) ⟨[], rfl, rfl, rfl⟩
 obtain ⟨r, gs, e, rfl, rfl⟩ := key
 exact e
def xm (n : Str) : List Bool := ["KeptError", "ValueError", "LookupError", "KeyError", "IndexError", "OverflowError", "RuntimeError"].map fun t => (xUp n).contains t
theorem w5 (E : Ex08 c) (hn : n ∈ xNames) (hh : hot (gA c n fs ts) = false) : b8 c [gA c n fs ts] = ξ (.ok (j' (xm n)) []) := by
 have q0 := Cz (fs := fs) (ts := ts) E hn
 have q1 := qB (fs := fs) (ts := ts) E hn (t := "ValueError") (by decide)
 have q2 := qB (fs := fs) (ts := ts) E hn (t := "LookupError") (by decide)
 have q3 := qB (fs := fs) (ts := ts) E hn (t := "KeyError") (by decide)
 have q4 := qB (fs := fs) (ts := ts) E hn (t := "IndexError") (by decide)
 have q5 := qB (fs := fs) (ts := ts) E hn (t := "OverflowError") (by decide)
 have q6 := qB (fs := fs) (ts := ts) E hn (t := "RuntimeError") (by decide)
 have z1 : (1 : Nat) ≤ sizeLine := cI (by decide)
 have z3 : (3 : Nat) ≤ sizeLine := cI (by decide)
 have z6 : (6 : Nat) ≤ sizeLine := cI (by decide)
 have z7 : (7 : Nat) ≤ sizeLine := cI (by decide)
 unfold xm
 generalize xUp n = up at *
 generalize gA c n fs ts = x at *
 have key : Dl (b8 c [x]) fun r gs => gs = [] ∧ r = j' (["KeptError", "ValueError", "LookupError", "KeyError", "IndexError", "OverflowError", "RuntimeError"].map fun t => up.contains t) := by
  refine ib rfl ?_
  unfold iB
  refine aS (te1 := [ξ x, ξ (j' (["KeptError", "ValueError", "LookupError"].map fun t => up.contains t))]) (by simp [j', -List.contains_eq_mem, *]) ?_
  refine aS (te1 := [ξ x, ξ (j' (["KeptError", "ValueError", "LookupError", "KeyError", "IndexError", "OverflowError"].map fun t => up.contains t))]) (by simp [j', -List.contains_eq_mem, *]) ?_
  exact jc (t := j' (["KeptError", "ValueError", "LookupError", "KeyError", "IndexError", "OverflowError", "RuntimeError"].map fun t => up.contains t)) (te1 := [ξ x, ξ (j' (["KeptError", "ValueError", "LookupError", "KeyError", "IndexError", "OverflowError"].map fun t => up.contains t))]) (by simp [j', -List.contains_eq_mem, *]) ⟨[], rfl, rfl, rfl⟩
 obtain ⟨r, gs, e, rfl, rfl⟩ := key
 exact e
end
section
variable {c: Cn}{a: T}
@[simp] theorem Hq {C : Addr} {fs : List Str} {as : VA} {te : BV.TE} : bD C fs as te = bu (as te) fun xs te1 => if xs.length = fs.length ∧ xs.length ≤ 1000 then ξ (.ok (.im (.exc C fs) xs) te1) else ζ := rfl
@[simp] theorem Hr {C : Addr} {fs : List Str} {n : Nat} {p : List Nat} {as : VA} {te : BV.TE} : gR C fs n p as te = bu (as te) fun xs te1 => if hots xs = true then ζ else if xs.length = n ∧ (pickL p xs).length = fs.length then ξ (.ok (.im (.exc C fs) (pickL p xs)) te1) else ζ := rfl
@[simp] theorem xh {C : Addr} {te : BV.TE} : gC C te = ξ (.ok (.im (.exc C []) []) te) := rfl
theorem dD {C : Addr} {fs : List Str} {ts : List T} (h : hots ts = false) : frz (.im (.exc C fs) ts) = .im (.exc C fs) ts := oP (by simp [hot, h])
theorem qN : ∀ {i : Nat} {us : List T} {t : T}, t ∈ hZ i us → ∃ j u, us[j]? = ξ u ∧ t = .tup [.int ((i + j : Nat) : Int), u]
 | _, [], _, h => by cases h
 | i, u :: us, t, h => by
  rcases List.mem_cons.mp h with h | h
  ·exact ⟨0, u, rfl, h⟩
  ·obtain ⟨j, u', h1, h2⟩ := qN h
   exact ⟨j + 1, u', h1, by rw [h2]; congr 4; omega⟩
def x8 : List (List Str) := [["x", "y"], ["given"], [], ["row"], ["x", "y", "z"], ["place", "other"], [], ["name"], [], [], ["place"], ["name"], ["name"], ["number"], [], ["row"], ["name"], [], ["most"], []]
def dw (c : Cn) (a : T) : List T := (ord08.zip x8).map fun p => gA c p.1 p.2 (p.2.map fun _ => a)
theorem rX {n : Str} {fs : List Str} {ts : List T} (h : hots ts = false) : hot (gA c n fs ts) = false := by simp [hot, h]
theorem zu (ha : hot a = false) {x : T} {i : Nat} (h : (dw c a)[i]? = ξ x) : ∃ n fs, ord08[i]? = ξ n ∧ x = gA c n fs (fs.map fun _ => a) ∧ hot x = false := by
 unfold dw at h
 rw [List.getElem?_map, Option.map_eq_some_iff] at h
 obtain ⟨⟨n, fs⟩, h1, rfl⟩ := h
 exact ⟨n, fs, (List.getElem?_zip_eq_some.mp h1).1, rfl, rX (aU fun _ _ => ha)⟩
theorem uk (ha : hot a = false) : hots (dw c a) = false := hots_iff.mpr fun x hx => by
 obtain ⟨i, hi⟩ := List.mem_iff_getElem?.mp hx
 obtain ⟨_, _, _, _, h⟩ := zu ha hi
 exact h
theorem xK : ord08.Nodup := by decide
theorem B9 : ∀ n ∈ ord08, n ∈ xNames := by decide
theorem vO {l : List Bool} (h : l.length ≤ 20) : Vl 5 1000 (j' l) := (Vl.lst (k := 20) (fun x hx => by
 obtain ⟨b, _, rfl⟩ := List.mem_map.mp hx
 exact Vl.bl) (by simpa using h)).mono (by decide) (by decide)
def D7 : VD := aL (xi (iH (aa (az (bz gI (av (ai 1) aD))) aq)) (gName 4) gQ (az (aH uH (ai 4) (ai 2))) [4])
def D8 (c : Cn) : cq := aE [2, 3] (aE [2, 3] (eN (cE (jq lU (bR (cW c) [] (aa (az (ai 3)) aq)) D7)) (bG (az (aG (.bl false)))) bO))
theorem Dg (ha : hot a = false) {i : Nat} {n : Str} (hi : ord08[i]? = ξ n) {x : T} : D7 [ζ, ξ (.nd false .lst (dw c a)), ξ (.int (i : Nat)), ξ x, ζ] = ξ (.ok (j' (ord08.map fun m => n == m)) [ζ, ξ (.nd false .lst (dw c a)), ξ (.int (i : Nat)), ξ x, ζ]) := by
 have hl : (dw c a).length = 20 := rfl
 have hh := uk (c := c) ha
 generalize dw c a = xs at hl hh ⊢
 have h1 : az (bz gI (av (ai 1) aD)) [ζ, ξ (.nd false .lst xs), ξ (.int (i : Nat)), ξ x, ζ] = ξ (.ok (.int ((20 : Nat) : Int)) [ζ, ξ (.nd false .lst xs), ξ (.int (i : Nat)), ξ x, ζ]) := by simp [hh, hl]
 have h2 := za h1 (by decide)
 have e := Fy (i := 4) (zs := [4]) (elt := az (aH uH (ai 4) (ai 2))) (k := fun v : Nat => T.bl (decide (v = i))) h2 (by decide) rfl fun v _ => ⟨rfl, _, (by simp; omega : _ = ξ (VR.ok (T.bl (decide (v = i))) [ζ, ξ (.nd false .lst xs), ξ (.int (i : Nat)), ξ x, ξ (.int (v : Nat))])), rfl⟩
 refine (sq e).trans ?_
 have e2 : (List.range 20).map (fun v : Nat => T.bl (decide (v = i))) = (ord08.map fun m => n == m).map T.bl := by
  refine List.ext_getElem? fun v => ?_
  by_cases hv : v < 20
  ·obtain ⟨m, hm⟩ : ∃ m, ord08[v]? = ξ m := ⟨_, List.getElem?_eq_getElem (l := ord08) hv⟩
   simp only [List.getElem?_map, hm, List.getElem?_range hv, Option.map_some]
   congr 2
   by_cases hvi : v = i
   ·subst hvi
    rw [hi] at hm
    cases hm
    simp
   ·have : n ≠ m := fun h => hvi (by
     subst h
     have hiL : i < ord08.length := (List.getElem?_eq_some_iff.mp hi).1
     exact ((List.getElem?_inj hiL xK).mp (hi.trans hm.symm)).symm)
    simp [hvi, this]
  ·have h1 : (List.range 20)[v]? = ζ := List.getElem?_eq_none_iff.mpr (by simp; omega)
   have h2 : ord08[v]? = ζ := List.getElem?_eq_none_iff.mpr (by show 20 ≤ v; omega)
   simp only [List.getElem?_map, h1, h2, Option.map_none]
 rw [vH, e2]
 have hc : hots ((ord08.map fun m => n == m).map T.bl) = false := aU fun _ _ => rfl
 rw [frzs_of hc]
 rfl
theorem Df (E : Ex08 c) : fF c [.int 0] = ξ (.ok (.bl true) []) := by
 have z6 : (6 : Nat) ≤ sizeLine := cI (by decide)
 have z7 : (7 : Nat) ≤ sizeLine := cI (by decide)
 have z13 : (13 : Nat) ≤ sizeLine := cI (by decide)
 have z20 : (20 : Nat) ≤ sizeLine := cI (by decide)
 have key : Dl (fF c [.int 0]) fun r gs => gs = [] ∧ r = .bl true := by
  refine ib rfl ?_
  unfold iD
  refine aS (te1 := [ξ (.int 0), ξ (.nd false .lst ((dw c (.int 0)).take 7)), ζ, ζ, ζ]) (by simp [dw, ord08, x8, hot, gA, dD, *]) ?_
  refine aS (te1 := [ξ (.int 0), ξ (.nd false .lst ((dw c (.int 0)).take 13)), ζ, ζ, ζ]) (by simp [dw, ord08, x8, hot, gA, dD, *]) ?_
  refine aS (te1 := [ζ, ξ (.nd false .lst (dw c (.int 0))), ζ, ζ, ζ]) (by simp [dw, ord08, x8, hot, gA, dD, *]) ?_
  have ho := uk (c := c) (a := .int 0) rfl
  have l1 : cM (jE 2 (bw (gName 2) (bw (gName 3) gF))) (D8 c) (hZ 0 (dw c (.int 0))) [ζ, ξ (.nd false .lst (dw c (.int 0))), ζ, ζ, ζ] = ξ (.fl .next [ζ, ξ (.nd false .lst (dw c (.int 0))), ζ, ζ, ζ]) := oR fun t ht => by
   obtain ⟨i, x, hx, rfl⟩ := qN ht
   obtain ⟨n, fs, hn, rfl, hh⟩ := zu (a := .int 0) rfl hx
   rw [Nat.zero_add]
   have e1 := C6 E (B9 n (List.mem_of_getElem? hn)) hh
   have e2 := Dg (c := c) (a := .int 0) rfl hn (x := gA c n fs (fs.map fun _ => .int 0))
   refine ⟨[ζ, ξ (.nd false .lst (dw c (.int 0))), ξ (.int (i : Nat)), ξ (gA c n fs (fs.map fun _ => .int 0)), ζ], by simp [hh], ?_⟩
   have e3 := gi (te := [ζ, ξ (.nd false .lst (dw c (.int 0))), ξ (.int (i : Nat)), ξ (gA c n fs (fs.map fun _ => .int 0)), ζ]) (aV (i := 3) rfl hh aN) e1
   exact aT (zs := [2, 3]) (aT (zs := [2, 3]) (iX (a := bG (az (aG (.bl false)))) (b := bO) (jP (ve e3 e2 (jv (vO (by rw [List.length_map]; decide)) (by decide)))) rfl))
  have l2 := aT (zs := [1, 2, 3]) ((gW (g := jE 2 (bw (gName 2) (bw (gName 3) gF))) (body := D8 c) (DX (as := aa (az (ai 1)) aq) (te := [ζ, ξ (.nd false .lst (dw c (.int 0))), ζ, ζ, ζ]) ⟨ho, .inr rfl⟩ (aV (i := 1) rfl (by simp [hot, ho]) aN))).trans l1)
  exact aS l2 (jc (t := .bl true) (te1 := [ζ, ζ, ζ, ζ, ζ]) rfl ⟨[], rfl, rfl, rfl⟩)
 obtain ⟨r, gs, e, rfl, rfl⟩ := key
 exact e
def bl7 (b1 b2 b3 b4 b5 b6 b7 : Bool) : VD := (aL (cg (aa (az (aG (.bl b1))) (aa (az (aG (.bl b2))) (aa (az (aG (.bl b3))) (aa (az (aG (.bl b4))) (aa (az (aG (.bl b5))) (aa (az (aG (.bl b6))) (aa (az (aG (.bl b7))) aq)))))))))
theorem qP {b1 b2 b3 b4 b5 b6 b7 : Bool} {te : BV.TE} : bl7 b1 b2 b3 b4 b5 b6 b7 te = ξ (.ok (j' [b1, b2, b3, b4, b5, b6, b7]) te) := by
 have z7 : (7 : Nat) ≤ sizeLine := cI (by decide)
 simp [bl7, j', z7]
def bsI (c : Cn) (as : VA) (E : VD) : cq := (eN (cE (jq lU (bR (b8 c) [] as) E)) (bG (az (aG (.bl false)))) bO)
theorem A8 (X : Ex08 c) {as : VA} {E : VD} {te : BV.TE} {l : List Bool} {n : Str} {fs : List Str} {ts : List T} (hE : E te = ξ (.ok (j' l) te)) (hl : l.length ≤ 20) (hn : n ∈ xNames) (hh : hots ts = false) (hu : xm n = l) (ha : as te = ξ (.ok [gA c n fs ts] te)) : bsI c as E te = ξ (.fl .next te) := by
 have e := w5 (fs := fs) (ts := ts) X hn (rX hh)
 rw [hu] at e
 exact iX (a := bG (az (aG (.bl false)))) (b := bO) (jP (ve (gi ha e) hE (jv (vO hl) (by decide)))) rfl
def bsB (c : Cn) (E : VD) : cq := aE [2] (aE [2] (bsI c (aa (az (ai 2)) aq) E))
theorem sx (X : Ex08 c) {E : VD} {l : List Bool} {us : List T} {k : Option T} (hE : ∀ te, E te = ξ (.ok (j' l) te)) (hl : l.length ≤ 20) (h : ∀ t ∈ us, ∃ n fs ts, t = gA c n fs ts ∧ n ∈ xNames ∧ hots ts = false ∧ xm n = l) : cM (gName 2) (bsB c E) us [ξ a, k, ζ] = ξ (.fl .next [ξ a, k, ζ]) := mw fun t ht => by
 obtain ⟨n, fs, ts, rfl, hn, hh, hu⟩ := h t ht
 exact aT (zs := [2]) (aT (zs := [2]) (A8 (te := [ξ a, k, ξ (gA c n fs ts)]) X (hE _) hl hn hh hu (aV (i := 2) rfl (rX hh) aN)))
theorem bt {α : Type} {P : α → Prop} {x : α} {l : List α} (h : P x) (k : ∀ y ∈ l, P y) : ∀ y ∈ x :: l, P y := fun y hy => by
 rcases List.mem_cons.mp hy with rfl | hy
 ·exact h
 ·exact k y hy
theorem nE {α : Type} {P : α → Prop} : ∀ y ∈ ([] : List α), P y := fun y hy => by cases hy
theorem jC {l : List Bool} (n : Str) {fs : List Str} {ts : List T} (i : Nat) (h : xNames[i]? = ξ n) (hh : hots ts = false) (hu : xm n = l) : ∃ m gs us, gA c n fs ts = gA c m gs us ∧ m ∈ xNames ∧ hots us = false ∧ xm m = l := ⟨n, fs, ts, rfl, bK i h, hh, hu⟩
theorem uE (X : Ex08 c) (ha : hot a = false) : cK c [a] = ξ (.ok (.bl true) []) := by
 have z3 : (3 : Nat) ≤ sizeLine := cI (by decide)
 have z4 : (4 : Nat) ≤ sizeLine := cI (by decide)
 have z7 : (7 : Nat) ≤ sizeLine := cI (by decide)
 have z10 : (10 : Nat) ≤ sizeLine := cI (by decide)
 have h1 : hots [a] = false := by simp [ha]
 have h2 : hots [a, a] = false := by simp [ha]
 have h3 : hots [a, a, a] = false := by simp [ha]
 have mk1 : ∀ {C : Addr} {f : Str} {te : BV.TE}, bD C [f] (aa (az (ai 0)) aq) (ξ a :: te) = ξ (.ok (.im (.exc C [f]) [a]) (ξ a :: te)) := by simp [ha]
 have key : Dl (cK c [a]) fun r gs => gs = [] ∧ r = .bl true := by
  refine ib rfl ?_
  unfold eE
  refine aS (te1 := [ξ a, ξ (.nd false .lst ((dw c a).take 7)), ζ]) (by simp [dw, ord08, x8, hot, gA, dD, *]) ?_
  have l1 := sx (c := c) (a := a) X (us := (dw c a).take 10) (k := ξ (.nd false .lst ((dw c a).take 7))) (fun _ => qP (b1 := true) (b2 := true) (b3 := false) (b4 := false) (b5 := false) (b6 := false) (b7 := false)) (by decide)
   (bt (jC "BadKind" 3 rfl h2 rfl) (bt (jC "BadSize" 8 rfl h1 rfl) (bt (jC "BadEntries" 2 rfl rfl rfl) (bt (jC "BadRow" 7 rfl h1 rfl) (bt (jC "NotClosed" 15 rfl h3 rfl) (bt (jC "KindsDiffer" 13 rfl h2 rfl) (bt (jC "BadOrder" 5 rfl rfl rfl) (bt (jC "BadName" 4 rfl h1 rfl) (bt (jC "BadConstraint" 1 rfl rfl rfl) (bt (jC "BadCommand" 0 rfl rfl rfl) nE))))))))))
  refine aS (te1 := [ξ a, ζ, ζ]) (aT (zs := [1, 2]) ((gW (g := gName 2) (te1 := [ξ a, ξ (.nd false .lst ((dw c a).take 7)), ζ]) (ts := (dw c a).take 10) (by simp [dw, ord08, x8, hot, gA, dD, *])).trans l1)) ?_
  have l2 := sx (c := c) (a := a) X (us := [gA c "UnknownName" ["name"] [a], gA c "DuplicateName" ["name"] [a], gA c "UnknownNumber" ["number"] [a]]) (k := ζ) (fun _ => qP (b1 := false) (b2 := false) (b3 := true) (b4 := true) (b5 := false) (b6 := false) (b7 := false)) (by decide)
   (bt (jC "UnknownName" 17 rfl h1 rfl) (bt (jC "DuplicateName" 10 rfl h1 rfl) (bt (jC "UnknownNumber" 18 rfl h1 rfl) nE)))
  refine aS (te1 := [ξ a, ζ, ζ]) (aT (zs := [2]) ((gW (g := gName 2) (te1 := [ξ a, ζ, ζ]) (ts := [gA c "UnknownName" ["name"] [a], gA c "DuplicateName" ["name"] [a], gA c "UnknownNumber" ["number"] [a]]) (by simp [hot, gA, dD, *])).trans l2)) ?_
  have l3 := sx (c := c) (a := a) X (us := [gA c "EmptySet" [] [], gA c "Known" ["row"] [a], gA c "WrongState" ["name"] [a], gA c "NothingLeft" [] []]) (k := ζ) (fun _ => qP (b1 := false) (b2 := false) (b3 := true) (b4 := false) (b5 := false) (b6 := false) (b7 := false)) (by decide)
   (bt (jC "EmptySet" 11 rfl rfl rfl) (bt (jC "Known" 14 rfl h1 rfl) (bt (jC "WrongState" 19 rfl h1 rfl) (bt (jC "NothingLeft" 16 rfl rfl rfl) nE))))
  refine aS (te1 := [ξ a, ζ, ζ]) (aT (zs := [2]) ((gW (g := gName 2) (te1 := [ξ a, ζ, ζ]) (ts := [gA c "EmptySet" [] [], gA c "Known" ["row"] [a], gA c "WrongState" ["name"] [a], gA c "NothingLeft" [] []]) (by simp [hot, gA, dD, *])).trans l3)) ?_
  refine aS (te1 := [ξ a, ζ, ζ]) (A8 (n := "BadPlace") (fs := ["place"]) (ts := [a]) X qP (by decide) (bK 6 rfl) h1 rfl (aC mk1 aN)) ?_
  refine aS (te1 := [ζ, ζ, ζ]) (aT (zs := [0]) (A8 (te := [ξ a, ζ, ζ]) (n := "Full") (fs := ["most"]) (ts := [a]) X qP (by decide) (bK 12 rfl) h1 rfl (aC mk1 aN))) ?_
  have e := w5 (n := "Busy") (fs := []) (ts := []) X (bK 9 rfl) rfl
  exact jc (t := .bl true) (te1 := [ζ, ζ, ζ]) (ve (gi (aC xh aN) e) qP (om (vO (l := [false, false, false, false, false, false, true]) (by decide)) (by decide))) ⟨[], rfl, rfl, rfl⟩
 obtain ⟨r, gs, e, rfl, rfl⟩ := key
 exact e
end
section
variable {c: Cn}{x y z: T}
theorem fU {C : Addr} {f : Str} {o : VD} {te : BV.TE} : cF C f o te = bu (o te) fun t te1 => match t with
 | .im (.exc C' fs) ts => if C' = C ∧ hots ts = false then (match (fs.zip ts).lookup f with
  | some u => ξ (.ok u te1)
  | none => ζ) else ζ
 | _ => ζ := rfl
def r8 (k : Nat) (x : T) : T := .nd false .lst (List.replicate k x)
theorem qm20 (h : hot x = false) : fN (.nd false .lst [x]) (.int 20) = ξ (.new .lst (List.replicate 20 x)) := by
 have z20 : (20 : Nat) ≤ sizeLine := cI (by decide)
 simp [fN, BV.tI, BL, pI, h, z20, List.replicate]
theorem se (hx : Vl 4 1000 x) (hy : Vl 4 1000 y) (hz : Vl 4 1000 z) : cB c [x, y, z] = ξ (.ok (.bl true) []) := by
 have z1 : (1 : Nat) ≤ sizeLine := cI (by decide)
 have z2 : (2 : Nat) ≤ sizeLine := cI (by decide)
 have z4 : (4 : Nat) ≤ sizeLine := cI (by decide)
 have z6 : (6 : Nat) ≤ sizeLine := cI (by decide)
 have z8 : (8 : Nat) ≤ sizeLine := cI (by decide)
 have z10 : (10 : Nat) ≤ sizeLine := cI (by decide)
 have z14 : (14 : Nat) ≤ sizeLine := cI (by decide)
 have z18 : (18 : Nat) ≤ sizeLine := cI (by decide)
 have z20 : (20 : Nat) ≤ sizeLine := cI (by decide)
 have cx := hx.cold
 have cy := hy.cold
 have cz := hz.cold
 have fx := oP cx
 have fy := oP cy
 have fz := oP cz
 have b1 : (("y" : Str) == "x") = false := by decide
 have b2 : (("z" : Str) == "x") = false := by decide
 have b3 : (("z" : Str) == "y") = false := by decide
 have b4 : (("other" : Str) == "place") = false := by decide
 have n8 : lU (.nd false .lst [x, y, x, y, z, x, y, x]) (.nd false .lst [x, y, x, y, z, x, y, x]) = ξ (.pur (.bl false)) := jv (Vl.lst (k := 8) (bt hx (bt hy (bt hx (bt hy (bt hz (bt hx (bt hy (bt hx nE)))))))) (by simp)) (by decide)
 have nz : lU z z = ξ (.pur (.bl false)) := jv hz (by decide)
 have ny : lU y y = ξ (.pur (.bl false)) := jv hy (by decide)
 have m20 := qm20 cx
 have e20 : uH (r8 20 x) (r8 20 x) = ξ (.pur (.bl true)) := om (Vl.lst (k := 20) (fun t ht => by rw [List.eq_of_mem_replicate ht]; exact hx) (by simp)) (by decide)
 have key : Dl (cB c [x, y, z]) fun r gs => gs = [] ∧ r = .bl true := by
  refine ib rfl ?_
  unfold d4
  refine aS (te1 := [ξ x, ξ y, ξ z, ξ (gA c "BadKind" ["x", "y"] [x, y]), ξ (gA c "NotClosed" ["x", "y", "z"] [x, y, z]), ξ (gA c "KindsDiffer" ["place", "other"] [x, y]), ζ]) (by simp [hot, gA, dD, pickL, *]) ?_
  refine aS (te1 := [ξ x, ξ y, ξ z, ζ, ζ, ζ, ξ (.nd false .lst [x, y, x, y, z, x, y, x])]) (by simp [hot, gA, dD, pickL, fU, List.lookup, *]) ?_
  refine aS (te1 := [ξ x, ζ, ζ, ζ, ζ, ζ, ζ]) (by simp [hot, gA, dD, pickL, fU, List.lookup, *]) ?_
  refine aS (te1 := [ξ x, ζ, ζ, ζ, ζ, ζ, ξ (r8 6 x)]) (by simp [hot, gA, dD, pickL, fU, List.lookup, r8, List.replicate, *]) ?_
  refine aS (te1 := [ξ x, ζ, ζ, ζ, ζ, ζ, ξ (r8 10 x)]) (by simp [hot, gA, dD, pickL, fU, List.lookup, r8, List.replicate, *]) ?_
  refine aS (te1 := [ξ x, ζ, ζ, ζ, ζ, ζ, ξ (r8 14 x)]) (by simp [hot, gA, dD, pickL, fU, List.lookup, r8, List.replicate, *]) ?_
  refine aS (te1 := [ξ x, ζ, ζ, ζ, ζ, ζ, ξ (r8 18 x)]) (by simp [hot, gA, dD, pickL, fU, List.lookup, r8, List.replicate, *]) ?_
  exact jc (t := .bl true) (te1 := [ξ x, ζ, ζ, ζ, ζ, ζ, ξ (r8 18 x)]) (by
   have e20' := e20
   simp only [r8, List.replicate] at e20' m20
   simp [hot, gA, dD, pickL, fU, List.lookup, r8, List.replicate, *]) ⟨[], rfl, rfl, rfl⟩
 obtain ⟨r, gs, e, rfl, rfl⟩ := key
 exact e
end
section
variable {c: Cn}{sc: List Int}
theorem y7 {ms : List Bool} {n : Nat} {a b : cq} {ts : List T} (h : a (ts.map ξ ++ List.replicate (n - ms.length) ζ) = ξ (.fl .next (ts.map ξ ++ List.replicate (n - ms.length) ζ))) : cA ms n (aX a b) ts = cA ms n b ts := by
 unfold cA
 rw [g9 h rfl]
def JY (c : Cn) : VD := aL (xi (iH (aa (az (aG (.int 3))) aq)) (gName 4) gQ (bR (f7 c) [2] (mF 2 aq)) [4])
theorem FE {n : Nat} {s : T} (hs : Src (n + 3) s) : ∃ (x y z s' : T), JY c [ξ (.scr sc), ζ, ξ s, ζ, ζ] = ξ (.ok (.nd false .lst [x, y, z]) [ξ (.scr sc), ζ, ξ s', ζ, ζ]) ∧ x ∈ odds ∧ y ∈ odds ∧ z ∈ odds := by
 obtain ⟨xs, s', e, hl, hp, _⟩ := Fw (enc := id) (P := fun x => x ∈ odds) (cost := 1) (n := n) (k := 3) (v := 4) (zs := [4]) (mk := fun s => [ξ (.scr sc), ζ, ξ s, ζ, ζ]) (e := az (aG (.int 3))) (te := [ξ (.scr sc), ζ, ξ s, ζ, ζ]) (s1 := s) (elt := bR (f7 c) [2] (mF 2 aq)) rfl (hs.mono (by omega)) (by decide) rfl (fun _ => rfl) (fun _ _ => rfl) (fun m s i h => by
  obtain ⟨x, s', e, hx, hs'⟩ := Fj (c := c) h
  exact ⟨x, s', _, yU (i := 2) (te := [ξ (.scr sc), ζ, ξ s, ζ, ξ (.int (i : Nat))]) rfl aN rfl e, rfl, hx, hs'⟩)
 rw [List.map_id] at e
 have hc : hots xs = false := hots_iff.mpr fun x hx => (k6 x (hp x hx)).cold
 have d := sq e
 rw [vH, frzs_of hc] at d
 match xs, hl, hp, d with
 | [x, y, z], _, hp, d => exact ⟨x, y, z, s', d, hp x (by simp), hp y (by simp), hp z (by simp)⟩
def JZ (c : Cn) : cq := aE [3] (eN (kh (fm (cE (bR (cB c) [] (aa (az (aH eP (ai 3) (aG (.int 0)))) (aa (az (aH eP (ai 3) (aG (.int 1)))) (aa (az (aH eP (ai 3) (aG (.int 2)))) aq)))))) (fm (cE (bR (cK c) [] (aa (az (aH eP (ai 3) (aG (.int 0)))) aq))))) (bG (az (aG (.bl false)))) bO)
theorem zZ {x y z t : T} {i : Nat} {te : BV.TE} (h3 : te[3]? = ξ (ξ (.nd false .lst [x, y, z]))) (hi : ([x, y, z] : List T)[i]? = ξ t) (hc : hot t = false) (hh : hots [x, y, z] = false) : az (aH eP (ai 3) (aG (.int (i : Nat)))) te = ξ (.ok t te) := by
 have q : Sq (.nd false .lst [x, y, z]) [x, y, z] := ⟨hh, .inr rfl⟩
 have e : aH eP (ai 3) (aG (.int (i : Nat))) te = ξ t := opI (x := .nd false .lst [x, y, z]) (y := .int (i : Nat)) (by simp [h3, q.cold]) rfl (q.ix hi).1
 rw [ri, e]
 simp [hc]
theorem FG (X : Ex08 c) {x y z : T} {p0 p2 : Option T} (hx : x ∈ odds) (hy : y ∈ odds) (hz : z ∈ odds) : JZ c [p0, ζ, p2, ξ (.nd false .lst [x, y, z]), ζ] = ξ (.fl .next [p0, ζ, p2, ζ, ζ]) := by
 have vx := k6 x hx
 have vy := k6 y hy
 have vz := k6 z hz
 have hh : hots [x, y, z] = false := by simp [vx.cold, vy.cold, vz.cold]
 have e0 := zZ (te := [p0, ζ, p2, ξ (.nd false .lst [x, y, z]), ζ]) (i := 0) rfl rfl vx.cold hh
 have e1 := zZ (te := [p0, ζ, p2, ξ (.nd false .lst [x, y, z]), ζ]) (i := 1) rfl rfl vy.cold hh
 have e2 := zZ (te := [p0, ζ, p2, ξ (.nd false .lst [x, y, z]), ζ]) (i := 2) rfl rfl vz.cold hh
 exact aT (zs := [3]) (iX (a := bG (az (aG (.bl false)))) (b := bO) (JM (rH (jP (gi (aC e0 (aC e1 (aC e2 aN))) (se vx vy vz)))) (rH (jP (gi (aC e0 aN) (uE X vx.cold))))) rfl)
def JX (c : Cn) : cq := aE [1, 2, 3] (aX (aE [1] (cb (bR (dM c) [] (aa (az (ai 0)) (aa (az (ai 1)) aq))) (gName 2))) (aX (aE [2] (cb (JY c) (gName 3))) (JZ c)))
theorem FC (X : Ex08 c) {i : Nat} (hi : i < 100) : JX c (ξ (.scr sc) :: ξ (.int (i : Nat)) :: List.replicate 3 ζ) = ξ (.fl .next (ξ (.scr sc) :: ζ :: List.replicate 3 ζ)) := by
 obtain ⟨s, es, hs⟩ := yW (c := c) (ns := sc) (at_ := i) hi
 obtain ⟨x, y, z, s', e, hx, hy, hz⟩ := FE (c := c) (sc := sc) (n := 0) (hs.mono (by decide))
 have a1 := aT (zs := [1]) (kB (i := 2) (gi (V := dM c) (te := [ξ (.scr sc), ξ (.int (i : Nat)), ζ, ζ, ζ]) (aV (i := 0) rfl rfl (aV (i := 1) rfl rfl aN)) es))
 have a2 := aT (zs := [2]) (kB (i := 3) e)
 exact aT (zs := [1, 2, 3]) (g9 a1 (g9 a2 (FG X hx hy hz)))
theorem Cr (X : Ex08 c) (ns : List Int) : jZ c [.scr ns] = ξ (.ok (.bl true) []) := by
 unfold jZ kD
 have h0 : (eN (fm (cE (bR (fF c) [] (aa (az (aG (.int 0))) aq)))) (bG (az (aG (.bl false)))) bO) [ξ (.scr ns), ζ, ζ, ζ, ζ] = ξ (.fl .next [ξ (.scr ns), ζ, ζ, ζ, ζ]) :=
  iX (rH (jP (gi (aC rfl aN) (Df X)))) rfl
 exact (y7 h0).trans (xR (L := 1) (N := 4) (m := 3) (zs := [0, 1, 2, 3]) (out := JX c) (by decide) (fun i hi => FC X hi) _ rfl)
theorem plain08 (K : PySem.W.Frag) (X : Ex08 (cn K)) (ns : List Int) : jZ (cn K) [.scr ns] = ξ (.ok (.bl true) []) := Cr X ns
end
end QP
end
open PySem PySem.W PySem.Calls PyProof.Rows
set_option maxHeartbeats 0 in
theorem PySem.Challenge.cw_keptbythree_k08_errors_and_their_fields_holds : PySem.Challenge.rw_keptbythree_k08_errors_and_their_fields.Holds := by
 w_on; o_law
 refine HandSHeadRun.head_any (r := OpenLaw.row PySem.Challenge.rw_keptbythree_k08_errors_and_their_fields) (q := view (OpenLaw.row PySem.Challenge.rw_keptbythree_k08_errors_and_their_fields).prog [31]) (H := K08.hk) (ob := K08.ob) (M := 6000) (loose := K08.loose) (d := HandSHeadRun.topDef (OpenLaw.row PySem.Challenge.rw_keptbythree_k08_errors_and_their_fields).prog 31) (kwd := []) K08.ob_eq
  (by kernel_rfl) (fun s => by kernel_rfl) K08.run (by kernel_rfl) (by kernel_rfl) (by kernel_rfl) (by rfl) (by first | assumption | decide +kernel) (by decide +kernel) ⟨rfl, rfl, rfl, rfl, rfl, by decide +kernel⟩ ?hw ?hc
 case hw => w_witness2
 case hc =>
  refine SB.walk_z (l := PySem.Challenge.rw_keptbythree_k08_errors_and_their_fields) (n := 63) (k := 4) (x := "_law_script") rfl (by decide) (by kernel_rfl) ⟨rfl, by decide, by decide⟩ ?F
  intro w mg fa h Y G hmg0
  obtain ⟨K, KX, c⟩ := Y
  have hmg : mg ("law" : PySem.Str) = ξ (.ref fa) := by
   have e : (HandSHeadRun.topDef (OpenLaw.row PySem.Challenge.rw_keptbythree_k08_errors_and_their_fields).prog 31).name = ("law" : PySem.Str) := by kernel_rfl
   rw [← e]
   exact hmg0
  obtain ⟨T, fd, hb, hF⟩ := K08.facts (P := (PySem.Challenge.rw_keptbythree_k08_errors_and_their_fields).prog) (w := w) KX G hmg c
  exact ⟨K, fd, KD.D_law_k08 K, KX, hb, fun ns hl => BV.law_of KV.xd_law_k08 (QP.plain08 K (QP.ex08_ok T.kt) ns), hF⟩
