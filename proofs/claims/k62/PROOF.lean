import PyProof.Rows.All
import Wide.All
import OpenK.AllK
import Wide.FinOn
import HandS.ForMost
import HandS.ForExc
import KE.GoesEnumKw
import KE.GoesMore
import HandS.Zip0
import HandS.Lambda
import HandS.CallSlots
import HandS.Defaults
import HandS.Property
import HandS.IsInst
import HandS.HeadHook1
import HandS.Style
import KE.KStateDown
import HandS.Head0
import HandS.Head1
import HandS.Head2
import HandS.HeadEnd
import HandS.HeadHook2
import HandS.HeadNt
import HandS.OwnEq
import HandS.FStr
import HandS.RaiseMore
import HandS.ClsMeth
import OpenK.KOps
import PyProof.ReprRoads
import HandS.TupAny
import HandS.Deep
import HandS.TupLe
import HandS.Dict
import HandS.Small
import HandS.Iter
import HandS.Walk
import HandS.DictComp
import HandS.Comp
import HandS.SetKeys
import PyProof.DictUpdate
import KE.KDictCopyH
import KE.GoesEnum
import PyProof.EnumMake
import KE.KSortKeyAny
import HandS.More
import HandS.SortInts
import HandS.SortKw
import HandS.Conv
import HandS.Star
import KE.KUnpackStar
import HandS.TupSets
import HandS.SortOrd
import HandS.SetBool
import HandS.ExcInit
import HandS.ExcField
import HandS.ExcIs
import KE.KExcIs
import KE.KDictPairs
import HandS.TupMul
import KE.KDictZip
import PyProof.NeKinds
import PyProof.EqAt
import HandS.SetFor
import HandS.Strs
import KE.DataMinMax
import KE.KExcInit
import HandS.Exc
import PyProof.DictMoreH
import PyProof.ExcBaseAll.LookupError
import HandS.EndTab
import HandS.HeadHook4
import HandS.NoneIn
import PyProof.StrOps2
import HandS.GenList
import HandS.Flow
import KE.KCallOwn
import HandS.Text
import KE.KSuper
import HandS.Nested
import PyProof.ExcBaseAll.OverflowError
import HandS.ExcValue
import PyProof.ExcBaseAll.RuntimeError
import PySem.Challenge.RW_keptbythree_k62_constraints_refused
set_option Elab.async false
set_option linter.all false
set_option maxRecDepth 100000
set_option maxHeartbeats 4000000
open Option renaming some → ξ, none → ζ
section
namespace SB
open PySem L2
section
variable {K: PySem.W.Frag}
def Ew (K : PySem.W.Frag) (C : Addr) : Bool := PySem.W.plainGet K C Str.empty && (PySem.W.hasDictIn K C && (PySem.W.plainOver K C && (He.eqO (PySem.W.findIn K (.ref C) "__setattr__") (ξ (ξ (.builtin "object.__setattr__"))) &&
 (He.eqO (PySem.W.findIn K (.ref C) "__class__") (ξ (ξ (.builtin "object.__class__"))) && (He.eqO (PySem.W.specialIn K (.builtin "object.__class__") "__get__") (ξ (ξ (.builtin "getset_descriptor.__get__"))) &&
 (decide (PySem.W.takesIn K (.builtin "object.__class__") = ξ true) && decide (PySem.W.mroIn K C (.type "object") = ξ true)))))))
end
end SB
end
section
namespace SB
open PySem L2
open He (ga ma)
open ClX (CRead CVal pe_cval)
def yF (K : PySem.W.Frag) (C : Addr) : Bool := PySem.W.readsIn K C (.type "type") && He.eqO (PySem.W.specialIn K (.ref C) "__getattribute__") (ξ (ξ (.builtin "type.__getattribute__")))
def oO (K : PySem.W.Frag) (C : Addr) (f : Str) (i : Int) : Bool := match PySem.W.findIn K (.ref C) f with
 | some (ξ (.int j t)) => decide (j = i) && (He.eqO (PySem.W.specialIn K (.int j t) "__get__") (ξ ζ) && !PySem.W.copiedNames.contains f)
 | _ => false
section
end
end SB
end
section
namespace SB
open PySem PySem.Spec L2
open PyProof.Rows hiding St
def uq (K : PySem.W.Frag) (C : Addr) : Bool := match K.lookup C with
 | some ⟨.type "type", _, .cls cd, sl⟩ => (match cd.mro, sl.toList with
  | .ref C' :: bm, [_, _, _, _, ξ (.builtin n), _] => C' == C && n == "ValueError.__new__" && !cd.hasDel && cd.hasDict && PySem.HandSPX.refsVE bm
  | _, _ => false)
 | _ => false
def L7 (K : PySem.W.Frag) (C : Addr) : Bool := uq K C && (decide (PySem.W.findIn K (.ref C) "__setattr__" = ξ (ξ (.builtin "object.__setattr__"))) && (decide (PySem.W.subIn K (.ref C) (.type "BaseException") = ξ true) && (decide (PySem.W.typeIn K (.ref C) = ξ (.type "type")) && PySem.W.keepIn K (.ref C))))
def zZ (K : PySem.W.Frag) (D : Addr) : Bool := decide (PySem.W.findIn K (.ref D) "__getattribute__" = ξ (ξ (.builtin "BaseException.__getattribute__"))) && (decide (PySem.W.findIn K (.ref D) "__getattr__" = ξ ζ) && (decide (PySem.W.subIn K (.ref D) (.type "BaseException") = ξ true) && (PySem.W.hasDictIn K D &&
 (decide (PySem.W.findIn K (.ref D) "__class__" = ξ (ξ (.builtin "object.__class__"))) && (decide (PySem.W.specialIn K (.builtin "object.__class__") "__get__" = ξ (ξ (.builtin "getset_descriptor.__get__"))) && (decide (PySem.W.takesIn K (.builtin "object.__class__") = ξ true) && decide (PySem.W.mroIn K D (.type "object") = ξ true)))))))
def MI (K : PySem.W.Frag) (C fI : Addr) (fs : List Str) : Bool := decide (PySem.W.findIn K (.ref C) "__init__" = ξ (ξ (.ref fI))) && (decide (PySem.W.typeIn K (.ref fI) = ξ (.type "function")) && fs.all fun f => decide (PySem.W.findIn K (.ref C) f = ξ ζ))
section
end
section
end
section
end
open He (ga ma)
def cmB (K : PySem.W.Frag) (C : Addr) (m : Str) : Bool := He5.wrapB K C "classmethod" "classmethod.__get__" m && PySem.W.fnIn K (He5.wf K C "classmethod" m)
end SB
end
section
namespace SB
open PySem PySem.Spec L2
open PyProof.Rows hiding St
abbrev Mkr := PySem.W.Frag → Addr
def z7 (K : PySem.W.Frag) (a : Addr) : Addr := match K.lookup a with
 | some ⟨_, _, .func fd, _⟩ => (match fd.code with
  | .ref c => c
  | _ => 0)
 | _ => 0
def mT (K : PySem.W.Frag) (q : Mkr) : Addr × Addr := (z7 K (q K), He.tabOf K (z7 K (q K)))
section
end
section
end
section
end
section
end
def apartB (K : PySem.W.Frag) (tf : List (Mkr × Str)) : Bool := decide ((tf.map fun p => (mT K p.1).2).Nodup)
end SB
end
section
namespace SB
open PySem PySem.Spec L2
section
end
def z6 (K : PySem.W.Frag) (C : Addr) (f : Str) : Bool := match PySem.W.findIn K (.ref C) f with
 | some (ξ .none) => He.eqO (PySem.W.specialIn K .none "__get__") (ξ ζ) && !PySem.W.copiedNames.contains f
 | _ => false
end SB
end
section
noncomputable section
namespace SB
open PySem PySem.W PySem.Calls PyProof.Rows HandSHeadRun
def BE (r : OpenRow) (M : Nat) (w : World) (os : OsState) : Option SharedT := endF (stepQ (denQ tabQ) r.prog w) M r.prog w os
def Ky (r : OpenRow) (q : Program) (M : Nat) (loose : List PySem.Str) (w : World) : Prop := ∀ os, (BE r M w os).map (fun s => (looksF r.prog (boot_heap w.params) s.abs, seenQ q loose (importedModules r.prog.main.body) (fun s => xlAt q [] s && recOk r.toRowW.records s) s.abs)) = ξ (true, openGood q loose)
end SB
end
section
namespace SB
open PySem PySem.Spec L2
open PyProof.Rows hiding St
def Cw (g : Addr → Option Obj) (tf : List Mkr) (K : PySem.W.Frag) : Bool := tf.all fun p => PySem.W.codeHdIn K (mT K p).1 (mT K p).2 && (match g (mT K p).2 with
 | some o => He.emptyTab o
 | none => false)
open HandSHeadRun PySem.W PySem.Calls
noncomputable section
def mC (as : List Addr) (s : SharedT) : PySem.W.Frag := He.frT (getT s) as
def KA (r : OpenRow) (M : Nat) (as : List Addr) (ex : PySem.W.Frag → Bool) (tf : List Mkr) (w : World) : Prop := ∀ os, (BE r M w os).map (fun s => Cw (getT s) tf (mC as s) && ex (mC as s)) = ξ true
end
section
end
end SB
end
section
namespace SB
open PySem PySem.Spec L2
open PyProof.Rows hiding St
open He (ga ma)
structure DefC where
 d : He5.DefA
 cl : List Str := []
def Jj (K : PySem.W.Frag) (a : Addr) : He5.FnW := match K.lookup a with
 | some ⟨_, _, .func fd, _⟩ => ξ (fd.name, fd.qualname, fd.params, fd.body, fd.scope, fd.globals, fd.closure.map (fun p => (p.1, 0)), fd.builtins)
 | _ => ζ
def DefC.val (d : DefC) : He5.FnW := ξ (d.d.name, d.d.qual, d.d.params, .stmts d.d.body, d.d.scope, mainGlobals, d.cl.map (fun x => (x, 0)), builtinsNs)
def Gg (K : PySem.W.Frag) (a : Addr) : Addr := match K.lookup a with
 | some ⟨_, _, .func fd, _⟩ => (match fd.closure with
  | p :: _ => p.2
  | [] => 0)
 | _ => 0
def JF (K : PySem.W.Frag) (a : Addr) : Addr := match K.lookup a with
 | some ⟨_, _, .func fd, _⟩ => (match fd.code with
  | .ref c => c
  | _ => 0)
 | _ => 0
def supB (K : PySem.W.Frag) (f D : Addr) (file : Str) : Bool := (match K.lookup (Gg K f) with
 | some ⟨_, _, .cell (ξ (.ref D')), _⟩ => decide (D' = D)
 | _ => false) && ((PySem.W.clsIn K D).isSome && (match K.lookup (JF K f) with
 | some ⟨_, _, .fields us, _⟩ => (match us[2]? with
  | some (Value.str fl _) => decide (fl = file)
  | _ => false)
 | _ => false))
def vA (K : PySem.W.Frag) (C D f2 : Addr) : Bool := decide (PySem.W.mroIn K C (.ref D) = ξ true) && (He.eqO (PySem.W.ks_superIn K C D "__init__") (ξ (ξ (.ref f2))) && (decide (PySem.W.typeIn K (.ref f2) = ξ (.type "function")) && (PySem.W.fnIn K f2 && He.eqO (PySem.W.nsIn K cStatics "thirdparty.any") (ξ ζ))))
section
end
open HandSHeadRun PySem.W PySem.Calls
noncomputable section
def KC (r : OpenRow) (M : Nat) (as : List Addr) (fn : List DefC) (w : World) : Prop := ∀ os, (BE r M w os).map (fun s => (fn.all fun d => d.d.ok (mC as s), fn.map fun d => Jj (mC as s) (d.d.at_ (mC as s)))) = ξ (true, fn.map DefC.val)
end
end SB
end
section
namespace SB
open PySem L2
open He (ga ma)
abbrev dA (a : PySem.W.Frag → Addr) (n q : Str) (s : Stmt) (v : List He.Dv) (w : List (Str × He.Dv)) : He5.DefA := ⟨a, n, q, defArgs s, defBody s, defScope s, v, w⟩
section
variable (K: PySem.W.Frag)(C f: Str)
abbrev oF : Bool := (He.Fa.free f).ok K
abbrev oG : Bool := (He.Fa.glo f).ok K
abbrev oA : Bool := (He.Fa.noat C f).ok K
abbrev oI : Bool := (He.Fa.mkr C).ok K
abbrev oC : Bool := Ew K (ga K C)
end
end SB
end
section
namespace K62
open PySem L2 SB
open He (ga ma)
abbrev zk : Mkr := fun K => ga K "law"
abbrev bp : Mkr := fun K => ga K "_law_bad_names_right"
abbrev tf : List (Mkr × Str) := [(bp, ("_law_bad_names_right" ++ ".<locals>." ++ "<lambda>" : Str)), (zk, ("law" ++ ".<locals>." ++ "<lambda>" : Str))]
def top (i : Nat) : Stmt := PySem.Challenge.pw_keptbythree_k62_constraints_refused.main.body.getD i (.Pass ⟨0, 0, 0, 0⟩)
def Oi (K : PySem.W.Frag) : Bool :=
 oF K "ValueError" && (oF K "abs" && (oF K "all" && (oF K "int" && (oF K "isinstance" && (oF K "len" && (oF K "list" && (oF K "max" && (oF K "min" && (oF K "range" && (oF K "repr" && (oF K "str" && (oF K "super" && (oF K "tuple" && (oG K "BadConstraint" && (oG K "BadName" && (oG K "ClosedSet" && (oG K "Equal" && (oG K "Fixed" && ((He.Fa.str "LETTERS" "abcdefghijklmnopqrstuvwxyz").ok K && ((He.Fa.int "MOST_LETTERS" 3).ok K && (oG K "Member" && (oG K "Table" && (oG K "_law_bad_names_right" && (oG K "_law_choice" && (oG K "_law_draw" && (oG K "_law_error" && (oG K "_law_name" && (oG K "_law_source" && (oG K "is_name" && (oC K "ClosedSet" && (oC K "Equal" && (oC K "Fixed" && (oC K "Member" && (oC K "Table" && (oC K "ClosedSet" && (oC K "Equal" && (oC K "Fixed" && (oC K "Member" && (oC K "Table" && (oA K "ClosedSet" "forks" && (oA K "ClosedSet" "set_kinds" && (oA K "Equal" "variables" && (oA K "Fixed" "only_value" && (oA K "Fixed" "variables" && (oA K "Member" "closed_rows" && (oA K "Member" "variables" && (oA K "Table" "table_rows" && (oA K "Table" "variables" && (oI K "ClosedSet" && (oI K "Equal" && (oI K "Fixed" && (oI K "Member" && (oI K "Table" && (oO K (ga K "Equal") "FEWEST" 2 && (z6 K (ga K "Equal") "MOST" && (oO K (ga K "Fixed") "FEWEST" 1 && (oO K (ga K "Fixed") "MOST" 1 && (oO K (ga K "Member") "FEWEST" 1 && (z6 K (ga K "Member") "MOST" && (oO K (ga K "Table") "FEWEST" 1 && (oO K (ga K "Table") "MOST" 3 && (supB K (ma K (ga K "Table") "__init__") (ga K "Table") "/claim/cut.py" && (supB K (ma K (ga K "Member") "__init__") (ga K "Member") "/claim/cut.py" && (supB K (ma K (ga K "Fixed") "__init__") (ga K "Fixed") "/claim/cut.py" && (vA K (ga K "Fixed") (ga K "Fixed") (ma K (ga K "Constraint") "__init__") && (vA K (ga K "Member") (ga K "Member") (ma K (ga K "Constraint") "__init__") && (vA K (ga K "Table") (ga K "Table") (ma K (ga K "Constraint") "__init__") && (yF K (ga K "ClosedSet") && (cmB K (ga K "ClosedSet") "empty" && ((He.Fa.exc "BadConstraint").ok K && (L7 K (ga K "BadName") && (MI K (ga K "BadName") (ma K (ga K "BadName") "__init__") ["name"] && (zZ K (ga K "BadConstraint") && (zZ K (ga K "BadName") && (decide (PySem.W.findIn K (.ref (ga K "BadName")) "name" = ξ ζ) && (decide (PySem.W.exmOne K (.ref (ga K "BadName")) (.ref (ga K "BadName")) = ξ true) && (decide (PySem.W.exmOne K (.ref (ga K "BadConstraint")) (.ref (ga K "BadName")) = ξ false) && (decide (PySem.W.exmOne K (.ref (ga K "BadConstraint")) (.ref (ga K "BadConstraint")) = ξ true) && (decide (PySem.W.kitOne K (.ref (ga K "BadName")) (.type "ValueError") = ξ true) && (decide (PySem.W.kitOne K (.ref (ga K "BadConstraint")) (.type "ValueError") = ξ true) && (apartB K tf)))))))))))))))))))))))))))))))))))))))))))))))))))))))))))))))))))))))))))))))))
def fU : He5.DefA := dA (fun K => ma K (ga K "ClosedSet") "__init__") "__init__" "ClosedSet.__init__" (inClass (top 35) 0) [] []
def d_ClosedSet_empty : He5.DefA := dA (fun K => He5.wf K (ga K "ClosedSet") "classmethod" "empty") "empty" "ClosedSet.empty" (inClass (top 35) 2) [] []
def nT : He5.DefA := dA (fun K => ga K "is_name") "is_name" "is_name" (top 39) [] []
def d_Table_super_init : He5.DefA := dA (fun K => ma K (ga K "Constraint") "__init__") "__init__" "Constraint.__init__" (inClass (top 40) 2) [] []
def mF : He5.DefA := dA (fun K => ma K (ga K "Table") "__init__") "__init__" "Table.__init__" (inClass (top 41) 1) [] []
def d_Equal_init : He5.DefA := dA (fun K => ma K (ga K "Equal") "__init__") "__init__" "Constraint.__init__" (inClass (top 40) 2) [] []
def d_Member_super_init : He5.DefA := dA (fun K => ma K (ga K "Constraint") "__init__") "__init__" "Constraint.__init__" (inClass (top 40) 2) [] []
def kY : He5.DefA := dA (fun K => ma K (ga K "Member") "__init__") "__init__" "Member.__init__" (inClass (top 44) 0) [] []
def d_Fixed_super_init : He5.DefA := dA (fun K => ma K (ga K "Constraint") "__init__") "__init__" "Constraint.__init__" (inClass (top 40) 2) [] []
def mG : He5.DefA := dA (fun K => ma K (ga K "Fixed") "__init__") "__init__" "Fixed.__init__" (inClass (top 42) 1) [] []
def jF : He5.DefA := dA (fun K => ga K "_law_error") "_law_error" "_law_error" (top 49) [] []
def cQ : He5.DefA := dA (fun K => ga K "_law_bad_names_right") "_law_bad_names_right" "_law_bad_names_right" (top 51) [] []
def ki : He5.DefA := dA (fun K => ga K "_law_draw") "_law_draw" "_law_draw" (top 47) [] []
def iU : He5.DefA := dA (fun K => ga K "_law_choice") "_law_choice" "_law_choice" (top 48) [] []
def kh : He5.DefA := dA (fun K => ga K "_law_name") "_law_name" "_law_name" (top 50) [] []
def iT : He5.DefA := dA (fun K => ga K "_law_source") "_law_source" "_law_source" (top 46) [] []
def Kr : He5.DefA := dA (fun K => ga K "law") "law" "law" (top 52) [] []
def ie : He5.DefA := dA (fun K => ma K (ga K "BadName") "__init__") "__init__" "BadName.__init__" (inClass (top 4) 0) [] []
def RN : List DefC := [⟨fU, []⟩, ⟨d_ClosedSet_empty, []⟩, ⟨nT, []⟩, ⟨d_Table_super_init, []⟩, ⟨mF, ["__class__"]⟩, ⟨d_Equal_init, []⟩, ⟨d_Member_super_init, []⟩, ⟨kY, ["__class__"]⟩, ⟨d_Fixed_super_init, []⟩, ⟨mG, ["__class__"]⟩, ⟨jF, []⟩, ⟨cQ, []⟩, ⟨ki, []⟩, ⟨iU, []⟩, ⟨kh, []⟩, ⟨iT, []⟩, ⟨Kr, []⟩, ⟨ie, []⟩]
end K62
end
section
namespace K62
open PySem L2 SB
abbrev R : PySem.W.OpenRow := PySem.W.OpenLaw.row PySem.Challenge.rw_keptbythree_k62_constraints_refused
def as : List PySem.Addr := [3,6,4,21,31,51,70,82,101,114,124,131,136,143,150,215,226,231,238,243,250,257,264,271,276,283,290,297,302,309,316,475,484,523,572,621,661,710,719,726,733,740,745,750,755,0,20,30,50,69,81,100,113,123,130,135,142,149,214,225,230,237,242,249,256,263,270,275,282,289,296,301,308,315,474,483,522,571,620,660,709,718,725,732,739,744,749,754,15,16,17,18,19,29,32,48,49,67,68,80,98,99,102,112,115,118,119,120,121,122,125,126,127,128,129,132,133,134,137,138,139,140,141,144,145,146,147,148,162,169,176,183,190,197,205,212,213,216,217,220,221,222,223,224,227,228,229,232,233,234,235,236,239,240,241,244,245,246,247,248,251,252,253,254,255,258,259,260,261,262,265,266,267,268,269,272,273,274,277,278,279,280,281,284,285,286,287,288,291,292,293,294,295,298,299,300,303,304,305,306,307,310,311,312,313,314,330,339,349,359,367,374,382,390,398,403,408,415,422,429,436,443,450,457,465,472,473,476,477,480,481,482,498,506,513,520,521,524,525,543,548,555,562,569,570,590,597,604,611,618,619,637,644,651,658,659,679,686,693,700,707,708,713,714,715,716,717,720,721,722,723,724,727,728,729,730,731,734,735,736,737,738,741,742,743,746,747,748,751,752,753,47,66,97,161,168,175,182,189,196,204,198,211,329,337,338,347,348,357,358,366,373,381,389,397,402,407,414,421,428,435,442,449,456,464,458,471,497,505,512,519,542,531,547,554,561,568,589,578,596,603,610,617,636,643,650,657,678,667,685,692,699,706,42,43,44,45,46,61,62,63,64,65,92,93,94,95,96,158,159,160,163,164,165,166,167,170,171,172,173,174,177,178,179,180,181,184,185,186,187,188,191,192,193,194,195,199,200,201,202,203,206,207,208,209,210,324,325,326,327,328,336,340,346,350,356,360,361,362,363,364,365,368,369,370,371,372,380,388,396,399,400,401,404,405,406,409,410,411,412,413,416,417,418,419,420,423,424,425,426,427,430,431,432,433,434,437,438,439,440,441,444,445,446,447,448,451,452,453,454,455,459,460,461,462,463,466,467,468,469,470,492,493,494,495,496,504,507,508,509,510,511,514,515,516,517,518,537,538,539,540,541,544,545,546,549,550,551,552,553,556,557,558,559,560,563,564,565,566,567,584,585,586,587,588,591,592,593,594,595,598,599,600,601,602,605,606,607,608,609,612,613,614,615,616,631,632,633,634,635,638,639,640,641,642,645,646,647,648,649,652,653,654,655,656,673,674,675,676,677,680,681,682,683,684,687,688,689,690,691,694,695,696,697,698,701,702,703,704,705,331,332,333,334,335,341,342,343,344,345,351,352,353,354,355,375,376,377,378,379,383,384,385,386,387,391,392,393,394,395,499,500,501,502,503,2]
def Mj : List PySem.Str := ["_wall", "KeptError", "BadRow", "BadName", "BadConstraint", "BadPlace", "EmptySet", "is_integer", "is_below", "is_row", "check_row", "combine", "Forks", "swapped", "lots_in_front", "lots_behind", "exchanged", "forks_in_order", "in_front", "put_back", "least_lot", "least_forks", "least_value", "prefix_rows", "outermost", "neighbour", "first_row", "is_index", "ClosedSet", "LETTERS"]
def Mh : List PySem.Str := ["MOST_LETTERS", "is_name", "Constraint", "Table", "Fixed", "Equal", "Member", "_law_source", "_law_draw", "_law_choice", "_law_error", "_law_name", "_law_bad_names_right"]
def loose : List PySem.Str := Mj ++ Mh
theorem seen (w : World) : Ky R (PySem.W.view R.prog [52]) 12000 loose w := by
 intro os
 kernel_rfl
theorem fact (w : World) : KA R 12000 as (fun K => Oi K && (He.Fa.glo "law").ok K) (tf.map (·.1)) w := by
 intro os
 kernel_rfl
theorem dfns (w : World) : KC R 12000 as RN w := by
 intro os
 kernel_rfl
end K62
end
section
namespace SZ
open PySem
structure Sr where
 it : Addr
 a : Addr
 l : Bool
def SrAt (h : Heap) (x : Sr) (i : Nat) : Prop := if x.l = true then h.IsListIter x.it x.a i else h.IsTupleIter x.it x.a i
def SrOk (h : Heap) (x : Sr) (items : Array Value) : Prop := if x.l = true then h.IsList x.a items else h.IsTuple x.a items
theorem SrAt.obj {h : Heap} {x : Sr} {i : Nat} (q : SrAt h x i) : ∃ o, h.get? x.it = ξ o ∧ ∀ v, o.data ≠ .cell v := by
 unfold SrAt at q
 split at q
 ·obtain ⟨o, e, _, d⟩ := q
  exact ⟨o, e, fun v z => by rw [d] at z; cases z⟩
 ·obtain ⟨o, e, _, d⟩ := q
  exact ⟨o, e, fun v z => by rw [d] at z; cases z⟩
theorem SrAt.keep {h h' : Heap} {x : Sr} {i : Nat} (q : SrAt h x i) (k : ∀ o, h.get? x.it = ξ o → h'.get? x.it = ξ o) : SrAt h' x i := by
 unfold SrAt at q ⊢
 split at q
 ·rename_i hl
  rw [if_pos hl]
  obtain ⟨o, e, r⟩ := q
  exact ⟨o, k o e, r⟩
 ·rename_i hl
  rw [if_neg hl]
  obtain ⟨o, e, r⟩ := q
  exact ⟨o, k o e, r⟩
theorem SrOk.keep {h h' : Heap} {x : Sr} {items : Array Value} (q : SrOk h x items) (k : ∀ o, h.get? x.a = ξ o → h'.get? x.a = ξ o) : SrOk h' x items := by
 unfold SrOk at q ⊢
 split at q
 ·rename_i hl
  rw [if_pos hl]
  obtain ⟨o, e, r⟩ := q
  exact ⟨o, k o e, r⟩
 ·rename_i hl
  rw [if_neg hl]
  obtain ⟨o, e, r⟩ := q
  exact ⟨o, k o e, r⟩
section
variable {prog: Program}{w: World}{A: Around}{E: Value → Shared → Prop}{s: Shared}
theorem wq {x : Sr} {i : Nat} {items : Array Value} {Q : Option Value → Shared → Prop} (hh : A.handled = ζ) (hi : SrAt s.heap x i) (ho : SrOk s.heap x items) (hv : items[i]? = ζ)
  (hQ : ∀ h', Heap.ExtBut x.it s.heap h' → Q ζ { s with heap := h' }) : wpAny (model prog w) A (Builtin.SmallTypes.nextOrEnd (.ref x.it)) Q E s := by
 unfold Builtin.SmallTypes.nextOrEnd
 refine wpAny_bind (wpAny_attempt ?_)
 unfold SrAt at hi
 unfold SrOk at ho
 have fin : ∀ h' e, Heap.ExtBut x.it s.heap h' → (∃ o, h'.get? e = ξ o ∧ o.cls = .type "StopIteration") → wpAny (model prog w) A (do if ← isInstance (.ref e) (.type "StopIteration") then pure ζ else throw (.ref e)) Q E { s with heap := h' } := fun h' e k ⟨o, eo, co⟩ =>
  wpAny_bind (wpAny_isInstance (T := "StopIteration") (b := true) ⟨o, eo, co⟩ isSubtype_stop (wpAny_pure (hQ h' k)))
 by_cases hl : x.l = true
 ·rw [if_pos hl] at hi ho
  exact wpAny_nextOf_list_end hh hi ho hv fin
 ·rw [if_neg hl] at hi ho
  exact wpAny_nextOf_tuple_end hh hi ho hv fin
end
abbrev IsT (h : Heap) (T : Addr) (vs : List Value) : Prop := h.get? T = ξ { cls := .type "tuple", data := .seq vs.toArray }
def wr (z TO : Addr) (ss : List Sr) : List Addr := z :: TO :: ss.map (·.it)
structure Sep (z TI TO : Addr) (ss : List Sr) : Prop where
 nd : (wr z TO ss).Nodup
 ti : TI ∉ wr z TO ss
 src : ∀ x ∈ ss, x.a ∉ wr z TO ss
section
variable {z TI TO: Addr}{ss: List Sr}
theorem Sep.iz (D : Sep z TI TO ss) {x : Sr} (h : x ∈ ss) : x.it ≠ z := fun e => by
 have q := D.nd
 unfold wr at q
 rw [List.nodup_cons] at q
 exact q.1 (by rw [← e]; exact List.mem_cons_of_mem _ (List.mem_map_of_mem h))
theorem Sep.ii (D : Sep z TI TO ss) {j k : Nat} {x y : Sr} (h1 : ss[j]? = ξ x) (h2 : ss[k]? = ξ y) (hjk : j ≠ k) : x.it ≠ y.it := fun e => by
 have q := D.nd
 unfold wr at q
 rw [List.nodup_cons, List.nodup_cons] at q
 have h3 : (ss.map (·.it))[j]? = ξ x.it := by rw [List.getElem?_map, h1]; rfl
 have h4 : (ss.map (·.it))[k]? = ξ x.it := by rw [List.getElem?_map, h2, e]; rfl
 obtain ⟨l3, e3⟩ := List.getElem?_eq_some_iff.mp h3
 obtain ⟨l4, e4⟩ := List.getElem?_eq_some_iff.mp h4
 exact hjk ((List.getElem_inj q.2.2).mp (e3.trans e4.symm))
end
section
end
end SZ
end
section
namespace SB
open PySem L2
inductive Im where
 | tpl (nd : Bool) | exc (C : Addr) (fs : List Str)
 deriving DecidableEq
inductive W where
 | non | bl (b : Bool) | int (i : Int) | str (x : Str) | tup (ws : List W) | ref (n : Nat) | ob (a : Addr) | ty (n : String) | scr (ns : List Int) | im (k : Im) (ws : List W)
inductive O where
 | lst (ws : List W) | dct (kvs : List (Key × W)) | dtp (kvs : List (List Key × W)) | ins (C : Addr) (fs : List (Str × W)) | xd (fs : List (Str × W))
 | lcd (kvs : List (Key × W)) | lct (kvs : List (List Key × W))
abbrev M := List O
abbrev Env := List (Option W)
def SqF (K : PySem.W.Frag) (H : Hp) (a : Addr) (xs : List V) : Prop := (∃ o, H a = ξ (.frz o (.lst xs))) ∨
 ∃ (o : Obj) (its : Array Value) (n : Nat), K.lookup a = ξ o ∧ o.cls = .type "list" ∧ o.dict = ζ ∧ o.data = .seq its n ∧ its.size ≤ sizeLine ∧ Vals xs its.toList
theorem SqF.sql {K : PySem.W.Frag} {H : Hp} {a : Addr} {xs : List V} (h : SqF K H a xs) : SqL K H a xs := by
 rcases h with ⟨o, h⟩ | h
 ·exact .inl (.inr ⟨o, h⟩)
 ·exact .inr h
def ImR (H : Hp) : Im → Addr → List V → Prop
 | .tpl nd, a, vs => (∃ o, H a = ξ (.frz o (.tup vs)) ∧ (nd = true → o.dict = ζ)) ∨ (nd = false ∧ H a = ξ (.tup vs))
 | .exc C fs, a, vs => ∃ oe u, H a = ξ (.frz oe u) ∧ (∃ ys, oe.data = .fields ys) ∧ oe.cls = .ref C ∧ fs.length = vs.length ∧ ((oe.dict = ζ ∧ fs = []) ∨ ∃ dd od, oe.dict = ξ dd ∧ H dd = ξ (.frz od (.xd (fs.zip vs))))
theorem ImR.le {H H' : Hp} (lt : ∀ a vs, H a = ξ (.tup vs) → H' a = ξ (.tup vs)) (l : ∀ a ob u, H a = ξ (.frz ob u) → H' a = ξ (.frz ob u)) : ∀ {k : Im} {a : Addr} {vs : List V}, ImR H k a vs → ImR H' k a vs
 | .tpl _, _, _, .inl ⟨o, h, d⟩ => .inl ⟨o, l _ _ _ h, d⟩
 | .tpl _, _, _, .inr ⟨e, h⟩ => .inr ⟨e, lt _ _ h⟩
 | .exc _ _, _, _, ⟨oe, u, h, d, c, n, q⟩ => ⟨oe, u, l _ _ _ h, d, c, n, q.elim .inl fun ⟨dd, od, e, h2⟩ => .inr ⟨dd, od, e, l _ _ _ h2⟩⟩
theorem ImR.rd {H : Hp} {nd : Bool} {a : Addr} {vs : List V} : ImR H (.tpl nd) a vs → Rd H a (.tup vs)
 | .inl ⟨o, h, _⟩ => .inr ⟨o, h⟩
 | .inr ⟨_, h⟩ => .inl h
mutual
def RW (K : PySem.W.Frag) (r : List Addr) (H : Hp) : W → V → Prop
 | .non, v => v = .non
 | .bl b, v => v = .bl b
 | .int i, v => v = .int i
 | .str x, v => v = .str x
 | .tup ws, v => ∃ a vs, v = .ref a ∧ H a = ξ (.tup vs) ∧ RWs K r H ws vs
 | .ref n, v => ∃ a, r[n]? = ξ a ∧ v = .ref a
 | .ob a, v => v = .ref a
 | .ty n, v => v = .ty n
 | .scr ns, v => ∃ a, v = .ref a ∧ SqF K H a (ns.map V.int)
 | .im k ws, v => ∃ a vs, v = .ref a ∧ ImR H k a vs ∧ RWs K r H ws vs
def RWs (K : PySem.W.Frag) (r : List Addr) (H : Hp) : List W → List V → Prop
 | [], vs => vs = []
 | w :: ws, vs => ∃ v rest, vs = v :: rest ∧ RW K r H w v ∧ RWs K r H ws rest
end
def RKV {κ : Type} (K : PySem.W.Frag) (r : List Addr) (H : Hp) : List (κ × W) → List (κ × V) → Prop
 | [], vs => vs = []
 | p :: ps, vs => ∃ v rest, vs = (p.1, v) :: rest ∧ RW K r H p.2 v ∧ RKV K r H ps rest
def RO (K : PySem.W.Frag) (r : List Addr) (H : Hp) : O → HO → Prop
 | .lst ws, u => ∃ vs, u = .lst vs ∧ RWs K r H ws vs
 | .dct kvs, u => ∃ vs, u = .dK vs ∧ RKV K r H kvs vs
 | .dtp kvs, u => ∃ vs, u = .dT vs ∧ RKV K r H kvs vs
 | .ins C fs, u => ∃ dx vs, u = .ins C dx vs ∧ RKV K r H fs vs
 | .xd fs, u => ∃ vs, u = .xd vs ∧ RKV K r H fs vs
 | .lcd kvs, u => ∃ o vs, u = .frz o (.dK vs) ∧ RKV K r H kvs vs
 | .lct kvs, u => ∃ o vs, u = .frz o (.dT vs) ∧ RKV K r H kvs vs
class Tabs where
 T : List (Addr × Str)
 g : Bool := true
class Reprs [Tabs] : Prop where
 g : Tabs.g = true
class Past where
 P : List (List Addr × Hp)
structure Later [Tabs] (K : PySem.W.Frag) (H H' : Hp) : Prop where
 tup : ∀ (a : Addr) (vs : List V), H a = ξ (.tup vs) → H' a = ξ (.tup vs)
 frz : ∀ a vs, SqF K H a vs → SqF K H' a vs
 lk : ∀ a ob u, H a = ξ (.frz ob u) → H' a = ξ (.frz ob u)
 tb : ∀ p ∈ Tabs.T, LamX.TabS H p.1 p.2 → LamX.TabS H' p.1 p.2
 tbs : ∀ a ps, H a = ξ (.tbl ps) → ∃ qs, H' a = ξ (.tbl qs)
 co : ∀ c q, H c = ξ (LamX.CodeO c q) → H' c = ξ (LamX.CodeO c q)
structure Lp [Tabs] (K : PySem.W.Frag) (r : List Addr) (H : Hp) (r' : List Addr) (H' : Hp) : Prop where
 pre : r <+: r'
 lat : Later K H H'
structure Sim [Tabs] [Past] (K : PySem.W.Frag) (r : List Addr) (m : M) (H : Hp) : Prop where
 len : r.length = m.length
 nd : r.Nodup
 at_ : ∀ (n : Nat) (o : O), m[n]? = ξ o → ∃ a u, r[n]? = ξ a ∧ H a = ξ u ∧ RO K r H o u
 tb : ∀ p ∈ Tabs.T, LamX.TabS H p.1 p.2
 past : ∀ p ∈ Past.P, Lp K p.1 p.2 r H
structure Later0 (K : PySem.W.Frag) (H H' : Hp) : Prop where
 tup : ∀ (a : Addr) (vs : List V), H a = ξ (.tup vs) → H' a = ξ (.tup vs)
 frz : ∀ a vs, SqF K H a vs → SqF K H' a vs
 lk : ∀ a ob u, H a = ξ (.frz ob u) → H' a = ξ (.frz ob u)
theorem Later.l0 [Tabs] {K : PySem.W.Frag} {H H' : Hp} (l : Later K H H') : Later0 K H H' := ⟨l.tup, l.frz, l.lk⟩
structure Le (K : PySem.W.Frag) (r : List Addr) (H : Hp) (r' : List Addr) (H' : Hp) : Prop where
 pre : r <+: r'
 lat : Later0 K H H'
structure Lt [Tabs] (K : PySem.W.Frag) (r : List Addr) (H : Hp) (r' : List Addr) (H' : Hp) : Prop where
 pre : r <+: r'
 lat : Later K H H'
 kept : ∀ a u, H a = ξ u → a ∉ r → (∀ ps, u ≠ .tbl ps) → H' a = ξ u
 fresh : ∀ a, a ∈ r' → a ∉ r → H a = ζ
def EnvR (K : PySem.W.Frag) (r : List Addr) (H : Hp) (env : Env) (σ : St) : Prop :=
 env.length = σ.length ∧ ∀ (i : Nat) (w : W), env[i]? = ξ (ξ w) → ∃ v, σ[i]? = ξ (ξ v) ∧ RW K r H w v
variable [Tabs][Past]
section
variable {K: PySem.W.Frag}{r r' r'': List Addr}{H H' H'': Hp}{m: M}
theorem Later.refl : Later K H H := ⟨fun _ _ h => h, fun _ _ h => h, fun _ _ _ h => h, fun _ _ h => h, fun _ ps h => ⟨ps, h⟩, fun _ _ h => h⟩
theorem Later.trans (a : Later K H H') (b : Later K H' H'') : Later K H H'' := ⟨fun x v h => b.tup x v (a.tup x v h), fun x v h => b.frz x v (a.frz x v h), fun x o u h => b.lk x o u (a.lk x o u h), fun x n h => b.tb x n (a.tb x n h), fun x ps h => by
 obtain ⟨qs, q⟩ := a.tbs x ps h
 exact b.tbs x qs q, fun c q h => b.co c q (a.co c q h)⟩
theorem Lt.refl : Lt K r H r H := ⟨List.prefix_rfl, .refl, fun _ _ h _ _ => h, fun _ h q => absurd h q⟩
theorem Lt.trans (a : Lt K r H r' H') (b : Lt K r' H' r'' H'') : Lt K r H r'' H'' := by
  refine ⟨a.pre.trans b.pre, a.lat.trans b.lat, fun x u h n nt => b.kept x u (a.kept x u h n nt) (fun z => ?_) nt, fun x h n => ?_⟩
  · rw [a.fresh x z n] at h
    cases h
  · by_cases z : x ∈ r'
    · exact a.fresh x z n
    · have q := b.fresh x h z
      cases e : H x with
      | none => rfl
      | some u =>
        by_cases hu : ∃ ps, u = .tbl ps
        · obtain ⟨ps, rfl⟩ := hu
          obtain ⟨qs, q'⟩ := a.lat.tbs x ps e
          rw [q'] at q
          cases q
        · rw [a.kept x u e n fun ps z => hu ⟨ps, z⟩] at q
          cases q
theorem mx {α : Type} {l l' : List α} (h : l <+: l') {n : Nat} {a : α} (e : l[n]? = ξ a) : l'[n]? = ξ a := by
 obtain ⟨t, rfl⟩ := h
 rw [List.getElem?_append_left (List.getElem?_eq_some_iff.mp e).1]
 exact e
mutual
theorem RW.le (l : Le K r H r' H') : ∀ {w : W} {v : V}, RW K r H w v → RW K r' H' w v
 | .non, _, h => h
 | .bl _, _, h => h
 | .int _, _, h => h
 | .str _, _, h => h
 | .tup ws, _, h => by
  obtain ⟨a, vs, e, ht, hr⟩ := h
  exact ⟨a, vs, e, l.lat.tup _ _ ht, RWs.le l hr⟩
 | .ref n, _, h => by
  obtain ⟨a, e, q⟩ := h
  exact ⟨a, mx l.pre e, q⟩
 | .ob _, _, h => h
 | .ty _, _, h => h
 | .scr ns, _, h => by
  obtain ⟨a, e, q⟩ := h
  exact ⟨a, e, l.lat.frz _ _ q⟩
 | .im k ws, _, h => by
  obtain ⟨a, vs, e, q, hr⟩ := h
  exact ⟨a, vs, e, q.le l.lat.tup l.lat.lk, RWs.le l hr⟩
theorem RWs.le (l : Le K r H r' H') : ∀ {ws : List W} {vs : List V}, RWs K r H ws vs → RWs K r' H' ws vs
 | [], _, h => h
 | w :: ws, _, h => by
  obtain ⟨v, rest, e, h1, h2⟩ := h
  exact ⟨v, rest, e, RW.le l h1, RWs.le l h2⟩
end
theorem RKV.le {κ : Type} (l : Le K r H r' H') : ∀ {ps : List (κ × W)} {vs : List (κ × V)}, RKV K r H ps vs → RKV K r' H' ps vs
 | [], _, h => h
 | p :: ps, _, h => by
  obtain ⟨v, rest, e, h1, h2⟩ := h
  exact ⟨v, rest, e, RW.le l h1, RKV.le l h2⟩
theorem RO.le (l : Le K r H r' H') : ∀ {o : O} {u : HO}, RO K r H o u → RO K r' H' o u
 | .lst _, _, h => by obtain ⟨vs, e, h⟩ := h; exact ⟨vs, e, h.le l⟩
 | .dct _, _, h => by obtain ⟨vs, e, h⟩ := h; exact ⟨vs, e, h.le l⟩
 | .dtp _, _, h => by obtain ⟨vs, e, h⟩ := h; exact ⟨vs, e, h.le l⟩
 | .ins _ _, _, h => by obtain ⟨dx, vs, e, h⟩ := h; exact ⟨dx, vs, e, h.le l⟩
 | .xd _, _, h => by obtain ⟨vs, e, h⟩ := h; exact ⟨vs, e, h.le l⟩
 | .lcd _, _, h => by obtain ⟨o, vs, e, h⟩ := h; exact ⟨o, vs, e, h.le l⟩
 | .lct _, _, h => by obtain ⟨o, vs, e, h⟩ := h; exact ⟨o, vs, e, h.le l⟩
theorem EnvR.le {env : Env} {σ : St} (l : Le K r H r' H') (h : EnvR K r H env σ) : EnvR K r' H' env σ := ⟨h.1, fun i w e => by
 obtain ⟨v, e1, q⟩ := h.2 i w e
 exact ⟨v, e1, q.le l⟩⟩
theorem Lt.le (l : Lt K r H r' H') : Le K r H r' H' := ⟨l.pre, l.lat.l0⟩
theorem Lt.lp (l : Lt K r H r' H') : Lp K r H r' H' := ⟨l.pre, l.lat⟩
theorem Lp.le (l : Lp K r H r' H') : Le K r H r' H' := ⟨l.pre, l.lat.l0⟩
theorem Lp.refl : Lp K r H r H := ⟨List.prefix_rfl, .refl⟩
theorem Lp.trans (a : Lp K r H r' H') (b : Lp K r' H' r'' H'') : Lp K r H r'' H'' := ⟨a.pre.trans b.pre, a.lat.trans b.lat⟩
theorem RW.mono {w : W} {v : V} (h : RW K r H w v) (l : Lt K r H r' H') : RW K r' H' w v := RW.le l.le h
theorem RWs.mono {w : List W} {v : List V} (h : RWs K r H w v) (l : Lt K r H r' H') : RWs K r' H' w v := RWs.le l.le h
theorem RKV.mono {κ : Type} {w : List (κ × W)} {v : List (κ × V)} (h : RKV K r H w v) (l : Lt K r H r' H') : RKV K r' H' w v := RKV.le l.le h
theorem RO.mono {w : O} {v : HO} (h : RO K r H w v) (l : Lt K r H r' H') : RO K r' H' w v := RO.le l.le h
theorem EnvR.mono {env : Env} {σ : St} (h : EnvR K r H env σ) (l : Lt K r H r' H') : EnvR K r' H' env σ := EnvR.le l.le h
theorem EnvR.set {env : Env} {σ : St} {w : W} {v : V} (h : EnvR K r H env σ) (q : RW K r H w v) (i : Nat) : EnvR K r H (env.set i (ξ w)) (σ.set i (ξ v)) := ⟨by rw [List.length_set, List.length_set]; exact h.1, fun j x e => by
 rw [List.getElem?_set] at e ⊢
 by_cases hij : i = j
 ·subst hij
  rw [if_pos rfl] at e ⊢
  by_cases hl : i < env.length
  ·rw [if_pos hl] at e
   rw [if_pos (by rw [← h.1]; exact hl)]
   cases e
   exact ⟨v, rfl, q⟩
  ·rw [if_neg hl] at e
   cases e
 ·rw [if_neg hij] at e ⊢
  exact h.2 j x e⟩
theorem RWs.len : ∀ {ws : List W} {vs : List V}, RWs K r H ws vs → ws.length = vs.length
 | [], _, h => by cases (show _ = _ from h); rfl
 | _ :: _, _, h => by
  obtain ⟨v, rest, rfl, _, h2⟩ := h
  simp [RWs.len h2]
theorem RWs.get : ∀ {ws : List W} {vs : List V} {i : Nat} {w : W}, RWs K r H ws vs → ws[i]? = ξ w → ∃ v, vs[i]? = ξ v ∧ RW K r H w v
 | [], _, _, _, _, e => by simp at e
 | w :: ws, _, 0, _, h, e => by
  obtain ⟨v, rest, rfl, h1, _⟩ := h
  simp at e; subst e
  exact ⟨v, rfl, h1⟩
 | w :: ws, _, i + 1, _, h, e => by
  obtain ⟨v, rest, rfl, _, h2⟩ := h
  obtain ⟨v', e', q⟩ := RWs.get (i := i) h2 (by simpa using e)
  exact ⟨v', by simpa using e', q⟩
theorem RWs.append : ∀ {ws xs : List W} {vs us : List V}, RWs K r H ws vs → RWs K r H xs us → RWs K r H (ws ++ xs) (vs ++ us)
 | [], _, _, _, h, q => by cases (show _ = _ from h); exact q
 | w :: ws, _, _, _, h, q => by
  obtain ⟨v, rest, rfl, h1, h2⟩ := h
  exact ⟨v, rest ++ _, rfl, h1, RWs.append h2 q⟩
theorem RWs.one {w : W} {v : V} (h : RW K r H w v) : RWs K r H [w] [v] := ⟨v, [], rfl, h, rfl⟩
theorem RWs.set : ∀ {ws : List W} {vs : List V} (i : Nat) {w : W} {v : V}, RWs K r H ws vs → RW K r H w v → RWs K r H (ws.set i w) (vs.set i v)
 | [], _, _, _, _, h, _ => by cases (show _ = _ from h); rfl
 | x :: ws, _, 0, _, _, h, q => by
  obtain ⟨u, rest, rfl, h1, h2⟩ := h
  exact ⟨_, rest, rfl, q, h2⟩
 | x :: ws, _, i + 1, _, _, h, q => by
  obtain ⟨u, rest, rfl, h1, h2⟩ := h
  exact ⟨u, _, rfl, h1, RWs.set i h2 q⟩
theorem RWs.take : ∀ {ws : List W} {vs : List V} (n : Nat), RWs K r H ws vs → RWs K r H (ws.take n) (vs.take n)
 | _, _, 0, _ => by simp [RWs]
 | [], _, _ + 1, h => by cases (show _ = _ from h); simp [RWs]
 | w :: ws, _, n + 1, h => by
  obtain ⟨v, rest, rfl, h1, h2⟩ := h
  exact ⟨v, _, rfl, h1, RWs.take n h2⟩
theorem RWs.drop : ∀ {ws : List W} {vs : List V} (n : Nat), RWs K r H ws vs → RWs K r H (ws.drop n) (vs.drop n)
 | _, _, 0, h => h
 | [], _, _ + 1, h => by cases (show _ = _ from h); simp [RWs]
 | w :: ws, _, n + 1, h => by
  obtain ⟨v, rest, rfl, h1, h2⟩ := h
  exact RWs.drop n h2
theorem RWs.ints {ns : List Int} : RWs K r H (ns.map W.int) (ns.map V.int) := by
 induction ns with
 | nil => rfl
 | cons n ns ih => exact ⟨_, _, rfl, rfl, ih⟩
theorem RKV.lookup : ∀ {fs : List (Str × W)} {vs : List (Str × V)} {f : Str}, RKV K r H fs vs → match fs.lookup f with
  | some w => ∃ v, vs.lookup f = ξ v ∧ RW K r H w v
  | none => vs.lookup f = ζ
 | [], _, _, h => by cases (show _ = _ from h); rfl
 | p :: ps, _, f, h => by
  obtain ⟨v, rest, rfl, h1, h2⟩ := h
  obtain ⟨k, w⟩ := p
  have ih := RKV.lookup (f := f) h2
  simp only [List.lookup]
  cases hq : f == k with
  | true => exact ⟨v, rfl, h1⟩
  | false => exact ih
def O.open : O → Bool
 | .lcd _ => false
 | .lct _ => false
 | _ => true
theorem RO.plain : ∀ {o : O} {u : HO}, o.open = true → RO K r H o u → (∀ vs, u ≠ .tup vs) ∧ (∀ ob u', u ≠ .frz ob u') ∧ (∀ ps, u ≠ .tbl ps) ∧ ∀ c q, u ≠ LamX.CodeO c q
 | .lst _, _, _, h => by obtain ⟨vs, rfl, _⟩ := h; refine ⟨?_, ?_, ?_, ?_⟩ <;> intros <;> intro e <;> cases e
 | .dct _, _, _, h => by obtain ⟨vs, rfl, _⟩ := h; refine ⟨?_, ?_, ?_, ?_⟩ <;> intros <;> intro e <;> cases e
 | .dtp _, _, _, h => by obtain ⟨vs, rfl, _⟩ := h; refine ⟨?_, ?_, ?_, ?_⟩ <;> intros <;> intro e <;> cases e
 | .ins _ _, _, _, h => by obtain ⟨_, vs, rfl, _⟩ := h; refine ⟨?_, ?_, ?_, ?_⟩ <;> intros <;> intro e <;> cases e
 | .xd _, _, _, h => by obtain ⟨vs, rfl, _⟩ := h; refine ⟨?_, ?_, ?_, ?_⟩ <;> intros <;> intro e <;> cases e
 | .lcd _, _, h, _ => by cases h
 | .lct _, _, h, _ => by cases h
theorem D1 {a p : Addr} {x : HO} (e : H a = ξ x) (h : ∀ y, H p = ξ y → y ≠ x) : a ≠ p := fun z => by
 subst z
 exact h x e rfl
theorem rJ {P p : Addr} {nm : Str} {u : HO} (t : LamX.TabS H P nm) (h : ∀ x, H p = ξ x → (∀ ps, x ≠ .tbl ps) ∧ ∀ c q, x ≠ LamX.CodeO c q) : LamX.TabS (upd H p u) P nm := by
 obtain ⟨ps, h1, h2, h3⟩ := t
 refine ⟨ps, by rw [upd_ne (D1 h1 fun x e => (h x e).1 ps)]; exact h1, h2, fun pos cv e => ?_⟩
 obtain ⟨c, e1, e2⟩ := h3 pos cv e
 exact ⟨c, e1, by rw [upd_ne (D1 e2 fun x e => (h x e).2 c nm)]; exact e2⟩
theorem kG {p : Addr} {u : HO} (h : H p = ζ) : Later K H (upd H p u) := by
 refine ⟨fun a vs q => ?_, fun a vs q => ?_, fun a ob u' q => by rw [upd_ne (ne_of_none q h)]; exact q, fun p' _ t => rJ t (fun x e => by rw [h] at e; cases e), fun a ps q => ⟨ps, by rw [upd_ne (ne_of_none q h)]; exact q⟩, fun c q e => by rw [upd_ne (ne_of_none e h)]; exact e⟩
 ·rw [upd_ne (ne_of_none q h)]
  exact q
 ·rcases q with ⟨o, q⟩ | q
  ·exact .inl ⟨o, by rw [upd_ne (ne_of_none q h)]; exact q⟩
  ·exact .inr q
theorem nJ {p : Addr} {o : O} {u0 u : HO} (h : H p = ξ u0) (q0 : RO K r H o u0) (ho : o.open = true := by rfl) : Later K H (upd H p u) := by
 obtain ⟨n1, n2, n3, n4⟩ := q0.plain ho
 refine ⟨fun a vs q => ?_, fun a vs q => ?_, fun a ob u' q => by rw [upd_ne (ne_of q h fun e => n2 _ _ e.symm)]; exact q, fun p' _ t => rJ t (fun x e => by rw [h] at e; cases e; exact ⟨n3, n4⟩), fun a ps q => ⟨ps, by rw [upd_ne (ne_of q h fun e => n3 _ e.symm)]; exact q⟩, fun c q e => by rw [upd_ne (ne_of e h fun z => n4 _ _ z.symm)]; exact e⟩
 ·rw [upd_ne (ne_of q h fun e => n1 _ e.symm)]
  exact q
 ·rcases q with ⟨o, q⟩ | q
  ·exact .inl ⟨o, by rw [upd_ne (ne_of q h fun e => n2 _ _ e.symm)]; exact q⟩
  ·exact .inr q
theorem yf {p : Addr} {u : HO} (h : H p = ζ) : Lt K r H (r ++ [p]) (upd H p u) := ⟨List.prefix_append _ _, kG h, fun b x e _ _ => by rw [upd_ne (ne_of_none e h)]; exact e, fun b x y => by
 rcases List.mem_append.mp x with z | z
 ·exact absurd z y
 ·simp at z
  rw [z]
  exact h⟩
theorem cH {p : Addr} {u : HO} (h : H p = ζ) : Lt K r H r (upd H p u) := ⟨List.prefix_rfl, kG h, fun b x e _ _ => by rw [upd_ne (ne_of_none e h)]; exact e, fun _ x y => absurd x y⟩
theorem Sim.aside (s : Sim K r m H) {p : Addr} {u : HO} (h : H p = ζ) : Sim K r m (upd H p u) := ⟨s.len, s.nd, fun n o e => by
 obtain ⟨a, u', e1, e2, e3⟩ := s.at_ n o e
 exact ⟨a, u', e1, by rw [upd_ne (ne_of_none e2 h)]; exact e2, e3.mono (cH h)⟩, fun p hp => (kG (K := K) h).tb _ hp (s.tb p hp), fun p hp => (s.past p hp).trans (cH h).lp⟩
theorem Sim.new (s : Sim K r m H) {p : Addr} {o : O} {u : HO} (h : H p = ζ) (q : RO K (r ++ [p]) (upd H p u) o u) : Sim K (r ++ [p]) (m ++ [o]) (upd H p u) ∧ Lt K r H (r ++ [p]) (upd H p u) := by
  have lt : Lt K r H (r ++ [p]) (upd H p u) := yf h
  refine ⟨⟨by simp [s.len], ?_, fun n o' e => ?_, fun p hp => lt.lat.tb _ hp (s.tb p hp), fun p hp => (s.past p hp).trans lt.lp⟩, lt⟩
  · rw [List.nodup_append]
    refine ⟨s.nd, by simp, fun a ha b hb e => ?_⟩
    simp at hb
    subst hb
    subst e
    obtain ⟨n, hn⟩ := List.getElem?_of_mem ha
    have hl : n < m.length := by rw [← s.len]; exact (List.getElem?_eq_some_iff.mp hn).1
    obtain ⟨a', u', e1, e2, _⟩ := s.at_ n _ (List.getElem?_eq_getElem hl)
    rw [hn] at e1
    cases e1
    rw [h] at e2
    cases e2
  · by_cases hn : n < m.length
    · rw [List.getElem?_append_left hn] at e
      obtain ⟨a, u', e1, e2, e3⟩ := s.at_ n o' e
      exact ⟨a, u', mx lt.pre e1, by rw [upd_ne (ne_of_none e2 h)]; exact e2, e3.mono lt⟩
    · have hn' : n = m.length := by
        have := (List.getElem?_eq_some_iff.mp e).1
        simp at this
        omega
      subst hn'
      simp at e
      subst e
      exact ⟨p, u, by rw [← s.len]; simp, upd_same, q⟩
theorem Sim.set (s : Sim K r m H) {n : Nat} {a : Addr} {o0 o : O} {u0 u : HO} (e0 : m[n]? = ξ o0) (ea : r[n]? = ξ a) (h : H a = ξ u0) (q0 : RO K r H o0 u0) (q : RO K r (upd H a u) o u) (ho : o0.open = true := by rfl) : Sim K r (m.set n o) (upd H a u) ∧ Lt K r H r (upd H a u) := by
 have lt : Lt K r H r (upd H a u) := ⟨List.prefix_rfl, nJ h q0 ho, fun b x e n _ => by
  have hb : b ≠ a := fun z => n (by rw [z]; exact List.mem_of_getElem? ea)
  rw [upd_ne hb]
  exact e, fun _ x y => absurd x y⟩
 refine ⟨⟨by simp [s.len], s.nd, fun k o' e => ?_, fun p hp => lt.lat.tb _ hp (s.tb p hp), fun p hp => (s.past p hp).trans lt.lp⟩, lt⟩
 rw [List.getElem?_set] at e
 by_cases hk : n = k
 ·subst hk
  rw [if_pos rfl, if_pos (List.getElem?_eq_some_iff.mp e0).1] at e
  cases e
  exact ⟨a, u, ea, upd_same, q⟩
 ·rw [if_neg hk] at e
  obtain ⟨b, u', e1, e2, e3⟩ := s.at_ k o' e
  have hb : b ≠ a := fun z => by
   subst z
   obtain ⟨h1, e1'⟩ := List.getElem?_eq_some_iff.mp e1
   obtain ⟨h2, ea'⟩ := List.getElem?_eq_some_iff.mp ea
   exact hk ((List.getElem_inj s.nd).mp (ea'.trans e1'.symm))
  exact ⟨b, u', e1, by rw [upd_ne hb]; exact e2, e3.mono lt⟩
end
inductive R (α : Type) where
 | ok (a : α) (m : M) | exc (C : Addr) (d : Option Nat) (m : M)
def bnd {α β : Type} (x : Option (R α)) (k : α → M → Option (R β)) : Option (R β) := match x with
 | none => ζ
 | some (.ok a m) => k a m
 | some (.exc C d m) => ξ (.exc C d m)
theorem dZ {α β : Type} {a : α} {m : M} {k : α → M → Option (R β)} : bnd (ξ (.ok a m)) k = k a m := rfl
def XR (r : List Addr) : Option Nat → Option Addr → Prop
 | none, d => d = ζ
 | some n, d => ∃ a, r[n]? = ξ a ∧ d = ξ a
abbrev Rel (α β : Type) := List Addr → Hp → α → β → Prop
def Post {α β : Type} (K : PySem.W.Frag) (rel : Rel α β) (r : List Addr) (H : Hp) (x : Option (R α)) (Q : β → Hp → Prop) (E : XK) : Prop := match x with
 | none => False
 | some (.ok a m) => ∀ r' H' v, Lt K r H r' H' → Sim K r' m H' → rel r' H' a v → Q v H'
 | some (.exc C d m) => ∀ r' H' dv, Lt K r H r' H' → Sim K r' m H' → XR r' d dv → E (.ref C) dv H'
theorem Post.base {α β : Type} {K : PySem.W.Frag} {rel : Rel α β} {r r' : List Addr} {H H' : Hp} {x : Option (R α)} {Q : β → Hp → Prop} {E : XK} (h : Post K rel r H x Q E) (l : Lt K r H r' H') : Post K rel r' H' x Q E := by
 cases x with
 | none => exact h
 | some y =>
  cases y with
  | ok a m => exact fun r2 H2 v l2 s q => h r2 H2 v (l.trans l2) s q
  | exc C d m => exact fun r2 H2 v l2 s q => h r2 H2 v (l.trans l2) s q
theorem Post.bnd {α β γ δ : Type} {K : PySem.W.Frag} {rel : Rel α β} {rel' : Rel γ δ} {r : List Addr} {H : Hp} {x : Option (R α)} {k : α → M → Option (R γ)} {Q : δ → Hp → Prop} {Q1 : β → Hp → Prop} {E : XK} (h : Post K rel' r H (SB.bnd x k) Q E)
  (hk : ∀ a m r1 H1 v, Lt K r H r1 H1 → Sim K r1 m H1 → rel r1 H1 a v → Post K rel' r1 H1 (k a m) Q E → Q1 v H1) : Post K rel r H x Q1 E := by
 cases x with
 | none => exact h
 | some y =>
  cases y with
  | ok a m => exact fun r1 H1 v l s q => hk a m r1 H1 v l s q (Post.base h l)
  | exc C d m => exact h
abbrev DE := Env → M → Option (R W)
abbrev DT := Env → M → Option (R Bool)
abbrev DA := Env → M → Option (R (List W))
abbrev d8 (K : PySem.W.Frag) : Rel W V := fun r H => RW K r H
abbrev Hw : Rel Bool Bool := fun _ _ a b => a = b
abbrev uk (K : PySem.W.Frag) : Rel (List W) (List V) := fun r H => RWs K r H
def tX {α β : Type} (K : PySem.W.Frag) (rel : Rel α β) (Z : WX) (d : Env → M → Option (R α)) : St → Hp → (β → Hp → Prop) → Prop := fun σ H Q => ∃ r m env, Sim K r m H ∧ EnvR K r H env σ ∧ Post K rel r H (d env m) Q (WE Z σ)
abbrev tE (K : PySem.W.Frag) (Z : WX) (d : DE) : TE := tX K (d8 K) Z d
abbrev tT (K : PySem.W.Frag) (Z : WX) (d : DT) : TT := tX K Hw Z d
abbrev tA (K : PySem.W.Frag) (Z : WX) (d : DA) : TA := tX K (uk K) Z d
abbrev SE (X : Cx) (Z : WX) (e : Expr) (d : DE) : Prop := PE X e (tE X.K Z d)
abbrev ST (X : Cx) (Z : WX) (e : Expr) (d : DT) : Prop := PT X e (tT X.K Z d)
abbrev SA (X : Cx) (Z : WX) (es : List Expr) (d : DA) : Prop := PA X es (tA X.K Z d)
theorem PE.imp {X : Cx} {e : Expr} {t u : TE} (h : PE X e t) (i : ∀ σ H Q, u σ H Q → t σ H Q) : PE X e u := ⟨fun pins s σ H Q I q => h.run pins s σ H Q I (i σ H Q q)⟩
theorem PT.imp {X : Cx} {e : Expr} {t u : TT} (h : PT X e t) (i : ∀ σ H Q, u σ H Q → t σ H Q) : PT X e u := ⟨fun pins s σ H Q I q => h.run pins s σ H Q I (i σ H Q q)⟩
theorem PA.imp {X : Cx} {e : List Expr} {t u : TA} (h : PA X e t) (i : ∀ σ H Q, u σ H Q → t σ H Q) : PA X e u := ⟨fun pos pins s σ H Q I q => h.run pos pins s σ H Q I (i σ H Q q)⟩
theorem PS.imp {X : Cx} {e : Stmt} {t u : TS} (h : PS X e t) (i : ∀ D σ H, u D σ H → t D σ H) : PS X e u := ⟨fun pins s σ H D I q => h.run pins s σ H D I (i D σ H q)⟩
theorem PSs.imp {X : Cx} {e : List Stmt} {t u : TS} (h : PSs X e t) (i : ∀ D σ H, u D σ H → t D σ H) : PSs X e u := ⟨fun pins s σ H D I q => h.run pins s σ H D I (i D σ H q)⟩
theorem tX.step {α β γ δ : Type} {K : PySem.W.Frag} {rel : Rel α β} {rel' : Rel γ δ} {Z : WX} {d : Env → M → Option (R α)} {k : α → M → Option (R γ)} {r : List Addr} {m : M} {env : Env} {σ : St} {H : Hp} {Q : δ → Hp → Prop} {Q1 : β → Hp → Prop}
  (s : Sim K r m H) (e : EnvR K r H env σ) (h : Post K rel' r H (SB.bnd (d env m) k) Q (WE Z σ)) (hk : ∀ a m1 r1 H1 v, Lt K r H r1 H1 → Sim K r1 m1 H1 → EnvR K r1 H1 env σ → rel r1 H1 a v → Post K rel' r1 H1 (k a m1) Q (WE Z σ) → Q1 v H1) : tX K rel Z d σ H Q1 :=
 ⟨r, m, env, s, e, h.bnd fun a m1 r1 H1 v l s1 q p => hk a m1 r1 H1 v l s1 (e.mono l) q p⟩
theorem Post.done {α β : Type} {K : PySem.W.Frag} {rel : Rel α β} {r : List Addr} {H : Hp} {a : α} {m : M} {v : β} {Q : β → Hp → Prop} {E : XK} (h : Post K rel r H (ξ (.ok a m)) Q E) (s : Sim K r m H) (q : rel r H a v) : Q v H := h r H v .refl s q
theorem Post.done' {α β : Type} {K : PySem.W.Frag} {rel : Rel α β} {r r' : List Addr} {H H' : Hp} {a : α} {m : M} {v : β} {Q : β → Hp → Prop} {E : XK} (h : Post K rel r H (ξ (.ok a m)) Q E) (l : Lt K r H r' H') (s : Sim K r' m H') (q : rel r' H' a v) : Q v H' := h r' H' v l s q
structure Ctx (X : Cx) (Z : WX) (k : Nat) : Prop where
 calm : X.calm = true
 nd : X.N.Nodup
 tk : Takes X Z
 own : PassesOwn (model X.prog X.w) X.A X.env X.xe
 room : Room k X.A
 gd : Tabs.g = true → X.A.guards = ξ []
def ax (i : Nat) : DE := fun env m => match env[i]? with
 | some (ξ w) => ξ (.ok w m)
 | _ => ζ
def eC (w : W) : DE := fun _ m => ξ (.ok w m)
section
variable {X: Cx}{E: XK}{Z: WX}{a b c e: Expr}{es: List Expr}{da db dc: DE}{pos p: Pos}{k: Nat}
theorem Dh {K : PySem.W.Frag} {i : Nat} {r : List Addr} {m : M} {env : Env} {σ : St} {H : Hp} {Q : VK} (s : Sim K r m H) (e : EnvR K r H env σ) (h : Post K (d8 K) r H (ax i env m) Q E) : tVar i σ H Q := by
 unfold ax at h
 split at h
 ·rename_i w hw
  obtain ⟨v, e1, q⟩ := e.2 i w hw
  exact ⟨v, e1, h.done s q⟩
 ·exact h.elim
theorem aj (i : Nat) {x : Str} (hN : X.N[i]? = ξ x := by rfl) (hv : Vis X.env.scope x := by first | exact Or.inl rfl | exact Or.inr (Or.inl rfl) | exact Or.inr (Or.inr rfl)) (hd : (x == ("__debug__" : Str)) = false := by decide)
  (hcd : (x == ("__classdict__" : Str)) = false := by decide) : SE X Z (.Name x pos) (ax i) :=
 PE.imp (pe_var hN hv hd hcd) fun σ H Q ⟨r, m, env, s, e, h⟩ => Dh s e h
theorem AY {K : PySem.W.Frag} {w : W} {v : V} (hv : ∀ r H, RW K r H w v) {σ : St} {H : Hp} {Q : VK} (h : tE K Z (eC w) σ H Q) : tC v σ H Q := by
 obtain ⟨r, m, env, s, e, h⟩ := h
 exact h.done s (hv r H)
theorem aS {i : Int} {j} : SE X Z (.Constant (.int i) j pos) (eC (.int i)) := PE.imp pe_int fun _ _ _ h => AY (w := .int i) (v := .int i) (fun _ _ => rfl) h
theorem vS {i : Bool} {j} : SE X Z (.Constant (.bool i) j pos) (eC (.bl i)) := PE.imp pe_bl fun _ _ _ h => AY (w := .bl i) (v := .bl i) (fun _ _ => rfl) h
theorem hU {j} : SE X Z (.Constant .none j pos) (eC .non) := PE.imp pe_non fun _ _ _ h => AY (w := .non) (v := .non) (fun _ _ => rfl) h
theorem dI {x : Str} {j} : SE X Z (.Constant (.str x) j pos) (eC (.str x)) := PE.imp pe_str fun _ _ _ h => AY (w := .str x) (v := .str x) (fun _ _ => rfl) h
theorem ug {x : Str} {w : W} {v : V} {u : Value} (hg : Gl X x) (hm : X.mg x = ξ u) (r : RelV v u) (hw : ∀ r H, RW X.K r H w v) (hd : (x == ("__debug__" : Str)) = false := by decide) : SE X Z (.Name x pos) (eC w) := PE.imp (pe_glob hg hm r hd) fun _ _ _ h => AY hw h
theorem Ht {x : Str} {w : W} {v : V} {u : Value} (hg : Gl X x) (hm : X.mg x = ζ) (hv : bootBuiltins x = ξ u) (r : RelV v u) (hw : ∀ r H, RW X.K r H w v) (hn : x ≠ "__name__" := by decide) (hd : (x == ("__debug__" : Str)) = false := by decide) : SE X Z (.Name x pos) (eC w) := PE.imp (pe_bltn hg hm hv r hn hd) fun _ _ _ h => AY hw h
def up (x : Option (W × M)) : Option (R W) := match x with
 | none => ζ
 | some p => ξ (.ok p.1 p.2)
@[simp] theorem Rj : up ζ = ζ := rfl
@[simp] theorem Ri {p : W × M} : up (ξ p) = ξ (.ok p.1 p.2) := rfl
abbrev F2 := W → W → M → Option (W × M)
abbrev F1 := W → M → Option (W × M)
abbrev FN := List W → M → Option (W × M)
def Imp2 (K : PySem.W.Frag) (rr : R2) (f : F2) : Prop := ∀ (r : List Addr) (m : M) (H : Hp) (x y : V) (w1 w2 : W) (Q : VK) (E : XK), Sim K r m H → RW K r H w1 x → RW K r H w2 y → Post K (d8 K) r H (up (f w1 w2 m)) Q E → rr x y H Q
def lN (K : PySem.W.Frag) (rr : List V → Hp → VK → Prop) (f : FN) : Prop := ∀ (r : List Addr) (m : M) (H : Hp) (xs : List V) (ws : List W) (Q : VK) (E : XK), Sim K r m H → RWs K r H ws xs → Post K (d8 K) r H (up (f ws m)) Q E → rr xs H Q
def cY (f : F2) (a b : DE) : DE := fun env m => bnd (a env m) fun x m1 => bnd (b env m1) fun y m2 => up (f x y m2)
def eUn (f : F1) (a : DE) : DE := fun env m => bnd (a env m) fun x m1 => up (f x m1)
theorem zj {K : PySem.W.Frag} {rr : R2} {f : F2} (hi : Imp2 K rr f) {σ : St} {H : Hp} {Q : VK} (h : tE K Z (cY f da db) σ H Q) : tOp rr (tE K Z da) (tE K Z db) σ H Q := by
 obtain ⟨r, m, env, s, e, h⟩ := h
 refine tX.step s e h fun w1 m1 r1 H1 x l1 s1 e1 q1 h1 => ?_
 refine tX.step s1 e1 h1 fun w2 m2 r2 H2 y l2 s2 e2 q2 h2 => ?_
 exact hi r2 m2 H2 x y w1 w2 Q _ s2 (q1.mono l2) q2 h2
theorem b9 {op : Operator} {rr : R2} {f : F2} (ho : OpR X (binaryOp op) rr) (hi : Imp2 X.K rr f) (ha : SE X Z a da) (hb : SE X Z b db) : SE X Z (.BinOp a op b pos) (cY f da db) := PE.imp (pe_op ho ha hb) fun _ _ _ h => zj hi h
theorem pY {op : CmpOp} {rr : R2} {f : F2} (ho : OpR X (compareOp op) rr) (hi : Imp2 X.K rr f) (ha : SE X Z a da) (hb : SE X Z b db) (hm : behindInMarks op b = false := by first | exact nomark _ | rfl) : SE X Z (.Compare a [op] [b] pos) (cY f da db) := PE.imp (pe_cmpR ho ha hb hm) fun _ _ _ h => zj hi h
theorem kP {rr : R2} {f : F2} (ho : IxR X rr) (hi : Imp2 X.K rr f) (ha : SE X Z a da) (hb : SE X Z b db) (hs : PlainIx b := by exact fun _ _ => rfl) : SE X Z (.Subscript a b pos) (cY f da db) := PE.imp (pe_ix ho ha hb hs) fun _ _ _ h => zj hi h
def RU : W → M → Option (R Bool)
 | .bl b, m => ξ (.ok b m)
 | _, _ => ζ
def bJ (d : DE) : DT := fun env m => bnd (d env m) RU
theorem zi {K : PySem.W.Frag} {d : DE} {r : List Addr} {m : M} {env : Env} {σ : St} {H : Hp} {Q : Bool → Hp → Prop} (s : Sim K r m H) (e : EnvR K r H env σ) (h : Post K Hw r H (bnd (d env m) RU) Q (WE Z σ)) : tE K Z d σ H fun x H' => ∃ k, x = .bl k ∧ Q k H' := by
 refine tX.step (rel := d8 K) s e h fun w m1 r1 H1 v l1 s1 e1 q1 h1 => ?_
 cases w <;> first | exact h1.elim | skip
 rename_i b
 exact ⟨b, q1, h1.done s1 rfl⟩
theorem LK {K : PySem.W.Frag} {rr : R2} {f : F2} (hi : Imp2 K rr f) {σ : St} {H : Hp} {Q : Bool → Hp → Prop} (h : tT K Z (bJ (cY f da db)) σ H Q) : tTest (tOp rr (tE K Z da) (tE K Z db)) σ H Q := by
 obtain ⟨r, m, env, s, e, h⟩ := h
 exact zj hi (zi s e h)
theorem eF {op : CmpOp} {rr : R2} {f : F2} (ho : OpR X (compareOp op) rr) (hi : Imp2 X.K rr f) (ha : SE X Z a da) (hb : SE X Z b db) (hm : behindInMarks op b = false := by first | exact nomark _ | rfl) : ST X Z (.Compare a [op] [b] pos) (bJ (cY f da db)) :=
 PT.imp (pt_cmpR ho ha hb hm) fun _ _ _ h => LK hi h
theorem nk (ha : SE X Z a da) (he : ∀ whole, isTrue a X.env whole = (do let v ← whole; standAt a.pos; holding [v] (truthy v)) := by intro _; rfl) : ST X Z a (bJ da) :=
 PT.imp (pt_val ha he) fun _ _ _ ⟨r, m, env, s, e, h⟩ => zi s e h
def nR (f g : F2) (a b c : DE) : DE := fun env m => bnd (a env m) fun x m1 => bnd (b env m1) fun y m2 => bnd (up (f x y m2)) fun z m3 => match z with
 | .bl true => bnd (c env m3) fun w m4 => up (g y w m4)
 | .bl false => ξ (.ok (.bl false) m3)
 | _ => ζ
theorem Pb {f : F2} {w1 w2 : W} {m : M} {K : PySem.W.Frag} {rr : R2} (hi : Imp2 K rr f) {r : List Addr} {H : Hp} {x y : V} {Q1 : VK} (s : Sim K r m H) (q1 : RW K r H w1 x) (q2 : RW K r H w2 y) {γ δ : Type} {rel' : Rel γ δ} {kk : W → M → Option (R γ)} {Q : δ → Hp → Prop}
  (h : Post K rel' r H (bnd (up (f w1 w2 m)) kk) Q E) (hk : ∀ w m1 r1 H1 v, Lt K r H r1 H1 → Sim K r1 m1 H1 → RW K r1 H1 w v → Post K rel' r1 H1 (kk w m1) Q E → Q1 v H1) : rr x y H Q1 :=
 hi r m H x y w1 w2 Q1 E s q1 q2 (h.bnd hk)
theorem Dj {K : PySem.W.Frag} {rr rr' : R2} {f g : F2} (hi : Imp2 K rr f) (hi' : Imp2 K rr' g) {σ : St} {H : Hp} {Q : VK} (h : tE K Z (nR f g da db dc) σ H Q) : tChain rr rr' (tE K Z da) (tE K Z db) (tE K Z dc) σ H Q := by
 obtain ⟨r, m, env, s, e, h⟩ := h
 refine tX.step s e h fun w1 m1 r1 H1 x l1 s1 e1 q1 h1 => ?_
 refine tX.step s1 e1 h1 fun w2 m2 r2 H2 y l2 s2 e2 q2 h2 => ?_
 refine Pb hi s2 (q1.mono l2) q2 h2 fun w m3 r3 H3 v l3 s3 q3 h3 => ?_
 cases w <;> first | exact h3.elim | skip
 rename_i bb
 refine ⟨bb, q3, ?_⟩
 cases bb with
 | false => exact h3.done s3 rfl
 | true =>
  rw [if_pos rfl]
  refine tX.step s3 (e2.mono l3) h3 fun w4 m4 r4 H4 z l4 s4 e4 q4 h4 => ?_
  exact hi' r4 m4 H4 y z w2 w4 Q _ s4 ((q2.mono l3).mono l4) q4 h4
theorem C7 {op op' : CmpOp} {rr rr' : R2} {f g : F2} (ho : OpR X (compareOp op) rr) (ho' : OpR X (compareOp op') rr') (hi : Imp2 X.K rr f) (hi' : Imp2 X.K rr' g) (ha : SE X Z a da) (hb : SE X Z b db) (hc : SE X Z c dc)
  (hm : lastMarks [op, op'] [b, c] = false := by with_unfolding_all rfl) : SE X Z (.Compare a [op, op'] [b, c] pos) (nR f g da db dc) := PE.imp (pe_chain ho ho' ha hb hc hm) fun _ _ _ h => Dj hi hi' h
def pS (a b : DT) : DT := fun env m => bnd (a env m) fun x m1 => if x = true then b env m1 else ξ (.ok false m1)
def xJ (a b : DT) : DT := fun env m => bnd (a env m) fun x m1 => if x = true then ξ (.ok true m1) else b env m1
def i9 (a : DT) : DT := fun env m => bnd (a env m) fun x m1 => ξ (.ok (!x) m1)
abbrev SW (X : Cx) (Z : WX) (e : Expr) (d : DT) : Prop := PW X e (tT X.K Z d)
theorem PW.imp {X : Cx} {e : Expr} {t u : TT} (h : PW X e t) (i : ∀ σ H Q, u σ H Q → t σ H Q) : PW X e u := ⟨fun w pins s σ H Q I q => h.run w pins s σ H Q I (i σ H Q q)⟩
variable {ta tb: DT}{rest: List Expr}
theorem pA (ha : ST X Z a ta) : SW X Z (.BoolOp .And [a] pos) ta := pw_and1 ha
theorem t9 (ha : ST X Z a ta) : SW X Z (.BoolOp .Or [a] pos) ta := pw_or1 ha
theorem ud (ha : ST X Z a ta) (hb : SW X Z (.BoolOp .And (b :: rest) pos) tb) : SW X Z (.BoolOp .And (a :: b :: rest) pos) (pS ta tb) := PW.imp (pw_and ha hb) fun σ H Q ⟨r, m, env, s, e, h⟩ => by
 refine tX.step s e h fun x m1 r1 H1 v l1 s1 e1 q1 h1 => ?_
 subst q1
 cases x with
 | true => exact iteT ⟨r1, m1, env, s1, e1, h1⟩
 | false => exact iteF (h1.done s1 rfl)
theorem y3 (ha : ST X Z a ta) (hb : SW X Z (.BoolOp .Or (b :: rest) pos) tb) : SW X Z (.BoolOp .Or (a :: b :: rest) pos) (xJ ta tb) := PW.imp (pw_or ha hb) fun σ H Q ⟨r, m, env, s, e, h⟩ => by
 refine tX.step s e h fun x m1 r1 H1 v l1 s1 e1 q1 h1 => ?_
 subst q1
 cases x with
 | true => exact iteT (h1.done s1 rfl)
 | false => exact iteF ⟨r1, m1, env, s1, e1, h1⟩
theorem vH {d : DT} (h : SW X Z a d) : ST X Z a d := PW.pt h
theorem nq (ha : ST X Z a ta) : ST X Z (.UnaryOp .Not a pos) (i9 ta) := PT.imp (pt_not ha) fun σ H Q ⟨r, m, env, s, e, h⟩ => by
 refine tX.step s e h fun x m1 r1 H1 v l1 s1 e1 q1 h1 => ?_
 subst q1
 exact h1.done s1 rfl
def tF (a b : DE) : DE := fun env m => bnd (a env m) fun x m1 => match x with
 | .bl true => b env m1
 | .bl false => ξ (.ok (.bl false) m1)
 | _ => ζ
def eOrV (a b : DE) : DE := fun env m => bnd (a env m) fun x m1 => match x with
 | .bl true => ξ (.ok (.bl true) m1)
 | .bl false => b env m1
 | _ => ζ
def Fj (a : DE) : DE := fun env m => bnd (a env m) fun x m1 => match x with
 | .bl k => ξ (.ok (.bl (!k)) m1)
 | _ => ζ
theorem Lz {op} (h : SE X Z a da) : SE X Z (.BoolOp op [a] pos) da := pe_one h
theorem Dc (ha : SE X Z a da) (hb : SE X Z (.BoolOp .And (b :: rest) pos) db) : SE X Z (.BoolOp .And (a :: b :: rest) pos) (tF da db) := PE.imp (pe_and ha hb) fun σ H Q ⟨r, m, env, s, e, h⟩ => by
 refine tX.step s e h fun x m1 r1 H1 v l1 s1 e1 q1 h1 => ?_
 cases x <;> first | exact h1.elim | skip
 rename_i k
 refine ⟨k, q1, ?_⟩
 cases k with
 | true => exact iteT ⟨r1, m1, env, s1, e1, h1⟩
 | false => exact iteF (h1.done s1 rfl)
def Fm (c : DT) (a b : DE) : DE := fun env m => bnd (c env m) fun x m1 => if x = true then a env m1 else b env m1
theorem C5 (hc : ST X Z c ta) (ha : SE X Z a da) (hb : SE X Z b db) : SE X Z (.IfExp c a b pos) (Fm ta da db) := PE.imp (pe_ifExp hc ha hb) fun σ H Q ⟨r, m, env, s, e, h⟩ => by
 refine tX.step s e h fun x m1 r1 H1 v l1 s1 e1 q1 h1 => ?_
 subst q1
 cases x with
 | true => exact iteT ⟨r1, m1, env, s1, e1, h1⟩
 | false => exact iteF ⟨r1, m1, env, s1, e1, h1⟩
def aJ : DA := fun _ m => ξ (.ok [] m)
def aq (a : DE) (as : DA) : DA := fun env m => bnd (a env m) fun x m1 => bnd (as env m1) fun xs m2 => ξ (.ok (x :: xs) m2)
theorem aB : SA X Z [] aJ := PA.imp pa_nil fun σ H Q ⟨r, m, env, s, e, h⟩ => h.done s rfl
theorem ai {das : DA} (ha : SE X Z e da) (hr : SA X Z es das) (hs : starEach (e :: es) X.env = (false, eval e X.env) :: starEach es X.env := by rfl) : SA X Z (e :: es) (aq da das) := PA.imp (pa_cons ha hr hs) fun σ H Q ⟨r, m, env, s, e, h⟩ => by
 refine tX.step s e h fun w m1 r1 H1 v l1 s1 e1 q1 h1 => ?_
 refine tX.step (rel := uk X.K) s1 e1 h1 fun ws m2 r2 H2 vs l2 s2 e2 q2 h2 => ?_
 exact h2.done s2 ⟨v, vs, rfl, q1.mono l2, q2⟩
def ri (as : DA) : DE := fun env m => bnd (as env m) fun ws m1 => if ws.length ≤ sizeLine then ξ (.ok (.tup ws) m1) else ζ
def dM (as : DA) : DE := fun env m => bnd (as env m) fun ws m1 => if ws.length ≤ sizeLine then ξ (.ok (.ref m1.length) (m1 ++ [.lst ws])) else ζ
theorem uw {K : PySem.W.Frag} {r : List Addr} {m : M} {H : Hp} {ws : List W} {vs : List V} {Q : VK} {p : Addr} (s : Sim K r m H) (q : RWs K r H ws vs) (h : Post K (d8 K) r H (ξ (.ok (.tup ws) m)) Q E) (hp : H p = ζ) : Q (.ref p) (upd H p (.tup vs)) :=
 h.done' (cH hp) (s.aside hp) ⟨p, vs, rfl, upd_same, q.mono (cH hp)⟩
theorem uy {K : PySem.W.Frag} {r : List Addr} {m : M} {H : Hp} {ws : List W} {vs : List V} {Q : VK} {p : Addr} (s : Sim K r m H) (q : RWs K r H ws vs) (h : Post K (d8 K) r H (ξ (.ok (.ref m.length) (m ++ [.lst ws]))) Q E) (hp : H p = ζ) : Q (.ref p) (upd H p (.lst vs)) := by
 obtain ⟨s', l'⟩ := s.new (o := .lst ws) (u := .lst vs) hp ⟨vs, rfl, q.mono (yf hp)⟩
 exact h.done' l' s' ⟨p, by rw [← s.len]; simp, rfl⟩
theorem xX {das : DA} {x1} (h : SA X Z es das) : SE X Z (.Tuple es x1 pos) (ri das) := PE.imp (pe_tup h) fun σ H Q ⟨r, m, env, s, e, h⟩ => by
 refine tX.step s e h fun ws m1 r1 H1 vs l1 s1 e1 q1 h1 => ?_
 by_cases hl : ws.length ≤ sizeLine
 ·rw [if_pos hl] at h1
  exact ⟨by rw [← RWs.len q1]; exact hl, fun p hp => uw s1 q1 h1 hp⟩
 ·rw [if_neg hl] at h1
  exact h1.elim
theorem fO {das : DA} (h : SA X Z es das) : SE X Z (.List es pos) (dM das) := PE.imp (pe_lst h) fun σ H Q ⟨r, m, env, s, e, h⟩ => by
 refine tX.step s e h fun ws m1 r1 H1 vs l1 s1 e1 q1 h1 => ?_
 by_cases hl : ws.length ≤ sizeLine
 ·rw [if_pos hl] at h1
  exact ⟨by rw [← RWs.len q1]; exact hl, fun p hp => uy s1 q1 h1 hp⟩
 ·rw [if_neg hl] at h1
  exact h1.elim
def iI (f : FN) (as : DA) : DE := fun env m => bnd (as env m) fun ws m1 => up (f ws m1)
theorem Kf {K : PySem.W.Frag} {rr : List V → Hp → VK → Prop} {f : FN} {das : DA} (hi : lN K rr f) {σ : St} {H : Hp} {Q : VK} (h : tE K Z (iI f das) σ H Q) : tCB rr (tA K Z das) σ H Q := by
 obtain ⟨r, m, env, s, e, h⟩ := h
 refine tX.step s e h fun ws m1 r1 H1 vs l1 s1 e1 q1 h1 => ?_
 exact hi r1 m1 H1 vs ws Q _ s1 q1 h1
theorem C9 {x : Str} {id : String} {rr : List V → Hp → VK → Prop} {f : FN} {das : DA} (hc : CallR X (.builtin id) rr) (hi : lN X.K rr f) (hg : Gl X x) (hm : X.mg x = ζ) (hv : bootBuiltins x = ξ (.builtin id)) (ha : SA X Z (e :: es) das)
  (hn : x ≠ "__name__" := by decide) (hdb : (x == ("__debug__" : Str)) = false := by decide) (he : starEach (e :: es) X.env = (false, eval e X.env) :: starEach es X.env := by rfl) (hpl : (backTo pos (starEach es X.env)).any (·.1) = false := by rfl) :
  SE X Z (.Call (.Name x p) (e :: es) [] pos) (iI f das) := PE.imp (pe_callB hc hg hm hv ha hn hdb he hpl) fun _ _ _ h => Kf hi h
theorem AQ {x : Str} {T : String} {rr : List V → Hp → VK → Prop} {f : FN} {das : DA} (hc : CallR X (.type T) rr) (hi : lN X.K rr f) (hg : Gl X x) (hm : X.mg x = ζ) (hv : bootBuiltins x = ξ (.type T)) (ha : SA X Z (e :: es) das)
  (hn : x ≠ "__name__" := by decide) (hdb : (x == ("__debug__" : Str)) = false := by decide) (he : starEach (e :: es) X.env = (false, eval e X.env) :: starEach es X.env := by rfl) (hpl : (backTo pos (starEach es X.env)).any (·.1) = false := by rfl) :
  SE X Z (.Call (.Name x p) (e :: es) [] pos) (iI f das) := PE.imp (pe_callTy hc hg hm hv ha hn hdb he hpl) fun _ _ _ h => Kf hi h
end
inductive F where
 | next | ret (w : W) | brk | cont
inductive RS where
 | fl (f : F) (env : Env) (m : M) | exc (C : Addr) (d : Option Nat) (env : Env) (m : M)
abbrev DS := Env → M → Option RS
def PostS (K : PySem.W.Frag) (r : List Addr) (H : Hp) (x : Option RS) (D : Ends) (Z : WX) : Prop := match x with
 | none => False
 | some (.fl .next env m) => ∀ r' H' σ', Lt K r H r' H' → Sim K r' m H' → EnvR K r' H' env σ' → D.nx σ' H'
 | some (.fl .brk env m) => ∀ r' H' σ', Lt K r H r' H' → Sim K r' m H' → EnvR K r' H' env σ' → D.bk σ' H'
 | some (.fl .cont env m) => ∀ r' H' σ', Lt K r H r' H' → Sim K r' m H' → EnvR K r' H' env σ' → D.ct σ' H'
 | some (.fl (.ret w) _ m) => ∀ r' H' v, Lt K r H r' H' → Sim K r' m H' → RW K r' H' w v → D.rt v H'
 | some (.exc C d env m) => ∀ r' H' σ' dv, Lt K r H r' H' → Sim K r' m H' → EnvR K r' H' env σ' → XR r' d dv → Z (.ref C) dv σ' H'
def tS (K : PySem.W.Frag) (Z : WX) (d : DS) : TS := fun D σ H => ∃ r m env, Sim K r m H ∧ EnvR K r H env σ ∧ PostS K r H (d env m) D Z
abbrev SS (X : Cx) (Z : WX) (st : Stmt) (d : DS) : Prop := PS X st (tS X.K Z d)
abbrev rK (X : Cx) (Z : WX) (st : List Stmt) (d : DS) : Prop := PSs X st (tS X.K Z d)
theorem PostS.base {K : PySem.W.Frag} {r r' : List Addr} {H H' : Hp} {x : Option RS} {D : Ends} {Z : WX} (h : PostS K r H x D Z) (l : Lt K r H r' H') : PostS K r' H' x D Z := by
 cases x with
 | none => exact h
 | some y =>
  cases y with
  | exc C d env m => exact fun r2 H2 σ2 dv l2 => h r2 H2 σ2 dv (l.trans l2)
  | fl f env m => cases f <;> exact fun r2 H2 σ2 l2 => h r2 H2 σ2 (l.trans l2)
def bS {α : Type} (x : Option (R α)) (env : Env) (k : α → M → Option RS) : Option RS := match x with
 | none => ζ
 | some (.ok a m) => k a m
 | some (.exc C d m) => ξ (.exc C d env m)
theorem QU {α : Type} {a : α} {m : M} {env : Env} {k : α → M → Option RS} : bS (ξ (.ok a m)) env k = k a m := rfl
theorem tX.stepS {α β : Type} {K : PySem.W.Frag} {rel : Rel α β} {Z : WX} {d : Env → M → Option (R α)} {k : α → M → Option RS} {r : List Addr} {m : M} {env : Env} {σ : St} {H : Hp} {D : Ends} {Q1 : β → Hp → Prop}
  (s : Sim K r m H) (e : EnvR K r H env σ) (h : PostS K r H (bS (d env m) env k) D Z) (hk : ∀ a m1 r1 H1 v, Lt K r H r1 H1 → Sim K r1 m1 H1 → EnvR K r1 H1 env σ → rel r1 H1 a v → PostS K r1 H1 (k a m1) D Z → Q1 v H1) : tX K rel Z d σ H Q1 := by
 refine ⟨r, m, env, s, e, ?_⟩
 cases hx : d env m with
 | none => rw [hx] at h; exact h
 | some y =>
  rw [hx] at h
  cases y with
  | ok a m1 => exact fun r1 H1 v l s1 q => hk a m1 r1 H1 v l s1 (e.mono l) q (PostS.base h l)
  | exc C dd m1 => exact fun r1 H1 dv l s1 q => h r1 H1 σ dv l s1 (e.mono l) q
def fy : DS := fun env m => ξ (.fl .next env m)
def cb (a b : DS) : DS := fun env m => match a env m with
 | some (.fl .next env' m') => b env' m'
 | x => x
section
variable {X: Cx}{Z: WX}{st: Stmt}{rest: List Stmt}{a b e c tg: Expr}{da: DE}{d u: DS}{pos: Pos}{k: Nat}
theorem fN : rK X Z [] fy := PSs.imp pss_nil fun D σ H ⟨r, m, env, s, e, h⟩ => h r H σ .refl s e
theorem bo (h1 : SS X Z st d) (h2 : rK X Z rest u) : rK X Z (st :: rest) (cb d u) := PSs.imp (pss_cons h1 h2) fun D σ H ⟨r, m, env, s, e, h⟩ => by
 refine ⟨r, m, env, s, e, ?_⟩
 unfold cb at h
 cases hx : d env m with
 | none => rw [hx] at h; exact h
 | some y =>
  rw [hx] at h
  cases y with
  | exc C dd en m1 => exact h
  | fl f en m1 =>
   cases f with
   | next => exact fun r1 H1 σ1 l1 s1 e1 => ⟨r1, m1, en, s1, e1, PostS.base h l1⟩
   | ret w => exact h
   | brk => exact h
   | cont => exact h
theorem bg (h1 : SS X Z st d) : rK X Z [st] d := pss_one h1
def sFl (f : F) : DS := fun env m => ξ (.fl f env m)
def fA (a : DE) : DS := fun env m => bS (a env m) env fun _ m1 => ξ (.fl .next env m1)
theorem Hi (he : SE X Z e da) (hs : swapsWith e ζ pos.line X.env = pure false := by rfl) : SS X Z (.Expr e pos) (fA da) := PS.imp (ps_expr he hs) fun D σ H ⟨r, m, env, s, e, h⟩ =>
 tX.stepS s e h fun w m1 r1 H1 v l1 s1 e1 q1 h1 => h1 r1 H1 σ .refl s1 e1
def iR (a : DE) : DS := fun env m => bS (a env m) env fun w m1 => ξ (.fl (.ret w) env m1)
theorem fM (he : SE X Z e da) : SS X Z (.Return (ξ e) pos) (iR da) := PS.imp (ps_ret he) fun D σ H ⟨r, m, env, s, e, h⟩ =>
 tX.stepS s e h fun w m1 r1 H1 v l1 s1 e1 q1 h1 => h1 r1 H1 v .refl s1 q1
def rP (c : DT) (a b : DS) : DS := fun env m => bS (c env m) env fun x m1 => if x = true then a env m1 else b env m1
theorem jN {tc : DT} {sa sb : List Stmt} (hc : ST X Z c tc) (ha : rK X Z sa d) (hb : rK X Z sb u) : SS X Z (.If c sa sb pos) (rP tc d u) := PS.imp (ps_if hc ha hb) fun D σ H ⟨r, m, env, s, e, h⟩ => by
 refine tX.stepS s e h fun x m1 r1 H1 v l1 s1 e1 q1 h1 => ?_
 subst q1
 cases x with
 | true => exact iteT ⟨r1, m1, env, s1, e1, h1⟩
 | false => exact iteF ⟨r1, m1, env, s1, e1, h1⟩
abbrev DG := W → Env → M → Option (Env × M)
abbrev Gi := List W → Env → M → Option (Env × M)
def Out (sl : List Nat) (σ σ' : St) : Prop := σ'.length = σ.length ∧ ∀ (i : Nat), i ∉ sl → σ'[i]? = σ[i]?
theorem Out.refl {sl : List Nat} {σ : St} : Out sl σ σ := ⟨rfl, fun _ _ => rfl⟩
theorem Out.trans {sl sl' : List Nat} {σ σ' σ'' : St} (a : Out sl σ σ') (b : Out sl' σ' σ'') : Out (sl ++ sl') σ σ'' := ⟨b.1.trans a.1, fun i h => by
 rw [List.mem_append] at h
 rw [b.2 i fun z => h (.inr z), a.2 i fun z => h (.inl z)]⟩
theorem Out.set {σ : St} {i : Nat} {v : Option V} : Out [i] σ (σ.set i v) := ⟨by simp, fun j h => by
 have hj : i ≠ j := fun z => h (by simp [z])
 rw [List.getElem?_set_ne hj]⟩
def PostG (K : PySem.W.Frag) (r : List Addr) (H : Hp) (sl : List Nat) (σ : St) (x : Option (Env × M)) (Q : St → Hp → Prop) : Prop := match x with
 | none => False
 | some (env, m) => ∀ r' H' σ', Lt K r H r' H' → Sim K r' m H' → EnvR K r' H' env σ' → Out sl σ σ' → Q σ' H'
theorem PostG.base {K : PySem.W.Frag} {r r' : List Addr} {H H' : Hp} {sl : List Nat} {σ : St} {x : Option (Env × M)} {Q : St → Hp → Prop} (h : PostG K r H sl σ x Q) (l : Lt K r H r' H') : PostG K r' H' sl σ x Q := by
 cases x with
 | none => exact h
 | some y => exact fun r2 H2 σ2 l2 => h r2 H2 σ2 (l.trans l2)
def tG (K : PySem.W.Frag) (sl : List Nat) (g : DG) : TG := fun v σ H Q => ∃ r m env w, Sim K r m H ∧ EnvR K r H env σ ∧ RW K r H w v ∧ PostG K r H sl σ (g w env m) Q
def tGs (K : PySem.W.Frag) (sl : List Nat) (g : Gi) : TGs := fun vs σ H Q => ∃ r m env ws, Sim K r m H ∧ EnvR K r H env σ ∧ RWs K r H ws vs ∧ PostG K r H sl σ (g ws env m) Q
abbrev SG (X : Cx) (tg : Expr) (sl : List Nat) (g : DG) : Prop := PG X tg (tG X.K sl g)
abbrev RV (X : Cx) (ts : List Expr) (sl : List Nat) (g : Gi) : Prop := PGs X ts (tGs X.K sl g)
theorem PG.imp {X : Cx} {e : Expr} {t u : TG} (h : PG X e t) (i : ∀ v σ H Q, u v σ H Q → t v σ H Q) : PG X e u := ⟨fun pins s σ H v w Q I rv q => h.run pins s σ H v w Q I rv (i v σ H Q q)⟩
theorem PGs.imp {X : Cx} {e : List Expr} {t u : TGs} (h : PGs X e t) (i : ∀ v σ H Q, u v σ H Q → t v σ H Q) : PGs X e u := ⟨fun pins s σ H v w Q I rv q => h.run pins s σ H v w Q I rv (i v σ H Q q)⟩
def cg (i : Nat) : DG := fun w env m => ξ (env.set i (ξ w), m)
theorem dR {i : Nat} {x : Str} (hN : X.N.Nodup) (hi : X.N[i]? = ξ x := by rfl) (hx : Loc X.env.scope x := by first | exact Or.inl rfl | exact Or.inr rfl) (hf : X.fn x = true ∨ X.env.scope.names.lookup x = ξ .local := by first | exact .inl rfl | exact .inr rfl | assumption) : SG X (.Name x pos) [i] (cg i) :=
 PG.imp (pg_name hN hi hx hf) fun v σ H Q ⟨r, m, env, w, s, e, q, h⟩ => h r H _ .refl s (e.set q i) .set
def Fp : Gi := fun ws env m => match ws with
 | [] => ξ (env, m)
 | _ => ζ
def nS (g : DG) (gs : Gi) : Gi := fun ws env m => match ws with
 | w :: r => match g w env m with
  | some (env', m') => gs r env' m'
  | none => ζ
 | [] => ζ
theorem Hm : RV X [] [] Fp := PGs.imp pgs_nil fun vs σ H Q ⟨r, m, env, ws, s, e, q, h⟩ => by
 cases ws with
 | nil => exact ⟨q, h r H σ .refl s e .refl⟩
 | cons w ws => exact h.elim
theorem vM {es : List Expr} {sl sl' : List Nat} {g : DG} {gs : Gi} (h1 : SG X e sl g) (h2 : RV X es sl' gs) (hs : (assignEach (e :: es) X.env).map (·.2) = assign e X.env :: (assignEach es X.env).map (·.2) := by rfl) : RV X (e :: es) (sl ++ sl') (nS g gs) :=
 PGs.imp (pgs_cons h1 h2 hs) fun vs σ H Q ⟨r, m, env, ws, s, e, q, h⟩ => by
  cases ws with
  | nil => exact h.elim
  | cons w ws =>
   obtain ⟨v, rest, rfl, q1, q2⟩ := q
   refine ⟨v, rest, rfl, r, m, env, w, s, e, q1, ?_⟩
   unfold nS at h
   simp only at h
   cases hx : g w env m with
   | none => rw [hx] at h; exact h
   | some y =>
    obtain ⟨env1, m1⟩ := y
    rw [hx] at h
    intro r1 H1 σ1 l1 s1 e1 o1
    refine ⟨r1, m1, env1, ws, s1, e1, q2.mono l1, ?_⟩
    simp only at h
    cases hy : gs ws env1 m1 with
    | none => rw [hy] at h; exact h
    | some z =>
     rw [hy] at h
     exact fun r2 H2 σ2 l2 s2 e2 o2 => h r2 H2 σ2 (l1.trans l2) s2 e2 (o1.trans o2)
def Fu (n : Nat) (gs : Gi) : DG := fun w env m => match w with
 | .tup ws => if ws.length = n then gs ws env m else ζ
 | _ => ζ
theorem Ly {es : List Expr} {kk n : Nat} {sl : List Nat} {gs : Gi} (hc : X.calm = true) (h : RV X es sl gs) (hn : (assignEach es X.env).length = n := by rfl) (hst : (assignEach es X.env).findIdx? (·.1) = ζ := by rfl) : SG X (.Tuple es kk pos) sl (Fu n gs) :=
 PG.imp (pg_tup hc h hn hst) fun v σ H Q ⟨r, m, env, w, s, e, q, h⟩ => by
  cases w <;> first | exact h.elim | skip
  rename_i ws
  obtain ⟨a, vs, rfl, ht, q⟩ := q
  unfold Fu at h
  simp only at h
  by_cases hl : ws.length = n
  ·rw [if_pos hl] at h
   exact ⟨a, vs, rfl, SqT.of ht, by rw [← q.len]; exact hl, r, m, env, ws, s, e, q, h⟩
  ·rw [if_neg hl] at h
   exact h.elim
abbrev F3 := W → W → W → M → Option M
def Q2 (K : PySem.W.Frag) (t : TSet) (f : F3) : Prop := ∀ (r : List Addr) (m : M) (H : Hp) (o i v : V) (wo wi wv : W) (Q : Hp → Prop), Sim K r m H → RW K r H wo o → RW K r H wi i → RW K r H wv v →
 (match f wo wi wv m with | none => False | some m' => ∀ r' H', Lt K r H r' H' → Sim K r' m' H' → Q H') → t o i v H Q
def N7 (x : Option (R W)) (k : W → M → Option (Env × M)) : Option (Env × M) := match x with
 | some (.ok w m) => k w m
 | _ => ζ
def BO (f : F3) (o i : DE) : DG := fun w env m => N7 (o env m) fun wo m1 => N7 (i env m1) fun wi m2 => (f wo wi w m2).map fun m3 => (env, m3)
theorem we {K : PySem.W.Frag} {d : DE} {kk : W → M → Option (Env × M)} {r : List Addr} {m : M} {env : Env} {σ : St} {H : Hp} {sl : List Nat} {σ0 : St} {Q : St → Hp → Prop} {Q1 : VK} (s : Sim K r m H) (e : EnvR K r H env σ) (h : PostG K r H sl σ0 (N7 (d env m) kk) Q)
  (hk : ∀ w m1 r1 H1 v, Lt K r H r1 H1 → Sim K r1 m1 H1 → EnvR K r1 H1 env σ → RW K r1 H1 w v → PostG K r1 H1 sl σ0 (kk w m1) Q → Q1 v H1) : tE K Z d σ H Q1 := by
 refine ⟨r, m, env, s, e, ?_⟩
 cases hx : d env m with
 | none => rw [hx] at h; exact h
 | some y =>
  rw [hx] at h
  cases y with
  | ok w m1 => exact fun r1 H1 v l s1 q => hk w m1 r1 H1 v l s1 (e.mono l) q (PostG.base h l)
  | exc C dd m1 => exact h.elim
theorem CV {o i : Expr} {d1 d2 : DE} {t : TSet} {f : F3} (_C : Ctx X Z k) (ho : SE X Z o d1) (hi : SE X Z i d2) (hs : PSet X t) (hf : Q2 X.K t f)
  (ha : ∀ v, assign (.Subscript o i pos) X.env v = (do
   let ov ← holding [v] (eval o X.env)
   let iv ← holding [v, ov] (eval i X.env)
   standAt pos
   holding [v, ov, iv] (setItem ov iv v)
   release [v, ov, iv] []) := by intro _; rfl) : SG X (.Subscript o i pos) [] (BO f d1 d2) :=
 PG.imp (pg_sub ho hi hs ha) fun v σ H Q ⟨r, m, env, w, s, e, q, h⟩ => by
  refine we s e h fun wo m1 r1 H1 vo l1 s1 e1 q1 h1 => ?_
  refine we s1 e1 h1 fun wi m2 r2 H2 vi l2 s2 e2 q2 h2 => ?_
  refine hf r2 m2 H2 vo vi v wo wi w _ s2 (q1.mono l2) q2 ((q.mono l1).mono l2) ?_
  cases hx : f wo wi w m2 with
  | none => rw [hx] at h2; exact h2
  | some m3 =>
   rw [hx] at h2
   exact fun r3 H3 l3 s3 => h2 r3 H3 σ l3 s3 (e2.mono l3) .refl
def Qc (x : Option (Env × M)) : Option RS := match x with
 | none => ζ
 | some (env, m) => ξ (.fl .next env m)
theorem PostS.g {K : PySem.W.Frag} {r : List Addr} {H : Hp} {x : Option (Env × M)} {D : Ends} {sl : List Nat} {σ : St} (h : PostS K r H (Qc x) D Z) : PostG K r H sl σ x D.nx := by
 cases x with
 | none => exact h
 | some y => exact fun r1 H1 σ1 l1 s1 e1 _ => h r1 H1 σ1 l1 s1 e1
def jd (a : DE) (g : DG) : DS := fun env m => bS (a env m) env fun w m1 => Qc (g w env m1)
theorem LN {K : PySem.W.Frag} {sl : List Nat} {g : DG} {D : Ends} {σ : St} {H : Hp} (h : tS K Z (jd da g) D σ H) : tAsg (tE K Z da) (tG K sl g) D σ H := by
 obtain ⟨r, m, env, s, e, h⟩ := h
 exact tX.stepS s e h fun w m1 r1 H1 v l1 s1 e1 q1 h1 => ⟨r1, m1, env, w, s1, e1, q1, h1.g⟩
theorem xQ {sl : List Nat} {g : DG} (he : SE X Z e da) (hg : SG X tg sl g) (hs : swapsWithSole [tg] e pos.line X.env = pure false := by rfl) (hw : swappedStores [tg] e X.env = pure ζ := by rfl)
  (h1 : (assignEach [tg] X.env).map (·.2) = [assign tg X.env] := by rfl) : SS X Z (.Assign [tg] e pos) (jd da g) := PS.imp (ps_asg he hg hs hw h1) fun _ _ _ h => LN h
theorem hO {i : Nat} {x : Str} {pos' : Pos} (hN : X.N.Nodup) (he : SE X Z e da) (hi : X.N[i]? = ξ x := by rfl) (hx : Loc X.env.scope x := by first | exact Or.inl rfl | exact Or.inr rfl) (hs : swapsWith e (ξ (.Name x pos')) pos.line X.env = pure false := by rfl)
  (hf : X.fn x = true ∨ X.env.scope.names.lookup x = ξ .local := by first | exact .inl rfl | exact .inr rfl | assumption) : SS X Z (.Assign [.Name x pos'] e pos) (jd da (cg i)) :=
 PS.imp (ps_set hN hi hx he hs hf) fun D σ H ⟨r, m, env, s, e, h⟩ => tX.stepS s e h fun w m1 r1 H1 v l1 s1 e1 q1 h1 => h1 r1 H1 _ .refl s1 (e1.set q1 i)
def sPar (i j : Nat) (as : DA) : DS := fun env m => bS (as env m) env fun ws m1 => match ws with
 | [x, y] => ξ (.fl .next ((env.set i (ξ x)).set j (ξ y)) m1)
 | _ => ζ
end
section
variable {X: Cx}{Z: WX}{rest: List Stmt}{a b e tg iter: Expr}{da: DE}{d u: DS}{pos: Pos}{k: Nat}
structure Wk where
 items : List W
 chk : M → Bool
abbrev DI := Env → M → Option (R Wk)
def JR (K : PySem.W.Frag) (r : List Addr) (H : Hp) (J : It) (k : Wk) : Prop := ∀ (i : Nat) (r' : List Addr) (m : M) (H' : Hp), Lp K r H r' H' → Sim K r' m H' → k.chk m = true →
 (k.items.length ≤ i → J.stop i H') ∧ ∀ w, k.items[i]? = ξ w → J.go i H' ∧ ∀ x H2, J.yld i H' x H2 → Lt K r' H' r' H2 ∧ Sim K r' m H2 ∧ RW K r' H2 w x
def tI (K : PySem.W.Frag) (Z : WX) (d : DI) : TI := fun σ H R => ∃ r m env, Sim K r m H ∧ EnvR K r H env σ ∧ match d env m with
 | none => False
 | some (.ok k m1) => ∀ r1 H1 J, Lt K r H r1 H1 → Sim K r1 m1 H1 → JR K r1 H1 J k → R J H1
 | some (.exc C dd m1) => ∀ r' H' dv, Lt K r H r' H' → Sim K r' m1 H' → XR r' dd dv → WE Z σ (.ref C) dv H'
abbrev SI (X : Cx) (Z : WX) (tg iter : Expr) (d : DI) : Prop := PI X tg iter (tI X.K Z d)
theorem PI.imp {X : Cx} {tg e : Expr} {t u : TI} (h : PI X tg e t) (i : ∀ σ H Q, u σ H Q → t σ H Q) : PI X tg e u := ⟨fun pins s σ H Q I q => h.run pins s σ H Q I (i σ H Q q)⟩
theorem tI.step {α β : Type} {K : PySem.W.Frag} {rel : Rel α β} {d : Env → M → Option (R α)} {kk : α → M → Option (R Wk)} {r : List Addr} {m : M} {env : Env} {σ : St} {H : Hp} {R : It → Hp → Prop} {Q1 : β → Hp → Prop} (s : Sim K r m H) (e : EnvR K r H env σ)
  (h : match bnd (d env m) kk with
   | none => False
   | some (.ok k m1) => ∀ r1 H1 J, Lt K r H r1 H1 → Sim K r1 m1 H1 → JR K r1 H1 J k → R J H1
   | some (.exc C dd m1) => ∀ r' H' dv, Lt K r H r' H' → Sim K r' m1 H' → XR r' dd dv → WE Z σ (.ref C) dv H')
  (hk : ∀ a m1 r1 H1 v, Lt K r H r1 H1 → Sim K r1 m1 H1 → EnvR K r1 H1 env σ → rel r1 H1 a v → (∀ k m2, kk a m1 = ξ (.ok k m2) → ∀ r2 H2 J, Lt K r1 H1 r2 H2 → Sim K r2 m2 H2 → JR K r2 H2 J k → R J H2) → (kk a m1).isSome = true → Q1 v H1)
  (hkk : ∀ a m1 C dd m2, kk a m1 ≠ ξ (.exc C dd m2) := by intros; rename_i h; revert h; simp) : tX K rel Z d σ H Q1 := by
 refine ⟨r, m, env, s, e, ?_⟩
 cases hx : d env m with
 | none => rw [hx] at h; exact h
 | some y =>
  rw [hx] at h
  cases y with
  | exc C dd m1 => exact fun r1 H1 dv l s1 q => h r1 H1 dv l s1 q
  | ok a m1 =>
   refine fun r1 H1 v l s1 q => hk a m1 r1 H1 v l s1 (e.mono l) q (fun k m2 hz r2 H2 J l2 s2 j => ?_) ?_
   ·simp only [dZ, hz] at h
    exact h r2 H2 J (l.trans l2) s2 j
   ·simp only [dZ] at h
    cases hy : kk a m1 with
    | none => rw [hy] at h; exact h.elim
    | some z => rfl
def cI (m : M) : W → Option (List W)
 | .ref n => match m[n]? with
  | some (.lst ws) => ξ ws
  | _ => ζ
 | .scr ns => ξ (ns.map W.int)
 | _ => ζ
mutual
def W.beq : W → W → Bool
 | .non, .non => true
 | .bl a, .bl b => a == b
 | .int a, .int b => a == b
 | .str a, .str b => a == b
 | .tup a, .tup b => W.beqs a b
 | .ref a, .ref b => a == b
 | .ob a, .ob b => a == b
 | .ty a, .ty b => a == b
 | .scr a, .scr b => a == b
 | .im j a, .im k b => decide (j = k) && W.beqs a b
 | _, _ => false
def W.beqs : List W → List W → Bool
 | [], [] => true
 | a :: as, b :: bs => W.beq a b && W.beqs as bs
 | _, _ => false
end
mutual
theorem W.beq_eq : ∀ {a b : W}, W.beq a b = true → a = b
 | .non, b, h => by cases b <;> first | rfl | exact absurd h (by simp [W.beq])
 | .bl x, b, h => by cases b <;> first | (simp [W.beq] at h; done) | (simp only [W.beq, beq_iff_eq] at h; rw [h])
 | .int x, b, h => by cases b <;> first | (simp [W.beq] at h; done) | (simp only [W.beq, beq_iff_eq] at h; rw [h])
 | .str x, b, h => by cases b <;> first | (simp [W.beq] at h; done) | (simp only [W.beq, beq_iff_eq] at h; rw [h])
 | .tup x, b, h => by
  cases b <;> first | (simp [W.beq] at h; done) | skip
  simp only [W.beq] at h
  rw [W.beqs_eq h]
 | .ref x, b, h => by cases b <;> first | (simp [W.beq] at h; done) | (simp only [W.beq, beq_iff_eq] at h; rw [h])
 | .ob x, b, h => by cases b <;> first | (simp [W.beq] at h; done) | (simp only [W.beq, beq_iff_eq] at h; rw [h])
 | .ty x, b, h => by cases b <;> first | (simp [W.beq] at h; done) | (simp only [W.beq, beq_iff_eq] at h; rw [h])
 | .scr x, b, h => by cases b <;> first | (simp [W.beq] at h; done) | (simp only [W.beq, beq_iff_eq] at h; rw [h])
 | .im k x, b, h => by
  cases b <;> first | (simp [W.beq] at h; done) | skip
  simp only [W.beq, Bool.and_eq_true, decide_eq_true_eq] at h
  rw [h.1, W.beqs_eq h.2]
theorem W.beqs_eq : ∀ {a b : List W}, W.beqs a b = true → a = b
 | [], b, h => by cases b <;> first | rfl | exact absurd h (by simp [W.beqs])
 | x :: a, b, h => by
  cases b with
  | nil => simp [W.beqs] at h
  | cons y b =>
   simp only [W.beqs, Bool.and_eq_true] at h
   rw [W.beq_eq h.1, W.beqs_eq h.2]
end
mutual
theorem W.beq_rfl : ∀ (a : W), W.beq a a = true
 | .non => rfl
 | .bl x => by simp [W.beq]
 | .int x => by simp [W.beq]
 | .str x => by simp [W.beq]
 | .tup x => by simp only [W.beq]; exact W.beqs_rfl x
 | .ref x => by simp [W.beq]
 | .ob x => by simp [W.beq]
 | .ty x => by simp [W.beq]
 | .scr x => by simp [W.beq]
 | .im k x => by simp only [W.beq, Bool.and_eq_true, decide_eq_true_eq]; exact ⟨trivial, W.beqs_rfl x⟩
theorem W.beqs_rfl : ∀ (a : List W), W.beqs a a = true
 | [] => rfl
 | x :: a => by simp only [W.beqs, Bool.and_eq_true]; exact ⟨W.beq_rfl x, W.beqs_rfl a⟩
end
def isLst (m : M) (w : W) (ws : List W) : Bool := match cI m w with
 | some xs => W.beqs xs ws
 | none => false
@[simp] theorem isLst_self {m : M} {w : W} {ws : List W} : isLst m w ws = true ↔ cI m w = ξ ws := by
  unfold isLst
  cases h : cI m w with
  | none => simp
  | some xs =>
    simp only [Option.some.injEq]
    exact ⟨fun q => W.beqs_eq q, fun q => by rw [q]; exact W.beqs_rfl ws⟩
theorem gu {K : PySem.W.Frag} {r : List Addr} {m : M} {H : Hp} {w : W} {ws : List W} {v : V} (s : Sim K r m H) (q : RW K r H w v) (h : cI m w = ξ ws) : ∃ a vs, v = .ref a ∧ SqL K H a vs ∧ RWs K r H ws vs := by
 cases w <;> first | (cases h; done) | skip
 ·rename_i n
  obtain ⟨a, e, rfl⟩ := q
  unfold cI at h
  simp only at h
  split at h
  ·rename_i xs hx
   cases h
   obtain ⟨a', u, e1, e2, vs, rfl, e3⟩ := s.at_ n _ hx
   rw [e] at e1
   cases e1
   exact ⟨a, vs, rfl, SqL.of e2, e3⟩
  ·cases h
 ·obtain ⟨a, rfl, f⟩ := q
  cases h
  exact ⟨a, _, rfl, f.sql, .ints⟩
def ML (a : DE) : DI := fun env m => bnd (a env m) fun w m1 => match cI m1 w with
 | some ws => ξ (.ok ⟨ws, fun m => isLst m w ws⟩ m1)
 | none => ζ
theorem Iz {K : PySem.W.Frag} {r : List Addr} {H : Hp} {w : W} {ws : List W} {a : Addr} (q : RW K r H w (.ref a)) : JR K r H (Itl K a) ⟨ws, fun m => isLst m w ws⟩ := by
 intro i r' m H' l s hc
 obtain ⟨a', vs, e, hs, rs⟩ := gu s (q.le l.le) (isLst_self.mp hc)
 cases e
 refine ⟨fun hi => ⟨vs, hs, by rw [← rs.len]; exact hi⟩, fun w' hw => ?_⟩
 obtain ⟨v, hv, rv⟩ := rs.get hw
 refine ⟨⟨vs, v, hs, hv⟩, fun x H2 ⟨e2, f⟩ => ?_⟩
 subst e2
 have e3 := f vs hs
 rw [hv] at e3
 cases e3
 exact ⟨.refl, s, rv⟩
theorem Hl (ha : SE X Z a da) : SI X Z tg a (ML da) := PI.imp (pi_list ha) fun σ H R ⟨r, m, env, s, e, h⟩ => by
 refine tI.step s e h (fun w m1 r1 H1 v l1 s1 e1 q1 h1 hS => ?_) (by intro w m1 C dd m2; split <;> simp)
 cases hx : cI m1 w with
 | none => simp [hx] at hS
 | some ws =>
  obtain ⟨a, vs, rfl, hs, rs⟩ := gu s1 q1 hx
  exact ⟨a, rfl, ⟨vs, hs⟩, h1 _ _ (by rw [hx]) r1 H1 _ .refl s1 (Iz q1)⟩
def EJ (a : DE) : DI := fun env m => bnd (a env m) fun w m1 => match w with
 | .tup ws => ξ (.ok ⟨ws, fun _ => true⟩ m1)
 | .im (.tpl _) ws => ξ (.ok ⟨ws, fun _ => true⟩ m1)
 | _ => ζ
theorem En {K : PySem.W.Frag} {r : List Addr} {H : Hp} {ws : List W} {vs : List V} {a : Addr} (ht : Rd H a (.tup vs)) (q : RWs K r H ws vs) : JR K r H (Itt K a) ⟨ws, fun _ => true⟩ := by
 intro i r' m H' l s hc
 have ht' : SqT K H' a vs := .inl (ht.elim (fun h => .inl (l.lat.tup _ _ h)) fun ⟨o, h⟩ => .inr ⟨o, l.lat.lk _ _ _ h⟩)
 have rs := q.le l.le
 refine ⟨fun hi => ⟨vs, ht', by rw [← rs.len]; exact hi⟩, fun w' hw => ?_⟩
 obtain ⟨v, hv, rv⟩ := rs.get hw
 refine ⟨⟨vs, v, ht', hv⟩, fun x H2 ⟨e2, f⟩ => ?_⟩
 subst e2
 have e3 := f vs ht'
 rw [hv] at e3
 cases e3
 exact ⟨.refl, s, rv⟩
theorem Ls (ha : SE X Z a da) : SI X Z tg a (EJ da) := PI.imp (pi_tup ha) fun σ H R ⟨r, m, env, s, e, h⟩ => by
 refine tI.step s e h (fun w m1 r1 H1 v l1 s1 e1 q1 h1 hS => ?_) (by intro w m1 C dd m2; split <;> simp)
 cases w <;> first | (simp at hS; done) | skip
 ·obtain ⟨a, vs, rfl, ht, rs⟩ := q1
  exact ⟨a, rfl, ⟨vs, SqT.of ht⟩, h1 _ _ rfl r1 H1 _ .refl s1 (En (.inl ht) rs)⟩
 ·rename_i k us
  cases k with
  | exc C fs => simp at hS
  | tpl nd =>
   obtain ⟨a, vs, rfl, hi, rs⟩ := q1
   have ht := hi.rd
   exact ⟨a, rfl, ⟨vs, .inl ht⟩, h1 _ _ rfl r1 H1 _ .refl s1 (En ht rs)⟩
def sm (N : Nat) (i : Int) : Bool := Nat.ble i.natAbs N
theorem vL {N : Nat} {i : Int} (h : sm N i = true) : i.natAbs ≤ N := Nat.le_of_ble_eq_true h
theorem om {N : Nat} {i : Int} (h : i.natAbs ≤ N) : sm N i = true := Nat.ble_eq_true_of_le h
theorem PH {j : Int} (h : sm 1000000000000 j = true) : -(2 ^ 62) ≤ j ∧ j < 2 ^ 62 := by
 have := vL h
 omega
def rng (lo : Int) (n : Nat) : List W := (List.range n).map fun (i : Nat) => W.int (lo + i)
theorem MF {K : PySem.W.Frag} {r : List Addr} {H : Hp} {lo : Int} {n : Nat} : JR K r H (Itr lo n) ⟨rng lo n, fun _ => true⟩ := by
 intro i r' m H' l s hc
 have hl : (rng lo n).length = n := by unfold rng; simp
 refine ⟨fun hi => (show n ≤ i from by rw [← hl]; exact hi), fun w' hw => ?_⟩
 have hi : i < n := by rw [← hl]; exact (List.getElem?_eq_some_iff.mp hw).1
 refine ⟨hi, fun x H2 ⟨e2, f⟩ => ?_⟩
 subst e2
 subst f
 have e3 : w' = .int (lo + i) := by
  unfold rng at hw
  rw [List.getElem?_map, List.getElem?_range hi] at hw
  exact (Option.some.inj hw).symm
 subst e3
 exact ⟨.refl, s, rfl⟩
def uM (as : DA) : DI := fun env m => bnd (as env m) fun ws m1 => match ws with
 | [.int j] => if sm 1000000000000 j = true then ξ (.ok ⟨rng 0 j.toNat, fun _ => true⟩ m1) else ζ
 | _ => ζ
theorem sF {das : DA} {p : Pos} (hg : Gl X "range") (hm : X.mg "range" = ζ) (ha : SA X Z [a] das) (hs : starEach [a] X.env = [(false, eval a X.env)] := by rfl) : SI X Z tg (.Call (.Name "range" p) [a] [] pos) (uM das) := PI.imp (pi_range1 hg hm ha hs) fun σ H R ⟨r, m, env, s, e, h⟩ => by
 refine tI.step s e h (fun ws m1 r1 H1 vs l1 s1 e1 q1 h1 hS => ?_) (by intro w m1 C dd m2; split <;> (try split) <;> simp)
 split at hS
 ·rename_i j
  obtain ⟨v, rest, rfl, q2, q3⟩ := q1
  cases q3
  cases q2
  split at hS
  ·rename_i hj
   exact ⟨j, rfl, (PH hj).1, (PH hj).2, h1 _ _ (if_pos hj) r1 H1 _ .refl s1 MF⟩
  ·simp at hS
 ·simp at hS
def ia (chk : M → Bool) (g : DG) (body : DS) : List W → Env → M → Option RS
  | [], env, m => if chk m = true then ξ (.fl .next env m) else ζ
  | w :: ws, env, m => if chk m = true then match g w env m with
      | none => ζ
      | some (env1, m1) => match body env1 m1 with
        | some (.fl .next env2 m2) => ia chk g body ws env2 m2
        | some (.fl .cont env2 m2) => ia chk g body ws env2 m2
        | some (.fl .brk env2 m2) => ξ (.fl .next env2 m2)
        | x => x
    else ζ
def uh (di : DI) (g : DG) (body : DS) : DS := fun env m => bS (di env m) env fun k m1 => ia k.chk g body k.items env m1
theorem nr {di : DI} {sl : List Nat} {g : DG} {body : List Stmt} (C : Ctx X Z k) (hi : SI X Z tg iter di) (hg : SG X tg sl g) (hb : rK X Z body d) (hs : ∀ x, foldedSetIterable iter X.env x = pure x := by intro _; rfl) : SS X Z (.For tg iter body [] pos) (uh di g d) :=
  PS.imp (ps_for C.own C.calm hi hg hb hs) fun D σ H ⟨r, m, env, s, e, h⟩ => by
    unfold uh at h
    refine ⟨r, m, env, s, e, ?_⟩
    cases hx : di env m with
    | none => rw [hx] at h; exact h
    | some y =>
      rw [hx] at h
      cases y with
      | exc C dd m1 => exact fun r1 H1 dv l s1 q => h r1 H1 σ dv l s1 (e.mono l) q
      | ok kk m1 =>
        intro r1 H1 J l1 s1 j
        simp only [QU] at h
        refine ⟨fun i n σ' H' => i + n = kk.items.length ∧ ∃ r2 m2 env2, Lt X.K r1 H1 r2 H' ∧ Sim X.K r2 m2 H' ∧ EnvR X.K r2 H' env2 σ' ∧ PostS X.K r2 H' (ia kk.chk g d (kk.items.drop i) env2 m2) D Z,
          ⟨kk.items.length, by omega, r1, m1, env, .refl, s1, e.mono l1, PostS.base h l1⟩, ?_⟩
        rintro i n σ' H' ⟨hn, r2, m2, env2, l2, s2, e2, h2⟩
        cases hd : kk.items.drop i with
        | nil =>
          have hi' : kk.items.length ≤ i := List.drop_eq_nil_iff.mp hd
          rw [hd] at h2
          unfold ia at h2
          by_cases hc : kk.chk m2 = true
          · rw [if_pos hc] at h2
            exact .inl ⟨(j i r2 m2 H' l2.lp s2 hc).1 hi', h2 r2 H' σ' .refl s2 e2⟩
          · rw [if_neg hc] at h2
            exact h2.elim
        | cons w ws =>
          have hw : kk.items[i]? = ξ w := by
            have := congrArg List.head? hd
            rw [List.head?_drop] at this
            exact this
          have hlt : i < kk.items.length := (List.getElem?_eq_some_iff.mp hw).1
          have hws : kk.items.drop (i + 1) = ws := by
            rw [← List.tail_drop, hd]
            rfl
          rw [hd] at h2
          unfold ia at h2
          by_cases hc : kk.chk m2 = true
          · rw [if_pos hc] at h2
            obtain ⟨g1, y1⟩ := (j i r2 m2 H' l2.lp s2 hc).2 w hw
            refine .inr ⟨g1, fun σ3 H3 => ∃ r3 m3 env3, Lt X.K r1 H1 r3 H3 ∧ Sim X.K r3 m3 H3 ∧ EnvR X.K r3 H3 env3 σ3 ∧ PostS X.K r3 H3 (ia kk.chk g d ws env3 m3) D Z, fun σ3 H3 q3 => ⟨n - 1, by omega, by omega, by rw [hws]; exact q3⟩, fun x H3 yx => ?_⟩
            obtain ⟨l3, s3, q3⟩ := y1 x H3 yx
            refine ⟨r2, m2, env2, w, s3, e2.mono l3, q3, ?_⟩
            cases hg' : g w env2 m2 with
            | none => rw [hg'] at h2; exact h2
            | some y =>
              obtain ⟨env4, m4⟩ := y
              rw [hg'] at h2
              simp only at h2
              intro r4 H4 σ4 l4 s4 e4 o4
              refine ⟨r4, m4, env4, s4, e4, ?_⟩
              have lb : Lt X.K r2 H' r4 H4 := l3.trans l4
              cases hb' : d env4 m4 with
              | none => rw [hb'] at h2; exact h2
              | some z =>
                rw [hb'] at h2
                cases z with
                | exc C dd en m5 => exact PostS.base h2 lb
                | fl f en m5 =>
                  cases f with
                  | next => exact fun r5 H5 σ5 l5 s5 e5 => ⟨r5, m5, en, (l2.trans lb).trans l5, s5, e5, PostS.base h2 (lb.trans l5)⟩
                  | cont => exact fun r5 H5 σ5 l5 s5 e5 => ⟨r5, m5, en, (l2.trans lb).trans l5, s5, e5, PostS.base h2 (lb.trans l5)⟩
                  | brk => exact fun r5 H5 σ5 l5 s5 e5 => h2 r5 H5 σ5 (lb.trans l5) s5 e5
                  | ret w => exact fun r5 H5 σ5 l5 s5 e5 => h2 r5 H5 σ5 (lb.trans l5) s5 e5
          · rw [if_neg hc] at h2
            exact h2.elim
end
def fu (env : Env) : List Nat → Env
 | [] => env
 | v :: vs => (fu env vs).set v ζ
def Z0 : WX := fun _ _ _ _ => False
section
variable {K: PySem.W.Frag}{r: List Addr}{H: Hp}
theorem EnvR.unset {env : Env} {σ : St} (h : EnvR K r H env σ) (i : Nat) : EnvR K r H (env.set i ζ) (σ.set i ζ) := ⟨by rw [List.length_set, List.length_set]; exact h.1, fun j x e => by
 rw [List.getElem?_set] at e ⊢
 by_cases hij : i = j
 ·subst hij
  rw [if_pos rfl] at e
  split at e <;> cases e
 ·rw [if_neg hij] at e ⊢
  exact h.2 j x e⟩
theorem EnvR.wipe {env : Env} {σ : St} (h : EnvR K r H env σ) : ∀ vs : List Nat, EnvR K r H (fu env vs) (L2.wipe σ vs)
 | [] => h
 | v :: vs => (EnvR.wipe h vs).unset v
theorem eQ {σ : St} {i : Nat} : ∀ {vs : List Nat}, (L2.wipe σ vs)[i]? = if i ∈ vs then (σ[i]?).map (fun _ => ζ) else σ[i]?
 | [] => by simp [L2.wipe]
 | v :: vs => by
  unfold L2.wipe
  rw [List.getElem?_set, wipe_length]
  by_cases hv : v = i
  ·subst hv
   rw [if_pos rfl]
   by_cases hl : v < σ.length
   ·rw [if_pos hl, if_pos (by simp), List.getElem?_eq_getElem hl]
    rfl
   ·rw [if_neg hl, if_pos (by simp), List.getElem?_eq_none (by omega)]
    rfl
  ·rw [if_neg hv, eQ]
   have hq : (i ∈ v :: vs) ↔ i ∈ vs := by
    rw [List.mem_cons]
    exact ⟨fun z => z.elim (fun y => absurd y.symm hv) id, .inr⟩
   by_cases hi : i ∈ vs
   ·rw [if_pos hi, if_pos (hq.mpr hi)]
   ·rw [if_neg hi, if_neg fun z => hi (hq.mp z)]
theorem Out.wiped {sl vs : List Nat} {σ σ' : St} (o : Out sl (L2.wipe σ vs) σ') (hs : ∀ i ∈ sl, i ∈ vs) : L2.wipe σ' vs = L2.wipe σ vs := by
 apply List.ext_getElem?
 intro i
 rw [eQ]
 by_cases hi : i ∈ vs
 ·rw [if_pos hi, eQ, if_pos hi]
  have hl : σ'.length = σ.length := by rw [o.1, wipe_length]
  by_cases h : i < σ.length
  ·rw [List.getElem?_eq_getElem h, List.getElem?_eq_getElem (by omega)]
   rfl
  ·rw [List.getElem?_eq_none (by omega), List.getElem?_eq_none (by omega)]
 ·rw [if_neg hi]
  exact o.2 i fun z => hi (hs i z)
theorem fQ {p : Addr} {acc : List V} {u : HO} (h : H p = ξ (.lst acc)) : Later K H (upd H p u) := by
 refine ⟨fun a vs q => ?_, fun a vs q => ?_, fun a ob u' q => by rw [upd_ne (ne_of q h fun e => by cases e)]; exact q, fun p' _ t => rJ t (fun x e => by rw [h] at e; cases e; exact ⟨fun _ z => (by cases z), fun _ _ z => (by cases z)⟩), fun a ps q => ⟨ps, by rw [upd_ne (ne_of q h fun e => by cases e)]; exact q⟩, fun c q e => by rw [upd_ne (ne_of e h fun z => by cases z)]; exact e⟩
 ·rw [upd_ne (ne_of q h fun e => by cases e)]
  exact q
 ·rcases q with ⟨o, q⟩ | q
  ·exact .inl ⟨o, by rw [upd_ne (ne_of q h fun e => by cases e)]; exact q⟩
  ·exact .inr q
theorem yh {p : Addr} {acc : List V} {u : HO} (h : H p = ξ (.lst acc)) : Le K r H r (upd H p u) := ⟨List.prefix_rfl, (fQ h).l0⟩
theorem Lt.hid {r' : List Addr} {H' : Hp} {p : Addr} {acc : List V} {u : HO} (l : Lt K r H r' H') (n : H p = ζ) (h : H' p = ξ (.lst acc)) : Lt K r H r' (upd H' p u) := ⟨l.pre, l.lat.trans (fQ h), fun a x e q nt => by
 have hb : a ≠ p := ne_of_none e n
 rw [upd_ne hb]
 exact l.kept a x e q nt, l.fresh⟩
theorem Sim.hid {m : M} {p : Addr} {acc : List V} {u : HO} (s : Sim K r m H) (n : p ∉ r) (h : H p = ξ (.lst acc)) : Sim K r m (upd H p u) := ⟨s.len, s.nd, fun k o e => by
 obtain ⟨a, u', e1, e2, e3⟩ := s.at_ k o e
 have hb : a ≠ p := fun z => n (by rw [← z]; exact List.mem_of_getElem? e1)
 exact ⟨a, u', e1, by rw [upd_ne hb]; exact e2, e3.le (yh h)⟩, fun p hp => (fQ (K := K) h).tb _ hp (s.tb p hp), fun p hp => (s.past p hp).trans ⟨List.prefix_rfl, fQ h⟩⟩
theorem Sim.notin {m : M} {p : Addr} (s : Sim K r m H) (h : H p = ζ) : p ∉ r := fun z => by
 obtain ⟨n, hn⟩ := List.getElem?_of_mem z
 have hl : n < m.length := by rw [← s.len]; exact (List.getElem?_eq_some_iff.mp hn).1
 obtain ⟨a', u', e1, e2, _⟩ := s.at_ n _ (List.getElem?_eq_getElem hl)
 rw [hn] at e1
 cases e1
 rw [h] at e2
 cases e2
theorem Sim.show {m : M} {p : Addr} {ws : List W} {acc : List V} (s : Sim K r m H) (n : p ∉ r) (h : H p = ξ (.lst acc)) (q : RWs K r H ws acc) : Sim K (r ++ [p]) (m ++ [.lst ws]) H := by
  have le : Le K r H (r ++ [p]) H := ⟨List.prefix_append _ _, Later.refl.l0⟩
  refine ⟨by simp [s.len], ?_, fun k o e => ?_, s.tb, fun p hp => (s.past p hp).trans ⟨List.prefix_append _ _, .refl⟩⟩
  · rw [List.nodup_append]
    refine ⟨s.nd, by simp, fun a ha b hb e => ?_⟩
    simp at hb
    subst hb
    subst e
    exact n ha
  · by_cases hk : k < m.length
    · rw [List.getElem?_append_left hk] at e
      obtain ⟨a, u', e1, e2, e3⟩ := s.at_ k o e
      exact ⟨a, u', mx le.pre e1, e2, e3.le le⟩
    · have hn' : k = m.length := by
        have := (List.getElem?_eq_some_iff.mp e).1
        simp at this
        omega
      subst hn'
      simp at e
      subst e
      exact ⟨p, _, by rw [← s.len]; simp, h, acc, rfl, q.le le⟩
end
def eY (chk : M → Bool) (g : DG) (tt : DT) (elt : DE) (env : Env) : List W → M → Option (List W × M)
  | [], m => if chk m = true then ξ ([], m) else ζ
  | w :: ws, m => if chk m = true then match g w env m with
      | none => ζ
      | some (env1, m1) => match tt env1 m1 with
        | some (.ok true m2) => match elt env1 m2 with
          | some (.ok y m3) => match eY chk g tt elt env ws m3 with
            | some (ys, m4) => ξ (y :: ys, m4)
            | none => ζ
          | _ => ζ
        | some (.ok false m2) => eY chk g tt elt env ws m2
        | _ => ζ
    else ζ
def Gf (di : DI) (g : DG) (tt : DT) (elt : DE) (vs : List Nat) : DE := fun env m => bnd (di env m) fun k m1 => if k.items.length ≤ sizeLine then match eY k.chk g tt elt (fu env vs) k.items m1 with
  | some (ys, m2) => ξ (.ok (.ref m2.length) (m2 ++ [.lst ys]))
  | none => ζ
 else ζ
def lZ : DT := fun _ m => ξ (.ok true m)
section
variable {X: Cx}{Z: WX}{tg iter elt: Expr}{ifs: List Expr}{pos: Pos}{K: PySem.W.Frag}
theorem Ke {di : DI} {sl vs : List Nat} {g : DG} {tt : DT} {de : DE} (hsl : ∀ i ∈ sl, i ∈ vs) {σ : St} {H : Hp} {Q : VK} (h : tE K Z (Gf di g tt de vs) σ H Q) : tLc (tI K Z di) (tG K sl g) (tT K Z0 tt) (tE K Z0 de) vs σ H Q := by
  obtain ⟨r, m, env, s, e, h⟩ := h
  unfold Gf at h
  refine ⟨r, m, env, s, e, ?_⟩
  cases hx : di env m with
  | none => rw [hx] at h; exact h
  | some y =>
    rw [hx] at h
    cases y with
    | exc C dd m1 => exact fun r1 H1 dv l s1 q => h r1 H1 dv l s1 q
    | ok kk m1 =>
      intro r1 H1 J l1 s1 j D hD
      simp only [dZ] at h
      by_cases hz : kk.items.length ≤ sizeLine
      case neg => rw [if_neg hz] at h; exact h.elim
      rw [if_pos hz] at h
      have e1 := (e.mono l1).wipe vs
      have hn1 := s1.notin hD
      -- what is wanted at the end, from any state
      let Fin : List Addr → Hp → List W → Option (List W × M) → Prop := fun r' H' accW x => match x with
        | none => False
        | some (ys, m2) => ∀ r2 H2 acc, Lt K r1 H1 r2 H2 → Sim K r2 m2 H2 → D ∉ r2 → H2 D = ξ (.lst acc) → RWs K r2 H2 (accW ++ ys) acc → Q (.ref D) H2
      have fin0 : Fin r1 H1 [] (eY kk.chk g tt de (fu env vs) kk.items m1) := by
        show match eY kk.chk g tt de (fu env vs) kk.items m1 with
          | none => False
          | some (ys, m2) => _
        cases hy : eY kk.chk g tt de (fu env vs) kk.items m1 with
        | none => rw [hy] at h; exact h
        | some y =>
          obtain ⟨ys, m2⟩ := y
          rw [hy] at h
          intro r2 H2 acc l2 s2 n2 hd2 q2
          rw [List.nil_append] at q2
          refine h (r2 ++ [D]) H2 (.ref D) (l1.trans ⟨l2.pre.trans (List.prefix_append _ _), l2.lat, l2.kept, fun a ha hna => ?_⟩) (s2.show n2 hd2 q2) ⟨D, by rw [← s2.len]; simp, rfl⟩
          rcases List.mem_append.mp ha with z | z
          · exact l2.fresh a z hna
          · simp at z
            rw [z]
            exact hD
      refine ⟨fun i n H' => i + n = kk.items.length ∧ ∃ r2 m2 accW acc, Lt K r1 H1 r2 H' ∧ Sim K r2 m2 H' ∧ D ∉ r2 ∧ H' D = ξ (.lst acc) ∧ RWs K r2 H' accW acc ∧ accW.length ≤ i ∧ EnvR K r2 H' (fu env vs) (L2.wipe σ vs) ∧ Fin r2 H' accW (eY kk.chk g tt de (fu env vs) (kk.items.drop i) m2),
        ⟨kk.items.length, by omega, r1, m1, [], [], cH hD, s1.aside hD, hn1, upd_same, rfl, Nat.le_refl _, e1.mono (cH hD), fin0⟩, ?_⟩
      rintro i n H' ⟨hn, r2, m2, accW, acc, l2, s2, n2, hd2, q2, ha2, e2, h2⟩
      cases hd : kk.items.drop i with
      | nil =>
        have hi' : kk.items.length ≤ i := List.drop_eq_nil_iff.mp hd
        rw [hd] at h2
        unfold eY at h2
        by_cases hc : kk.chk m2 = true
        · rw [if_pos hc] at h2
          exact .inl ⟨(j i r2 m2 H' l2.lp s2 hc).1 hi', h2 r2 H' acc l2 s2 n2 hd2 (by rw [List.append_nil]; exact q2)⟩
        · rw [if_neg hc] at h2
          exact h2.elim
      | cons w ws =>
        have hw : kk.items[i]? = ξ w := by
          have := congrArg List.head? hd
          rw [List.head?_drop] at this
          exact this
        have hlt : i < kk.items.length := (List.getElem?_eq_some_iff.mp hw).1
        have hws : kk.items.drop (i + 1) = ws := by
          rw [← List.tail_drop, hd]
          rfl
        rw [hd] at h2
        unfold eY at h2
        by_cases hc : kk.chk m2 = true
        case neg => rw [if_neg hc] at h2; exact h2.elim
        rw [if_pos hc] at h2
        obtain ⟨g1, y1⟩ := (j i r2 m2 H' l2.lp s2 hc).2 w hw
        refine .inr ⟨g1, fun H3 => ∃ r3 m3 accW3 acc3, Lt K r1 H1 r3 H3 ∧ Sim K r3 m3 H3 ∧ D ∉ r3 ∧ H3 D = ξ (.lst acc3) ∧ RWs K r3 H3 accW3 acc3 ∧ accW3.length ≤ i + 1 ∧ EnvR K r3 H3 (fu env vs) (L2.wipe σ vs) ∧ Fin r3 H3 accW3 (eY kk.chk g tt de (fu env vs) ws m3),
          fun H3 q3 => ⟨n - 1, by omega, by omega, by rw [hws]; exact q3⟩, fun x H3 yx => ?_⟩
        obtain ⟨l3, s3, q3⟩ := y1 x H3 yx
        refine ⟨r2, m2, fu env vs, w, s3, e2.mono l3, q3, ?_⟩
        cases hg' : g w (fu env vs) m2 with
        | none => rw [hg'] at h2; exact h2
        | some y =>
          obtain ⟨env4, m4⟩ := y
          rw [hg'] at h2
          simp only at h2
          intro r4 H4 σ4 l4 s4 e4 o4
          refine ⟨o4.wiped hsl, r4, m4, env4, s4, e4, ?_⟩
          have lb : Lt K r2 H' r4 H4 := l3.trans l4
          cases ht' : tt env4 m4 with
          | none => rw [ht'] at h2; exact h2
          | some z =>
            rw [ht'] at h2
            cases z with
            | exc C dd m5 => exact h2.elim
            | ok bb m5 =>
              intro r5 H5 b5 l5 s5 eb
              subst eb
              have lc : Lt K r2 H' r5 H5 := lb.trans l5
              cases bb with
              | false =>
                refine iteF ⟨r5, m5, accW, acc, l2.trans lc, s5, fun z => ?_, lc.kept D _ hd2 n2 (by intro _ z; cases z), q2.mono lc, by omega, e2.mono lc, h2⟩
                have := lc.fresh D z n2
                rw [hd2] at this
                cases this
              | true =>
                refine iteT ⟨r5, m5, env4, s5, e4.mono l5, ?_⟩
                simp only at h2
                cases he' : de env4 m5 with
                | none => rw [he'] at h2; exact h2
                | some z =>
                  rw [he'] at h2
                  cases z with
                  | exc C dd m6 => exact h2.elim
                  | ok yw m6 =>
                    intro r6 H6 yv l6 s6 q6
                    have ld : Lt K r2 H' r6 H6 := lc.trans l6
                    have hd6 : H6 D = ξ (.lst acc) := ld.kept D _ hd2 n2 (by intro _ z; cases z)
                    have n6 : D ∉ r6 := fun z => by
                      have := ld.fresh D z n2
                      rw [hd2] at this
                      cases this
                    have qq : RWs K r6 H6 (accW ++ [yw]) (acc ++ [yv]) := (q2.mono ld).append (.one q6)
                    refine ⟨acc, hd6, ?_, r6, m6, accW ++ [yw], acc ++ [yv], (l2.trans ld).hid hD hd6, s6.hid n6 hd6, n6, upd_same, qq.le (yh hd6), by simp; omega, (e2.mono ld).le (yh hd6), ?_⟩
                    · rw [← q2.len]
                      omega
                    · simp only at h2
                      show match eY kk.chk g tt de (fu env vs) ws m6 with
                        | none => False
                        | some (ys, m2) => _
                      cases hr : eY kk.chk g tt de (fu env vs) ws m6 with
                      | none => rw [hr] at h2; exact h2
                      | some y =>
                        obtain ⟨ys, m7⟩ := y
                        rw [hr] at h2
                        intro r7 H7 acc7 l7 s7 n7 hd7 q7
                        exact h2 r7 H7 acc7 l7 s7 n7 hd7 (by rw [List.append_assoc] at q7; exact q7)
abbrev STs (X : Cx) (ifs : List Expr) (d : DT) : Prop := PTs X ifs (tT X.K Z0 d)
theorem ue : STs X [] lZ := ⟨fun pins s σ H Q I ⟨r, m, env, s', e, h⟩ => pts_nil.run pins s σ H Q I (h.done s' rfl)⟩
theorem J9 {di : DI} {sl : List Nat} {g : DG} {tt : DT} {de : DE} {scope : Scope} {own : List (Str × Nat)} (hc : X.calm = true) (hN : X.N.Nodup) (hi : SI X Z tg iter di) (ok : BlkOk X.N X.env.scope scope own)
  (hg : ∀ (s : Shared) (H : Hp) (C : Addr) (cl : List (Str × Addr)) (fp : List Addr), SG (X.blk s H scope (compEnvC scope cl C X.env) fp) tg sl g) (ht : ∀ (s : Shared) (H : Hp) (C : Addr) (cl : List (Str × Addr)) (fp : List Addr), STs (X.blk s H scope (compEnvC scope cl C X.env) fp) ifs tt)
  (he : ∀ (s : Shared) (H : Hp) (C : Addr) (cl : List (Str × Addr)) (fp : List Addr), SE (X.blk s H scope (compEnvC scope cl C X.env) fp) Z0 elt de) (hsl : ∀ i ∈ sl, i ∈ own.map (·.2) := by decide) (hs : ∀ x, foldedSetIterable iter X.env x = pure x := by intro _; rfl) :
  SE X Z (.ListComp elt [⟨tg, iter, ifs, 0⟩] scope pos) (Gf di g tt de (own.map (·.2))) := PE.imp (pe_lc hc hN hi ok hg ht he hs) fun _ _ _ h => Ke hsl h
end
end SB
end
section
namespace SB
open PySem L2
open PyProof.Rows (envOfC)
variable [Tabs][Past]
abbrev DF := List W → M → Option (R W)
def spD (K : PySem.W.Frag) (D : DF) : Sp := fun vs H Q E => ∃ r m ws, Sim K r m H ∧ RWs K r H ws vs ∧ Post K (d8 K) r H (D ws m) Q E
def yD (x : Option RS) : Option (R W) := match x with
 | some (.fl .next _ m) => ξ (.ok .non m)
 | some (.fl (.ret w) _ m) => ξ (.ok w m)
 | some (.exc C d _ m) => ξ (.exc C d m)
 | _ => ζ
def cX (np n : Nat) (b : DS) : DF := fun ws m => if ws.length = np then yD (b (ws.map ξ ++ List.replicate (n - np) ζ) m) else ζ
theorem EnvR.start {K : PySem.W.Frag} {r : List Addr} {H : Hp} {ws : List W} {vs : List V} {N : List Str} (q : RWs K r H ws vs) : EnvR K r H (ws.map ξ ++ List.replicate (N.length - ws.length) ζ) (L2.start N vs) := by
 unfold L2.start
 refine ⟨by simp [q.len], fun i w e => ?_⟩
 by_cases hi : i < ws.length
 ·rw [List.getElem?_append_left (by simpa using hi), List.getElem?_map] at e
  cases hw : ws[i]? with
  | none => rw [hw] at e; cases e
  | some x =>
   rw [hw] at e
   cases e
   obtain ⟨v, hv, rv⟩ := q.get hw
   refine ⟨v, ?_, rv⟩
   rw [List.getElem?_append_left (by rw [List.length_map, ← q.len]; exact hi), List.getElem?_map, hv]
   rfl
 ·rw [List.getElem?_append_right (by simpa using hi), List.getElem?_replicate] at e
  split at e <;> cases e
structure RoomG (k : Nat) (A : Around) : Prop where
 rm : Room k A
 gd : Tabs.g = true → A.guards = ξ []
theorem RoomG.deeper {k : Nat} {A : Around} (r : RoomG (k + 1) A) (env : PySem.Env) : RoomG k (A.deeper env) := ⟨r.rm.deeper env, r.gd⟩
theorem RoomG.make {k : Nat} {A : Around} (r : RoomG (k + 1) A) (C : Addr) (us : List Value) (kw : List (Str × Value)) : RoomG k (A.under (.builtin "type.__call__" ⟨.ref C :: us, kw⟩)) :=
 ⟨r.rm.make C us kw, fun hg => by
  have e : (A.under (.builtin "type.__call__" ⟨.ref C :: us, kw⟩)).guards = pushGuards (Code.builtin "type.__call__" ⟨.ref C :: us, kw⟩).guards A.guards := by unfold Around.under; rfl
  rw [e, r.gd hg]
  have e2 : (Code.builtin "type.__call__" ⟨.ref C :: us, kw⟩).guards = [] := by
   unfold Code.guards
   rw [if_neg (by simp [Code.isGuard, guardIds])]
  rw [e2]
  rfl⟩
structure FnG (P : Program) (w : World) (K : PySem.W.Frag) (mg : Str → Option Value) (base : Heap) (CX : CXT) (k : Nat) (f : Addr) (fd : FuncData) (ps : List Str) (sp : Sp) : Prop where
 len : ∀ vs H Q E, sp vs H Q E → vs.length = ps.length
 run : ∀ (A : Around) (outer : List PySem.Env) (s : Shared) (H : Hp) (args : Args) (us : List Value) (vs : List V) (Q : VK) (E : XK), RoomG k A → Env0 P w K mg base A outer s H → BindsTo s fd args (ps.zip us) → Vals vs us → sp vs H Q E →
  codeAny (model P w) A (.call (.ref f) args) (CR CX outer P w H s Q E) s
theorem yz {CX : CXT} {P : Program} {w : World} {K : PySem.W.Frag} {mg : Str → Option Value} {base : Heap} {k : Nat} {g : Addr} {nm ql : Str} {pms : Arguments} {bd : List Stmt} {sc : Scope} {dV kV doc pm cdv ct oc : Value} {an od : Option Addr}
  {osl : Array (Option Value)} {N ps : List Str} {sp : Sp} (lk : K.lookup g = ξ ⟨oc, od, .func (PySem.W.fnOf nm ql pms bd sc dV kV doc pm an cdv ct), osl⟩) (hcd : PySem.W.codeIn K cdv ql = true) (S : FnScope N ps sc)
  (ln : ∀ vs H Q E, sp vs H Q E → vs.length = ps.length)
  (hbd : ∀ (A : Around) (outer : List PySem.Env) (s : Shared) (H : Hp) (vs : List V) (Q : VK) (E : XK), RoomG k (A.deeper (envOfC ql sc s.heap.objs.size g cdv)) → sp vs H Q E →
   ∃ tt, PSs (cxOf CX P w K mg base N ql sc g cdv A outer s H E) bd tt ∧ tt { nx := fun _ H' => Q .non H', rt := Q } (start N vs) H) :
  FnG P w K mg base CX (k + 1) g (PySem.W.fnOf nm ql pms bd sc dV kV doc pm an cdv ct) ps sp := by
 refine ⟨ln, fun A outer s H args us vs Q E hr e0 hbi rv hsp => ?_⟩
 have hll := ln _ _ _ _ hsp
 have kin : K.In s.heap := e0.mod.kin.keeps fun b o e => (e0.bs b o e).1
 have nolim : s.heap.NoLimit := e0.mod.nolimit.keeps fun b o e => (e0.bs b o e).1
 have kinds : ∀ y ∈ ps.zip us, sc.names.lookup y.1 = ξ .local ∨ (sc.names.lookup y.1 = ξ .cell ∧ ((cellsFrom (s.heap.objs.size + 1) sc.names []).lookup y.1).isSome = true) := fun ⟨n, v⟩ hy => by
  rcases S.par n (List.of_mem_zip hy).1 with z | z
  ·exact .inl z
  ·exact .inr ⟨z, PySem.W.cellsFrom_some _ _ _ (.inl z)⟩
 refine codeAny_call_function hr.rm.depth (kin _ _ lk) rfl S.co S.gen rfl (PySem.W.codeRec_of kin hcd) (hbi _ _ _ _ ?_)
 refine wpAny_newFunctionEnv_cells S.kind kinds fun env he s1 ic => ?_
 subst he
 refine ⟨nolim.keeps ic.toInCall.keep, codeAny_func ?_⟩
 obtain ⟨tt, ht, hq⟩ := hbd A outer s H vs Q E (hr.deeper _) hsp
 have I : Inv (cxOf CX P w K mg base N ql sc g cdv A outer s H E) [] (start N vs) H s1 := inv_start S hr.rm.hd e0 hll rv ic
 have done : ∀ {σ' : St} {H' : Hp} {s' : Shared} {v : V} {u : Value}, Inv (cxOf CX P w K mg base N ql sc g cdv A outer s H E) [] σ' H' s' → RelV v u → Q v H' → CE outer P w H s Q u s' :=
  fun {σ' H' s' v u} J rv q => ⟨v, H', J.os, J.bare, J.base, J.hok, rv, q⟩
 refine wpAny_mono (ht.run [] s1 (start N vs) H _ I hq) (fun fl s' hs => ?_) fun e s' hs => hs
 cases fl with
 | next =>
  obtain ⟨σ', H', J, q⟩ := hs
  exact done (v := V.non) (u := Value.none) J rfl q
 | ret u =>
  obtain ⟨v, σ', H', J, rv, q⟩ := hs
  exact done J rv q
 | brk =>
  obtain ⟨_, _, _, z⟩ := hs
  exact z.elim
 | cont =>
  obtain ⟨_, _, _, z⟩ := hs
  exact z.elim
section
variable {P: Program}{w: World}{K: PySem.W.Frag}{mg: Str → Option Value}{base: Heap}{x qual: Str}{params: Arguments}{body: List Stmt}{scope: Scope}{dvs: List V}{kws: List (Str × V)}{f: Addr}{fd: FuncData}
abbrev zOf (E : XK) : WX := fun c d _ H => E c d H
theorem uS {N : List Str} {cdv : Value} {A : Around} {outer : List PySem.Env} {s : Shared} {H : Hp} {E : XK} {k : Nat} (nd : N.Nodup) (hr : RoomG k (A.deeper (envOfC qual scope s.heap.objs.size f cdv))) :
  Ctx (cxOf (L2.CX P w) P w K mg base N qual scope f cdv A outer s H E) (zOf E) k := ⟨rfl, nd, takes_of rfl rfl rfl rfl, passes_of rfl, hr.rm, hr.gd⟩
theorem MS {N ps : List Str} {k : Nat} {b : DS} (F : FunD K x qual params body scope dvs kws f fd) (S : FnScope N ps scope)
  (hb : ∀ (cdv : Value) (A : Around) (outer : List PySem.Env) (s : Shared) (H : Hp) (E : XK), Ctx (cxOf (L2.CX P w) P w K mg base N qual scope f cdv A outer s H E) (zOf E) k → rK (cxOf (L2.CX P w) P w K mg base N qual scope f cdv A outer s H E) (zOf E) body b) :
  FnG P w K mg base (L2.CX P w) (k + 1) f fd ps (spD K (cX ps.length N.length b)) := by
 have hlen : ∀ vs H Q E, spD K (cX ps.length N.length b) vs H Q E → vs.length = ps.length := fun vs H Q E ⟨r, m, ws, s, q, h⟩ => by
  unfold cX at h
  by_cases hl : ws.length = ps.length
  ·rw [← q.len]
   exact hl
  ·rw [if_neg hl] at h
   exact h.elim
 obtain ⟨oc, od, dV, kV, doc, pm, an, cdv, ct, osl, rfl, lk, hcd, _, _⟩ := F.ex
 refine yz lk hcd S hlen fun A outer s H vs Q E hr hsp => ⟨_, hb cdv A outer s H E (uS S.nd hr), ?_⟩
 have hl := hlen vs H Q E hsp
 obtain ⟨r, m, ws, s', q, h⟩ := hsp
 have hw : ws.length = ps.length := by rw [q.len]; exact hl
 unfold cX at h
 rw [if_pos hw, ← hw] at h
 refine ⟨r, m, _, s', EnvR.start q, ?_⟩
 cases hx : b (ws.map ξ ++ List.replicate (N.length - ws.length) ζ) m with
 | none => rw [hx] at h; exact h
 | some y =>
  rw [hx] at h
  cases y with
  | exc C d en m1 => exact fun r1 H1 σ1 dv l1 s1 e1 q1 => h r1 H1 dv l1 s1 q1
  | fl fl en m1 =>
   cases fl with
   | next => exact fun r1 H1 σ1 l1 s1 e1 => h r1 H1 .non l1 s1 rfl
   | ret v => exact fun r1 H1 v1 l1 s1 q1 => h r1 H1 v1 l1 s1 q1
   | brk => exact h.elim
   | cont => exact h.elim
end
section
variable {X: Cx}{Z: WX}{a b c e o: Expr}{es: List Expr}{da: DE}{das: DA}{pos p: Pos}{k j: Nat}{x m: Str}{f C: Addr}{fd: FuncData}{ps: List Str}{D: DF}{ds: List Value}{dvs: List V}{ws0: List W}
def e7 (ws0 : List W) (D : DF) (as : DA) : DE := fun env m => bnd (as env m) fun ws m1 => D (ws ++ ws0) m1
theorem Hy {K : PySem.W.Frag} (hw : ∀ r H, RWs K r H ws0 dvs) {σ : St} {H : Hp} {Q : VK} (h : tE K Z (e7 ws0 D das) σ H Q) : tCallSD (spD K D) dvs (WE Z) (tA K Z das) σ H Q := by
 obtain ⟨r, m, env, s, e, h⟩ := h
 exact tX.step s e h fun ws m1 r1 H1 vs l1 s1 e1 q1 h1 => ⟨r1, m1, _, s1, q1.append (hw r1 H1), h1⟩
theorem Ctx.rg (C : Ctx X Z k) (h : j ≤ k) : RoomG j X.A := ⟨C.room.mono h, C.gd⟩
theorem Hu {CX : CXT} {sp : Sp} {E : St → XK} {pins : List (Addr × Obj)} {σ : St} {H : Hp} {s : Shared} {Q : VK} {us : List Value} {vs : List V} (F : FnG X.prog X.w X.K X.mg X.base CX k f fd ps sp) (hr : RoomG k X.A) (hb : Binds X.K fd ps ds) (hd : Vals dvs ds) (hx : PassesAt CX X σ (E σ))
  (I : Inv X pins σ H s) (rv : Vals vs us) (h : sp (vs ++ dvs) H Q (E σ)) : wpAny (model X.prog X.w) X.A (call (.ref f) us) (EP X pins σ Q) X.xe s := by
 have rv2 : Vals (vs ++ dvs) (us ++ ds) := rv.append hd
 have hll : (us ++ ds).length = ps.length := by rw [← rv2.length]; exact F.len _ _ _ _ h
 refine wpAny_call (codeAny_mono (F.run X.A X.stack s H ⟨us, []⟩ (us ++ ds) (vs ++ dvs) Q (E σ) hr I.env0 (hb s us I.kIn hll) rv2 h) fun z s' hq => ?_)
 cases z with
 | error e => exact hx pins H s e s' I hq
 | ok fl => cases fl <;> first | exact I.after hq | exact False.elim hq
theorem DK {CX : CXT} {sp : Sp} {E : St → XK} {t : TA} (F : FnG X.prog X.w X.K X.mg X.base CX k f fd ps sp) (hr : RoomG k X.A) (hg : Gl X x) (hm : X.mg x = ξ (.ref f)) (hk : PySem.W.keepIn X.K (.ref f) = true) (hb : Binds X.K fd ps ds) (hd : Vals dvs ds) (hx : ∀ σ, PassesAt CX X σ (E σ))
  (ha : PA X (e :: es) t) (hdb : (x == ("__debug__" : Str)) = false) (he : starEach (e :: es) X.env = (false, eval e X.env) :: starEach es X.env) (hpl : (backTo pos (starEach es X.env)).any (·.1) = false) : PE X (.Call (.Name x p) (e :: es) [] pos) (tCallSD sp dvs E t) := ⟨fun pins s σ H Q I h =>
 wpAny_Call_Name_kw (ld_glob I hg hm (PySem.W.callWith_K (h₀ := X.base) I.ok.mod.kin hk (thn (ha.run pos pins s σ H _ I h) fun us s1 ⟨vs, H1, I1, r, q⟩ => ⟨I1.kIn, Hu F hr hb hd (hx σ) I1 r q⟩) he hpl) hdb)⟩
theorem Hs (C : Ctx X Z k) (F : FnG X.prog X.w X.K X.mg X.base (L2.CX X.prog X.w) j f fd ps (spD X.K D)) (hg : Gl X x) (hm : X.mg x = ξ (.ref f)) (hk : PySem.W.keepIn X.K (.ref f) = true) (hb : Binds X.K fd ps ds) (hd : Vals dvs ds) (hw : ∀ r H, RWs X.K r H ws0 dvs) (ha : SA X Z (e :: es) das)
  (hjk : j ≤ k := by decide) (hdb : (x == ("__debug__" : Str)) = false := by decide) (he : starEach (e :: es) X.env = (false, eval e X.env) :: starEach es X.env := by rfl) (hpl : (backTo pos (starEach es X.env)).any (·.1) = false := by rfl) :
  SE X Z (.Call (.Name x p) (e :: es) [] pos) (e7 ws0 D das) := PE.imp (DK F (C.rg hjk) hg hm hk hb hd (fun σ => passAt C.tk σ) ha hdb he hpl) fun _ _ _ h => Hy hw h
def gO (m : M) (C : Addr) : W → Option (List (Str × W))
 | .ref n => match m[n]? with
  | some (.ins C' fs) => if C' = C then ξ fs else ζ
  | _ => ζ
 | _ => ζ
theorem qR {K : PySem.W.Frag} {r : List Addr} {m : M} {H : Hp} {w : W} {fs : List (Str × W)} {v : V} (s : Sim K r m H) (q : RW K r H w v) (h : gO m C w = ξ fs) : ∃ n a dx vs, w = .ref n ∧ r[n]? = ξ a ∧ m[n]? = ξ (.ins C fs) ∧ v = .ref a ∧ H a = ξ (.ins C dx vs) ∧ RKV K r H fs vs := by
 cases w <;> first | (cases h; done) | skip
 rename_i n
 obtain ⟨a, e, rfl⟩ := q
 unfold gO at h
 simp only at h
 split at h
 ·rename_i C' gs hx
  split at h
  ·rename_i hC
   subst hC
   cases h
   obtain ⟨a', u, e1, e2, dx, vs, rfl, e3⟩ := s.at_ n _ hx
   rw [e] at e1
   cases e1
   exact ⟨n, a, dx, vs, rfl, e, hx, rfl, e2, e3⟩
  ·cases h
 ·cases h
def eFld (C : Addr) (f : Str) (o : DE) : DE := fun env m => bnd (o env m) fun w m1 => match gO m1 C w with
 | some fs => match fs.lookup f with
  | some v => ξ (.ok v m1)
  | none => ζ
 | none => ζ
def jE (C : Addr) (f : Str) (w0 : W) (o : DE) : DE := fun env m => bnd (o env m) fun w m1 => match gO m1 C w with
 | some fs => match fs.lookup f with
  | some _ => ζ
  | none => ξ (.ok w0 m1)
 | none => ζ
theorem C6 {f : Str} {w0 : W} {v0 : V} {u0 : Value} (c : Cls X.K C) (n : Con X.K C f v0 u0) (hw : ∀ r H, RW X.K r H w0 v0) (ho : SE X Z o da) (hb : attributeBase o f X.env (eval o X.env) = eval o X.env := by rfl) : SE X Z (.Attribute o f pos) (jE C f w0 da) := PE.imp (pe_con ho hb) fun σ H Q ⟨r, m, env, s, e, h⟩ => by
 refine tX.step s e h fun w m1 r1 H1 v l1 s1 e1 q1 h1 => ?_
 cases hi : gO m1 C w with
 | none => rw [hi] at h1; exact h1.elim
 | some fs =>
  rw [hi] at h1
  obtain ⟨nn, a, dx, vs, rfl, er, em, rfl, ea, rk⟩ := qR s1 q1 hi
  have lk := RKV.lookup (f := f) rk
  cases hl : fs.lookup f with
  | some wv => simp only [hl] at h1; exact h1.elim
  | none =>
   rw [hl] at lk
   simp only [hl] at h1
   exact ⟨a, C, dx, vs, v0, u0, rfl, ea, c, n, lk, h1.done s1 (hw r1 H1)⟩
def x7 (f : Str) (v : W) : List (Str × W) → List (Str × W)
 | [] => [(f, v)]
 | (g, w) :: r => if g = f then (g, v) :: r else (g, w) :: x7 f v r
theorem RKV.put {K : PySem.W.Frag} {r : List Addr} {H : Hp} {f : Str} {w : W} {v : V} (q : RW K r H w v) : ∀ {fs : List (Str × W)} {vs : List (Str × V)}, RKV K r H fs vs → RKV K r H (x7 f w fs) (putF f v vs)
 | [], _, h => by cases (show _ = _ from h); exact ⟨v, [], rfl, q, rfl⟩
 | (g, x) :: fs, _, h => by
  obtain ⟨u, rest, rfl, h1, h2⟩ := h
  unfold x7 putF
  by_cases hg : g = f
  ·rw [if_pos hg, if_pos hg]
   exact ⟨v, rest, rfl, q, h2⟩
  ·rw [if_neg hg, if_neg hg]
   exact ⟨u, _, rfl, h1, RKV.put q h2⟩
theorem RKV.len {κ : Type} {K : PySem.W.Frag} {r : List Addr} {H : Hp} : ∀ {fs : List (κ × W)} {vs : List (κ × V)}, RKV K r H fs vs → fs.length = vs.length
 | [], _, h => by cases (show _ = _ from h); rfl
 | _ :: _, _, h => by
  obtain ⟨v, rest, rfl, _, h2⟩ := h
  simp [RKV.len h2]
def j1 (C : Addr) (f : Str) (o v : DE) : DS := fun env m => bS (v env m) env fun y m1 => bS (o env m1) env fun w m2 => match w, gO m2 C w with
 | .ref n, ξ fs => if fs.length < 1000 then ξ (.fl .next env (m2.set n (.ins C (x7 f y fs)))) else ζ
 | _, _ => ζ
theorem jv {f : Str} {v : Expr} {dv : DE} {pos' : Pos} (c : Cls X.K C) (n : NoAttr X.K C f) (ho : SE X Z o da) (hv : SE X Z v dv) (hs : swapsWith v (ξ (.Attribute o f pos')) pos.line X.env = pure false := by rfl) : SS X Z (.Assign [.Attribute o f pos'] v pos) (j1 C f da dv) := PS.imp (ps_fld ho hv hs) fun D σ H ⟨r, m, env, s, e, h⟩ => by
 refine tX.stepS s e h fun y m1 r1 H1 yv l1 s1 e1 q1 h1 => ?_
 refine tX.stepS s1 e1 h1 fun w m2 r2 H2 v2 l2 s2 e2 q2 h2 => ?_
 cases hi : gO m2 C w with
 | none => rw [hi] at h2; cases w <;> exact h2.elim
 | some fs =>
  rw [hi] at h2
  obtain ⟨nn, a, dx, vs, rfl, er, em, rfl, ea, rk⟩ := qR s2 q2 hi
  simp only at h2
  by_cases hl : fs.length < 1000
  case neg => rw [if_neg hl] at h2; exact h2.elim
  rw [if_pos hl] at h2
  have le : Lt X.K r2 H2 r2 (upd H2 a (.ins C dx (putF f yv vs))) := ⟨List.prefix_rfl, nJ ea (o := .ins C fs) ⟨dx, vs, rfl, rk⟩, fun b x ee nn _ => by
   have hb : b ≠ a := fun z => nn (by rw [z]; exact List.mem_of_getElem? er)
   rw [upd_ne hb]
   exact ee, fun _ x y => absurd x y⟩
  obtain ⟨s3, l3⟩ := s2.set (o := .ins C (x7 f y fs)) (u := .ins C dx (putF f yv vs)) em er ea ⟨dx, vs, rfl, rk⟩ ⟨dx, _, rfl, (RKV.put (q1.mono l2) rk).mono le⟩
  exact ⟨a, C, dx, vs, rfl, ea, c, n, by rw [← rk.len]; exact hl, h2 r2 _ σ l3 s3 (e2.mono l3)⟩
def Lb (C : Addr) (m : Str) (sp : Sp) (dvs : List V) (E : St → XK) (ta : TE) (t : TA) : TE := fun σ H Q => ta σ H fun x H1 => ∃ a dx fs, x = .ref a ∧ H1 a = ξ (.ins C dx fs) ∧ fs.lookup m = ζ ∧ t σ H1 fun vs H2 => sp (x :: (vs ++ dvs)) H2 Q (E σ)
section
end
def kg (C : Addr) (mn : Str) (ws0 : List W) (D : DF) (o : DE) (as : DA) : DE := fun env m => bnd (o env m) fun w m1 => match gO m1 C w with
 | some fs => match fs.lookup mn with
  | some _ => ζ
  | none => bnd (as env m1) fun ws m2 => D (w :: (ws ++ ws0)) m2
 | none => ζ
theorem Hx {K : PySem.W.Frag} {ta : TA} (hw : ∀ r H, RWs K r H ws0 dvs) (hta : ∀ σ H Q, tA K Z das σ H Q → ta σ H Q) {σ : St} {H : Hp} {Q : VK} (h : tE K Z (kg C m ws0 D da das) σ H Q) : Lb C m (spD K D) dvs (WE Z) (tE K Z da) ta σ H Q := by
 obtain ⟨r, m, env, s, e, h⟩ := h
 refine tX.step s e h fun w m1 r1 H1 v l1 s1 e1 q1 h1 => ?_
 cases hi : gO m1 C w with
 | none => rw [hi] at h1; exact h1.elim
 | some fs =>
  rw [hi] at h1
  obtain ⟨nn, a, dx, vs, rfl, er, em, rfl, ea, rk⟩ := qR s1 q1 hi
  rename_i mn
  have lk := RKV.lookup (f := mn) rk
  simp only at h1
  cases hl : fs.lookup mn with
  | some wv => rw [hl] at h1; exact h1.elim
  | none =>
   rw [hl] at lk h1
   refine ⟨a, dx, vs, rfl, ea, lk, hta _ _ _ ?_⟩
   exact tX.step s1 e1 h1 fun ws m2 r2 H2 vs2 l2 s2 e2 q2 h2 => ⟨r2, m2, .ref nn :: (ws ++ ws0), s2, ⟨.ref a, _, rfl, q1.mono l2, q2.append (hw r2 H2)⟩, h2⟩
theorem sH {CX : CXT} {sp : Sp} {E : XK} {pins : List (Addr × Obj)} {σ : St} {H : Hp} {s : Shared} {Q : VK} {us : List Value} {vs : List V} (M : Mk X.K C f) (F : FnG X.prog X.w X.K X.mg X.base CX k f fd ps sp) (hr : RoomG (k + 1) X.A) (hb : Binds X.K fd ps ds) (hd : Vals dvs ds)
  (hx : PassesAt CX X σ E) (I : Inv X pins σ H s) (r : Vals vs us)
  (h : ∀ x dx, H x = ζ → H dx = ζ → dx ≠ x → sp (.ref x :: (vs ++ dvs)) (upd (upd H dx (.own x)) x (.ins C dx [])) (fun v H2 => v = .non ∧ Q (.ref x) H2) E) : wpAny (model X.prog X.w) X.A (call (.ref C) us) (EP X pins σ Q) X.xe s := by
 have hq := h (s.heap.objs.size + 1) s.heap.objs.size (I.hok.fresh (Nat.le_succ _)) (I.hok.fresh (Nat.le_refl _)) (Nat.ne_of_lt (Nat.lt_succ_self _))
 have I2 := Inv.made (C := C) I
 have r2 : Vals (V.ref (s.heap.objs.size + 1) :: (vs ++ dvs)) (Value.ref (s.heap.objs.size + 1) :: (us ++ ds)) := .cons rfl (r.append hd)
 have hl : (Value.ref (s.heap.objs.size + 1) :: us ++ ds).length = ps.length := by
  have e := r2.length
  rw [F.len _ _ _ _ hq] at e
  exact e.symm
 refine wpAny_call (make_map (f := f) I.kIn M.makes M.init (beq_iff_eq.mp M.fn) (codeAny_mono (F.run _ X.stack _ _ ⟨Value.ref (s.heap.objs.size + 1) :: us, []⟩ (Value.ref (s.heap.objs.size + 1) :: (us ++ ds)) _ _ E (hr.make C us [])
  (I2.env0.make C us []) (hb _ (Value.ref (s.heap.objs.size + 1) :: us) I2.kIn hl) r2 hq) fun r s' hq' => ?_))
 cases r with
 | error e => exact hx pins _ _ e s' I2 hq'
 | ok fl =>
  cases fl with
  | ret u =>
   obtain ⟨v, H', I3, rv, ev, q3⟩ := I2.after hq'
   subst ev
   exact ⟨rv, ⟨V.ref (s.heap.objs.size + 1), H', I3, rfl, q3⟩⟩
  | next => exact False.elim hq'
  | brk => exact False.elim hq'
  | cont => exact False.elim hq'
def Lc (C : Addr) (sp : Sp) (dvs : List V) (E : St → XK) (t : TA) : TE := fun σ H Q => t σ H fun vs H1 => ∀ x dx, H1 x = ζ → H1 dx = ζ → dx ≠ x → sp (.ref x :: (vs ++ dvs)) (upd (upd H1 dx (.own x)) x (.ins C dx [])) (fun v H2 => v = .non ∧ Q (.ref x) H2) (E σ)
theorem DH {CX : CXT} {sp : Sp} {E : St → XK} {t : TA} (M : Mk X.K C f) (F : FnG X.prog X.w X.K X.mg X.base CX k f fd ps sp) (hr : RoomG (k + 1) X.A) (hg : Gl X x) (hm : X.mg x = ξ (.ref C)) (hb : Binds X.K fd ps ds) (hd : Vals dvs ds) (hx : ∀ σ, PassesAt CX X σ (E σ)) (ha : PA X (e :: es) t)
  (hdb : (x == ("__debug__" : Str)) = false) (he : starEach (e :: es) X.env = (false, eval e X.env) :: starEach es X.env) (hpl : (backTo pos (starEach es X.env)).any (·.1) = false) : PE X (.Call (.Name x p) (e :: es) [] pos) (Lc C sp dvs E t) := by
 refine ⟨fun pins s σ H Q I h => ?_⟩
 refine wpAny_Call_Name_kw (ld_glob I hg hm ?_ hdb)
 refine PySem.W.callWith_K (h₀ := X.base) I.ok.mod.kin M.kp (thn (ha.run pos pins s σ H _ I h) fun us s1 ⟨vs, H1, I1, r, q⟩ => ⟨I1.kIn, ?_⟩) he hpl
 exact sH M F hr hb hd (hx σ) I1 r q
def Mf (C : Addr) (D : DF) (ws : List W) (m : M) : Option (R W) := bnd (D (.ref m.length :: ws) (m ++ [.ins C []])) fun w m2 => match w with
 | .non => ξ (.ok (.ref m.length) m2)
 | _ => ζ
def bR (C : Addr) (ws0 : List W) (D : DF) (as : DA) : DE := fun env m => bnd (as env m) fun ws m1 => Mf C D (ws ++ ws0) m1
theorem nI {K : PySem.W.Frag} {r : List Addr} {m : M} {H : Hp} {ws : List W} {vs : List V} {Q : VK} {E : XK} (s : Sim K r m H) (q : RWs K r H ws vs) (h : Post K (d8 K) r H (Mf C D ws m) Q E) : ∀ x dx, H x = ζ → H dx = ζ → dx ≠ x →
  spD K D (.ref x :: vs) (upd (upd H dx (.own x)) x (.ins C dx [])) (fun v H2 => v = .non ∧ Q (.ref x) H2) E := by
 intro x dx hx hdx ne
 have hx' : upd H dx (.own x) x = ζ := by rw [upd_ne (Ne.symm ne)]; exact hx
 have l0 : Lt K r H r (upd H dx (.own x)) := cH hdx
 obtain ⟨s', l'⟩ := (s.aside (u := .own x) hdx).new (o := .ins C []) (u := .ins C dx []) hx' ⟨dx, [], rfl, rfl⟩
 refine ⟨r ++ [x], m ++ [.ins C []], .ref m.length :: ws, s', ⟨.ref x, vs, rfl, ⟨x, by rw [← s.len]; simp, rfl⟩, q.mono (l0.trans l')⟩, ?_⟩
 unfold Mf at h
 refine (h.base (l0.trans l')).bnd fun w m2 r2 H2 v l2 s2 q2 h2 => ?_
 cases w <;> first | exact h2.elim | skip
 exact ⟨q2, h2.done s2 ⟨x, mx l2.pre (by rw [← s.len]; simp), rfl⟩⟩
theorem Hq (Cc : Ctx X Z k) (M : Mk X.K C f) (F : FnG X.prog X.w X.K X.mg X.base (L2.CX X.prog X.w) j f fd ps (spD X.K D)) (hg : Gl X x) (hm : X.mg x = ξ (.ref C)) (hb : Binds X.K fd ps ds) (hd : Vals dvs ds) (hw : ∀ r H, RWs X.K r H ws0 dvs) (ha : SA X Z (e :: es) das) (hjk : j + 1 ≤ k := by decide)
  (hdb : (x == ("__debug__" : Str)) = false := by decide) (he : starEach (e :: es) X.env = (false, eval e X.env) :: starEach es X.env := by rfl) (hpl : (backTo pos (starEach es X.env)).any (·.1) = false := by rfl) : SE X Z (.Call (.Name x p) (e :: es) [] pos) (bR C ws0 D das) :=
 PE.imp (DH M F (Cc.rg hjk) hg hm hb hd (fun σ => passAt Cc.tk σ) ha hdb he hpl) fun σ H Q ⟨r, m, env, s, e, h⟩ => tX.step s e h fun ws m1 r1 H1 vs l1 s1 e1 q1 h1 => nI s1 (q1.append (hw r1 H1)) h1
def noX (x : Option (R W)) : Option (R W) := match x with
 | some (.ok w m) => ξ (.ok w m)
 | _ => ζ
def QJ (C : Addr) (D : DF) (o : DE) : DE := fun env m => bnd (o env m) fun w m1 => match gO m1 C w with
 | some _ => noX (D [w] m1)
 | none => ζ
end
end SB
end
section
namespace SB
open PySem L2
variable [Tabs][Past]
section
variable {K: PySem.W.Frag}{X: Cx}
def fI (g : Int → Int → Option W) : F2 := fun a b m => match a, b with
 | .int i, .int j => match g i j with
  | some w => ξ (w, m)
  | none => ζ
 | _, _ => ζ
theorem qU {g : Int → Int → W} {gv : Int → Int → V} (hg : ∀ i j r H, RW K r H (g i j) (gv i j)) : Imp2 K (rI0 gv) (fI fun i j => ξ (g i j)) := by
 intro r m H x y w1 w2 Q E s q1 q2 h
 cases w1 <;> first | exact h.elim | skip
 rename_i i
 cases w2 <;> first | exact h.elim | skip
 rename_i j
 exact ⟨i, j, q1, q2, h.done s (hg i j r H)⟩
theorem zT {g : Int → Int → W} {gv : Int → Int → V} {c : Int → Int → Bool} {C : Int → Int → Prop} (hc : ∀ i j, c i j = true → C i j) (hg : ∀ i j r H, RW K r H (g i j) (gv i j)) : Imp2 K (rI C gv) (fI fun i j => if c i j = true then ξ (g i j) else ζ) := by
 intro r m H x y w1 w2 Q E s q1 q2 h
 cases w1 <;> first | exact h.elim | skip
 rename_i i
 cases w2 <;> first | exact h.elim | skip
 rename_i j
 unfold fI at h
 simp only at h
 by_cases hh : c i j = true
 ·simp only [if_pos hh] at h
  exact ⟨i, j, q1, q2, hc i j hh, h.done s (hg i j r H)⟩
 ·simp only [if_neg hh] at h
  exact h.elim
def Mb : F2 := fI fun i j => ξ (.int (i + j))
def L8 : F2 := fI fun i j => if (sm 1000000000000000000 i || sm 1000000000000000000 j) = true then ξ (.int (i * j)) else ζ
def ur : F2 := fI fun i j => if decide (0 < j) = true then ξ (.int (i % j)) else ζ
def DX : F2 := fI fun i j => if (decide (0 < j) && sm 1073741823 j) = true then ξ (.int (i / j)) else ζ
def Ic : F2 := fI fun i j => if (decide (0 ≤ j) && (sm 1000 j && sm (2 ^ 999) i)) = true then ξ (.int (i ^ j.toNat)) else ζ
def L9 : F2 := fI fun i j => ξ (.bl (decide (i < j)))
def RA : F2 := fI fun i j => ξ (.bl (decide (i ≤ j)))
def Ma : F2 := fI fun i j => ξ (.bl (decide (j < i)))
def oGe : F2 := fI fun i j => ξ (.bl (decide (j ≤ i)))
theorem IW : Imp2 K (rI0 fun i j => .int (i + j)) Mb := qU fun _ _ _ _ => rfl
theorem IP : Imp2 K (rI CMul fun i j => .int (i * j)) L8 := zT (fun i j h => by
 show (-(2 ^ 64) < i ∧ i < 2 ^ 64) ∨ (-(2 ^ 64) < j ∧ j < 2 ^ 64)
 rw [Bool.or_eq_true] at h
 rcases h with h | h <;> have := vL h
 ·exact .inl (by omega)
 ·exact .inr (by omega)) fun _ _ _ _ => rfl
theorem jA : Imp2 K (rI (fun _ j => 0 < j) fun i j => .int (i % j)) ur := zT (fun _ _ h => by have := of_decide_eq_true h; exact this) fun _ _ _ _ => rfl
theorem uL : Imp2 K (rI CDiv fun i j => .int (i / j)) DX := zT (fun i j h => by
 show 0 < j ∧ j < 1073741824
 rw [Bool.and_eq_true] at h
 have h1 := of_decide_eq_true h.1
 have h2 := vL h.2
 omega) fun _ _ _ _ => rfl
theorem qS : Imp2 K (rI0 fun i j => .bl (decide (i < j))) L9 := qU fun _ _ _ _ => rfl
theorem EC : Imp2 K (rI0 fun i j => .bl (decide (i ≤ j))) RA := qU fun _ _ _ _ => rfl
theorem qT : Imp2 K (rI0 fun i j => .bl (decide (j < i))) Ma := qU fun _ _ _ _ => rfl
theorem MK : Imp2 K (rI0 fun i j => .bl (decide (j ≤ i))) oGe := qU fun _ _ _ _ => rfl
def KG (i j : Int) : Prop := 0 ≤ j ∧ j ≤ 1000 ∧ i.natAbs < 2 ^ 1000
theorem zx : OpR X (binaryOp .Pow) (rI KG fun i j => .int (i ^ j.toNat)) := opI fun i j _ _ _ _ _ hc q => by
 refine PyProof.Rows.pow_int hc.1 ?_ q
 have hb : (Builtin.Int.intBits i : Int) ≤ 1001 := by
  have h1 := hc.2.2
  have : Builtin.Int.intBits i ≤ 1001 := by
   unfold Builtin.Int.intBits
   split
   ·omega
   ·have hz : i.natAbs ≠ 0 := by
     rename_i hne
     intro z
     apply hne
     simp at z ⊢
     omega
    have := (Nat.log2_lt hz).mpr h1
    omega
  omega
 have h2 : (Builtin.Int.intBits i : Int) * j ≤ 1001 * 1000 := Int.mul_le_mul hb hc.2.1 hc.1 (by omega)
 exact Int.le_trans h2 (by decide)
theorem wL : Imp2 K (rI KG fun i j => .int (i ^ j.toNat)) Ic := zT (fun i j h => by
 rw [Bool.and_eq_true, Bool.and_eq_true] at h
 have h1 := of_decide_eq_true h.1
 have h2 := vL h.2.1
 exact ⟨h1, by omega, Nat.lt_of_le_of_lt (vL h.2.2) (Nat.pow_lt_pow_right (by decide) (by decide))⟩) fun _ _ _ _ => rfl
def W.isNon : W → Bool
 | .non => true
 | _ => false
def DW : F2 := fun a b m => match b with
 | .non => ξ (.bl a.isNon, m)
 | _ => ζ
def qD : F2 := fun a b m => match b with
 | .non => ξ (.bl (!a.isNon), m)
 | _ => ζ
theorem zF {r : List Addr} {H : Hp} {w : W} {v : V} (q : RW K r H w v) : decide (v = .non) = w.isNon := by
 cases w <;> first
  | (cases (show _ = _ from q); rfl)
  | (obtain ⟨a, _, rfl, _⟩ := q; rfl)
  | (obtain ⟨a, _, rfl⟩ := q; rfl)
  | (obtain ⟨a, rfl, _⟩ := q; rfl)
theorem zR : Imp2 K (fun x y H Q => y = .non ∧ Q (.bl (decide (x = .non))) H) DW := by
 intro r m H x y w1 w2 Q E s q1 q2 h
 cases w2 <;> first | exact h.elim | skip
 refine ⟨q2, ?_⟩
 rw [zF q1]
 exact h.done s rfl
theorem mB : Imp2 K (fun x y H Q => y = .non ∧ Q (.bl (!decide (x = .non))) H) qD := by
 intro r m H x y w1 w2 Q E s q1 q2 h
 cases w2 <;> first | exact h.elim | skip
 refine ⟨q2, ?_⟩
 rw [zF q1]
 exact h.done s rfl
def dE {α β : Type} (f : α → Option β) : List α → Option (List β)
 | [] => ξ []
 | w :: ws => match f w, dE f ws with
  | some d, ξ ds => ξ (d :: ds)
  | _, _ => ζ
def pQ (m : M) : Nat → W → Option PyData
 | 0, _ => ζ
 | _ + 1, .non => ξ .none
 | _ + 1, .bl b => ξ (.bool b)
 | _ + 1, .int i => ξ (.int i)
 | _ + 1, .str x => if PyData.strOk x = true then ξ (.str x) else ζ
 | k + 1, .tup ws => match dE (pQ m k) ws with
  | some ds => ξ (.tuple ds)
  | none => ζ
 | k + 1, .im (.tpl _) ws => match dE (pQ m k) ws with
  | some ds => ξ (.tuple ds)
  | none => ζ
 | k + 1, .ref n => match m[n]? with
  | some (.lst ws) => (match dE (pQ m k) ws with
   | some ds => ξ (.list ds)
   | none => ζ)
  | _ => ζ
 | _ + 1, _ => ζ
theorem cZ : ∀ {ds : List PyData}, (∀ d ∈ ds, d.canLay0 = true) → PyData.canLayAll0 ds = true
 | [], _ => by simp [PyData.canLayAll0]
 | d :: ds, h => by
  simp only [PyData.canLayAll0, Bool.and_eq_true]
  exact ⟨h d (by simp), cZ fun e he => h e (by simp [he])⟩
theorem eK {k : Nat} : ∀ {ds : List PyData}, (∀ d ∈ ds, d.depth ≤ k) → PyData.depthAll ds ≤ k
 | [], _ => by simp [PyData.depthAll]
 | d :: ds, h => by
  simp only [PyData.depthAll]
  exact Nat.max_le.mpr ⟨h d (by simp), eK fun e he => h e (by simp [he])⟩
theorem mJ {α β : Type} {f : α → Option β} : ∀ {ws : List α} {ds : List β}, dE f ws = ξ ds → ∀ d ∈ ds, ∃ w ∈ ws, f w = ξ d
 | [], _, h, d, hd => by cases h; cases hd
 | w :: ws, _, h, d, hd => by
  unfold dE at h
  cases h1 : f w with
  | none => rw [h1] at h; cases h
  | some x =>
   cases h2 : dE f ws with
   | none => rw [h1, h2] at h; cases h
   | some xs =>
    rw [h1, h2] at h
    cases h
    rcases List.mem_cons.mp hd with rfl | hd
    ·exact ⟨w, by simp, h1⟩
    ·obtain ⟨w', hw, e⟩ := mJ h2 d hd
     exact ⟨w', by simp [hw], e⟩
theorem Ay {m : M} : ∀ {k : Nat} {w : W} {d : PyData}, pQ m k w = ξ d → d.canLay0 = true ∧ d.depth ≤ k := by
  intro k
  induction k with
  | zero => intro w d h; cases h
  | succ k ih =>
    intro w d h
    cases w with
    | non => cases h; simp [PyData.canLay0, PyData.depth]
    | bl b => cases h; simp [PyData.canLay0, PyData.depth]
    | int i => cases h; simp [PyData.canLay0, PyData.depth]
    | str x =>
      simp only [pQ] at h
      split at h
      · rename_i hx
        cases h
        simp [PyData.canLay0, PyData.depth, hx]
      · cases h
    | tup ws =>
      simp only [pQ] at h
      split at h
      · rename_i ds hds
        cases h
        have q := mJ hds
        refine ⟨?_, ?_⟩
        · simp only [PyData.canLay0]
          exact cZ fun d hd => by
            obtain ⟨w', _, e⟩ := q d hd
            exact (ih e).1
        · simp only [PyData.depth]
          exact Nat.succ_le_succ (eK fun d hd => by
            obtain ⟨w', _, e⟩ := q d hd
            exact (ih e).2)
      · cases h
    | ref n =>
      simp only [pQ] at h
      split at h
      · split at h
        · rename_i ds hds
          cases h
          have q := mJ hds
          refine ⟨?_, ?_⟩
          · simp only [PyData.canLay0]
            exact cZ fun d hd => by
              obtain ⟨w', _, e⟩ := q d hd
              exact (ih e).1
          · simp only [PyData.depth]
            exact Nat.succ_le_succ (eK fun d hd => by
              obtain ⟨w', _, e⟩ := q d hd
              exact (ih e).2)
        · cases h
      · cases h
    | ob a => cases h
    | ty a => cases h
    | scr a => cases h
    | im j ws =>
      cases j with
      | exc C fs => cases h
      | tpl nd =>
        simp only [pQ] at h
        split at h
        · rename_i ds hds
          cases h
          have q := mJ hds
          refine ⟨?_, ?_⟩
          · simp only [PyData.canLay0]
            exact cZ fun d hd => by
              obtain ⟨w', _, e⟩ := q d hd
              exact (ih e).1
          · simp only [PyData.depth]
            exact Nat.succ_le_succ (eK fun d hd => by
              obtain ⟨w', _, e⟩ := q d hd
              exact (ih e).2)
        · cases h
theorem pP {m : M} {k : Nat} {w : W} {d : PyData} (h : pQ m k w = ξ d) (hk : k ≤ 64) : SeqAt.shaped d = true := by
 obtain ⟨h1, h2⟩ := Ay h
 unfold SeqAt.shaped
 rw [h1, decide_eq_true (Nat.le_trans h2 hk)]
 rfl
theorem mE {r : List Addr} {H : Hp} {f : W → Option PyData} (hf : ∀ w v d, RW K r H w v → f w = ξ d → Dp K H v d) : ∀ {ws : List W} {vs : List V} {ds : List PyData}, RWs K r H ws vs → dE f ws = ξ ds → DpAll K H vs ds
 | [], _, _, q, h => by cases (show _ = _ from q); cases h; exact .nil
 | w :: ws, _, _, q, h => by
  obtain ⟨v, rest, rfl, q1, q2⟩ := q
  unfold dE at h
  cases h1 : f w with
  | none => rw [h1] at h; cases h
  | some x =>
   cases h2 : dE f ws with
   | none => rw [h1, h2] at h; cases h
   | some xs =>
    rw [h1, h2] at h
    cases h
    exact .cons (hf w v x q1 h1) (mE hf q2 h2)
theorem xI {r : List Addr} {m : M} {H : Hp} (s : Sim K r m H) : ∀ {k : Nat} (w : W) (v : V) (d : PyData), RW K r H w v → pQ m k w = ξ d → Dp K H v d := by
 intro k
 induction k with
 | zero => intro w v d q h; cases h
 | succ k ih =>
  intro w v d q h
  cases w with
  | non => cases h; cases (show _ = _ from q); exact .non
  | bl b => cases h; cases (show _ = _ from q); exact .bl b
  | int i => cases h; cases (show _ = _ from q); exact .int i
  | str x =>
   cases (show _ = _ from q)
   simp only [pQ] at h
   split at h
   ·cases h; exact .str x
   ·cases h
  | tup ws =>
   obtain ⟨a, vs, rfl, ht, rs⟩ := q
   simp only [pQ] at h
   split at h
   ·rename_i ds hds
    cases h
    exact .tup (SqT.of ht) (mE ih rs hds)
   ·cases h
  | ref n =>
   obtain ⟨a, e, rfl⟩ := q
   simp only [pQ] at h
   split at h
   ·rename_i ws hw
    split at h
    ·rename_i ds hds
     cases h
     obtain ⟨a', u, e1, e2, vs, rfl, e3⟩ := s.at_ n _ hw
     rw [e] at e1
     cases e1
     exact .lst (SqL.of e2) (mE ih e3 hds)
    ·cases h
   ·cases h
  | ob a => cases h
  | ty a => cases h
  | scr a => cases h
  | im j ws =>
   cases j with
   | exc C fs => cases h
   | tpl nd =>
    obtain ⟨a, vs, rfl, hi, rs⟩ := q
    have ht := hi.rd
    simp only [pQ] at h
    split at h
    ·rename_i ds hds
     cases h
     exact .tup (.inl ht) (mE ih rs hds)
    ·cases h
def N8 : F2 := fun a b m => match pQ m 60 a, pQ m 60 b with
 | some d, ξ e => ξ (.bl (PyData.eqv d e), m)
 | _, _ => ζ
theorem EG : Imp2 K (rEqD K) N8 := by
 intro r m H x y w1 w2 Q E s q1 q2 h
 unfold N8 at h
 cases h1 : pQ m 60 w1 with
 | none => rw [h1] at h; exact h.elim
 | some d =>
  cases h2 : pQ m 60 w2 with
  | none => rw [h1, h2] at h; exact h.elim
  | some e =>
   rw [h1, h2] at h
   exact ⟨d, e, xI s _ _ _ q1 h1, xI s _ _ _ q2 h2, pP h1 (by decide), pP h2 (by decide), h.done s rfl⟩
def zD : F2 := fun a b m => match a, b with
 | .tup ws, .int i => match atI ws i with
  | some w => ξ (w, m)
  | none => ζ
 | .im (.tpl _) ws, .int i => match atI ws i with
  | some w => ξ (w, m)
  | none => ζ
 | a, .int i => match cI m a with
  | some ws => (match atI ws i with
   | some w => ξ (w, m)
   | none => ζ)
  | none => ζ
 | _, _ => ζ
theorem RWs.atI {r : List Addr} {H : Hp} {ws : List W} {vs : List V} {i : Int} {w : W} (q : RWs K r H ws vs) (h : L2.atI ws i = ξ w) : ∃ v, L2.atI vs i = ξ v ∧ RW K r H w v := by
 unfold L2.atI at h ⊢
 rw [← q.len]
 cases hx : ixN ws.length i with
 | none => rw [hx] at h; cases h
 | some j =>
  rw [hx] at h
  obtain ⟨v, e, rv⟩ := q.get (show ws[j]? = ξ w from h)
  exact ⟨v, e, rv⟩
theorem jB : Imp2 K (fun x y H Q => rIxL K x y H Q ∨ rIxT K x y H Q) zD := by
 intro r m H x y w1 w2 Q E s q1 q2 h
 cases w2 <;> first | (cases w1 <;> first | exact h.elim | (rename_i k us; cases k <;> exact h.elim)) | skip
 rename_i i
 by_cases ht : ∃ ws, w1 = .tup ws
 ·obtain ⟨ws, rfl⟩ := ht
  obtain ⟨a, vs, rfl, hs, rs⟩ := q1
  unfold zD at h
  simp only at h
  cases hx : L2.atI ws i with
  | none => rw [hx] at h; exact h.elim
  | some w =>
   rw [hx] at h
   obtain ⟨v, e, rv⟩ := rs.atI hx
   exact .inr ⟨a, vs, i, v, rfl, q2, SqT.of hs, e, h.done s rv⟩
 by_cases hm : ∃ nd ws, w1 = .im (.tpl nd) ws
 ·obtain ⟨nd, ws, rfl⟩ := hm
  obtain ⟨a, vs, rfl, hi, rs⟩ := q1
  have hs := hi.rd
  unfold zD at h
  simp only at h
  cases hx : L2.atI ws i with
  | none => rw [hx] at h; exact h.elim
  | some w =>
   rw [hx] at h
   obtain ⟨v, e, rv⟩ := rs.atI hx
   exact .inr ⟨a, vs, i, v, rfl, q2, .inl hs, e, h.done s rv⟩
 ·have h' : Post K (d8 K) r H (up (match cI m w1 with
    | some ws => (match L2.atI ws i with
     | some w => ξ (w, m)
     | none => ζ)
    | none => ζ)) Q E := by
   cases w1 <;> first | exact absurd ⟨_, rfl⟩ ht | exact h | (rename_i k us; cases k <;> first | exact absurd ⟨_, _, rfl⟩ hm | exact h)
  cases hl : cI m w1 with
  | none => rw [hl] at h'; exact h'.elim
  | some ws =>
   rw [hl] at h'
   simp only at h'
   obtain ⟨a, vs, rfl, hs, rs⟩ := gu s q1 hl
   cases hx : L2.atI ws i with
   | none => rw [hx] at h'; exact h'.elim
   | some w =>
    rw [hx] at h'
    obtain ⟨v, e, rv⟩ := rs.atI hx
    exact .inl ⟨a, vs, i, v, rfl, q2, hs, e, h'.done s rv⟩
theorem g6 : IxR X (fun x y H Q => rIxL X.K x y H Q ∨ rIxT X.K x y H Q) := IxR.or ix_list ix_tup
def sR : F3 := fun o i v m => match o, i with
 | .ref n, .int k => match m[n]? with
  | some (.lst ws) => (match ixN ws.length k with
   | some j => ξ (m.set n (.lst (ws.set j v)))
   | none => ζ)
  | _ => ζ
 | _, _ => ζ
theorem Sim.mut {r : List Addr} {m : M} {H : Hp} {n : Nat} {a : Addr} {ws ws' : List W} {vs vs' : List V} (s : Sim K r m H) (e0 : m[n]? = ξ (.lst ws)) (ea : r[n]? = ξ a) (h : H a = ξ (.lst vs)) (q0 : RWs K r H ws vs) (q : RWs K r H ws' vs') : Sim K r (m.set n (.lst ws')) (upd H a (.lst vs')) ∧ Lt K r H r (upd H a (.lst vs')) :=
 s.set e0 ea h ⟨vs, rfl, q0⟩ ⟨vs', rfl, q.le ⟨List.prefix_rfl, (nJ h (o := .lst ws) ⟨vs, rfl, q0⟩).l0⟩⟩
theorem pF {r : List Addr} {m : M} {H : Hp} {n : Nat} {v : V} {ws : List W} (s : Sim K r m H) (q : RW K r H (.ref n) v) (e : m[n]? = ξ (.lst ws)) : ∃ a vs, v = .ref a ∧ r[n]? = ξ a ∧ H a = ξ (.lst vs) ∧ RWs K r H ws vs := by
 obtain ⟨a, ea, rfl⟩ := q
 obtain ⟨a', u, e1, e2, vs, rfl, e3⟩ := s.at_ n _ e
 rw [ea] at e1
 cases e1
 exact ⟨a, vs, rfl, ea, e2, e3⟩
theorem wJ : Q2 K rSetL sR := by
 intro r m H o i v wo wi wv Q s qo qi qv h
 cases wo <;> first | exact h.elim | skip
 rename_i n
 cases wi <;> first | exact h.elim | skip
 rename_i k
 unfold sR at h
 simp only at h
 cases hm : m[n]? with
 | none => rw [hm] at h; exact h.elim
 | some ob =>
  rw [hm] at h
  cases ob <;> first | exact h.elim | skip
  rename_i ws
  simp only at h
  cases hx : ixN ws.length k with
  | none => rw [hx] at h; exact h.elim
  | some j =>
   rw [hx] at h
   obtain ⟨a, vs, rfl, ea, e2, rs⟩ := pF s qo hm
   obtain ⟨s', l'⟩ := s.mut (ws' := ws.set j wv) (vs' := vs.set j v) hm ea e2 rs (rs.set j qv)
   exact ⟨a, vs, k, j, rfl, qi, e2, by rw [← rs.len]; exact hx, h r _ l' s'⟩
theorem RWs.one_of {r : List Addr} {H : Hp} {w : W} {xs : List V} (q : RWs K r H [w] xs) : ∃ v, xs = [v] ∧ RW K r H w v := by
 obtain ⟨v, rest, rfl, h1, h2⟩ := q
 cases (show rest = [] from h2)
 exact ⟨v, rfl, h1⟩
theorem RWs.two_of {r : List Addr} {H : Hp} {w w' : W} {xs : List V} (q : RWs K r H [w, w'] xs) : ∃ v v', xs = [v, v'] ∧ RW K r H w v ∧ RW K r H w' v' := by
 obtain ⟨v, rest, rfl, h1, v', rest', rfl, h2, h3⟩ := q
 cases (show rest' = [] from h3)
 exact ⟨v, v', rfl, h1, h2⟩
def jc (m : M) : W → Option (List W)
 | .tup ws => ξ ws
 | .im (.tpl _) ws => ξ ws
 | w => cI m w
theorem mr {r : List Addr} {m : M} {H : Hp} {w : W} {ws : List W} {v : V} (s : Sim K r m H) (q : RW K r H w v) (h : jc m w = ξ ws) : ∃ a vs, v = .ref a ∧ (SqL K H a vs ∨ Rd H a (.tup vs)) ∧ RWs K r H ws vs := by
 by_cases ht : ∃ ws, w = .tup ws
 ·obtain ⟨ws', rfl⟩ := ht
  cases h
  obtain ⟨a, vs, rfl, hs, rs⟩ := q
  exact ⟨a, vs, rfl, .inr (Rd.of hs), rs⟩
 by_cases hm : ∃ nd ws, w = .im (.tpl nd) ws
 ·obtain ⟨nd, ws', rfl⟩ := hm
  cases h
  obtain ⟨a, vs, rfl, hi, rs⟩ := q
  exact ⟨a, vs, rfl, .inr hi.rd, rs⟩
 ·have h' : cI m w = ξ ws := by
   cases w <;> first | exact absurd ⟨_, rfl⟩ ht | exact h | skip
   rename_i k us
   cases k
   ·exact absurd ⟨_, _, rfl⟩ hm
   ·exact h
  obtain ⟨a, vs, rfl, hs, rs⟩ := gu s q h'
  exact ⟨a, vs, rfl, .inl hs, rs⟩
def jz : FN := fun ws m => match ws with
 | [.str x] => if x.length ≤ sizeLine then ξ (.int x.length, m) else ζ
 | [w] => match jc m w with
  | some xs => ξ (.int xs.length, m)
  | none => ζ
 | _ => ζ
theorem ek : lN K (fun xs H Q => ∃ x n, xs = [x] ∧ LenV K x H n ∧ Q (.int n) H) jz := by
 intro r m H xs ws Q E s q h
 match ws, q, h with
 | [], _, h => exact h.elim
 | w1 :: _ :: _, _, h => cases w1 <;> exact h.elim
 | [w], q, h =>
  obtain ⟨v, rfl, qv⟩ := q.one_of
  by_cases ht : ∃ x, w = .str x
  ·obtain ⟨x, rfl⟩ := ht
   unfold jz at h
   simp only at h
   by_cases hl : x.length ≤ sizeLine
   ·rw [if_pos hl] at h
    cases (show v = .str x from qv)
    exact ⟨.str x, x.length, rfl, ⟨hl, rfl⟩, h.done s rfl⟩
   ·rw [if_neg hl] at h
    exact h.elim
  ·have h' : Post K (d8 K) r H (up (match jc m w with
     | some xs => ξ (.int xs.length, m)
     | none => ζ)) Q E := by cases w <;> first | exact absurd ⟨_, rfl⟩ ht | exact h
   cases hx : jc m w with
   | none => rw [hx] at h'; exact h'.elim
   | some xs =>
    rw [hx] at h'
    obtain ⟨a, vs, rfl, hs, rs⟩ := mr s qv hx
    refine ⟨.ref a, xs.length, rfl, ?_, h'.done s rfl⟩
    rcases hs with hs | hs
    ·exact .inl ⟨vs, hs, rs.len⟩
    ·exact .inr ⟨vs, .inl hs, rs.len⟩
def Ie : FN := fun ws m => match ws with
 | [.int i] => ξ (.int (if i < 0 then -i else i), m)
 | _ => ζ
theorem IX : lN K (fun xs H Q => ∃ i, xs = [.int i] ∧ Q (.int (if i < 0 then -i else i)) H) Ie := by
 intro r m H xs ws Q E s q h
 unfold Ie at h
 split at h
 ·rename_i i
  obtain ⟨v, rfl, qv⟩ := q.one_of
  cases (show v = .int i from qv)
  exact ⟨i, rfl, h.done s rfl⟩
 ·exact h.elim
def zC : FN := fun ws m => match ws with
 | [.int i, .int j] => ξ (.int (if j > i then j else i), m)
 | _ => ζ
theorem EA : lN K (fun xs H Q => ∃ i j, xs = [.int i, .int j] ∧ Q (.int (if j > i then j else i)) H) zC := by
 intro r m H xs ws Q E s q h
 unfold zC at h
 split at h
 ·rename_i i j
  obtain ⟨v, v', rfl, q1, q2⟩ := q.two_of
  cases (show v = .int i from q1)
  cases (show v' = .int j from q2)
  exact ⟨i, j, rfl, h.done s rfl⟩
 ·exact h.elim
def zB : FN := fun ws m => match ws with
 | [.int i, .int j] => ξ (.int (if j < i then j else i), m)
 | _ => ζ
theorem Ez : lN K (fun xs H Q => ∃ i j, xs = [.int i, .int j] ∧ Q (.int (if j < i then j else i)) H) zB := by
 intro r m H xs ws Q E s q h
 unfold zB at h
 split at h
 ·rename_i i j
  obtain ⟨v, v', rfl, q1, q2⟩ := q.two_of
  cases (show v = .int i from q1)
  cases (show v' = .int j from q2)
  exact ⟨i, j, rfl, h.done s rfl⟩
 ·exact h.elim
def zE : FN := fun ws m => match ws with
 | [.int i] => ξ (.int i, m)
 | [.bl k] => ξ (.int (if k then 1 else 0), m)
 | _ => ζ
theorem EE : lN K (fun xs H Q => (∃ i, xs = [.int i] ∧ Q (.int i) H) ∨ ∃ k, xs = [.bl k] ∧ Q (.int (if k then 1 else 0)) H) zE := by
 intro r m H xs ws Q E s q h
 unfold zE at h
 split at h
 ·rename_i i
  obtain ⟨v, rfl, qv⟩ := q.one_of
  cases (show v = .int i from qv)
  exact .inl ⟨i, rfl, h.done s rfl⟩
 ·rename_i k
  obtain ⟨v, rfl, qv⟩ := q.one_of
  cases (show v = .bl k from qv)
  exact .inr ⟨k, rfl, h.done s rfl⟩
 ·exact h.elim
theorem qm {r : List Addr} {m : M} {H : Hp} {ws : List W} {vs : List V} {Q : VK} {E : XK} (s : Sim K r m H) (q : RWs K r H ws vs) (h : Post K (d8 K) r H (ξ (.ok (.ref m.length) (m ++ [.lst ws]))) Q E) : ∀ p, H p = ζ → Q (.ref p) (upd H p (.lst vs)) := fun p hp => uy s q h hp
def wh : FN := fun ws m => match ws with
 | [w] => match jc m w with
  | some xs => ξ (.ref m.length, m ++ [.lst xs])
  | none => ζ
 | _ => ζ
theorem EB : lN K (fun xs H Q => ∃ p ys, xs = [.ref p] ∧ (SqL K H p ys ∨ SqT K H p ys) ∧ ∀ l, H l = ζ → Q (.ref l) (upd H l (.lst ys))) wh := by
 intro r m H xs ws Q E s q h
 unfold wh at h
 split at h
 ·rename_i w
  obtain ⟨v, rfl, qv⟩ := q.one_of
  split at h
  ·rename_i ys hx
   obtain ⟨a, vs, rfl, hs, rs⟩ := mr s qv hx
   exact ⟨a, vs, rfl, hs.imp id Or.inl, qm s rs h⟩
  ·exact h.elim
 ·exact h.elim
def xW (m : M) : W → Option (List W)
 | .tup ws => ξ ws
 | w => cI m w
theorem AO {r : List Addr} {m : M} {H : Hp} {w : W} {ws : List W} {v : V} (s : Sim K r m H) (q : RW K r H w v) (h : xW m w = ξ ws) : ∃ a vs, v = .ref a ∧ (SqL K H a vs ∨ H a = ξ (.tup vs)) ∧ RWs K r H ws vs := by
 by_cases ht : ∃ ws, w = .tup ws
 ·obtain ⟨ws', rfl⟩ := ht
  cases h
  obtain ⟨a, vs, rfl, hs, rs⟩ := q
  exact ⟨a, vs, rfl, .inr hs, rs⟩
 ·have h' : cI m w = ξ ws := by cases w <;> first | exact absurd ⟨_, rfl⟩ ht | exact h
  obtain ⟨a, vs, rfl, hs, rs⟩ := gu s q h'
  exact ⟨a, vs, rfl, .inl hs, rs⟩
def qC : FN := fun ws m => match ws with
 | [w] => match xW m w with
  | some xs => ξ (.tup xs, m)
  | none => ζ
 | _ => ζ
theorem Bp : lN K (fun xs H Q => ∃ p ys, xs = [.ref p] ∧ ((SqL K H p ys ∧ ∀ l, H l = ζ → Q (.ref l) (upd H l (.tup ys))) ∨ (SqT K H p ys ∧ Q (.ref p) H))) qC := by
 intro r m H xs ws Q E s q h
 unfold qC at h
 split at h
 ·rename_i w
  obtain ⟨v, rfl, qv⟩ := q.one_of
  split at h
  ·rename_i ys hx
   obtain ⟨a, vs, rfl, hs, rs⟩ := AO s qv hx
   rcases hs with hs | hs
   ·exact ⟨a, vs, rfl, .inl ⟨hs, fun l hl => uw s rs h hl⟩⟩
   ·exact ⟨a, vs, rfl, .inr ⟨SqT.of hs, h.done s ⟨a, vs, rfl, hs, rs⟩⟩⟩
  ·exact h.elim
 ·exact h.elim
def jH : List W → Option (List Bool)
 | [] => ξ []
 | .bl b :: ws => match jH ws with
  | some bs => ξ (b :: bs)
  | none => ζ
 | _ :: _ => ζ
theorem rC {r : List Addr} {H : Hp} : ∀ {ws : List W} {vs : List V} {bs : List Bool}, RWs K r H ws vs → jH ws = ξ bs → vs = bs.map V.bl
 | [], _, _, q, h => by cases h; exact q
 | w :: ws, _, _, q, h => by
  obtain ⟨v, rest, rfl, q1, q2⟩ := q
  cases w <;> first | (cases h; done) | skip
  rename_i b
  cases (show v = .bl b from q1)
  unfold jH at h
  cases h2 : jH ws with
  | none => rw [h2] at h; cases h
  | some bs =>
   rw [h2] at h
   cases h
   rw [rC q2 h2]
   rfl
def nE : FN := fun ws m => match ws with
 | [w] => match cI m w with
  | some xs => (match jH xs with
   | some bs => ξ (.bl (bs.all id), m)
   | none => ζ)
  | none => ζ
 | _ => ζ
theorem zS : lN K (rAll K) nE := by
 intro r m H xs ws Q E s q h
 unfold nE at h
 split at h
 ·rename_i w
  obtain ⟨v, rfl, qv⟩ := q.one_of
  split at h
  ·rename_i ys hx
   split at h
   ·rename_i bs hb
    obtain ⟨a, vs, rfl, hs, rs⟩ := gu s qv hx
    exact ⟨a, bs, rfl, by rw [← rC rs hb]; exact hs, h.done s rfl⟩
   ·exact h.elim
  ·exact h.elim
 ·exact h.elim
theorem kH {C : Addr} (h : Ew K C = true) : Cls K C ∧ PySem.W.findIn K (.ref C) "__class__" = ξ (ξ (.builtin "object.__class__")) ∧ PySem.W.specialIn K (.builtin "object.__class__") "__get__" = ξ (ξ (.builtin "getset_descriptor.__get__")) ∧
  PySem.W.takesIn K (.builtin "object.__class__") = ξ true ∧ PySem.W.mroIn K C (.type "object") = ξ true := by
 unfold Ew at h
 simp only [Bool.and_eq_true] at h
 obtain ⟨h1, h2, h3, h4, h5, h6, h7, h8⟩ := h
 exact ⟨⟨h1, h2, h3, He.eqO_ok h4⟩, He.eqO_ok h5, He.eqO_ok h6, of_decide_eq_true h7, of_decide_eq_true h8⟩
def NP (K : PySem.W.Frag) (m : M) : W → Option Value
 | .non => ξ (.type "NoneType")
 | .bl _ => ξ (.type "bool")
 | .int _ => ξ (.type "int")
 | .str _ => ξ (.type "str")
 | .tup _ => ξ (.type "tuple")
 | .im (.tpl _) _ => ξ (.type "tuple")
 | .ref n => match m[n]? with
  | some (.lst _) => ξ (.type "list")
  | some (.dct _) => ξ (.type "dict")
  | some (.dtp _) => ξ (.type "dict")
  | some (.ins C _) => if Ew K C = true then ξ (.ref C) else ζ
  | _ => ζ
 | _ => ζ
theorem K8 {r : List Addr} {m : M} {H : Hp} {w : W} {v : V} {t : Value} (s : Sim K r m H) (q : RW K r H w v) (h : NP K m w = ξ t) : TyX K H v t := by
 cases w with
 | non => cases h; cases (show _ = _ from q); exact .base .non
 | bl b => cases h; cases (show _ = _ from q); exact .base (.bl b)
 | int i => cases h; cases (show _ = _ from q); exact .base (.int i)
 | str x => cases h; cases (show _ = _ from q); exact .base (.str x)
 | tup ws =>
  cases h
  obtain ⟨a, vs, rfl, hs, rs⟩ := q
  exact .base (.tup hs)
 | im k ws =>
  cases k with
  | exc C fs => cases h
  | tpl nd =>
   cases h
   obtain ⟨a, vs, rfl, hi, rs⟩ := q
   rcases hi.rd with hs | ⟨o, hs⟩
   ·exact .base (.tup hs)
   ·exact .fTuple hs
 | ref n =>
  obtain ⟨a, ea, rfl⟩ := q
  unfold NP at h
  simp only at h
  split at h
  ·rename_i ws hm
   cases h
   obtain ⟨a', u, e1, e2, vs, rfl, e3⟩ := s.at_ n _ hm
   rw [ea] at e1; cases e1
   exact .base (.lst e2)
  ·rename_i ws hm
   cases h
   obtain ⟨a', u, e1, e2, vs, rfl, e3⟩ := s.at_ n _ hm
   rw [ea] at e1; cases e1
   exact .base (.dK e2)
  ·rename_i ws hm
   cases h
   obtain ⟨a', u, e1, e2, vs, rfl, e3⟩ := s.at_ n _ hm
   rw [ea] at e1; cases e1
   exact .base (.dT e2)
  ·rename_i C fs hm
   split at h
   ·rename_i hc
    cases h
    obtain ⟨a', u, e1, e2, dx, vs, rfl, e3⟩ := s.at_ n _ hm
    rw [ea] at e1; cases e1
    obtain ⟨k1, k2, k3, k4, k5⟩ := kH hc
    exact .base (.ins e2 k1 k2 k3 k4 k5)
   ·cases h
  ·cases h
 | ob a => cases h
 | ty a => cases h
 | scr a => cases h
def clW : W → Option Value
 | .ty n => ξ (.type n)
 | .ob C => ξ (.ref C)
 | _ => ζ
theorem M9 {r : List Addr} {H : Hp} {w : W} {v : V} {t : Value} (q : RW K r H w v) (h : clW w = ξ t) : ClsV v t := by
 cases w <;> first | (cases h; done) | skip
 ·cases h; cases (show _ = _ from q); exact .own _
 ·cases h; cases (show _ = _ from q); exact .ty _
def Bf (K : PySem.W.Frag) : FN := fun ws m => match ws with
 | [x, c] => match NP K m x, clW c with
  | some t, ξ u => (match PySem.W.kitOne K t u with
   | some b => ξ (.bl b, m)
   | none => ζ)
  | _, _ => ζ
 | _ => ζ
theorem IT : lN K (rIsi K) (Bf K) := by
 intro r m H xs ws Q E s q h
 unfold Bf at h
 split at h
 ·rename_i x c
  obtain ⟨v, v', rfl, q1, q2⟩ := q.two_of
  split at h
  ·rename_i t u h1 h2
   split at h
   ·rename_i b hb
    exact ⟨v, v', t, u, b, rfl, M9 q2 h2, K8 s q1 h1, hb, h.done s rfl⟩
   ·exact h.elim
  ·exact h.elim
 ·exact h.elim
abbrev FM := W → List W → M → Option (W × M)
def Q0 (K : PySem.W.Frag) (rr : V → List V → Hp → VK → Prop) (f : FM) : Prop := ∀ (r : List Addr) (m : M) (H : Hp) (x : V) (xs : List V) (w : W) (ws : List W) (Q : VK) (E : XK), Sim K r m H → RW K r H w x → RWs K r H ws xs → Post K (d8 K) r H (up (f w ws m)) Q E → rr x xs H Q
def Bm (T : String) (m : M) : W → Bool
 | .str _ => T == "str"
 | .int _ => T == "int"
 | .ref n => match m[n]? with
  | some (.lst _) => T == "list"
  | some (.dct _) => T == "dict"
  | some (.dtp _) => T == "dict"
  | _ => false
 | _ => false
theorem II {T : String} {r : List Addr} {m : M} {H : Hp} {w : W} {v : V} (s : Sim K r m H) (q : RW K r H w v) (h : Bm T m w = true) : tyV K T v H := by
 cases w with
 | str x => cases (show _ = _ from q); exact beq_iff_eq.mp h
 | int x => cases (show _ = _ from q); exact beq_iff_eq.mp h
 | ref n =>
  obtain ⟨a, ea, rfl⟩ := q
  unfold Bm at h
  simp only at h
  split at h
  ·rename_i ws hm
   obtain ⟨a', u, e1, e2, vs, rfl, e3⟩ := s.at_ n _ hm
   rw [ea] at e1; cases e1
   exact .inl ⟨beq_iff_eq.mp h, vs, SqL.of e2⟩
  ·rename_i ws hm
   obtain ⟨a', u, e1, e2, vs, rfl, e3⟩ := s.at_ n _ hm
   rw [ea] at e1; cases e1
   exact .inr (.inr (.inl ⟨beq_iff_eq.mp h, .inl ⟨vs, e2⟩⟩))
  ·rename_i ws hm
   obtain ⟨a', u, e1, e2, vs, rfl, e3⟩ := s.at_ n _ hm
   rw [ea] at e1; cases e1
   exact .inr (.inr (.inl ⟨beq_iff_eq.mp h, .inr ⟨vs, e2⟩⟩))
  ·cases h
 | non => cases h
 | bl b => cases h
 | tup ws => cases h
 | ob a => cases h
 | ty a => cases h
 | scr a => cases h
 | im k ws => cases h
def RR (T : String) (f : FM) (o : DE) (as : DA) : DE := fun env m => bnd (o env m) fun w m1 => if Bm T m1 w = true then bnd (as env m1) fun ws m2 => up (f w ws m2) else ζ
variable {Z: WX}{o e: Expr}{es: List Expr}{da: DE}{das: DA}{name: Str}{apos cpos: Pos}{T id: String}{rr: V → List V → Hp → VK → Prop}{f: FM}
theorem Pw (pa : PlainAttrs T) (slot : Slot T name id) (hty : typeOf (.builtin id) = pure (.type "method_descriptor")) (hm : MtR X id rr) (hf : Q0 X.K rr f) (ho : SE X Z o da) (ha : SA X Z (e :: es) das)
  (hbase : attributeBase o name X.env (eval o X.env) = eval o X.env := by rfl)
  (hfew : ((backTo cpos (starEach (e :: es) X.env)).all (fun x => !x.1) && (backToKw cpos (keywordEach [] X.env)).all (fun x => x.1.isSome)
   && decide ((e :: es).length + ([] : List Keyword).length + (if ([] : List Keyword).isEmpty then 0 else 1) < 30)) = true := by rfl)
  (hline : (apos.endLine == cpos.line) = true := by rfl) (hs : starEach (e :: es) X.env = (false, eval e X.env) :: starEach es X.env := by rfl) (hplain : (backTo cpos (starEach es X.env)).any (·.1) = false := by rfl) :
  SE X Z (.Call (.Attribute o name apos) (e :: es) [] cpos) (RR T f da das) := PE.imp (pe_bm pa slot hty hm ho ha hbase hfew hline hs hplain) fun σ H Q ⟨r, m, env, s, e, h⟩ => by
 refine tX.step s e h fun w m1 r1 H1 v l1 s1 e1 q1 h1 => ?_
 by_cases hc : Bm T m1 w = true
 ·rw [if_pos hc] at h1
  refine ⟨II s1 q1 hc, tX.step s1 e1 h1 fun ws m2 r2 H2 vs l2 s2 e2 q2 h2 => ?_⟩
  exact hf r2 m2 H2 v vs w ws Q _ s2 (q1.mono l2) q2 h2
 ·rw [if_neg hc] at h1
  exact h1.elim
def DY : F2 := fun a b m => match a, b with
 | .ref n, .ref k => match m[n]?, m[k]? with
  | some (.lst xs), ξ (.lst ys) => if xs.length + ys.length ≤ sizeLine then ξ (.ref m.length, m ++ [.lst (xs ++ ys)]) else ζ
  | _, _ => ζ
 | _, _ => ζ
theorem IV : Imp2 K rCat DY := by
 intro r m H x y w1 w2 Q E s q1 q2 h
 unfold DY at h
 split at h
 ·rename_i n k
  split at h
  ·rename_i xs ys h1 h2
   split at h
   ·rename_i hl
    obtain ⟨a, vs, rfl, ea, e2, rs⟩ := pF s q1 h1
    obtain ⟨a', vs', rfl, ea', e2', rs'⟩ := pF s q2 h2
    exact ⟨a, a', vs, vs', rfl, rfl, e2, e2', by rw [← rs.len, ← rs'.len]; exact hl, qm s (rs.append rs') h⟩
   ·exact h.elim
  ·exact h.elim
 ·exact h.elim
def wk : F2 := fun a b m => match a, b with
 | .str x, .str y => if x.length + y.length ≤ sizeLine then ξ (.str (x ++ y), m) else ζ
 | _, _ => ζ
theorem EI : Imp2 K (fun x y H Q => ∃ i j, x = .str i ∧ y = .str j ∧ i.length + j.length ≤ sizeLine ∧ Q (.str (i ++ j)) H) wk := by
 intro r m H x y w1 w2 Q E s q1 q2 h
 unfold wk at h
 split at h
 ·rename_i i j
  split at h
  ·rename_i hl
   exact ⟨i, j, q1, q2, hl, h.done s rfl⟩
  ·exact h.elim
 ·exact h.elim
def DU : F2 := fun a b m => match a, b with
 | .ref n, .int k => match m[n]? with
  | some (.lst xs) => if -(2 ^ 63) ≤ k ∧ k < 2 ^ 63 ∧ xs.length * k.toNat ≤ sizeLine then ξ (.ref m.length, m ++ [.lst (List.replicate k.toNat xs).flatten]) else ζ
  | _ => ζ
 | _, _ => ζ
theorem RWs.rep {r : List Addr} {H : Hp} {ws : List W} {vs : List V} (q : RWs K r H ws vs) : ∀ k : Nat, RWs K r H (List.replicate k ws).flatten (List.replicate k vs).flatten
 | 0 => rfl
 | k + 1 => by
  rw [List.replicate_succ, List.replicate_succ, List.flatten_cons, List.flatten_cons]
  exact q.append (RWs.rep q k)
theorem IM : Imp2 K rRep DU := by
 intro r m H x y w1 w2 Q E s q1 q2 h
 unfold DU at h
 split at h
 ·rename_i n k
  split at h
  ·rename_i xs h1
   split at h
   ·rename_i hl
    obtain ⟨a, vs, rfl, ea, e2, rs⟩ := pF s q1 h1
    exact ⟨a, k, vs, rfl, q2, e2, hl.1, hl.2.1, by rw [← rs.len]; exact hl.2.2, qm s (rs.rep k.toNat) h⟩
   ·exact h.elim
  ·exact h.elim
 ·exact h.elim
end
section
end
def Sq (K : PySem.W.Frag) (H : Hp) (p : Addr × Bool) (xs : List V) : Prop := if p.2 = true then SqL K H p.1 xs else SqT K H p.1 xs
theorem Eg {N c : Nat} (h : c = N + 4 ∨ c = N + 2 ∨ c = N + 3 ∨ c = N ∨ c = N + 1) : N ≤ c := by omega
theorem le4 {N c : Nat} (h : c = N + 6 ∨ c = N + 4 ∨ c = N + 5 ∨ c = N ∨ c = N + 1 ∨ c = N + 2 ∨ c = N + 3) : N ≤ c := by omega
structure Fn (P : Program) (w : World) (K : PySem.W.Frag) (mg : Str → Option Value) (base : Heap) (k : Nat) (f : Addr) (ps : List Str) (D : DF) : Prop where
 ex : ∃ fd : FuncData, FnG P w K mg base (L2.CX P w) k f fd ps (spD K D) ∧ Binds K fd ps []
 kp : PySem.W.keepIn K (.ref f) = true
section
variable {P: Program}{w: World}{K: PySem.W.Frag}{mg: Str → Option Value}{base: Heap}{x qual: Str}{params: Arguments}{body: List Stmt}{scope: Scope}{kws: List (Str × V)}{f: Addr}{fd: FuncData}{k: Nat}{N ps: List Str}{b: DS}
theorem tq (F : FunD K x qual params body scope [] kws f fd) (S : FnScope N ps scope)
  (hbi : ∀ (kV doc pm : Value) (an : Option Addr) (cdv ct : Value) (us : List Value), us.length = ps.length → bindArgs (PySem.W.fnOf x qual params body scope .none kV doc pm an cdv ct) ⟨us, []⟩ = pure (ps.zip us))
  (hb : ∀ (cdv : Value) (A : Around) (outer : List PySem.Env) (s : Shared) (H : Hp) (E : XK), Ctx (cxOf (L2.CX P w) P w K mg base N qual scope f cdv A outer s H E) (zOf E) k → rK (cxOf (L2.CX P w) P w K mg base N qual scope f cdv A outer s H E) (zOf E) body b) :
  Fn P w K mg base (k + 1) f ps (cX ps.length N.length b) := ⟨⟨fd, MS F S hb, F.bindsN hbi⟩, F.kp⟩
end
section
variable {X: Cx}{Z: WX}{b e: Expr}{es: List Expr}{das: DA}{pos p: Pos}{k j: Nat}{x m: Str}{f C: Addr}{ps: List Str}{D: DF}
theorem qF {K : PySem.W.Frag} : ∀ (r : List Addr) (H : Hp), RWs K r H [] [] := fun _ _ => rfl
theorem eU (Cc : Ctx X Z k) (F : Fn X.prog X.w X.K X.mg X.base j f ps D) (hm : X.mg x = ξ (.ref f)) (ha : SA X Z (e :: es) das) (hg : Gl X x := by rfl)
  (hjk : j ≤ k := by decide) (hdb : (x == ("__debug__" : Str)) = false := by decide) (he : starEach (e :: es) X.env = (false, eval e X.env) :: starEach es X.env := by rfl) (hpl : (backTo pos (starEach es X.env)).any (·.1) = false := by rfl) :
  SE X Z (.Call (.Name x p) (e :: es) [] pos) (e7 [] D das) := by
 obtain ⟨⟨fd, F1, b⟩, kp⟩ := F
 exact Hs Cc F1 hg hm kp b .nil qF ha hjk hdb he hpl
theorem zc (Cc : Ctx X Z k) (Mm : Mk X.K C f) (F : Fn X.prog X.w X.K X.mg X.base j f ps D) (hm : X.mg x = ξ (.ref C)) (ha : SA X Z (e :: es) das) (hg : Gl X x := by rfl) (hjk : j + 1 ≤ k := by decide)
  (hdb : (x == ("__debug__" : Str)) = false := by decide) (he : starEach (e :: es) X.env = (false, eval e X.env) :: starEach es X.env := by rfl) (hpl : (backTo pos (starEach es X.env)).any (·.1) = false := by rfl) : SE X Z (.Call (.Name x p) (e :: es) [] pos) (bR C [] D das) := by
 obtain ⟨⟨fd, F1, b⟩, kp⟩ := F
 exact Hq Cc Mm F1 hg hm b .nil qF ha hjk hdb he hpl
theorem Ctx.blk {s : Shared} {H : Hp} {scope : Scope} {cenv : PySem.Env} {fp : List Addr} (C : Ctx X Z k) : Ctx (X.blk s H scope cenv fp) Z0 k := ⟨C.calm, C.nd, takes0, PassesOwn.never, C.room, C.gd⟩
theorem jb {x : Str} {id : String} {rr : List V → Hp → VK → Prop} {f : FN} (hc : CallR X (.builtin id) rr) (hi : lN X.K rr f) (hm : X.mg x = ζ) (ha : SA X Z (e :: es) das) (hg : Gl X x := by rfl) (hv : bootBuiltins x = ξ (.builtin id) := by decide +kernel)
  (hn : x ≠ "__name__" := by decide) (hdb : (x == ("__debug__" : Str)) = false := by decide) (he : starEach (e :: es) X.env = (false, eval e X.env) :: starEach es X.env := by rfl) (hpl : (backTo pos (starEach es X.env)).any (·.1) = false := by rfl) :
  SE X Z (.Call (.Name x p) (e :: es) [] pos) (iI f das) := C9 hc hi hg hm hv ha hn hdb he hpl
theorem CW {x : Str} {T : String} {rr : List V → Hp → VK → Prop} {f : FN} (hc : CallR X (.type T) rr) (hi : lN X.K rr f) (hm : X.mg x = ζ) (ha : SA X Z (e :: es) das) (hg : Gl X x := by rfl) (hv : bootBuiltins x = ξ (.type T) := by decide +kernel)
  (hn : x ≠ "__name__" := by decide) (hdb : (x == ("__debug__" : Str)) = false := by decide) (he : starEach (e :: es) X.env = (false, eval e X.env) :: starEach es X.env := by rfl) (hpl : (backTo pos (starEach es X.env)).any (·.1) = false := by rfl) :
  SE X Z (.Call (.Name x p) (e :: es) [] pos) (iI f das) := AQ hc hi hg hm hv ha hn hdb he hpl
theorem Pp {x : Str} {T : String} (hm : X.mg x = ζ) (hg : Gl X x := by rfl) (hv : bootBuiltins x = ξ (.type T) := by decide +kernel) (hn : x ≠ "__name__" := by decide) (hd : (x == ("__debug__" : Str)) = false := by decide) : SE X Z (.Name x pos) (eC (.ty T)) :=
 Ht (v := .ty T) hg hm hv rfl (fun _ _ => rfl) hn hd
theorem Pq {x : Str} {C : Addr} (hm : X.mg x = ξ (.ref C)) (hg : Gl X x := by rfl) (hd : (x == ("__debug__" : Str)) = false := by decide) : SE X Z (.Name x pos) (eC (.ob C)) :=
 ug (v := .ref C) hg hm rfl (fun _ _ => rfl) hd
theorem Ho {x : Str} {i : Int} (hm : ∃ t, X.mg x = ξ (.int i t)) (hg : Gl X x := by rfl) (hd : (x == ("__debug__" : Str)) = false := by decide) : SE X Z (.Name x pos) (eC (.int i)) := by
 obtain ⟨t, hm⟩ := hm
 exact ug (v := .int i) hg hm ⟨t, rfl⟩ (fun _ _ => rfl) hd
theorem Hn {x : Str} {i : Str} (hm : ∃ t, X.mg x = ξ (.str i t)) (hg : Gl X x := by rfl) (hd : (x == ("__debug__" : Str)) = false := by decide) : SE X Z (.Name x pos) (eC (.str i)) := by
 obtain ⟨t, hm⟩ := hm
 exact ug (v := .str i) hg hm ⟨t, rfl⟩ (fun _ _ => rfl) hd
def PB (i j l : Nat) (as : DA) : DS := fun env m => bS (as env m) env fun ws m1 => match ws with
 | [x, y, z] => ξ (.fl .next (((env.set i (ξ x)).set j (ξ y)).set l (ξ z)) m1)
 | _ => ζ
end
end SB
end
section
namespace SB
open PySem L2
open He (ga ma)
instance noTabs : Tabs := ⟨[], true⟩
instance noPast : Past := ⟨[]⟩
def obsZ (ex : PySem.W.Frag → Bool) (fn : List He5.DefA) (K : PySem.W.Frag) : He.AlD := (ex K && ((He.Fa.glo "law").ok K && fn.all fun d => d.ok K), fn.map fun d => He5.fnA K (d.at_ K))
def SaysZ (ex : PySem.W.Frag → Bool) (fn : List He5.DefA) (K : PySem.W.Frag) : Prop := obsZ ex fn K = (true, fn.map He5.DefA.val)
section
variable {ex: PySem.W.Frag → Bool}{fn: List He5.DefA}{K: PySem.W.Frag}
theorem SaysZ.all (c : SaysZ ex fn K) : ex K = true ∧ (He.Fa.glo "law").ok K = true ∧ (fn.all fun d => d.ok K) = true := by
 have c1 : (ex K && ((He.Fa.glo "law").ok K && fn.all fun d => d.ok K)) = true := congrArg (fun z : He.AlD => z.1) c
 simp only [Bool.and_eq_true] at c1
 exact c1
theorem SaysZ.law (c : SaysZ ex fn K) : (He.Fa.glo "law").ok K = true := c.all.2.1
end
section
open PySem.Spec PyProof.Rows
end
end SB
end
section
namespace SB
open PySem L2
variable [Tabs][Past]
def WP {α : Type} (x : Option (R α)) (Q : α → M → Prop) : Prop := ∃ a m, x = ξ (.ok a m) ∧ Q a m
def WPS (x : Option RS) (Q : F → Env → M → Prop) : Prop := ∃ f env m, x = ξ (.fl f env m) ∧ Q f env m
section
variable {α β: Type}{x: Option (R α)}{k: α → M → Option (R β)}{Q: β → M → Prop}{env: Env}{m: M}{QS: F → Env → M → Prop}
theorem WP.ok {a : α} {Q : α → M → Prop} (h : Q a m) : WP (ξ (.ok a m)) Q := ⟨a, m, rfl, h⟩
theorem WP.imp {Q Q' : α → M → Prop} (h : WP x Q) (i : ∀ a m, Q a m → Q' a m) : WP x Q' := by
 obtain ⟨a, m', e, q⟩ := h
 exact ⟨a, m', e, i a m' q⟩
theorem WPS.imp {x : Option RS} {Q' : F → Env → M → Prop} (h : WPS x QS) (i : ∀ f e m, QS f e m → Q' f e m) : WPS x Q' := by
 obtain ⟨f, en, m', e, q⟩ := h
 exact ⟨f, en, m', e, i f en m' q⟩
def Q4 (Q : W → M → Prop) : F → Env → M → Prop := fun f _ m => match f with
 | .next => Q .non m
 | .ret w => Q w m
 | _ => False
@[simp] theorem Ou {Q : W → M → Prop} : Q4 Q .next env m = Q .non m := rfl
@[simp] theorem Q3 {Q : W → M → Prop} {w : W} : Q4 Q (.ret w) env m = Q w m := rfl
@[simp ↓] theorem gq : bnd x k = match x with
  | none => ζ
  | some (.ok a m) => k a m
  | some (.exc C d m) => ξ (.exc C d m) := rfl
@[simp ↓] theorem Nb {k : α → M → Option RS} : bS x env k = match x with
  | none => ζ
  | some (.ok a m) => k a m
  | some (.exc C d m) => ξ (.exc C d env m) := rfl
@[simp ↓] theorem Px {a b : DS} : cb a b env m = match a env m with
  | some (.fl .next env' m') => b env' m'
  | x => x := rfl
@[simp ↓] theorem HX {x : Option (R W)} {k : W → M → Option (Env × M)} : N7 x k = match x with
  | some (.ok w m) => k w m
  | _ => ζ := rfl
@[simp] theorem ke {i : Nat} : ax i env m = match env[i]? with
  | some (ξ w) => ξ (.ok w m)
  | _ => ζ := rfl
@[simp] theorem M0 {w : W} : eC w env m = ξ (.ok w m) := rfl
@[simp] theorem Jw {f : F2} {a b : DE} : cY f a b env m = bnd (a env m) fun x m1 => bnd (b env m1) fun y m2 => up (f x y m2) := rfl
@[simp] theorem RP {f : F1} {a : DE} : eUn f a env m = bnd (a env m) fun x m1 => up (f x m1) := rfl
@[simp] theorem tx {d : DE} : bJ d env m = bnd (d env m) RU := rfl
@[simp] theorem Nf {b : Bool} : RU (.bl b) m = ξ (.ok b m) := rfl
@[simp] theorem NR {a b : DT} : pS a b env m = bnd (a env m) fun x m1 => if x = true then b env m1 else ξ (.ok false m1) := rfl
@[simp] theorem Pl {a b : DT} : xJ a b env m = bnd (a env m) fun x m1 => if x = true then ξ (.ok true m1) else b env m1 := rfl
@[simp] theorem NQ {a : DT} : i9 a env m = bnd (a env m) fun x m1 => ξ (.ok (!x) m1) := rfl
@[simp] theorem BM {a b : DE} : tF a b env m = bnd (a env m) fun x m1 => match x with
  | .bl true => b env m1
  | .bl false => ξ (.ok (.bl false) m1)
  | _ => ζ := rfl
@[simp] theorem QK {a b : DE} : eOrV a b env m = bnd (a env m) fun x m1 => match x with
  | .bl true => ξ (.ok (.bl true) m1)
  | .bl false => b env m1
  | _ => ζ := rfl
@[simp] theorem BG {a : DE} : Fj a env m = bnd (a env m) fun x m1 => match x with
  | .bl k => ξ (.ok (.bl (!k)) m1)
  | _ => ζ := rfl
@[simp] theorem Jx {c : DT} {a b : DE} : Fm c a b env m = bnd (c env m) fun x m1 => if x = true then a env m1 else b env m1 := rfl
@[simp] theorem FQ : aJ env m = ξ (.ok [] m) := rfl
@[simp] theorem fV {a : DE} {as : DA} : aq a as env m = bnd (a env m) fun x m1 => bnd (as env m1) fun xs m2 => ξ (.ok (x :: xs) m2) := rfl
@[simp] theorem w8 {as : DA} : ri as env m = bnd (as env m) fun ws m1 => if ws.length ≤ sizeLine then ξ (.ok (.tup ws) m1) else ζ := rfl
@[simp] theorem Fl {as : DA} : dM as env m = bnd (as env m) fun ws m1 => if ws.length ≤ sizeLine then ξ (.ok (.ref m1.length) (m1 ++ [.lst ws])) else ζ := rfl
@[simp] theorem z0 {f : FN} {as : DA} : iI f as env m = bnd (as env m) fun ws m1 => up (f ws m1) := rfl
@[simp] theorem BL {D : DF} {as : DA} : e7 [] D as env m = bnd (as env m) fun ws m1 => D ws m1 := by
  unfold e7
  simp
@[simp] theorem QL {C : Addr} {f : Str} {o : DE} : eFld C f o env m = bnd (o env m) fun w m1 => match gO m1 C w with
  | some fs => match fs.lookup f with
    | some v => ξ (.ok v m1)
    | none => ζ
  | none => ζ := rfl
@[simp] theorem BH {C : Addr} {mn : Str} {D : DF} {o : DE} {as : DA} : kg C mn [] D o as env m = bnd (o env m) fun w m1 => match gO m1 C w with
  | some fs => match fs.lookup mn with
    | some _ => ζ
    | none => bnd (as env m1) fun ws m2 => D (w :: ws) m2
  | none => ζ := by
  unfold kg
  simp only [List.append_nil] <;> rfl
@[simp] theorem BI {C : Addr} {D : DF} {as : DA} : bR C [] D as env m = bnd (as env m) fun ws m1 => Mf C D ws m1 := by
  unfold bR
  simp
@[simp] theorem Oj {C : Addr} {D : DF} {o : DE} : QJ C D o env m = bnd (o env m) fun w m1 => match gO m1 C w with
  | some _ => noX (D [w] m1)
  | none => ζ := rfl
@[simp] theorem RQ {T : String} {f : FM} {o : DE} {as : DA} : RR T f o as env m = bnd (o env m) fun w m1 => if Bm T m1 w = true then bnd (as env m1) fun ws m2 => up (f w ws m2) else ζ := rfl
@[simp] theorem NU : fy env m = ξ (.fl .next env m) := rfl
@[simp] theorem Rr {f : F} : sFl f env m = ξ (.fl f env m) := rfl
@[simp] theorem NV {a : DE} : fA a env m = bS (a env m) env fun _ m1 => ξ (.fl .next env m1) := rfl
@[simp] theorem Py {a : DE} : iR a env m = bS (a env m) env fun w m1 => ξ (.fl (.ret w) env m1) := rfl
@[simp] theorem Rq {c : DT} {a b : DS} : rP c a b env m = bS (c env m) env fun x m1 => if x = true then a env m1 else b env m1 := rfl
@[simp] theorem PD {a : DE} {g : DG} : jd a g env m = bS (a env m) env fun w m1 => Qc (g w env m1) := rfl
@[simp] theorem Ol {i : Nat} {w : W} : cg i w env m = ξ (env.set i (ξ w), m) := rfl
@[simp] theorem Qa {p : Env × M} : Qc (ξ p) = ξ (.fl .next p.1 p.2) := rfl
@[simp] theorem Qb : Qc ζ = ζ := rfl
@[simp] theorem Pz {i j : Nat} {as : DA} : sPar i j as env m = bS (as env m) env fun ws m1 => match ws with
  | [x, y] => ξ (.fl .next ((env.set i (ξ x)).set j (ξ y)) m1)
  | _ => ζ := rfl
@[simp] theorem NT {i j l : Nat} {as : DA} : PB i j l as env m = bS (as env m) env fun ws m1 => match ws with
  | [x, y, z] => ξ (.fl .next (((env.set i (ξ x)).set j (ξ y)).set l (ξ z)) m1)
  | _ => ζ := rfl
@[simp] theorem Fw {f : F3} {o i : DE} {w : W} : BO f o i w env m = N7 (o env m) fun wo m1 => N7 (i env m1) fun wi m2 => (f wo wi w m2).map fun m3 => (env, m3) := rfl
@[simp] theorem fI_int {g : Int → Int → Option W} {i j : Int} : fI g (.int i) (.int j) m = match g i j with
  | some w => ξ (w, m)
  | none => ζ := rfl
end
section
end
section
end
section
end
section
end
def kQ (d : PyData) : Bool := d.showable && (!d.hasDict && (Nat.ble d.depth 60 && Nat.ble d.shown.length sizeLine))
theorem Dg {d : PyData} (h : kQ d = true) : d.showable = true ∧ d.hasDict = false ∧ d.depth ≤ 60 ∧ d.shown.length ≤ sizeLine := by
 unfold kQ at h
 simp only [Bool.and_eq_true, Bool.not_eq_true'] at h
 exact ⟨h.1, h.2.1, Nat.le_of_ble_eq_true h.2.2.1, Nat.le_of_ble_eq_true h.2.2.2⟩
section
variable {X: Cx}
def Dl (K : PySem.W.Frag) : List V → Hp → VK → Prop := fun xs H Q => ∃ x d, xs = [x] ∧ Dp K H x d ∧ kQ d = true ∧ Q (.str d.shown) H
theorem B3 [Reprs] (hgd : Tabs.g = true → X.A.guards = ξ []) (hun : X.A.units + 200 < cLine) : CallR X (.builtin "repr") (Dl X.K) := by
 intro pins s σ H xs us Q I r h
 obtain ⟨x, d, rfl, hd, hok, q⟩ := h
 obtain ⟨u, rfl, e⟩ := vals1 r
 obtain ⟨h1, h2, h3, h4⟩ := Dg hok
 by_cases href : ∃ a, x = .ref a
 ·obtain ⟨a, rfl⟩ := href
  cases e
  obtain ⟨as, rd⟩ := Dp.reads I d (.ref a) (.ref a) hd rfl
  refine repr_of_reads' rd h1 (fun z => by rw [h2] at z; cases z) (hgd Reprs.g) (by omega) (fun b o e => e) (fun h' u tk hk => ?_) h4
  exact ⟨.str d.shown, H, I.kept hk, ⟨u, rfl⟩, q⟩
 ·cases hd with
  | non =>
   cases e
   exact PySem.P.repr_of_none ⟨.str _, H, I.tok _, ⟨_, rfl⟩, q⟩
  | bl b =>
   cases e
   exact PySem.P.repr_of_bool ⟨.str _, H, I.tok _, ⟨_, rfl⟩, by
    simp only [PyData.shown] at q
    cases b <;> exact q⟩
  | int i =>
   obtain ⟨t, rfl⟩ := e
   exact PySem.P.repr_of_int (of_decide_eq_true h1) ⟨.str _, H, I.tok _, ⟨_, rfl⟩, q⟩
  | str y =>
   obtain ⟨t, rfl⟩ := e
   exact PySem.P.repr_of_str ⟨.str _, H, I.tok _, ⟨_, rfl⟩, q⟩ h4
  | lst => exact absurd ⟨_, rfl⟩ href
  | tup => exact absurd ⟨_, rfl⟩ href
theorem tJ [Reprs] {n : Nat} (hr : RoomG n X.A) : CallR X (.builtin "repr") (Dl X.K) := B3 hr.gd (by have := hr.rm.un; omega)
def sS : FN := fun ws m => match ws with
 | [w] => match pQ m 60 w with
  | some d => if kQ d = true then ξ (.str d.shown, m) else ζ
  | none => ζ
 | _ => ζ
theorem wK {K : PySem.W.Frag} : lN K (Dl K) sS := by
 intro r m H xs ws Q E s q h
 match ws, q, h with
 | [], _, h => exact h.elim
 | _ :: _ :: _, _, h => exact h.elim
 | [w], q, h =>
  unfold sS at h
  simp only at h
  cases hd : pQ m 60 w with
  | none => rw [hd] at h; exact h.elim
  | some d =>
   rw [hd] at h
   simp only at h
   by_cases hk : kQ d = true
   ·rw [if_pos hk] at h
    obtain ⟨v, rfl, qv⟩ := q.one_of
    exact ⟨v, d, rfl, xI s _ _ _ qv hd, hk, h.done s rfl⟩
   ·rw [if_neg hk] at h
    exact h.elim
end
end SB
end
section
namespace SB
open PySem L2
open He (ga ma)
open ClX (CRead CVal pe_cval)
variable [Tabs][Past]
theorem BP {K : PySem.W.Frag} {C : Addr} (h : yF K C = true) : CRead K C (.type "type") := by
 unfold yF at h
 simp only [Bool.and_eq_true] at h
 exact ⟨h.1, He.eqO_ok h.2⟩
theorem jh {K : PySem.W.Frag} {C : Addr} {f : Str} {i : Int} (h : oO K C f i = true) : ∃ u, Con K C f (.int i) u := by
 unfold oO at h
 split at h
 ·rename_i j t e
  simp only [Bool.and_eq_true, Bool.not_eq_true'] at h
  have := of_decide_eq_true h.1
  subst this
  exact ⟨_, e, ⟨t, rfl⟩, He.eqO_ok h.2.1, h.2.2⟩
 ·cases h
section
variable {X: Cx}{Z: WX}{o: Expr}{da: DE}{pos: Pos}{C: Addr}{f: Str}
theorem j0 {i : Int} (c : Cls X.K C) (h : ∃ u, Con X.K C f (.int i) u) (ho : SE X Z o da) (hb : attributeBase o f X.env (eval o X.env) = eval o X.env := by rfl) : SE X Z (.Attribute o f pos) (jE C f (.int i) da) := by
 obtain ⟨u, h⟩ := h
 exact C6 c h (fun _ _ => rfl) ho hb
end
end SB
end
section
namespace SB
open PySem L2
variable [Tabs][Past]
section
variable {K: PySem.W.Frag}{X: Cx}
theorem Imp2.or {r1 r2 : R2} {f1 f2 : F2} {c : W → W → M → Bool} (h1 : Imp2 K r1 f1) (h2 : Imp2 K r2 f2) : Imp2 K (fun x y H Q => r1 x y H Q ∨ r2 x y H Q) (fun a b m => if c a b m = true then f1 a b m else f2 a b m) := by
 intro r m H x y w1 w2 Q E s q1 q2 h
 simp only at h
 by_cases hc : c w1 w2 m = true
 ·rw [if_pos hc] at h
  exact .inl (h1 r m H x y w1 w2 Q E s q1 q2 h)
 ·rw [if_neg hc] at h
  exact .inr (h2 r m H x y w1 w2 Q E s q1 q2 h)
def wj : F2 := fun a b m => match a, b with
 | .tup xs, .tup ys => if xs.length + ys.length ≤ sizeLine then ξ (.tup (xs ++ ys), m) else ζ
 | _, _ => ζ
theorem EH : Imp2 K (rCatA K) wj := by
 intro r m H x y w1 w2 Q E s q1 q2 h
 unfold wj at h
 split at h
 ·rename_i xs ys
  split at h
  ·rename_i hl
   obtain ⟨a, vs, rfl, hs, rs⟩ := q1
   obtain ⟨b, us, rfl, hs', rs'⟩ := q2
   refine ⟨a, b, vs, us, rfl, rfl, SqT.of hs, SqT.of hs', by rw [← rs.len, ← rs'.len]; exact hl, fun e => ?_, fun e e' => ?_, fun e e' p hp => ?_⟩
   ·subst e
    have : xs = [] := List.length_eq_zero_iff.mp (by rw [rs.len]; rfl)
    subst this
    exact h.done s ⟨b, us, rfl, hs', rs'⟩
   ·subst e'
    have : ys = [] := List.length_eq_zero_iff.mp (by rw [rs'.len]; rfl)
    subst this
    rw [List.append_nil] at h
    exact h.done s ⟨a, vs, rfl, hs, rs⟩
   ·exact uw s (rs.append rs') h hp
  ·exact h.elim
 ·exact h.elim
def Qv : W → Bool
 | .int _ => true
 | _ => false
def isS : W → Bool
 | .str _ => true
 | _ => false
def isT : W → Bool
 | .tup _ => true
 | _ => false
def jO : F2 := fun a b m => if Qv a = true then Mb a b m else if isS a = true then wk a b m else if isT a = true then wj a b m else DY a b m
abbrev Kh (K : PySem.W.Frag) : R2 := fun x y H Q => (rI0 fun i j => .int (i + j)) x y H Q ∨ (fun x y H Q => (fun x y H Q => ∃ i j, x = .str i ∧ y = .str j ∧ i.length + j.length ≤ sizeLine ∧ Q (.str (i ++ j)) H) x y H Q ∨ (fun x y H Q => rCatA K x y H Q ∨ rCat x y H Q) x y H Q) x y H Q
theorem gp : OpR X (binaryOp .Add) (Kh X.K) := op_add.or (op_add_str.or (op_catA.or op_cat))
theorem d9 : Imp2 K (Kh K) jO := Imp2.or (c := fun a _ _ => Qv a) IW (Imp2.or (c := fun a _ _ => isS a) EI (Imp2.or (c := fun a _ _ => isT a) EH IV))
def j7 : F2 := fun a b m => if Qv a = true then L8 a b m else DU a b m
abbrev Kg : R2 := fun x y H Q => (rI CMul fun i j => .int (i * j)) x y H Q ∨ rRep x y H Q
theorem g5 : OpR X (binaryOp .Mult) Kg := op_mul.or op_rep
theorem e6 : Imp2 K Kg j7 := Imp2.or (c := fun a _ _ => Qv a) IP IM
theorem PO.imp {e : Option Expr} {t u : TO} (h : PO X e t) (i : ∀ σ H Q, u σ H Q → t σ H Q) : PO X e u := ⟨fun pins s σ H Q I q => h.run pins s σ H Q I (i σ H Q q)⟩
def Fx {α : Type} (xs : List α) (lo hi : Option Int) : List α := (xs.drop (HT.sIx xs.length 0 lo)).take (HT.sIx xs.length xs.length hi - HT.sIx xs.length 0 lo)
end
end SB
namespace SB
open PySem L2
variable [Tabs][Past]
section
variable {X: Cx}{Z: WX}{a tg: Expr}{da: DE}
theorem AJ {d1 d2 : DI} (cc : Env → M → Bool) (h1 : SI X Z tg a d1) (h2 : SI X Z tg a d2) : SI X Z tg a (fun env m => if cc env m = true then d1 env m else d2 env m) := ⟨fun pins s σ H Q I ⟨r, m, env, s', e', h⟩ => by
 by_cases hc : cc env m = true
 ·simp only [if_pos hc] at h
  exact h1.run pins s σ H Q I ⟨r, m, env, s', e', h⟩
 ·simp only [if_neg hc] at h
  exact h2.run pins s σ H Q I ⟨r, m, env, s', e', h⟩⟩
def Bn : Option (R W) → Bool
 | some (.ok (.tup _) _) => true
 | some (.ok (.im (.tpl _) _) _) => true
 | _ => false
def oH (a : DE) : DI := fun env m => if Bn (a env m) = true then EJ a env m else ML a env m
theorem pX (ha : SE X Z a da) : SI X Z tg a (oH da) := AJ (fun env m => Bn (da env m)) (Ls ha) (Hl ha)
end
end SB
namespace SB
open PySem L2
variable [Tabs][Past]
section
end
end SB
end
section
namespace HT
open PySem PySem.Spec PyProof.Rows
section
end
end HT
namespace SB
open PySem PySem.Spec PyProof.Rows L2
variable [Tabs][Past]
section
end
end SB
end
section
namespace SB
open PySem PySem.Spec PyProof.Rows L2
variable [Tabs][Past]
section
variable {κ: Type}[DecidableEq κ]
def Am (kvs : List (κ × W)) (k : κ) : Option W := (kvs.find? fun kv => decide (kv.1 = k)).map (·.2)
def PR (K : PySem.W.Frag) (r : List Addr) (H : Hp) : Option W → Option V → Prop
 | some w, ξ v => RW K r H w v
 | none, ζ => True
 | _, _ => False
theorem RKV.val {K : PySem.W.Frag} {r : List Addr} {H : Hp} (k : κ) : ∀ {kvs : List (κ × W)} {vs : List (κ × V)}, RKV K r H kvs vs → PR K r H (Am kvs k) (valV vs k)
 | [], _, q => by cases q; exact True.intro
 | p :: ps, _, q => by
  obtain ⟨v, rest, rfl, q1, q2⟩ := q
  by_cases e : p.1 = k
  ·have e1 : Am (p :: ps) k = ξ p.2 := by simp [Am, List.find?_cons, e]
   rw [e1, valV_pos (p := (p.1, v)) e]
   exact q1
  ·have e1 : Am (p :: ps) k = Am ps k := by simp [Am, List.find?_cons, e]
   rw [e1, valV_neg (p := (p.1, v)) e]
   exact RKV.val k q2
theorem RKV.snoc {K : PySem.W.Frag} {r : List Addr} {H : Hp} {k : κ} {w : W} {v : V} (qw : RW K r H w v) : ∀ {kvs : List (κ × W)} {vs : List (κ × V)}, RKV K r H kvs vs → RKV K r H (kvs ++ [(k, w)]) (vs ++ [(k, v)])
 | [], _, q => by cases q; exact ⟨v, [], rfl, qw, rfl⟩
 | p :: ps, _, q => by
  obtain ⟨u, rest, rfl, q1, q2⟩ := q
  exact ⟨u, _, rfl, q1, RKV.snoc qw q2⟩
end
section
end
section
end
section
end
end SB
end
section
namespace SB
open PySem PySem.Spec L2
open PyProof.Rows hiding St
variable [Tabs][Past]
section
variable {prog: Program}{w: World}{A: Around}{s: Shared}
abbrev ActT := Shared → (Shared → Prop) → (Value → Shared → Prop) → Prop
def Cr (prog : Program) (w : World) (A : Around) (tg : Expr) (ifs : List Expr) (env : PySem.Env) (act : ActT) (it : Value) (done : Shared → Prop) (nxt : Shared → Prop) (E : Value → Shared → Prop) (s : Shared) : Prop :=
  wpAny (model prog w) A (pyNext it) (fun r s1 => match r with
    | none => done s1
    | some v => wpAny (model prog w) A (letOwnedTupleGo tg it v) (fun _ s2 => wpAny (model prog w) A (assign tg env v) (fun _ s3 =>
        wpAny (model prog w) A (forIn ifs true fun c r => if r = true then do let ok ← isTrue c env (eval c env); pure (ForInStep.yield ok) else pure (ForInStep.yield r)) (fun ok s4 => if ok = true then act s4 nxt E else nxt s4) E s3) E s2) E s1) E s
def Ad (prog : Program) (w : World) (A : Around) (e : Expr) (d : Nat) (tg : Expr) (ifs : List Expr) (acc : Value) (env : PySem.Env) (act : ActT) : Prop :=
 ∀ (it : Value) (Q : PySem.Fin → Shared → Prop) (E : Value → Shared → Prop) (s : Shared), Cr prog w A tg ifs env act it (fun s' => Q (.done .next) s') (fun s' => Q (.again (.compLoop e d it acc env)) s') E s → wpAny (model prog w) A (compTurn e d it acc env) Q E s
def JN (prog : Program) (w : World) (A : Around) (elt : Expr) (acc : Value) (env : PySem.Env) : ActT := fun s K E => wpAny (model prog w) A (eval elt env) (fun x s1 => wpAny (model prog w) A (call (.builtin "list.append") [acc, x]) (fun _ s2 => K s2) E s1) E s
theorem xH {elt tg iter : Expr} {ifs : List Expr} {gens : List Comprehension} {scope : Scope} {pos : Pos} {d : Nat} {acc : Value} {env : PySem.Env} (h : gens[d]? = ξ ⟨tg, iter, ifs, 0⟩) (h1 : gens[d + 1]? = ζ) :
  Ad prog w A (.ListComp elt gens scope pos) d tg ifs acc env (JN prog w A elt acc env) := by
 intro it Q E s ht
 unfold compTurn
 simp only [h, h1]
 refine wpAny_bind (wpAny_standAt (wpAny_bind (wpAny_mono ht (fun r s1 q1 => ?_) fun _ _ z => z)))
 cases r with
 | none => exact wpAny_pure q1
 | some v =>
  refine wpAny_bind (wpAny_mono q1 (fun _ s2 q2 => ?_) fun _ _ z => z)
  refine wpAny_bind (wpAny_mono q2 (fun _ s3 q3 => wpAny_bind (wpAny_mono q3 (fun ok s4 q4 => ?_) fun _ _ z => z)) fun _ _ z => z)
  cases ok with
  | false => exact wpAny_pure q4
  | true => exact wpAny_bind (wpAny_bind (wpAny_mono q4 (fun x s5 q5 => wpAny_bind (wpAny_mono q5 (fun _ s6 q6 => wpAny_pure (wpAny_pure q6)) fun _ _ z => z)) fun _ _ z => z))
inductive IsCmp : Expr → List Comprehension → Prop
 | lst {elt gens scope pos} : IsCmp (.ListComp elt gens scope pos) gens
 | dct {kx vx gens scope pos} : IsCmp (.DictComp kx vx gens scope pos) gens
 | set {elt gens scope pos} : IsCmp (.SetComp elt gens scope pos) gens
theorem Ee {e tg : Expr} {ifs : List Expr} {gens : List Comprehension} {d : Nat} {it acc : Value} {env : PySem.Env} {act : ActT} {R : Result → Shared → Prop} (hc : IsCmp e gens) (hT : Ad prog w A e d tg ifs acc env act) (I : Nat → Shared → Prop)
  (turn : ∀ n s, I n s → Cr prog w A tg ifs env act it (fun s' => R (.ok .next) s') (fun s' => Code.compLoop e d it acc env = .compLoop e d it acc env ∧ ∃ m, m < n ∧ I m s') (notedBy (model prog w) A env fun x s' => R (.error x) s') s) (n : Nat) (h : I n s) :
  codeAny (model prog w) A (.compLoop e d it acc env) R s := by
 refine codeAny_loop rfl I (fun n s hI => ?_) n h
 have key : wpAny (model prog w) A (compTurn e d it acc env) (fun fin s' => match fin with
   | .done f => R (.ok f) s'
   | .again c' => c' = .compLoop e d it acc env ∧ ∃ m, m < n ∧ I m s') (notedBy (model prog w) A env fun x s' => R (.error x) s') s := by
  exact hT it _ _ s (turn n s hI)
 cases hc <;> exact wpAny_noted key
theorem AF {e tg iter : Expr} {ifs : List Expr} {gens : List Comprehension} {d : Nat} {it acc : Value} {env : PySem.Env} {R : Result → Shared → Prop} (hc : IsCmp e gens) (h : gens[d]? = ξ ⟨tg, iter, ifs, 0⟩) (h0 : codeAny (model prog w) A (.compLoop e d it acc env) R s)
  (h1 : wpAny (model prog w) A (pyIter it) (fun it' s' => codeAny (model prog w) A (.compLoop e d it' acc env) R s') (notedBy (model prog w) A env fun x s' => R (.error x) s') s) :
  codeAny (model prog w) A (.compStart e d it acc env) R s := by
 refine codeAny_of_tree ?_
 have key : wpAny (model prog w) A (compStart e d it acc env) (fun fin s' => match fin with
   | .done f => R (.ok f) s'
   | .again c' => c'.quiet = true ∧ codeAny (model prog w) A c' R s') (notedBy (model prog w) A env fun x s' => R (.error x) s') s := by
  have hcl : (clausesOf e)[d]? = ξ ⟨tg, iter, ifs, 0⟩ := by cases hc <;> exact h
  unfold compStart
  rw [hcl]
  refine wpAny_bind (wpAny_askSetting (wpAny_ite ?_))
  split
  ·first
    | exact wpAny_bind (wpAny_pure (wpAny_pure (And.intro rfl h0)))
    | exact wpAny_pure (And.intro rfl h0)
  ·refine wpAny_bind (wpAny_rule ?_)
   first
    | exact wpAny_bind (wpAny_standAt (wpAny_bind (wpAny_mono h1 (fun it' s' h' => wpAny_pure (And.intro rfl h')) fun _ _ x => x)))
    | (show wpAny _ _ (standAt iter.pos >>= _) _ _ s; exact wpAny_bind (wpAny_standAt (wpAny_bind (wpAny_mono h1 (fun it' s' h' => wpAny_pure (And.intro rfl h')) fun _ _ x => x))))
 cases hc <;> exact wpAny_notedAt key
end
abbrev TN := St → Hp → (Hp → Prop) → Prop
def wB (J : It) (g : TG) (tt : TT) (vs : List Nat) (inner : TN) : TN := fun σ H Nx => ∃ W : Nat → Nat → Hp → Prop, (∃ m, W 0 m H) ∧ ∀ i m H, W i m H → (J.stop i H ∧ Nx H) ∨
 (J.go i H ∧ ∃ N1 : Hp → Prop, (∀ H', N1 H' → ∃ m', m' < m ∧ W (i + 1) m' H') ∧ ∀ x H', J.yld i H x H' → g x (wipe σ vs) H' fun σ2 H2 => wipe σ2 vs = wipe σ vs ∧ tt σ2 H2 fun b H3 => if b = true then inner σ2 H3 N1 else N1 H3)
structure PAct (X : Cx) (act : ActT) (us : List Nat) (inner : TN) : Prop where
 run : ∀ (pins : List (Addr × Obj)) (s : Shared) (σ : St) (H : Hp) (N : Hp → Prop) (K : Shared → Prop) (E : Value → Shared → Prop), Inv X pins σ H s → inner σ H N → (∀ s' σ' H', Inv X pins σ' H' s' → wipe σ' us = wipe σ us → N H' → K s') → act s K E
theorem Ck {σ σ' : St} {us vs : List Nat} (h : wipe σ' us = wipe σ us) (hs : ∀ i ∈ us, i ∈ vs) : wipe σ' vs = wipe σ vs := by
 have hl : σ'.length = σ.length := by rw [← wipe_length σ' us, ← wipe_length σ us, h]
 refine List.ext_getElem? fun i => ?_
 rw [eQ, eQ]
 by_cases hi : i ∈ vs
 ·rw [if_pos hi, if_pos hi]
  by_cases hlt : i < σ.length
  ·rw [List.getElem?_eq_getElem hlt, List.getElem?_eq_getElem (by omega)]; rfl
  ·rw [List.getElem?_eq_none (by omega), List.getElem?_eq_none (by omega)]
 ·rw [if_neg hi, if_neg hi]
  have hu : i ∉ us := fun z => hi (hs i z)
  rw [← wipe_out (vs := us) hu, h, wipe_out hu]
section
variable {X: Cx}{e tg: Expr}{ifs: List Expr}{gens: List Comprehension}{d: Nat}{D: Addr}{act: ActT}{us vs: List Nat}{inner: TN}
theorem xg (hcm : IsCmp e gens) (hc : X.calm = true) (hx : ∀ v s, X.xe v s → False) (hT : Ad X.prog X.w X.A e d tg ifs (.ref D) X.env act) (pg : PG X tg g) (pt : PTs X ifs tt) (pa : PAct X act us inner) (hus : ∀ i ∈ us, i ∈ vs)
  {pins : List (Addr × Obj)} {s : Shared} {σ : St} {H : Hp} {it : Addr} {fp : List Addr} {tn : Nat → Heap → Prop} {J : It} {N : Hp → Prop} {R : Result → Shared → Prop} (I : Inv X pins σ H s) (T : Turn X.prog X.w X.K tg J fp it tn) (st : tn 0 s.heap) (f : ∀ b ∈ fp, FpOk X pins H b)
  (hl : wB J g tt vs inner σ H N) (hR : ∀ s' σ' H', Inv X pins σ' H' s' → wipe σ' vs = wipe σ vs → N H' → R (.ok .next) s') : codeAny (model X.prog X.w) X.A (.compLoop e d (.ref it) (.ref D) X.env) R s := by
 obtain ⟨W, ⟨m0, w0⟩, turn⟩ := hl
 have fOk : ∀ {H' : Hp}, (∀ b ∈ fp, H' b = ζ) → ∀ b ∈ fp, FpOk X pins H' b := fun hn b hb => ⟨hn b hb, (f b hb).2⟩
 have hww : wipe (wipe σ vs) vs = wipe σ vs := by
  refine List.ext_getElem? fun i => ?_
  rw [eQ]
  by_cases hi : i ∈ vs
  ·rw [if_pos hi, eQ, if_pos hi, Option.map_map]; rfl
  ·rw [if_neg hi]
 refine Ee hcm hT (fun n s' => ∃ i H', Inv X pins (wipe σ vs) H' s' ∧ tn i s'.heap ∧ (∀ b ∈ fp, H' b = ζ) ∧ W i n H') ?_ m0 ⟨0, H, I.weak (wipe_length _ _) (fun j v z => (wipe_some z).1), st, fun b hb => (f b hb).1, w0⟩
 rintro n s5 ⟨i, H5, I5, st5, n5, w5⟩
 unfold Cr
 rcases turn i n H5 w5 with ⟨stop, qq⟩ | ⟨go, N1, hN1, step⟩
 ·refine thnF (T.done X rfl rfl rfl hc i pins s5 _ H5 (fun _ _ => False) I5 (fOk n5) st5 stop) fun r s6 ⟨hr, I6⟩ => ?_
  subst hr
  exact hR s6 (wipe σ vs) H5 I6 hww qq
 ·refine thnF (T.item X rfl rfl rfl hc i pins s5 _ H5 (fun _ _ => False) I5 (fOk n5) st5 go) fun r s6 ⟨u, hr, h6⟩ => ?_
  subst hr
  refine thnF h6 fun _ s7 ⟨x, H7, I7, r7, y7, st7, n7⟩ => ?_
  have I7' := I7.pinned (fOk n7) (T.obj _ _ st7)
  refine wpAny_mono (pg.run _ s7 _ H7 x u _ I7' r7 (step x H7 y7)) (fun _ s8 ⟨σ8, H8, I8, hw8, q8⟩ => ?_) fun v s z => (hx v s z).elim
  refine wpAny_mono (pt.run _ s8 σ8 H8 _ I8 q8) (fun b s9 ⟨H9, I9, q9⟩ => ?_) fun v s z => (hx v s z).elim
  have fin : ∀ {σ9 : St} {s' : Shared} {H' : Hp}, Inv X (pins ++ pinsAt fp s7.heap) σ9 H' s' → wipe σ9 vs = wipe σ vs → N1 H' → ∃ m, m < n ∧ ∃ i H', Inv X pins (wipe σ vs) H' s' ∧ tn i s'.heap ∧ (∀ b ∈ fp, H' b = ζ) ∧ W i m H' := fun {σ9 s' H'} I' hw nx => by
   obtain ⟨m', hm, w'⟩ := hN1 H' nx
   have pin' : ∀ b ∈ fp, ∀ o, s7.heap.get? b = ξ o → s'.heap.get? b = ξ o ∧ H' b = ζ := fun b hb o z =>
    let y := I'.pin (b, o) (List.mem_append_right _ (List.mem_append_right _ (mem_pinsAt hb z)))
    ⟨y.1, y.2.1⟩
   refine ⟨m', hm, i + 1, H', I'.unpinned.weak (by rw [← hw, wipe_length]) (fun j v z => by rw [← hw] at z; exact (wipe_some z).1), T.keep _ _ _ st7 fun b hb o z => (pin' b hb o z).1, fun b hb => ?_, w'⟩
   obtain ⟨o, z, _⟩ := T.obj _ _ st7 b hb
   exact (pin' b hb o z).2
  cases b with
  | false =>
   rw [if_neg (by simp)] at q9 ⊢
   exact ⟨rfl, fin I9 hw8 q9⟩
  | true =>
   rw [if_pos rfl] at q9 ⊢
   exact pa.run _ s9 σ8 H9 N1 _ _ I9 q9 fun s' σ' H' I' hw' nx => ⟨rfl, fin I' ((Ck hw' hus).trans hw8) nx⟩
theorem Ai {σ : St} {vs : List Nat} : wipe (wipe σ vs) vs = wipe σ vs := by
 refine List.ext_getElem? fun i => ?_
 rw [eQ]
 by_cases hi : i ∈ vs
 ·rw [if_pos hi, eQ, if_pos hi, Option.map_map]; rfl
 ·rw [if_neg hi]
theorem yg {J : It} {σ : St} {H : Hp} {N : Hp → Prop} (h : wB J g tt vs inner σ H N) : wB J g tt vs inner (wipe σ vs) H N := by
 unfold wB at h ⊢
 rw [Ai]
 exact h
end
section
variable {K: PySem.W.Frag}{r: List Addr}{H: Hp}{p: Addr}{u u0: HO}
def opn : HO → Prop
 | .tup _ => False
 | .frz _ _ => False
 | .tbl _ => False
 | .ext p => ∀ c q, HO.ext p ≠ LamX.CodeO c q
 | _ => True
theorem HW (h : opn u0) : ∀ ps, u0 ≠ .tbl ps := fun ps z => by rw [z] at h; exact h
def isAcc : O → Bool
 | .lst _ => true
 | .dct _ => true
 | .dtp _ => true
 | _ => false
theorem Bo {o : O} (ha : isAcc o = true) (q : RO K r H o u) : opn u := by
 cases o <;> first | cases ha | skip
 all_goals obtain ⟨vs, rfl, _⟩ := q; trivial
end
section
variable {K: PySem.W.Frag}{D: Addr}
structure At (K : PySem.W.Frag) (D : Addr) (r0 : List Addr) (H0 : Hp) (r : List Addr) (m : M) (H : Hp) (o : O) (u : HO) : Prop where
 lt : Lt K r0 H0 r H
 sim : Sim K r m H
 nin : D ∉ r
 at_ : H D = ξ u
 ro : RO K r H o u
 acc : isAcc o = true
theorem At.go {r0 r r' : List Addr} {H0 H H' : Hp} {m m' : M} {o : O} {u : HO} (a : At K D r0 H0 r m H o u) (l : Lt K r H r' H') (s : Sim K r' m' H') : At K D r0 H0 r' m' H' o u :=
 have hn : D ∉ r' := fun z => by
  have := l.fresh D z a.nin
  rw [a.at_] at this
  cases this
 ⟨a.lt.trans l, s, hn, l.kept D _ a.at_ a.nin (HW (Bo a.acc a.ro)), a.ro.mono l, a.acc⟩
def Ey (D : Addr) (te : TE) : TN := fun σ H N => te σ H fun y H1 => ∃ acc, H1 D = ξ (.lst acc) ∧ acc.length < sizeLine ∧ N (upd H1 D (.lst (acc ++ [y])))
end
section
variable {X: Cx}
theorem PAct.imp {act : ActT} {us : List Nat} {t t' : TN} (h : PAct X act us t) (i : ∀ σ H N, t' σ H N → t σ H N) : PAct X act us t' := ⟨fun pins s σ H N K E I q => h.run pins s σ H N K E I (i σ H N q)⟩
theorem Bb {elt : Expr} {D : Addr} {te : TE} (hx : ∀ v s, X.xe v s → False) (he : PE X elt te) : PAct X (JN X.prog X.w X.A elt (.ref D) X.env) [] (Ey D te) := ⟨fun pins s σ H N K E I h hK => by
 unfold JN
 refine wpAny_mono (he.run pins s σ H _ I h) (fun u s1 ⟨y, H1, I1, r1, acc, hD, hz, q1⟩ => ?_) fun v s z => (hx v s z).elim
 exact app_ok I1 hD hz r1 fun s' I' => hK s' σ _ I' rfl q1⟩
section
end
theorem DZ : ∃ ob : Obj, (∀ (A : Around) (Q : Value → Shared → Prop) (E : Value → Shared → Prop) (s : Shared), Q (.ref s.heap.objs.size) { s with heap := s.heap.push ob } → wpAny (model X.prog X.w) A (newList []) Q E s) ∧
  ∀ (H : Hp) (h : Heap), sysModules < h.objs.size → ObjOk X.prog X.w H (h.push ob) h.objs.size (.lst []) :=
 ⟨{ cls := .type "list", data := .seq ([] : List Value).toArray }, fun A Q E s h => wpAny_newObj_type h (by show 0 ≤ sizeLine; decide), fun H h hb => ⟨Nat.zero_le _, [], 0, .nil, Heap.get?_push_size _ rfl⟩⟩
end
section
variable {X: Cx}{Z: WX}{k: Nat}
variable {tg iter: Expr}{scope: Scope}{own: List (Str × Nat)}{di: DI}
section
variable (C: Ctx X Z k)(hi: SI X Z tg iter di)(ok: BlkOk X.N X.env.scope scope own)
include C hi ok
end
end
section
variable {κ: Type}[DecidableEq κ]
end
section
end
end SB
end
section
namespace SB
open PySem PySem.Spec L2
open AutoSeq1 (wpAny_loadPart')
variable [Tabs][Past]
section
end
section
end
end SB
end
section
namespace SB
open PySem L2
open PyProof.Rows (seqObj ksk_tree ksk_rest ksk_end ksk_tail arrOf failedOf SortSt SortedTo IntsAre get?_update_seq listUpdate_at listItems_at seqEpoch_at ksk_fold ksk_snoc ksk_out KskOut collect_list)
variable [Tabs][Past]
section
end
end SB
end
section
namespace SB
open PySem PySem.Spec L2
variable [Tabs][Past]
section
variable {α: Type}
def yn (x : Int × α) : List (Int × α) → List (Int × α)
 | [] => [x]
 | y :: ys => if x.1 ≤ y.1 then x :: y :: ys else y :: yn x ys
def qO : List (Int × α) → List (Int × α)
 | [] => []
 | x :: xs => yn x (qO xs)
theorem nM (x : Int × α) : ∀ l, (yn x l).Perm (x :: l)
 | [] => .refl _
 | y :: ys => by
  unfold yn
  split
  ·exact .refl _
  ·exact ((nM x ys).cons y).trans (.swap x y ys)
theorem oy : ∀ l : List (Int × α), (qO l).Perm l
 | [] => .refl _
 | x :: xs => (nM x _).trans ((oy xs).cons x)
theorem oE (x : Int × α) : ∀ l, l.Pairwise (fun p q => p.1 ≤ q.1) → (yn x l).Pairwise (fun p q => p.1 ≤ q.1)
 | [], _ => by simp [yn]
 | y :: ys, h => by
  unfold yn
  have h' := List.pairwise_cons.mp h
  split
  ·rename_i hxy
   refine List.pairwise_cons.mpr ⟨fun z hz => ?_, h⟩
   rcases List.mem_cons.mp hz with rfl | hz
   ·exact hxy
   ·exact Int.le_trans hxy (h'.1 z hz)
  ·rename_i hxy
   refine List.pairwise_cons.mpr ⟨fun z hz => ?_, oE x ys h'.2⟩
   rcases List.mem_cons.mp ((nM x ys).subset hz) with rfl | hz
   ·omega
   ·exact h'.1 z hz
theorem kW : ∀ l : List (Int × α), (qO l).Pairwise (fun p q => p.1 ≤ q.1)
 | [] => .nil
 | x :: xs => oE x _ (kW xs)
end
def j' (ns : List Int) : List Int := (qO (ns.map fun n => (n, ()))).map (·.1)
theorem oz (ns : List Int) : (j' ns).Perm ns := by
 have := (oy (ns.map fun n => (n, ()))).map (·.1)
 simpa [j', Function.comp_def] using this
theorem rW (ns : List Int) : (j' ns).Pairwise (· ≤ ·) := List.Pairwise.map _ (fun a b h => h) (kW (ns.map fun n => (n, ())))
section
end
section
end
section
end
section
end
section
end
section
end
def xj (a : DE) (as : DA) : DA := fun env m => bnd (a env m) fun w m1 => match jc m1 w with
 | some xs => bnd (as env m1) fun ys m2 => ξ (.ok (xs ++ ys) m2)
 | none => ζ
section
end
end SB
end
section
namespace L2
open PySem PySem.Spec PyProof.Rows
section
end
section
end
section
end
section
end
end L2
namespace SB
open PySem PySem.Spec L2
open PyProof.Rows hiding St
variable [Tabs][Past]
section
end
end SB
end
section
namespace L2
open PySem PySem.Spec PyProof.Rows
section
end
end L2
end
section
namespace SB
open PySem PySem.Spec L2
open PyProof.Rows hiding St
variable [Tabs][Past]
def Et (ks : List (List Int)) : List (List Int) := (qO (ks.map fun k => (TS.code 64 k, k))).map (·.2)
def okU (ks : List (List Int)) : Bool := match ks with
 | [] => true
 | k :: _ => ks.all fun l => l.length == k.length && l.all fun i => decide (0 ≤ i) && decide (i < 64)
def M6 : List (List Int) → List (List Int)
 | [] => []
 | k :: ks => if k ∈ ks then M6 ks else k :: M6 ks
def setT (ks : List (List Int)) : List (List Int) := Et (M6 ks)
section
def LC (ks : List (List Int)) : Bool := okU ks && (decide (ks.length ≤ 1) || !(ks.head? == ξ []))
end
section
end
section
end
def spIni (K : PySem.W.Frag) (C : Addr) (fs : List Str) : Sp := fun vs H Q _ => ∃ (a : Addr) (ws : List V), vs = .ref a :: ws ∧ ws.length = fs.length ∧ H a = ξ (exo a C ζ) ∧
 ∀ (dx : Addr) (H' : Hp), H dx = ζ → dx ≠ a → H' a = ξ (exo a C (ξ dx)) → H' dx = ξ (exd dx (fs.zip ws).reverse) → (∀ b, b ≠ a → b ≠ dx → H' b = H b) → Q .non H'
def CD (K : PySem.W.Frag) : List (Str × Nat) → TS
 | [] => tNext
 | (f, i) :: r => tSeq (tOst K f (tVar 0) (tVar i)) (CD K r)
theorem zP {K : PySem.W.Frag} {C a dx : Addr} {D : Ends} {σ : St} (T : OexC K C) (hs : σ[0]? = ξ (ξ (.ref a))) (ne : dx ≠ a) : ∀ {fis : List (Str × Nat)} {ws : List V} {acc : List (Str × V)} {H H0 : Hp},
  (∀ p ∈ fis.zip ws, σ[p.1.2]? = ξ (ξ p.2)) → fis.length = ws.length → (∀ p ∈ fis, PySem.W.findIn K (.ref C) p.1 = ξ ζ) → acc.length + fis.length ≤ 900 → H a = ξ (exo a C (ξ dx)) → H dx = ξ (exd dx acc) → (∀ b, b ≠ a → b ≠ dx → H b = H0 b) →
  (∀ H', H' a = ξ (exo a C (ξ dx)) → H' dx = ξ (exd dx (((fis.map (·.1)).zip ws).reverse ++ acc)) → (∀ b, b ≠ a → b ≠ dx → H' b = H0 b) → D.nx σ H') → CD K fis D σ H
 | [], [], acc, H, H0, _, _, _, _, ha, hd, hk, q => q H ha (by simpa using hd) hk
 | [], _ :: _, _, _, _, _, hl, _, _, _, _, _, _ => by cases hl
 | _ :: _, [], _, _, _, _, hl, _, _, _, _, _, _ => by cases hl
 | (f, i) :: fis, y :: ws, acc, H, H0, hv, hl, hf, hz, ha, hd, hk, q => by
  refine ⟨y, hv ((f, i), y) (by simp), _, hs, a, C, rfl, T, hf (f, i) (by simp), .inr ⟨dx, acc, ha, hd, by simp at hz; omega, ?_⟩⟩
  refine zP T hs ne (H0 := H0) (ws := ws) (fun p hp => hv p (by simp [hp])) (by simpa using hl) (fun p hp => hf p (by simp [hp])) (by simp at hz ⊢; omega) (by rw [upd_ne ne.symm]; exact ha) upd_same (fun b h1 h2 => by rw [upd_ne h2]; exact hk b h1 h2) fun H' a1 a2 a3 => q H' a1 ?_ a3
  rw [a2]
  simp
theorem B6 : ∀ {fs : List Str} {ws pre : List V}, ∀ p ∈ (fs.zip (List.range' pre.length fs.length)).zip ws, (pre ++ ws)[p.1.2]? = ξ p.2
 | [], _, _, p, h => by simp at h
 | _ :: _, [], _, p, h => by simp at h
 | f :: fs, w :: ws, pre, p, h => by
  rw [List.length_cons, List.range'_succ, List.zip_cons_cons, List.zip_cons_cons] at h
  rcases List.mem_cons.mp h with rfl | h
  ·simp
  ·have := B6 (fs := fs) (ws := ws) (pre := pre ++ [w]) p (by simpa using h)
   simpa using this
theorem MH {K : PySem.W.Frag} {C : Addr} {fs : List Str} {vs : List V} {H : Hp} {Q : VK} {E : XK} {N : List Str} {f0 : Str} {fs' : List Str} (hfs : fs = f0 :: fs') (T : OexC K C) (hf : ∀ f ∈ fs, PySem.W.findIn K (.ref C) f = ξ ζ) (hz : fs.length ≤ 900) (h : spIni K C fs vs H Q E) :
  CD K (fs.zip (List.range' 1 fs.length)) { nx := fun _ H' => Q .non H', rt := Q } (start N vs) H := by
 obtain ⟨a, ws, rfl, hl, ha, q⟩ := h
 subst hfs
 cases ws with
 | nil => cases hl
 | cons y ws =>
  have hst : ∀ (i : Nat) (v : V), ([V.ref a, y] ++ ws)[i]? = ξ v → (start N (V.ref a :: y :: ws))[i]? = ξ (ξ v) := fun i v e => by
   have hi := (List.getElem?_eq_some_iff.mp e).1
   unfold L2.start
   rw [List.getElem?_append_left (by simpa using hi), List.getElem?_map]
   have e' : (V.ref a :: y :: ws)[i]? = ξ v := e
   rw [e']
   rfl
  have h0 : (start N (V.ref a :: y :: ws))[0]? = ξ (ξ (.ref a)) := hst 0 _ rfl
  rw [List.length_cons, List.range'_succ, List.zip_cons_cons]
  have hl' : ws.length = fs'.length := by simpa using hl
  refine ⟨y, hst 1 _ rfl, _, h0, a, C, rfl, T, hf f0 (by simp), .inl ⟨ha, fun dx hn ne => ?_⟩⟩
  refine zP T h0 ne (H0 := H) (ws := ws) (acc := [(f0, y)]) (fun p hp => hst _ _ (B6 (pre := [V.ref a, y]) p (by simpa using hp))) (by simp [hl']) (fun p hp => hf p.1 (by simp [(List.of_mem_zip hp).1])) (by simp at hz ⊢; omega) upd_same (by rw [upd_ne ne]; exact upd_same) (fun b h1 h2 => by rw [upd_ne h1, upd_ne h2]) fun H' a1 a2 a3 => q dx H' hn ne a1 ?_ a3
  rw [a2, List.map_fst_zip (by simp)]
  simp
section
variable {P: Program}{w: World}{K: PySem.W.Frag}{mg: Str → Option Value}{base: Heap}{x qual: Str}{params: Arguments}{body: List Stmt}{scope: Scope}{dvs: List V}{kws: List (Str × V)}{f C: Addr}{fd: FuncData}
theorem MU {N ps : List Str} {fs : List Str} {f0 : Str} {fs' : List Str} (F : FunD K x qual params body scope dvs kws f fd) (S : FnScope N ps scope) (hfs : fs = f0 :: fs') (hps : ps.length = fs.length + 1) (T : OexC K C) (hf : ∀ f ∈ fs, PySem.W.findIn K (.ref C) f = ξ ζ) (hz : fs.length ≤ 900)
  (hb : ∀ X : Cx, X.K = K → X.N = N → X.env.scope = scope → PSs X body (CD K (fs.zip (List.range' 1 fs.length)))) : FnG P w K mg base (L2.CX P w) 1 f fd ps (spIni K C fs) := by
 obtain ⟨oc, od, dV, kV, doc, pm, an, cdv, ct, osl, rfl, lk, hcd, _, _⟩ := F.ex
 exact yz lk hcd S (fun vs H Q E ⟨a, ws, e, hl, _⟩ => by rw [e, hps]; simp [hl]) fun A outer s H vs Q E hr hsp => ⟨_, hb _ rfl rfl rfl, MH hfs T hf hz hsp⟩
end
section
variable {X: Cx}{e: Expr}{es: List Expr}{p pos: Pos}{x: Str}{C fI: Addr}{j: Nat}{fd: FuncData}{ps fs: List Str}{ta: TA}
theorem HL (T : OexC X.K C) (iC : PySem.W.findIn X.K (.ref C) "__init__" = ξ (ξ (.ref fI))) (tI : PySem.W.typeIn X.K (.ref fI) = ξ (.type "function")) (F1 : FnG X.prog X.w X.K X.mg X.base (L2.CX X.prog X.w) j fI fd ps (spIni X.K C fs)) (hr : RoomG (j + 1) X.A) (hb : Binds X.K fd ps [])
  (hx : Passes (L2.CX X.prog X.w) X (fun _ _ _ => False)) (hg : Gl X x) (hm : X.mg x = ξ (.ref C)) (ha : PA X (e :: es) ta)
  (hdb : (x == ("__debug__" : Str)) = false) (he : starEach (e :: es) X.env = (false, eval e X.env) :: starEach es X.env) (hpl : (backTo pos (starEach es X.env)).any (·.1) = false) :
  PMk X (.Call (.Name x p) (e :: es) [] pos) (fun σ H Q => ta σ H fun vs H1 => vs.length = fs.length ∧ vs.length ≤ 1000 ∧ ∀ d, H1 d = ζ → Q (.ref C) (ξ d) (upd H1 d (.xd (fs.zip vs).reverse))) := by
 intro pins s σ H Q I h
 obtain ⟨nm, qn, N, bs, bm, sn, sub, ab, col, dd, k0, k1, k2, k3, k5, hC, hbm⟩ := T.cls
 refine wpAny_Call_Name_kw (ld_glob I hg hm ?_ hdb)
 refine PySem.W.callWith_K (h₀ := X.base) I.ok.mod.kin T.kC (thn (ha.run pos pins s σ H _ I h) fun us s1 ⟨vs, H1, I1, r1, hvl, hz, q1⟩ => ⟨I1.kIn, ?_⟩) he hpl
 show wpAny _ _ (call (.ref C) us) _ _ _
 obtain ⟨hp, g, dr, tk, os⟩ := s1
 have hsz : hp.objs.size ≤ hp.objs.size + 1 := Nat.le_succ _
 have hn : H1 (hp.objs.size + 1) = ζ := I1.hok.fresh hsz
 have kk : ∀ b o, hp.get? b = ξ o → ((hp.push (PySem.W.kdv_tup us)).push (PySem.HandSPX.excO C hp.objs.size)).get? b = ξ o := fun b o e => Heap.get?_push_of_some _ (Heap.get?_push_of_some _ e)
 have hget : ((hp.push (PySem.W.kdv_tup us)).push (PySem.HandSPX.excO C hp.objs.size)).get? (hp.objs.size + 1) = ξ (PySem.HandSPX.excO C hp.objs.size) := by heap_get
 generalize hA : hp.objs.size + 1 = a at *
 have I2 : Inv X pins σ (upd H1 a (exo a C ζ)) ⟨(hp.push (PySem.W.kdv_tup us)).push (PySem.HandSPX.excO C hp.objs.size), g, dr, tk, os⟩ :=
  I1.laid (t' := tk) (a := a) (o := exo a C ζ) (h' := (hp.push (PySem.W.kdv_tup us)).push (PySem.HandSPX.excO C hp.objs.size)) kk hsz (exo_ok hget)
 have hq : spIni X.K C fs (.ref a :: vs) (upd H1 a (exo a C ζ)) (fun v H2 => v = .non ∧ ∃ (d : Addr) (gs : List (Str × V)), H2 a = ξ (exo a C (ξ d)) ∧ H2 d = ξ (exd d gs) ∧ H1 d = ζ ∧ Q (.ref C) (ξ d) (upd (L2.del H2 a) d (.xd gs))) (fun _ _ _ => False) := by
  refine ⟨a, vs, rfl, hvl, upd_same, fun dx H' h1 ne h2 h3 h4 => ⟨rfl, dx, _, h2, h3, by rw [upd_ne ne] at h1; exact h1, ?_⟩⟩
  have hd1 : H1 dx = ζ := by rw [upd_ne ne] at h1; exact h1
  have e : upd (L2.del H' a) dx (.xd (fs.zip vs).reverse) = upd H1 dx (.xd (fs.zip vs).reverse) := by
   funext b
   by_cases hb : b = dx
   ·subst hb
    rw [upd_same, upd_same]
   ·rw [upd_ne hb, upd_ne hb]
    by_cases hb2 : b = a
    ·subst hb2
     rw [L2.del_same, hn]
    ·rw [L2.del_ne hb2, h4 b hb2 hb, upd_ne hb2]
  rw [e]
  exact q1 dx hd1
 have r2 : Vals (V.ref a :: vs) (Value.ref a :: us) := .cons rfl r1
 have hl : (Value.ref a :: us).length = ps.length := by
  have e := r2.length
  rw [F1.len _ _ _ _ hq] at e
  exact e.symm
 have hus : us.length ≤ sizeLine := by
  rw [← Paired.length r1, sizeLine_eq]
  omega
 subst hA
 have hb2 := hb _ (Value.ref (hp.objs.size + 1) :: us) I2.kIn (by simpa using hl)
 rw [List.append_nil] at hb2
 refine wpAny_call (PySem.HandSPX.call_own F.excBase_ValueError (fun Y => PySem.HandSPX.refsVE_contains Y bm hbm) (I1.kIn _ _ hC) (PySem.W.looks_findIn I1.kIn iC) (fun self => PySem.W.bind_fn I1.kIn self tI) hus
  (codeAny_mono (F1.run _ X.stack _ _ ⟨Value.ref (hp.objs.size + 1) :: us, []⟩ (Value.ref (hp.objs.size + 1) :: us) _ _ (fun _ _ _ => False) (hr.make C us []) (I2.env0.make C us []) hb2 r2 hq) fun r s' hq' => ?_))
 cases r with
 | error er => exact hx pins σ _ _ er s' I2 hq'
 | ok fl =>
  cases fl <;> first | exact False.elim hq' | skip
  obtain ⟨v, H2, os2, bare2, un2, hok2, rv, ev, d, gs, ea, ed, hd1, q2⟩ := hq'
  subst ev
  obtain ⟨h2, g2, d2, t2, os'⟩ := s'
  exact ⟨rv, mk_end (raises_own T.exC T.tyC) I1 hsz kk un2 hok2 os2 bare2 ea ed hd1 q2⟩
end
def lu (C : Addr) (fs : List Str) (das : DA) : DS := fun env m => bS (das env m) env fun ws m1 => if ws.length = fs.length ∧ ws.length ≤ 1000 then ξ (.exc C (ξ m1.length) env (m1 ++ [.xd (fs.zip ws).reverse])) else ζ
def jw (C : Addr) : DS := fun env m => ξ (.exc C ζ env m)
theorem RKV.zip {K : PySem.W.Frag} {r : List Addr} {H : Hp} : ∀ {fs : List Str} {ws : List W} {vs : List V}, RWs K r H ws vs → RKV K r H (fs.zip ws) (fs.zip vs)
 | [], ws, vs, _ => by simp [RKV]
 | f :: fs, [], vs, q => by cases (show vs = [] from q); simp [RKV]
 | f :: fs, w :: ws, vs, q => by
  obtain ⟨v, rest, rfl, q1, q2⟩ := q
  exact ⟨v, fs.zip rest, rfl, q1, RKV.zip q2⟩
theorem RKV.app {κ : Type} {K : PySem.W.Frag} {r : List Addr} {H : Hp} : ∀ {a b : List (κ × W)} {c d : List (κ × V)}, RKV K r H a c → RKV K r H b d → RKV K r H (a ++ b) (c ++ d)
 | [], _, _, _, q, q' => by cases (show _ = [] from q); exact q'
 | p :: a, _, _, _, q, q' => by
  obtain ⟨v, rest, rfl, q1, q2⟩ := q
  exact ⟨v, rest ++ _, rfl, q1, RKV.app q2 q'⟩
theorem RKV.rev {κ : Type} {K : PySem.W.Frag} {r : List Addr} {H : Hp} : ∀ {a : List (κ × W)} {c : List (κ × V)}, RKV K r H a c → RKV K r H a.reverse c.reverse
 | [], _, q => by cases (show _ = [] from q); exact rfl
 | p :: a, _, q => by
  obtain ⟨v, rest, rfl, q1, q2⟩ := q
  rw [List.reverse_cons, List.reverse_cons]
  exact RKV.app (RKV.rev q2) ⟨v, [], rfl, q1, rfl⟩
section
variable {X: Cx}{Z: WX}{e: Expr}{es: List Expr}{das: DA}{p pos pos2: Pos}{x: Str}{C fI: Addr}{k j: Nat}{fd: FuncData}{ps fs: List Str}
theorem CK (c : Ctx X Z k) (T : OexC X.K C) (iC : PySem.W.findIn X.K (.ref C) "__init__" = ξ (ξ (.ref fI))) (tI : PySem.W.typeIn X.K (.ref fI) = ξ (.type "function")) (F1 : FnG X.prog X.w X.K X.mg X.base (L2.CX X.prog X.w) j fI fd ps (spIni X.K C fs)) (hj : j + 1 ≤ k) (hb : Binds X.K fd ps [])
  (hg : Gl X x) (hm : X.mg x = ξ (.ref C)) (ha : SA X Z (e :: es) das)
  (hdb : (x == ("__debug__" : Str)) = false := by decide) (he : starEach (e :: es) X.env = (false, eval e X.env) :: starEach es X.env := by rfl) (hpl : (backTo pos (starEach es X.env)).any (·.1) = false := by rfl) :
  SS X Z (.Raise (ξ (.Call (.Name x p) (e :: es) [] pos)) ζ pos2) (lu C fs das) := by
 have hx : Passes (L2.CX X.prog X.w) X (fun _ _ _ => False) := passes_call c.tk (fun _ _ _ _ z => z.elim)
 refine PS.imp (ps_raise c.calm c.tk (HL (p := p) T iC tI F1 (c.rg hj) hb hx hg hm ha hdb he hpl)) fun D σ H ⟨r, m, env, s, e, h⟩ => ?_
 refine tX.stepS s e h fun ws m1 r1 H1 vs l1 s1 e1 q1 h1 => ?_
 by_cases hl : ws.length = fs.length ∧ ws.length ≤ 1000
 ·rw [if_pos hl] at h1
  have hv : vs.length = ws.length := (RWs.len q1).symm
  refine ⟨by omega, by omega, fun d hd => ?_⟩
  have l2 : Lt X.K r1 H1 (r1 ++ [d]) (upd H1 d (.xd (fs.zip vs).reverse)) := yf hd
  obtain ⟨s2, _⟩ := s1.new (o := .xd (fs.zip ws).reverse) (u := .xd (fs.zip vs).reverse) hd ⟨_, rfl, RKV.rev (RKV.zip (q1.mono l2))⟩
  exact h1 (r1 ++ [d]) _ σ (ξ d) l2 s2 (e1.mono l2) ⟨d, by rw [← s1.len]; simp, rfl⟩
 ·rw [if_neg hl] at h1; exact h1.elim
theorem AG {bmB : List Value} {B newId initId : String} (c : Ctx X Z k) (F : ExcBaseFacts B newId initId bmB) (q : PySem.W.excIn X.K C bmB newId = true) (hm : X.mg x = ξ (.ref C)) (kC : PySem.W.keepIn X.K (.ref C) = true) (rs : Raises X (.ref C)) (hg : Gl X x) (hdb : (x == ("__debug__" : Str)) = false := by decide) :
  SS X Z (.Raise (ξ (.Call (.Name x p) [] [] pos)) ζ pos2) (jw C) := by
 have pm : PMk X (.Call (.Name x p) [] [] pos) (fun _ H Q => Q (.ref C) ζ H) := by
  intro pins s σ H Q I h
  refine wpAny_Call_Name_kw (ld_glob I hg hm ?_ hdb)
  refine PySem.W.callWith_K0 I.kIn kC ?_
  obtain ⟨bm, N, nm, qn, bs, hdct, sn, sub, ab, col, dd, k0, k1, k2, k3, k5, mN, hC, hN, hni, T⟩ := exc_obj I.kIn q
  exact wpAny_call_exc_subT F T hC hN hni (fun h' e hm => mk_of I hm rs h (I.hok.gone hm.new)) (Nat.zero_le _)
 exact PS.imp (ps_raise c.calm c.tk pm) fun D σ H ⟨r, m, env, s, e, h⟩ => h r H σ ζ .refl s e rfl
end
def xn : Option Nat → Option W
 | some n => ξ (.ref n)
 | none => ζ
def tXx {α β : Type} (K : PySem.W.Frag) (rel : Rel α β) (a : Addr) (d : Option Addr) (i : Nat) (de : Env → M → Option (R α)) : St → Hp → (β → Hp → Prop) → Prop := fun σ H Q => ∃ r m env dn, Sim K r m H ∧ (EnvR K r H (env.set i ζ) σ ∧ env[i]? = ξ (xn dn)) ∧ XR r dn d ∧ σ[i]? = ξ (ξ (.ref a)) ∧ Post K rel r H (de env m) Q (fun _ _ _ => False)
abbrev uY (X : Cx) (a : Addr) (d : Option Addr) (i : Nat) (e : Expr) (de : DE) : Prop := PE X e (tXx X.K (d8 X.K) a d i de)
abbrev QX (X : Cx) (a : Addr) (d : Option Addr) (i : Nat) (es : List Expr) (de : DA) : Prop := PA X es (tXx X.K (uk X.K) a d i de)
abbrev STx (X : Cx) (a : Addr) (d : Option Addr) (i : Nat) (e : Expr) (de : DT) : Prop := PT X e (tXx X.K Hw a d i de)
theorem XR.pre {r r' : List Addr} {dn : Option Nat} {d : Option Addr} (h : XR r dn d) (p : r <+: r') : XR r' dn d := by
 cases dn with
 | none => exact h
 | some n =>
  obtain ⟨a, e, q⟩ := h
  exact ⟨a, mx p e, q⟩
theorem tXx.step {α β γ δ : Type} {K : PySem.W.Frag} {rel : Rel α β} {rel' : Rel γ δ} {a : Addr} {d : Option Addr} {i : Nat} {de : Env → M → Option (R α)} {k : α → M → Option (R γ)} {r : List Addr} {m : M} {env : Env} {dn : Option Nat} {σ : St} {H : Hp} {Q : δ → Hp → Prop} {Q1 : β → Hp → Prop}
  (s : Sim K r m H) (e : EnvR K r H (env.set i ζ) σ ∧ env[i]? = ξ (xn dn)) (x : XR r dn d) (hs : σ[i]? = ξ (ξ (.ref a))) (h : Post K rel' r H (SB.bnd (de env m) k) Q (fun _ _ _ => False))
  (hk : ∀ y m1 r1 H1 v, Lt K r H r1 H1 → Sim K r1 m1 H1 → (EnvR K r1 H1 (env.set i ζ) σ ∧ env[i]? = ξ (xn dn)) → XR r1 dn d → rel r1 H1 y v → Post K rel' r1 H1 (k y m1) Q (fun _ _ _ => False) → Q1 v H1) : tXx K rel a d i de σ H Q1 :=
 ⟨r, m, env, dn, s, e, x, hs, h.bnd fun y m1 r1 H1 v l s1 q p => hk y m1 r1 H1 v l s1 ⟨e.1.mono l, e.2⟩ (x.pre l.pre) q p⟩
section
variable {X: Cx}{a: Addr}{d: Option Addr}{i: Nat}{e f c: Expr}{es: List Expr}{de df: DE}{das: DA}{dt: DT}{pos p: Pos}
theorem Q6 {w : W} {v : V} (h : PE X e (tC v)) (hw : ∀ r H, RW X.K r H w v) : uY X a d i e (eC w) := PE.imp h fun σ H Q ⟨r, m, env, dn, s, e, x, hs, h⟩ => h.done s (hw r H)
theorem J2 : QX X a d i [] aJ := PA.imp pa_nil fun σ H Q ⟨r, m, env, dn, s, e, x, hs, h⟩ => h.done s rfl
theorem xB (he : uY X a d i e de) (hr : QX X a d i es das) (hst : starEach (e :: es) X.env = (false, eval e X.env) :: starEach es X.env := by rfl) : QX X a d i (e :: es) (aq de das) := PA.imp (pa_cons he hr hst) fun σ H Q ⟨r, m, env, dn, s, e, x, hs, h⟩ => by
 refine tXx.step (de := de) (rel := d8 X.K) s e x hs h fun w m1 r1 H1 v l1 s1 e1 x1 q1 h1 => ?_
 refine tXx.step (de := das) (rel := uk X.K) s1 e1 x1 hs h1 fun ws m2 r2 H2 vs l2 s2 e2 x2 q2 h2 => ?_
 exact h2.done s2 ⟨v, vs, rfl, q1.mono l2, q2⟩
theorem LL {K : PySem.W.Frag} {rr : R2} {g : F2} (hi : Imp2 K rr g) {σ : St} {H : Hp} {Q : VK} (h : tXx K (d8 K) a d i (cY g de df) σ H Q) : tOp rr (tXx K (d8 K) a d i de) (tXx K (d8 K) a d i df) σ H Q := by
 obtain ⟨r, m, env, dn, s, e, x, hs, h⟩ := h
 refine tXx.step (de := de) (rel := d8 K) s e x hs h fun w m1 r1 H1 v l1 s1 e1 x1 q1 h1 => ?_
 refine tXx.step (de := df) (rel := d8 K) s1 e1 x1 hs h1 fun w2 m2 r2 H2 v2 l2 s2 e2 x2 q2 h2 => ?_
 exact hi r2 m2 H2 v v2 w w2 Q _ s2 (q1.mono l2) q2 h2
theorem x_op {op : Operator} {rr : R2} {g : F2} (ho : OpR X (binaryOp op) rr) (hi : Imp2 X.K rr g) (ha : uY X a d i e de) (hb : uY X a d i f df) : uY X a d i (.BinOp e op f pos) (cY g de df) := PE.imp (pe_op ho ha hb) fun _ _ _ h => LL hi h
theorem x_tup {x1} (h : QX X a d i es das) : uY X a d i (.Tuple es x1 pos) (ri das) := PE.imp (pe_tup h) fun σ H Q ⟨r, m, env, dn, s, e, x, hs, h⟩ => by
 refine tXx.step (de := das) (rel := uk X.K) s e x hs h fun ws m1 r1 H1 vs l1 s1 e1 x1 q1 h1 => ?_
 by_cases hl : ws.length ≤ sizeLine
 ·rw [if_pos hl] at h1
  refine ⟨by rw [← RWs.len q1]; exact hl, fun p hp => ?_⟩
  have l2 : Lt X.K r1 H1 r1 (upd H1 p (.tup vs)) := cH hp
  exact h1.done' l2 (s1.aside hp) ⟨p, vs, rfl, upd_same, q1.mono l2⟩
 ·rw [if_neg hl] at h1
  exact h1.elim
theorem x_lst (h : QX X a d i es das) : uY X a d i (.List es pos) (dM das) := PE.imp (pe_lst h) fun σ H Q ⟨r, m, env, dn, s, e, x, hs, h⟩ => by
 refine tXx.step (de := das) (rel := uk X.K) s e x hs h fun ws m1 r1 H1 vs l1 s1 e1 x1 q1 h1 => ?_
 by_cases hl : ws.length ≤ sizeLine
 ·rw [if_pos hl] at h1
  exact ⟨by rw [← RWs.len q1]; exact hl, fun p hp => uy s1 q1 h1 hp⟩
 ·rw [if_neg hl] at h1
  exact h1.elim
theorem yS (hc : STx X a d i c dt) (ha : uY X a d i e de) (hb : uY X a d i f df) : uY X a d i (.IfExp c e f pos) (Fm dt de df) := PE.imp (pe_ifExp hc ha hb) fun σ H Q ⟨r, m, env, dn, s, e, x, hs, h⟩ => by
 refine tXx.step (de := dt) (rel := Hw) s e x hs h fun y m1 r1 H1 v l1 s1 e1 x1 q1 h1 => ?_
 subst q1
 cases y with
 | true => exact iteT ⟨r1, m1, env, dn, s1, e1, x1, hs, h1⟩
 | false => exact iteF ⟨r1, m1, env, dn, s1, e1, x1, hs, h1⟩
def tD (i : Nat) (f : Str) : DE := fun env m => match env[i]? with
 | some (ξ (.ref k)) => (match m[k]? with
  | some (.xd fs) => (match fs.lookup f with
   | some w => ξ (.ok w m)
   | none => ζ)
  | _ => ζ)
 | _ => ζ
theorem RKV.look {κ : Type} [BEq κ] {K : PySem.W.Frag} {r : List Addr} {H : Hp} {f : κ} {w : W} : ∀ {fs : List (κ × W)} {vs : List (κ × V)}, RKV K r H fs vs → fs.lookup f = ξ w → ∃ v, vs.lookup f = ξ v ∧ RW K r H w v
 | [], _, _, h => by cases h
 | (g, y) :: fs, _, q, h => by
  obtain ⟨v, rest, rfl, q1, q2⟩ := q
  rw [List.lookup_cons] at h ⊢
  cases hb : f == g with
  | true =>
   rw [hb] at h
   cases h
   exact ⟨v, by simp [hb], q1⟩
  | false =>
   rw [hb] at h
   obtain ⟨v', e, q'⟩ := RKV.look q2 h
   exact ⟨v', by simp [hb, e], q'⟩
theorem Oz {X : Cx} {C : Addr} {oe : Obj} {cls : Value} {pn : List (Addr × Obj)} {n f : Str} {pe pos : Pos} (T : XfC X.K C) (hno : PySem.W.findIn X.K (.ref C) f = ξ ζ) (hcl : cls = .ref C) (hz : Zc cls d oe) (hf : ∃ vs, oe.data = .fields vs)
  (hN : X.N[i]? = ξ n) (hv : Vis X.env.scope n) (hd1 : (n == ("__debug__" : Str)) = false) (hd2 : (n == ("__classdict__" : Str)) = false) (hb : attributeBase (.Name n pe) f X.env (eval (.Name n pe) X.env) = eval (.Name n pe) X.env := by rfl) :
  uY (X.suite a ((a, oe) :: pn)) a d i (.Attribute (.Name n pe) f pos) (tD i f) := PE.imp (pe_xf (a := a) (pn := pn) T hno hz hf (pe_var (X := X.suite a ((a, oe) :: pn)) hN hv hd1 hd2) hb) fun σ H Q ⟨r, m, env, dn, s, e, x, hs, h⟩ => by
 refine ⟨.ref a, hs, rfl, hcl, ?_⟩
 unfold tD at h
 rw [e.2] at h
 cases dn with
 | none => exact h.elim
 | some k =>
  obtain ⟨dd, e1, rfl⟩ := x
  simp only [xn] at h
  split at h
  case h_2 => exact h.elim
  rename_i fs hm
  obtain ⟨dd', u, e2, hu, vs, rfl, q⟩ := s.at_ _ _ hm
  rw [e1] at e2
  cases e2
  split at h
  case h_2 => exact h.elim
  rename_i w hw
  obtain ⟨v, hl, qv⟩ := RKV.look q hw
  exact ⟨dd, vs, v, rfl, hu, hl, h.done s qv⟩
theorem x_test (h : uY X a d i e de) (he : ∀ whole, isTrue e X.env whole = (do let v ← whole; standAt e.pos; holding [v] (truthy v)) := by intro _; rfl) : STx X a d i e (bJ de) := PT.imp (pt_val h he) fun σ H Q ⟨r, m, env, dn, s, e, x, hs, h⟩ => by
 refine tXx.step (de := de) (rel := d8 X.K) s e x hs h fun w m1 r1 H1 v l1 s1 e1 x1 q1 h1 => ?_
 cases w <;> first | exact h1.elim | skip
 rename_i b
 exact ⟨b, q1, h1.done s1 rfl⟩
theorem x_not (h : uY X a d i e de) : uY X a d i (.UnaryOp .Not e pos) (Fj de) := PE.imp (pe_not h) fun σ H Q ⟨r, m, env, dn, s, e, x, hs, h⟩ => by
 refine tXx.step (de := de) (rel := d8 X.K) s e x hs h fun w m1 r1 H1 v l1 s1 e1 x1 q1 h1 => ?_
 cases w <;> first | exact h1.elim | skip
 rename_i b
 exact ⟨b, q1, h1.done s1 rfl⟩
theorem x_and {rest : List Expr} (he : uY X a d i e de) (hf : uY X a d i (.BoolOp .And (f :: rest) pos) df) : uY X a d i (.BoolOp .And (e :: f :: rest) pos) (tF de df) := PE.imp (pe_and he hf) fun σ H Q ⟨r, m, env, dn, s, e, x, hs, h⟩ => by
 refine tXx.step (de := de) (rel := d8 X.K) s e x hs h fun w m1 r1 H1 v l1 s1 e1 x1 q1 h1 => ?_
 cases w <;> first | exact h1.elim | skip
 rename_i k
 refine ⟨k, q1, ?_⟩
 cases k with
 | true => exact iteT ⟨r1, m1, env, dn, s1, e1, x1, hs, h1⟩
 | false => exact iteF (h1.done s1 rfl)
def IH (i : Nat) (env : Env) (m : M) : Bool := match env[i]? with
 | some ζ => true
 | some (ξ (.ref k)) => (match m[k]? with
  | some (.xd _) => true
  | _ => false)
 | _ => false
def oX (i : Nat) (K : PySem.W.Frag) (C : Addr) (cv : Value) : DE := fun env m => if IH i env m = true then (match PySem.W.kitOne K (.ref C) cv with
 | some b => ξ (.ok (.bl b) m)
 | none => ζ) else ζ
def rIsX (K : PySem.W.Frag) (C a : Addr) (d : Option Addr) : List V → Hp → VK → Prop := fun xs H Q => ∃ (c : V) (cv : Value) (b : Bool), xs = [.ref a, c] ∧ (∀ u, RelV c u → u = cv) ∧ PySem.W.kitOne K (.ref C) cv = ξ b ∧ (d = ζ ∨ ∃ dd fs, d = ξ dd ∧ H dd = ξ (.xd fs)) ∧ Q (.bl b) H
theorem FJ {X : Cx} {C : Addr} {oe : Obj} {pn : List (Addr × Obj)} (c : ExcC X.K C) (hz : Zc (.ref C) d oe) (hf : ∃ vs, oe.data = .fields vs) : CallR (X.suite a ((a, oe) :: pn)) (.builtin "isinstance") (rIsX X.K C a d) := by
 intro pins s σ H xs us Q I r h
 obtain ⟨cw, cv, b, rfl, hcv, e, hd, q⟩ := h
 obtain ⟨ux, uc, rfl, rx, rt⟩ : ∃ ux uc, us = [ux, uc] ∧ RelV (.ref a) ux ∧ RelV cw uc := by
  cases r with
  | cons rx rr =>
   cases rr with
   | cons rt rr =>
    cases rr
    exact ⟨_, _, rfl, rx, rt⟩
 obtain rfl : ux = Value.ref a := rx
 have ec := hcv _ rt
 subst ec
 obtain ⟨hget, _⟩ := I.pin (a, oe) (List.mem_append.mpr (.inl List.mem_cons_self))
 obtain ⟨vs, hv⟩ := hf
 obtain ⟨od, J⟩ : ∃ od, PySem.W.InstAt s.heap a oe C od := by
  rcases hd with rfl | ⟨dd, fs, rfl, hx⟩
  ·exact ⟨ζ, hget, hz.1, by unfold PySem.W.notCls; rw [hv] <;> rfl, by rw [hz.2]; trivial⟩
  ·obtain ⟨mA, hns, hr⟩ : ObjOk X.prog X.w H s.heap dd (.xd fs) := I.hok dd _ hx
   obtain ⟨od, ho, hl⟩ := lookIn_ns hns
   exact ⟨ξ od, hget, hz.1, by unfold PySem.W.notCls; rw [hv] <;> rfl, by rw [hz.2]; exact ho⟩
 have hcl : (PySem.W.clsIn X.K C).isSome = true := by
  obtain ⟨cd, hc, _⟩ := PySem.W.any_some c.hd
  rw [hc]; rfl
 exact PySem.W.kia_one (PySem.W.kitx_exc hcl c.hg c.hk c.hs c.ha c.hn c.ht c.hm) I.kIn J e (fun z => nomatch z) fun tk => ⟨.bl b, H, I.kept (t' := tk) fun _ _ z => z, rfl, q⟩
theorem J3 {X : Cx} {C : Addr} {oe : Obj} {pn : List (Addr × Obj)} {n : Str} {pe pos p : Pos} {ec : Expr} {vc : V} {cv : Value} (c : ExcC X.K C) (hz : Zc (.ref C) d oe) (hf : ∃ vs, oe.data = .fields vs) (hg : Gl X "isinstance") (hm : X.mg "isinstance" = ζ)
  (he : PE (X.suite a ((a, oe) :: pn)) (.Name n pe) (tVar i)) (hc : PE (X.suite a ((a, oe) :: pn)) ec (tC vc)) (hcv : ∀ u, RelV vc u → u = cv)
  (n1 : starEach [.Name n pe, ec] X.env = (false, eval (.Name n pe) X.env) :: starEach [ec] X.env := by rfl) (n2 : starEach [ec] X.env = (false, eval ec X.env) :: starEach [] X.env := by rfl) (hpl : (backTo pos (starEach [ec] X.env)).any (·.1) = false := by rfl) :
  uY (X.suite a ((a, oe) :: pn)) a d i (.Call (.Name "isinstance" p) [.Name n pe, ec] [] pos) (oX i X.K C cv) := by
 refine PE.imp (pe_callB (X := X.suite a ((a, oe) :: pn)) (FJ (a := a) (pn := pn) c hz hf) hg hm rfl (pa_cons (X := X.suite a ((a, oe) :: pn)) he (pa_cons (X := X.suite a ((a, oe) :: pn)) hc pa_nil n2) n1) (by decide) (by decide) n1 hpl) fun σ H Q ⟨r, m, env, dn, s, e, x, hs, h⟩ => ?_
 unfold oX at h
 split at h
 case isFalse => exact h.elim
 rename_i hx
 have hxd : d = ζ ∨ ∃ dd fs, d = ξ dd ∧ H dd = ξ (.xd fs) := by
  unfold IH at hx
  rw [e.2] at hx
  cases dn with
  | none => exact .inl x
  | some k =>
   obtain ⟨dd, e1, rfl⟩ := x
   simp only [xn] at hx
   split at hx
   ·rename_i fs hm
    obtain ⟨dd', u, e2, hu, vs, rfl, q⟩ := s.at_ _ _ hm
    rw [e1] at e2
    cases e2
    exact .inr ⟨dd, vs, rfl, hu⟩
   ·cases hx
 split at h
 case h_2 => exact h.elim
 rename_i b hb
 exact ⟨_, hs, vc, cv, b, rfl, hcv, hb, hxd, h.done s rfl⟩
def hZ (exm : Addr → Option Bool) (C : Addr) (i : Nat) (db : DS) (de : DE) : DS := fun env m => match db env m with
 | some (.exc C' dn env' m') => (match exm C' with
  | some true => if C' = C ∧ i < env'.length then (match de (env'.set i (xn dn)) m' with
   | some (.ok w m2) => ξ (.fl (.ret w) (env'.set i (xn dn)) m2)
   | _ => ζ) else ζ
  | some false => ξ (.exc C' dn env' m')
  | none => ζ)
 | x => x
end
end SB
end
section
namespace L2
open PySem PySem.Spec PyProof.Rows PySem.W
section
end
end L2
end
section
namespace SB
open PySem PySem.Spec L2
open PyProof.Rows hiding St
variable [Tabs][Past]
section
end
theorem HI {X : Cx} {K : PySem.W.Frag} {N : List Str} {scope : Scope} {s0 f x : Str} {p p' px pos : Pos} (i : Nat) (hK : X.K = K) (hN : X.N = N) (hS : X.env.scope = scope) (h0 : N[0]? = ξ s0 := by rfl) (hi : N[i]? = ξ x := by rfl) (v0 : Vis scope s0 := by exact Or.inl rfl) (vi : Vis scope x := by exact Or.inl rfl)
  (d0 : (s0 == ("__debug__" : Str)) = false := by decide) (c0 : (s0 == ("__classdict__" : Str)) = false := by decide) (d1 : (x == ("__debug__" : Str)) = false := by decide) (c1 : (x == ("__classdict__" : Str)) = false := by decide) :
  PS X (.Assign [.Attribute (.Name s0 p) f p'] (.Name x px) pos) (tOst K f (tVar 0) (tVar i)) := by
 subst hK
 exact ps_ost (pe_var (by rw [hN]; exact h0) (by rw [hS]; exact v0) d0 c0) (pe_var (by rw [hN]; exact hi) (by rw [hS]; exact vi) d1 c1)
structure FnX (P : Program) (w : World) (K : PySem.W.Frag) (mg : Str → Option Value) (base : Heap) (C : Addr) (fs : List Str) : Prop where
 T : OexC K C
 ini : ∃ (fI : Addr) (fd : FuncData) (ps : List Str), PySem.W.findIn K (.ref C) "__init__" = ξ (ξ (.ref fI)) ∧ PySem.W.typeIn K (.ref fI) = ξ (.type "function") ∧ FnG P w K mg base (L2.CX P w) 1 fI fd ps (spIni K C fs) ∧ Binds K fd ps []
theorem Be {K : PySem.W.Frag} {C : Addr} (q : uq K C = true) : ∃ nm qn N bs bm sn sub ab col dd k0 k1 k2 k3 k5, K.lookup C = ξ (excClassObj nm qn C N bs bm true sn sub ab col dd k0 k1 k2 k3 k5 "ValueError.__new__") ∧ PySem.HandSPX.refsVE bm = true := by
 unfold uq at q
 split at q
 ·rename_i dd cd sl ho
  split at q
  ·rename_i C' bm k0 k1 k2 k3 n k5 hm hs
   simp only [Bool.and_eq_true, beq_iff_eq, Bool.not_eq_true'] at q
   obtain ⟨⟨⟨⟨rfl, rfl⟩, hdel⟩, hdc⟩, ht⟩ := q
   obtain ⟨nm, bs, mro, ns, qn, hd, sn, sub, ab, col, del⟩ := cd
   dsimp only at hm hdel hdc
   subst hm hdel hdc
   have hsl : sl = #[k0, k1, k2, k3, ξ (.builtin "ValueError.__new__"), k5] := by
    obtain ⟨l⟩ := sl
    simp only at hs
    rw [hs]
   subst hsl
   exact ⟨nm, qn, ns, bs, bm, sn, sub, ab, col, dd, k0, k1, k2, k3, k5, ho, ht⟩
  ·cases q
 ·cases q
theorem HY {K : PySem.W.Frag} {C : Addr} (q : L7 K C = true) : OexC K C := by
 unfold L7 at q
 simp only [Bool.and_eq_true, decide_eq_true_eq] at q
 obtain ⟨h1, h2, h3, h4, h5⟩ := q
 exact ⟨Be h1, h2, h3, h4, h5⟩
theorem w6 {K : PySem.W.Frag} {D : Addr} (q : zZ K D = true) : ExcC K D := by
 unfold zZ at q
 simp only [Bool.and_eq_true, decide_eq_true_eq] at q
 obtain ⟨h1, h2, h3, h4, h5, h6, h7, h8⟩ := q
 exact ⟨h1, h2, h3, h4, h5, h6, h7, h8⟩
theorem QG {K : PySem.W.Frag} {D : Addr} (h : ExcC K D) : XfC K D := ⟨h.hg, h.hk, h.hs, h.hd⟩
structure Ini (K : PySem.W.Frag) (C fI : Addr) (fs : List Str) : Prop where
 i : PySem.W.findIn K (.ref C) "__init__" = ξ (ξ (.ref fI))
 t : PySem.W.typeIn K (.ref fI) = ξ (.type "function")
 n : ∀ f ∈ fs, PySem.W.findIn K (.ref C) f = ξ ζ
theorem IL {K : PySem.W.Frag} {C fI : Addr} {fs : List Str} (q : MI K C fI fs = true) : Ini K C fI fs := by
 unfold MI at q
 simp only [Bool.and_eq_true, decide_eq_true_eq, List.all_eq_true] at q
 exact ⟨q.1, q.2.1, q.2.2⟩
section
variable {P: Program}{w: World}{K: PySem.W.Frag}{mg: Str → Option Value}{base: Heap}{x qual: Str}{params: Arguments}{body: List Stmt}{scope: Scope}{kws: List (Str × V)}{f C: Addr}{fd: FuncData}{N ps fs fs': List Str}{f0: Str}
theorem MR (T : OexC K C) (I : Ini K C f fs) (F : FunD K x qual params body scope [] kws f fd) (S : FnScope N ps scope) (hfs : fs = f0 :: fs') (hps : ps.length = fs.length + 1) (hz : fs.length ≤ 900)
  (hbi : ∀ (kV doc pm : Value) (an : Option Addr) (cdv ct : Value) (us : List Value), us.length = ps.length → bindArgs (PySem.W.fnOf x qual params body scope .none kV doc pm an cdv ct) ⟨us, []⟩ = pure (ps.zip us))
  (hb : ∀ X : Cx, X.K = K → X.N = N → X.env.scope = scope → PSs X body (CD K (fs.zip (List.range' 1 fs.length)))) : FnX P w K mg base C fs :=
 ⟨T, f, fd, ps, I.i, I.t, MU F S hfs hps T I.n hz hb, F.bindsN hbi⟩
end
section
variable {X: Cx}{Z: WX}{e: Expr}{es: List Expr}{das: DA}{p pos pos2: Pos}{x: Str}{C: Addr}{k: Nat}{fs: List Str}
theorem mj (c : Ctx X Z k) (F : FnX X.prog X.w X.K X.mg X.base C fs) (hm : X.mg x = ξ (.ref C)) (ha : SA X Z (e :: es) das) (hk : 2 ≤ k := by decide) (hg : Gl X x := by rfl)
  (hdb : (x == ("__debug__" : Str)) = false := by decide) (he : starEach (e :: es) X.env = (false, eval e X.env) :: starEach es X.env := by rfl) (hpl : (backTo pos (starEach es X.env)).any (·.1) = false := by rfl) :
  SS X Z (.Raise (ξ (.Call (.Name x p) (e :: es) [] pos)) ζ pos2) (lu C fs das) := by
 obtain ⟨T, fI, fd, ps, h1, h2, h3, h4⟩ := F
 exact CK c T h1 h2 h3 hk h4 hg hm ha hdb he hpl
theorem kB (c : Ctx X Z k) (F : PySem.W.excIn X.K C He.veBase "ValueError.__new__" = true ∧ PySem.W.keepIn X.K (.ref C) = true ∧ PySem.W.subIn X.K (.ref C) (.type "BaseException") = ξ true ∧ PySem.W.typeIn X.K (.ref C) = ξ (.type "type")) (hm : X.mg x = ξ (.ref C)) (hg : Gl X x := by rfl) (hdb : (x == ("__debug__" : Str)) = false := by decide) :
  SS X Z (.Raise (ξ (.Call (.Name x p) [] [] pos)) ζ pos2) (jw C) := AG c PySem.F.excBase_ValueError F.1 hm F.2.1 (raises_own F.2.2.1 F.2.2.2) hg hdb
end
end SB
end
section
namespace L2
open PySem PySem.Spec PyProof.Rows
section
end
end L2
namespace SB
open PySem PySem.Spec L2
open PyProof.Rows hiding St
variable [Tabs][Past]
end SB
end
section
namespace SB
open PySem PySem.Spec L2
open PyProof.Rows (envOfC)
variable [Tabs][Past]
def FnRG (P : Program) (w : World) (K : PySem.W.Frag) (mg : Str → Option Value) (base : Heap) (k : Nat) (f : Addr) (sp : Sp) : Prop :=
 ∀ (A : Around) (outer : List PySem.Env) (s : Shared) (H : Hp) (us : List Value) (vs : List V) (Q : VK) (E : XK), RoomG k A → Env0 P w K mg base A outer s H → Vals vs us → sp vs H Q E →
  codeAny (model P w) A (.call (.ref f) ⟨us, []⟩) (CR (L2.CX P w) outer P w H s Q E) s
structure FnP (P : Program) (w : World) (K : PySem.W.Frag) (mg : Str → Option Value) (base : Heap) (k : Nat) (f : Addr) (D : DF) : Prop where
 run : FnRG P w K mg base k f (spD K D)
 kp : PySem.W.keepIn K (.ref f) = true
section
variable {P: Program}{w: World}{K: PySem.W.Frag}{mg: Str → Option Value}{base: Heap}{x qual: Str}{params: Arguments}{body: List Stmt}{scope: Scope}{dvs: List V}{kws: List (Str × V)}{f: Addr}{fd: FuncData}{k: Nat}{N ps: List Str}{b: DS}{D: DF}{ws0: List W}{ds: List Value}
theorem FnG.pd (F : FnG P w K mg base (L2.CX P w) k f fd ps (spD K D)) (hb : Binds K fd ps ds) (hd : Vals dvs ds) (hw : ∀ r H, RWs K r H ws0 dvs) : FnRG P w K mg base k f (spD K fun ws m => D (ws ++ ws0) m) := by
 intro A outer s H us vs Q E hr e0 rv hsp
 obtain ⟨r, m, ws, s', q, h⟩ := hsp
 have h2 : spD K D (vs ++ dvs) H Q E := ⟨r, m, ws ++ ws0, s', q.append (hw r H), h⟩
 have rv2 : Vals (vs ++ dvs) (us ++ ds) := rv.append hd
 have hl : (us ++ ds).length = ps.length := by rw [← rv2.length]; exact F.len _ _ _ _ h2
 have kin : K.In s.heap := e0.mod.kin.keeps fun b o e => (e0.bs b o e).1
 exact F.run A outer s H ⟨us, []⟩ (us ++ ds) (vs ++ dvs) Q E hr e0 (hb s us kin hl) rv2 h2
theorem Fn.p (F : Fn P w K mg base k f ps D) : FnP P w K mg base k f D := by
 obtain ⟨⟨fd, F1, b⟩, kp⟩ := F
 refine ⟨?_, kp⟩
 have z := FnG.pd F1 b .nil (ws0 := []) qF
 have e : (fun ws m => D (ws ++ []) m) = D := by
  funext ws m
  rw [List.append_nil]
 rw [e] at z
 exact z
def bI (n : Nat) (D : DF) : DF := fun ws m => if n ≤ ws.length ∧ (ws.drop n).length ≤ sizeLine then D (ws.take n ++ [.tup (ws.drop n)]) m else ζ
theorem qY {pv : Str} (F : FunD K x qual params body scope [] kws f fd) (S : FnScope N (ps ++ [pv]) scope)
  (hbi : ∀ (kV doc pm : Value) (an : Option Addr) (cdv ct : Value) (us rest : List Value), us.length = ps.length → bindArgs (PySem.W.fnOf x qual params body scope .none kV doc pm an cdv ct) ⟨us ++ rest, []⟩ = (newTuple rest >>= fun t => pure (ps.zip us ++ [(pv, t)])))
  (hb : ∀ (cdv : Value) (A : Around) (outer : List PySem.Env) (s : Shared) (H : Hp) (E : XK), Ctx (cxOf (L2.CX P w) P w K mg base N qual scope f cdv A outer s H E) (zOf E) k → rK (cxOf (L2.CX P w) P w K mg base N qual scope f cdv A outer s H E) (zOf E) body b) :
  FnP P w K mg base (k + 1) f (bI ps.length (cX (ps.length + 1) N.length b)) := by
 refine ⟨?_, F.kp⟩
 obtain ⟨oc, od, dV, kV, doc, pm, an, cdv, ct, osl, rfl, lk, hcd, hD, _⟩ := F.ex
 have hdn : dV = .none := by
  rcases hD with ⟨_, hh⟩ | ⟨e, _⟩
  ·exact hh
  ·exact absurd rfl e
 subst hdn
 intro A outer s H us vs Q E hr e0 rv hsp
 obtain ⟨r, m, ws, sm, q, h⟩ := hsp
 unfold bI at h
 have hc : ps.length ≤ ws.length ∧ (ws.drop ps.length).length ≤ sizeLine := by
  apply Classical.byContradiction
  intro hc
  rw [if_neg hc] at h
  exact h.elim
 rw [if_pos hc] at h
 have hv : ps.length ≤ vs.length := by rw [← q.len]; exact hc.1
 have q1 := q.take ps.length
 have q2 := q.drop ps.length
 have ev : vs.take ps.length ++ vs.drop ps.length = vs := List.take_append_drop _ _
 rw [← ev] at rv
 obtain ⟨u1, u2, rfl, r1, r2⟩ := StX.vals_split rv
 have hl0 : (vs.take ps.length).length = ps.length := by simp [hv]
 have hl1 : u1.length = ps.length := by rw [← r1.length]; exact hl0
 have hz : (vs.drop ps.length).length ≤ sizeLine := by rw [← q2.len]; exact hc.2
 have hl2 : u2.length ≤ sizeLine := by rw [← r2.length]; exact hz
 have hn : H s.heap.objs.size = Option.none := e0.hok.fresh (Nat.le_refl _)
 refine StX.run_bnd lk hcd S hr.rm e0 (G := fun xs H2 => ∃ p, H p = Option.none ∧ xs = vs.take ps.length ++ [V.ref p] ∧ H2 = upd H p (.tup (vs.drop ps.length))) (fun A' Ex Q' hk => ?_) fun s2 H2 xs ⟨p, hp, ex, eH⟩ hr' => ?_
 ·rw [hbi kV doc pm an cdv ct u1 u2 hl1]
  refine wpAny_bind (wpAny_newTuple (wpAny_pure ?_) hl2)
  have nw : ObjOk P w (upd H s.heap.objs.size (.tup (vs.drop ps.length))) (s.heap.push ({ cls := .type "tuple", data := .seq u2.toArray } : Obj)) s.heap.objs.size (.tup (vs.drop ps.length)) := ⟨hz, u2, r2, ⟨_, Heap.get?_push_size _ rfl, rfl, _, rfl⟩⟩
  have un := StX.un_laid (fs := frs outer) (s := s) (o := ({ cls := .type "tuple", data := .seq u2.toArray } : Obj)) (u := .tup (vs.drop ps.length)) hn
  have z := hk _ _ (vs.take ps.length ++ [V.ref s.heap.objs.size]) (u1 ++ [Value.ref s.heap.objs.size]) (StX.env0_laid e0 nw) un rfl (fun e s' => StX.cxUp outer s H _ _ E e s' un (fun b o q => Heap.get?_push_of_some _ q) rfl) (r1.append (.cons rfl .nil))
   (by simp [hv]) ⟨_, hn, rfl, rfl⟩
  rw [List.zip_append hl1.symm] at z
  exact z
 ·subst ex eH
  have hg : RoomG k (A.deeper (envOfC qual scope s2.heap.objs.size f cdv)) := ⟨hr', hr.gd⟩
  refine ⟨_, hb cdv A outer s2 _ E (uS S.nd hg), ?_⟩
  have l0 : Lt K r H r (upd H p (.tup (vs.drop ps.length))) := cH hp
  have q3 : RWs K r (upd H p (.tup (vs.drop ps.length))) (ws.take ps.length ++ [.tup (ws.drop ps.length)]) (vs.take ps.length ++ [V.ref p]) := (q1.mono l0).append ⟨V.ref p, [], rfl, ⟨p, _, rfl, upd_same, q2.mono l0⟩, rfl⟩
  have hwl : (ws.take ps.length ++ [W.tup (ws.drop ps.length)]).length = ps.length + 1 := by simp [hc.1]
  refine ⟨r, m, _, sm.aside hp, EnvR.start q3, ?_⟩
  have h := h.base l0
  unfold cX at h
  rw [if_pos hwl, ← hwl] at h
  cases hx : b ((ws.take ps.length ++ [W.tup (ws.drop ps.length)]).map ξ ++ List.replicate (N.length - (ws.take ps.length ++ [W.tup (ws.drop ps.length)]).length) ζ) m with
  | none => rw [hx] at h; exact h
  | some y =>
   rw [hx] at h
   cases y with
   | exc C d en m1 => exact fun r1 H1 σ1 dv l1 s1 e1 q1 => h r1 H1 dv l1 s1 q1
   | fl fl en m1 =>
    cases fl with
    | next => exact fun r1 H1 σ1 l1 s1 e1 => h r1 H1 .non l1 s1 rfl
    | ret v => exact fun r1 H1 v1 l1 s1 q1 => h r1 H1 v1 l1 s1 q1
    | brk => exact h.elim
    | cont => exact h.elim
end
section
variable {X: Cx}{Z: WX}{a e o: Expr}{es: List Expr}{da: DE}{das: DA}{pos p apos: Pos}{k j: Nat}{x m: Str}{f C: Addr}{D: DF}{E: St → XK}{sp: Sp}
theorem Ka {pins : List (Addr × Obj)} {σ : St} {H : Hp} {s : Shared} {Q : VK} {us : List Value} {vs : List V} (F : FnRG X.prog X.w X.K X.mg X.base j f sp) (hr : RoomG j X.A) (hx : PassesAt (L2.CX X.prog X.w) X σ (E σ))
  (I : Inv X pins σ H s) (rv : Vals vs us) (h : sp vs H Q (E σ)) : codeAny (model X.prog X.w) X.A (.call (.ref f) ⟨us, []⟩) (fun z s' => match z with
   | .error e => X.xe e s'
   | .ok (.ret u) => EP X pins σ Q u s'
   | _ => False) s := by
 refine codeAny_mono (F X.A X.stack s H us vs Q (E σ) hr I.env0 rv h) fun z s' hq => ?_
 cases z with
 | error e => exact hx pins H s e s' I hq
 | ok fl => cases fl <;> first | exact I.after hq | exact False.elim hq
def rn (C : Addr) (D : DF) (o : DE) (as : DA) : DE := fun env m => bnd (o env m) fun w m1 => match w with
 | .ob a => if a = C then bnd (as env m1) fun ws m2 => D (.ob C :: ws) m2 else ζ
 | _ => ζ
theorem Di {K : PySem.W.Frag} {ta : TA} (hta : ∀ σ H Q, tA K Z das σ H Q → ta σ H Q) {σ : St} {H : Hp} {Q : VK} (h : tE K Z (rn C D da das) σ H Q) : tE K Z da σ H fun x H1 => x = .ref C ∧ ta σ H1 fun vs H2 => spD K D (.ref C :: vs) H2 Q (WE Z σ) := by
 obtain ⟨r, m, env, s, e, h⟩ := h
 refine tX.step s e h fun w m1 r1 H1 v l1 s1 e1 q1 h1 => ?_
 cases w <;> first | exact h1.elim | skip
 rename_i a
 by_cases hC : a = C
 ·subst hC
  simp only [if_true] at h1
  exact ⟨q1, hta _ _ _ (tX.step s1 e1 h1 fun ws m2 r2 H2 vs2 l2 s2 e2 q2 h2 => ⟨r2, m2, .ob a :: ws, s2, ⟨.ref a, _, rfl, rfl, q2⟩, h2⟩)⟩
 ·simp only [if_neg hC] at h1
  exact h1.elim
theorem AH {mc : Value} {rp g : Addr} {pl : Sem Bool} (Cc : Ctx X Z k) (r : ClX.CRead X.K C mc) (c : ClX.CMet X.K C mc m rp g) (F : FnP X.prog X.w X.K X.mg X.base j g D) (ho : SE X Z o da) (hjk : j ≤ k := by decide)
  (ht : eval (.Call (.Attribute o m apos) [] [] pos) X.env = (do
   let ov ← eval o X.env
   standAt apos.atName
   let (f, first) ← holding [ov] (getMethod ov m pl)
   callWith pos f first (backTo pos (starEach [] X.env)) (backToKw pos (keywordEach [] X.env))) := by rfl) : SE X Z (.Call (.Attribute o m apos) [] [] pos) (rn C D da aJ) := by
 refine ⟨fun pins s σ H Q I h => ?_⟩
 refine PySem.W.methodCall_KW (pl := pl) (thn (ho.run pins s σ H _ I (Di (ta := tNil) (fun σ H Q ⟨r, m, env, s, e, h⟩ => Post.done (rel := uk X.K) (a := []) (v := []) h s rfl) h)) fun u s1 ⟨x, H1, I1, rx, ex, q⟩ => ?_) ht
 subst ex
 obtain rfl : u = Value.ref C := rx
 refine ClX.getmethcm_ok I1 r c fun s2 I3 => ?_
 refine PySem.W.callWith_M0 (first := []) ⟨ClX.pin_at I3, I3.kIn⟩ c.fi ?_
 have z : wpAny (model X.prog X.w) X.A (call (.ref s1.heap.objs.size) []) (EP X ((s1.heap.objs.size, PySem.W.methodObj (.ref g) (.ref C)) :: pins) σ Q) X.xe s2 := by
  refine wpAny_call (PySem.W.method_call (ClX.pin_at I3) (codeAny_mono (Ka (us := [.ref C]) (vs := [.ref C]) F.run (Cc.rg hjk) (passAt Cc.tk σ) I3 (.cons rfl .nil) q) fun z s' hq => ?_))
  cases z with
  | error e => exact hq
  | ok fl => cases fl <;> first | exact hq | exact False.elim hq
 exact thn z fun _ _ y => ClX.unpinE y
def nQ (i : Nat) (C : Addr) (D : DF) (as : DA) : DE := fun env m => match env[i]? with
 | some (ξ (.ob a)) => if a = C then bR C [] D as env m else ζ
 | _ => ζ
theorem CM {ps : List Str} (Cc : Ctx X Z k) (Mm : Mk X.K C f) (F : Fn X.prog X.w X.K X.mg X.base j f ps D) (i : Nat) (ha : SA X Z (e :: es) das) (hN : X.N[i]? = ξ x := by rfl) (hv : Vis X.env.scope x := by first | exact Or.inl rfl | exact Or.inr (Or.inl rfl)) (hjk : j + 1 ≤ k := by decide)
  (hdb : (x == ("__debug__" : Str)) = false := by decide) (hcd : (x == ("__classdict__" : Str)) = false := by decide) (he : starEach (e :: es) X.env = (false, eval e X.env) :: starEach es X.env := by rfl) (hpl : (backTo pos (starEach es X.env)).any (·.1) = false := by rfl) :
  SE X Z (.Call (.Name x p) (e :: es) [] pos) (nQ i C D das) := by
 obtain ⟨⟨fd, F1, b⟩, kp⟩ := F
 refine ⟨fun pins s σ H Q I h => ?_⟩
 obtain ⟨r, m, env, sm, ee, h⟩ := h
 unfold nQ at h
 split at h
 ·rename_i a hw
  by_cases hC : a = C
  ·subst hC
   simp only [if_true] at h
   obtain ⟨v, hs, rfl⟩ := ee.2 i _ hw
   refine wpAny_Call_Name_kw (thn ((pe_var (pos := p) (i := i) hN hv hdb hcd).run pins s σ H (fun v H1 => v = .ref a ∧ H1 = H) I ⟨.ref a, hs, rfl, rfl⟩) fun u s1 ⟨v, H1, I1, r1, q1⟩ => ?_)
   obtain ⟨ev, eH⟩ := q1
   subst ev eH
   obtain rfl : u = Value.ref a := r1
   refine PySem.W.callWith_K (h₀ := X.base) I1.ok.mod.kin Mm.kp (thn (ha.run pos pins s1 σ H1 _ I1 (tX.step sm ee h fun ws m1 r1 H1 vs l1 s1 e1 q1 h1 => nI s1 (q1.append (qF r1 H1)) h1)) fun us s2 ⟨vs, H2, I2, r2, q2⟩ => ⟨I2.kIn, ?_⟩) he hpl
   exact sH Mm F1 (Cc.rg hjk) b .nil (passAt Cc.tk σ) I2 r2 q2
  ·simp only [if_neg hC] at h
   exact h.elim
 ·exact h.elim
structure FnK (P : Program) (w : World) (K : PySem.W.Frag) (mg : Str → Option Value) (base : Heap) (k : Nat) (f : Addr) (n : Nat) (ks : List Str) (D : DF) : Prop where
 ex : ∃ (fd : FuncData) (ps : List Str), FnG P w K mg base (L2.CX P w) k f fd ps (spD K D) ∧ KBn K fd ps n ks (fun us ws => us ++ ws) (fun vs zs => vs ++ zs)
theorem eh {kw : List Keyword} {nm : Option Str} {kpos : Pos} {dks : DA} (he : SE X Z e da) (hk : PK X kw (tA X.K Z dks)) : PK X (⟨nm, e, kpos⟩ :: kw) (tA X.K Z (aq da dks)) := by
 refine ⟨fun pos pins s σ H Q I h => (pk_cons he hk).run pos pins s σ H Q I ?_⟩
 obtain ⟨r, m, env, s, e, h⟩ := h
 refine tX.step s e h fun w m1 r1 H1 v l1 s1 e1 q1 h1 => ?_
 exact tX.step s1 e1 h1 fun ws m2 r2 H2 vs l2 s2 e2 q2 h2 => h2.done s2 ⟨v, vs, rfl, q1.mono l2, q2⟩
theorem gE : PK X [] (tA X.K Z aJ) := ⟨fun pos pins s σ H Q I ⟨r, m, env, s', e, h⟩ => pk_nil.run pos pins s σ H Q I (Post.done (rel := uk X.K) (a := []) (v := []) h s' rfl)⟩
end
end SB
end
section
namespace SB
open PySem PySem.Spec L2
open PyProof.Rows hiding St
variable [Tabs][Past]
section
end
open He (ga ma)
theorem M8 {K : PySem.W.Frag} {C : Addr} {m : Str} (h : cmB K C m = true) : ClX.CMet K C (.type "type") m (ma K C m) (He5.wf K C "classmethod" m) := by
 unfold cmB at h
 rw [Bool.and_eq_true] at h
 exact He5.cmet_of h.1 h.2
end SB
end
section
namespace SZ
open PySem PySem.Spec PyProof.Rows PySem.W
abbrev Nk (h : Heap) (z TI TO T : Addr) (f : Bool) : Prop := h.get? z = ξ { cls := .type "zip", dict := ζ, data := .fields #[rawInt T, .bool f, .bool true, .ref TI, .ref TO], slots := #[] }
section
variable {prog: Program}{w: World}{A: Around}{E: Value → Shared → Prop}{s: Shared}{z TI TO T: Addr}{x1 x2: Sr}{f: Bool}{oT: Obj}
theorem HQ {Q : Bool → Shared → Prop} (hz : Nk s.heap z TI TO T f) (hT : s.heap.get? T = ξ oT)
  (k : ∀ h', Nk h' z TI TO T true → Heap.SameBut z s.heap h' → Q false { s with heap := h' }) : wpAny (model prog w) A (Builtin.SmallTypes.ownedTupleIsFree (.ref z)) Q E s := by
 unfold Builtin.SmallTypes.ownedTupleIsFree
 refine wpAny_bind (wpAny_field hz rfl (x := rawInt T) rfl ?_)
 show wpAny _ _ (loadIfAlive ((T : Int).toNat) >>= _) _ _ _
 rw [Int.toNat_natCast]
 refine wpAny_bind (kdx_alive hT ?_)
 simp only [Option.isNone_some, Bool.false_eq_true, if_false]
 refine wpAny_bind (wpAny_field hz rfl (x := .bool f) rfl ?_)
 cases f
 ·rw [if_pos (by rfl)]
  exact wpAny_bind (wpAny_setField_rec hz (by simp) fun g hg hs => wpAny_pure (k g hg hs))
 ·rw [if_neg (by decide)]
  exact wpAny_pure (k s.heap hz (Heap.SameBut.refl _ _))
theorem BE {i : Nat} {xs ys : Array Value} {Q : Fin → Shared → Prop} (hh : A.handled = ζ) (D : Sep z TI TO [x1, x2]) (hz : Nk s.heap z TI TO T f) (hT : s.heap.get? T = ξ oT) (hTI : IsT s.heap TI [.ref x1.it, .ref x2.it])
  (p1 : SrAt s.heap x1 i) (p2 : SrAt s.heap x2 i) (o1 : SrOk s.heap x1 xs) (o2 : SrOk s.heap x2 ys) (ha : xs[i]? = ζ) (hb : ys[i]? = ζ)
  (hE : ∀ h' e, (∀ c o, c ≠ z → c ≠ x1.it → c ≠ x2.it → s.heap.get? c = ξ o → h'.get? c = ξ o) → (∃ o, h'.get? e = ξ o ∧ o.cls = .type "StopIteration") → E (.ref e) { s with heap := h' }) :
  wpAny (model prog w) A (Builtin.«zip.__next__» ⟨[.ref z], []⟩) Q E s := by
 have m1 : x1 ∈ [x1, x2] := by simp
 have m2 : x2 ∈ [x1, x2] := by simp
 have n12 : x1.it ≠ x2.it := D.ii (j := 0) (k := 1) rfl rfl (by decide)
 have a1z : x1.a ≠ z := fun q => D.src x1 m1 (by rw [q]; simp [wr])
 have a2z : x2.a ≠ z := fun q => D.src x2 m2 (by rw [q]; simp [wr])
 have a21 : x2.a ≠ x1.it := fun q => D.src x2 m2 (by rw [q]; simp [wr])
 have stop : ∀ h', (∀ c o, c ≠ z → c ≠ x1.it → c ≠ x2.it → s.heap.get? c = ξ o → h'.get? c = ξ o) → ∀ {α : Type} {Q' : α → Shared → Prop}, wpAny (model prog w) A (Builtin.SmallTypes.stopIteration) Q' E { s with heap := h' } := fun h' k α Q' => by
  unfold Builtin.SmallTypes.stopIteration
  show wpAny _ _ (newExc (.type "StopIteration") [] >>= _) _ _ _
  refine wpAny_bind ?_
  simp only [newExc, newTuple]
  refine wpAny_bind (wpAny_newObj_type ?_ (by size_fits))
  refine wpAny_bind (m := firstArgMember _ _) (wpAny_of_eq (a := Value.none) (by first | rfl | (simp only [firstArgMember]; rfl)) ?_)
  refine wpAny_newObj_type ?_ (by size_fits)
  simp only [raiseNew]
  refine wpAny_bind (wpAny_handled ?_)
  rw [hh]
  exact wpAny_throw (hE _ _ (fun c o c1 c2 c3 e => Heap.get?_push_of_some _ (Heap.get?_push_of_some _ (k c o c1 c2 c3 e))) ⟨_, Heap.get?_push_size _ rfl, rfl⟩)
 show wpAny _ _ (field (.ref z) 2 >>= _) _ _ _
 refine wpAny_bind (wpAny_field hz rfl (x := .bool true) rfl ?_)
 show wpAny _ _ (field (.ref z) 3 >>= _) _ _ _
 refine wpAny_bind (wpAny_field hz rfl (x := .ref TI) rfl ?_)
 refine wpAny_bind (wpAny_seqItems hTI rfl ?_)
 show wpAny _ _ (Builtin.SmallTypes.ownedTupleIsFree (.ref z) >>= _) _ _ _
 refine wpAny_bind (HQ hz hT fun g1 hg1 sb1 => ?_)
 simp only [Bool.false_eq_true, if_false]
 refine wpAny_bind ?_
 rw [← Array.forIn_toList]
 simp only [List.forIn_cons, List.forIn_nil]
 refine wpAny_bind (wpAny_bind (wpAny_holding ?_))
 show wpAny _ _ (Builtin.SmallTypes.nextOrEnd (.ref x1.it)) _ _ _
 refine wq (s := { s with heap := g1 }) hh (p1.keep fun o q => sb1.extBut _ _ (D.iz m1) q) (o1.keep fun o q => sb1.extBut _ _ a1z q) ha fun g2 eb2 => ?_
 refine wpAny_bind ?_
 show wpAny _ _ (forIn (([Value.ref x2.it]).zipIdx 1) _ _ >>= _) _ _ _
 refine wpAny_bind ?_
 simp only [List.zipIdx_cons, List.zipIdx_nil, List.forIn_cons, List.forIn_nil]
 refine wpAny_bind (wpAny_bind (wq (s := { s with heap := g2 }) hh (p2.keep fun o q => eb2 _ _ n12.symm (sb1.extBut _ _ (D.iz m2) q)) (o2.keep fun o q => eb2 _ _ a21 (sb1.extBut _ _ a2z q)) hb fun g3 eb3 => ?_))
 exact wpAny_pure (wpAny_pure (wpAny_bind (wpAny_rule (stop g3 fun c o c1 c2 c3 e => eb3 _ _ c3 (eb2 _ _ c2 (sb1.extBut _ _ c1 e))))))
theorem SrAt.lt {h : Heap} {x : Sr} {i : Nat} (q : SrAt h x i) : x.it < h.objs.size := by
 obtain ⟨o, e, _⟩ := q.obj
 exact Heap.lt_size e
end
end SZ
end
section
namespace SB
open PySem PySem.Spec L2
open PyProof.Rows hiding St
variable [Tabs][Past]
section
end
end SB
end
section
namespace SB
open PySem PySem.Spec L2
open PyProof.Rows (envOfC)
variable [Tabs][Past]
structure FnKw (P : Program) (w : World) (K : PySem.W.Frag) (mg : Str → Option Value) (base : Heap) (k : Nat) (f : Addr) (n : Nat) (kw : Str) (b : Bool) (D : DF) : Prop where
 ex : ∃ (fd : FuncData) (ps : List Str), FnG P w K mg base (L2.CX P w) k f fd ps (spD K D) ∧ KBn K fd ps n [kw] (fun us ws => us ++ ws) (fun vs zs => vs ++ zs) ∧ ∃ ds, Vals [V.bl b] ds ∧ Binds K fd ps ds
section
end
section
variable {X: Cx}{j n: Nat}{kw: Str}{f: Addr}{D: DF}{b: Bool}
theorem FnKw.kk (F : FnKw X.prog X.w X.K X.mg X.base j f n kw b D) : FnK X.prog X.w X.K X.mg X.base j f n [kw] D := by
 obtain ⟨fd, ps, h1, h2, _⟩ := F.ex
 exact ⟨fd, ps, h1, h2⟩
end
end SB
end
section
namespace SB
open PySem PySem.Spec L2
variable [Tabs][Past]
end SB
end
section
namespace SB
open PySem PySem.Spec PyProof.Rows L2
section
variable [Tabs][Past]
end
end SB
end
section
namespace SB
open PySem PySem.Spec L2
open PyProof.Rows hiding St
variable [Tabs][Past]
section
end
end SB
end
section
namespace SB
open PySem PySem.Spec PyProof.Rows L2
variable [Tabs][Past]
section
end
end SB
end
section
namespace L2
open PySem PySem.Spec PyProof.Rows
section
end
section
end
end L2
namespace SB
open PySem PySem.Spec L2
open PyProof.Rows hiding St
variable [Tabs][Past]
def oW (x : Int) : List Int → List Int
 | [] => [x]
 | y :: ys => if x < y then x :: y :: ys else if x = y then y :: ys else y :: oW x ys
def AK (is : List Int) : List Int := is.foldr oW []
theorem insU_mem {x z : Int} : ∀ {l : List Int}, z ∈ oW x l ↔ z = x ∨ z ∈ l
 | [] => by simp [oW]
 | y :: ys => by
  unfold oW
  split
  ·simp
  ·split
   ·rename_i h
    subst h
    simp
   ·rw [List.mem_cons, insU_mem, List.mem_cons]
    constructor
    ·rintro (h | h | h)
     ·exact .inr (.inl h)
     ·exact .inl h
     ·exact .inr (.inr h)
    ·rintro (h | h | h)
     ·exact .inr (.inl h)
     ·exact .inl h
     ·exact .inr (.inr h)
theorem oB {x : Int} : ∀ {l : List Int}, l.Pairwise (· < ·) → (oW x l).Pairwise (· < ·)
 | [], _ => by simp [oW]
 | y :: ys, h => by
  obtain ⟨h1, h2⟩ := List.pairwise_cons.mp h
  unfold oW
  split
  ·rename_i c
   refine List.pairwise_cons.mpr ⟨fun z hz => ?_, h⟩
   rcases List.mem_cons.mp hz with rfl | hz
   ·exact c
   ·have := h1 z hz
    omega
  ·split
   ·exact h
   ·refine List.pairwise_cons.mpr ⟨fun z hz => ?_, oB h2⟩
    rcases insU_mem.mp hz with rfl | hz
    ·omega
    ·exact h1 z hz
theorem vP {z : Int} : ∀ {is : List Int}, z ∈ AK is ↔ z ∈ is
 | [] => by simp [AK]
 | i :: is => by
  show z ∈ oW i (AK is) ↔ _
  rw [insU_mem, vP, List.mem_cons]
theorem oq : ∀ {is : List Int}, (AK is).Pairwise (· < ·)
 | [] => .nil
 | i :: is => oB (oq (is := is))
section
end
end SB
end
section
namespace TupW
open PySem PySem.SeqAt GQ
section
end
end TupW
end
section
namespace GQ
open PySem PySem.SeqAt
open AutoSeq1 (wpAny_loadPart')
open MeetsSeq MeetsSeq2 MeetsSeq3 SeqRoads2
section
end
section
end
end GQ
namespace SB
open PySem L2
variable [Tabs][Past]
section
end
section
end
end SB
end
section
namespace SB
open PySem PySem.Spec L2
open PyProof.Rows hiding St
variable [Tabs][Past]
section
end
section
end
end SB
end
section
namespace L2
open PySem PySem.Spec PyProof.Rows
section
end
end L2
namespace SB
open PySem PySem.Spec L2
open PyProof.Rows hiding St
variable [Tabs][Past]
section
end
section
end
end SB
end
section
namespace SB
open PySem PySem.Spec L2
open PyProof.Rows hiding St
variable [Tabs][Past]
section
end
end SB
end
section
namespace TupW
open PySem PySem.SeqAt GQ
section
end
end TupW
namespace SB
open PySem L2
variable [Tabs][Past]
section
end
section
end
end SB
end
section
namespace TupW
open PySem PySem.SeqAt GQ
open MeetsSeq MeetsSeq2 MeetsSeq3 SeqRoads2
section
abbrev Qi (xs : Array Value) (n : Nat) (sl : Array (Option Value)) : Obj := { cls := .type "list", data := .seq xs n, slots := sl }
end
section
end
end TupW
end
section
namespace SB
open PySem L2 TupW
variable [Tabs][Past]
def qc : List W → Option (List Nat)
 | [] => ξ []
 | .ref n :: ws => (match qc ws with
  | some ns => ξ (n :: ns)
  | none => ζ)
 | _ :: _ => ζ
theorem sM : ∀ {ws : List W} {ns : List Nat}, qc ws = ξ ns → ws = ns.map W.ref
 | [], _, h => by cases h; rfl
 | w :: ws, ns, h => by
  cases w <;> first | (cases h; done) | skip
  unfold qc at h
  cases h1 : qc ws with
  | none => rw [h1] at h; cases h
  | some js =>
   rw [h1] at h
   cases h
   rw [sM h1]
   rfl
def lstR (m : M) (w : W) : Option (List Nat) := match cI m w with
 | some ws => qc ws
 | none => ζ
theorem uD {m : M} {w : W} {ns : List Nat} (h : lstR m w = ξ ns) : cI m w = ξ (ns.map W.ref) := by
 unfold lstR at h
 cases h1 : cI m w with
 | none => rw [h1] at h; cases h
 | some ws => rw [h1] at h; rw [sM h]
section
variable {X: Cx}{n: Nat}
def SeeL (X : Cx) (pins : List (Addr × Obj)) (σ : St) (H : Hp) (r : List Addr) (w1 w2 : W) (p q : Addr) (l1 l2 : List Nat) (H1 : Hp) (r1 : List Addr) (m1 : M) (st : Shared) : Prop :=
 RW X.K r1 H1 w1 (.ref p) ∧ RW X.K r1 H1 w2 (.ref q) ∧ Inv X pins σ H1 st ∧ Lt X.K r H r1 H1 ∧ Sim X.K r1 m1 H1 ∧ lstR m1 w1 = ξ l1 ∧ lstR m1 w2 = ξ l2
theorem SeeL.two {pins : List (Addr × Obj)} {σ : St} {H : Hp} {r : List Addr} {w1 w2 : W} {p q : Addr} {l1 l2 : List Nat} {H1 : Hp} {r1 : List Addr} {m1 : M} {st : Shared} (s : SeeL X pins σ H r w1 w2 p q l1 l2 H1 r1 m1 st) (len : l1.length = l2.length) :
  ∃ (us us2 : List Value) (xs ys : List V) (n n' : Nat) (sl sl' : Array (Option Value)), st.heap.get? p = ξ (Qi us.toArray n sl) ∧ st.heap.get? q = ξ (Qi us2.toArray n' sl') ∧ us.length = l1.length ∧ us2.length = l1.length ∧ Vals xs us ∧ Vals ys us2 ∧ RWs X.K r1 H1 (l1.map W.ref) xs ∧ RWs X.K r1 H1 (l2.map W.ref) ys := by
 obtain ⟨a1, a2, I1, _, s1, e1, e2⟩ := s
 obtain ⟨p', xs, ep, hx, rx⟩ := gu s1 a1 (uD e1)
 obtain ⟨q', ys, eq, hy, ry⟩ := gu s1 a2 (uD e2)
 cases ep
 cases eq
 obtain ⟨us, rv, ⟨o, n, g, oc, od, oe⟩, _⟩ := I1.list hx
 obtain ⟨us2, rv2, ⟨o2, n2, g2, oc2, od2, oe2⟩, _⟩ := I1.list hy
 obtain ⟨c, d, dt, sl⟩ := o
 obtain ⟨c2, d2, dt2, sl2⟩ := o2
 simp only at oc od oe oc2 od2 oe2
 subst oc od oe oc2 od2 oe2
 have n1 := rx.len
 have n2' := ry.len
 rw [List.length_map] at n1 n2'
 exact ⟨us, us2, xs, ys, n, n2, sl, sl2, g, g2, by rw [← rv.length, ← n1], by rw [← rv2.length, ← n2', len], rv, rv2, rx, ry⟩
end
section
end
end SB
end
section
namespace SB
open PySem PySem.Spec L2
open PyProof.Rows hiding St
structure Down (X : Cx) (pins : List (Addr × Obj)) (σ : L2.St) (H : Hp) (cls : Value) (d : Option Addr) (a : Addr) (B : Heap) (sI sh : Shared) : Prop where
 inv : Inv X pins σ H sI
 nb : ∀ b o, sI.heap.get? b = ξ o → b ∉ frs X.stack → B.get? b = ξ o
 up : sI.heap.UpToSlots sh.heap
 fly : HandSPX.FlyingZ B (X.env :: X.outer) a (Zc cls d) sh.heap
 new : H a = ζ
 os : sh.os = sI.os
 ag : AllBare sh.gens
section
variable {X: Cx}{pins: List (Addr × Obj)}{σ: L2.St}{H: Hp}{cls: Value}{d: Option Addr}{a: Addr}{B: Heap}{sI sh: Shared}
theorem Down.here (q : Down X pins σ H cls d a B sI sh) : Inv X pins σ H sh := q.inv.landed q.nb q.fly.1 q.up q.os q.ag
theorem Down.off (q : Down X pins σ H cls d a B sI sh) {oe : Obj} {vs : Array Value} (e : sh.heap.get? a = ξ oe) (dd : oe.data = .fields vs) : a ∉ frs (X.env :: X.outer) := fun hm => by
 obtain ⟨_, o2, e2, no⟩ := q.fly.2.2.1.mem hm
 cases e.symm.trans e2
 exact no _ dd
theorem Down.held (q : Down X pins σ H cls d a B sI sh) (hf : X.env.frame = ξ X.env.locals) : ∃ oe vs, sh.heap.get? a = ξ oe ∧ Zc cls d oe ∧ oe.data = .fields vs ∧ Inv (X.suite a ((a, oe) :: (X.pn ++ pins))) [] σ H sh := by
 obtain ⟨oe, vs, e, z, dd⟩ := q.fly.there
 have no := q.off e dd
 exact ⟨oe, vs, e, z, dd, q.here.suite e dd q.new (fun z => no (List.mem_filterMap.mpr ⟨_, .head _, by rw [hf, z]⟩)) fun hm => by
  obtain ⟨en, h1, h2⟩ := List.mem_filterMap.mp hm
  exact no (List.mem_filterMap.mpr ⟨en, .tail _ h1, h2⟩)⟩
theorem Down.on (q : Down X pins σ H cls d a B sI sh) {h : Heap} (f : HandSPX.FlyingZ B (X.env :: X.outer) a (Zc cls d) h) (u : sh.heap.UpToSlots h) : Down X pins σ H cls d a B sI { sh with heap := h } := ⟨q.inv, q.nb, q.up.trans u, f, q.new, q.os, q.ag⟩
theorem Down.out (q : Down X pins σ H cls d a B sI sh) {W : WX} {D : Ends} (hs : X.stack = X.env :: X.outer) (hf : X.env.frame = ξ X.env.locals) (tk : Takes X W) (w : W cls d σ H) : wpAny (model X.prog X.w) X.A (handleBy (.ref a) X.env []) (SP X pins D) X.xe sh := by
 have go : wpAny (model X.prog X.w) X.A (setFlight (.ref a) X.env.frame) (fun _ s4 => wpAny (model X.prog X.w) X.A (throw (.ref a) : Sem Flow) (SP X pins D) X.xe s4) X.xe sh := by
  rw [hf]
  exact HandSPX.setFlight_upZ q.fly fun h hh u => wpAny_throw (tk _ _ ⟨a, B, sI, pins, σ, H, cls, d, rfl, q.inv, q.nb, q.up.trans u, .inr (.inr (hs ▸ hh)), q.new, q.os, q.ag, w⟩)
 obtain ⟨oe, vs, tb, _, _, e, _, dd, e1, _⟩ := q.fly.2.2.2
 refine wpAny_handleBy_nil ?_
 unfold PySem.passOn
 refine wpAny_bind (wpAny_field e dd e1 ?_)
 have nn : ¬ ((Value.ref tb == Value.none) = true) := by simp
 rw [if_neg nn]
 first
  | exact wpAny_bind (wpAny_pure (wpAny_bind go))
  | exact wpAny_bind go
theorem Down.test (q : Down X pins σ H cls d a B sI sh) (hf : X.env.frame = ξ X.env.locals) {x : Str} {c : Value} {np : Pos} {b : Bool} {Q : Bool → Shared → Prop} {E E' : Value → Shared → Prop} (hc : Names X x c) (hb : PySem.W.exmOne X.K cls c = ξ b) (h : Q b sh) :
  wpAny (model X.prog X.w) (X.A.mark (ξ (.ref a))) (eval (.Name x np) X.env) (fun v s1 => wpAny (model X.prog X.w) (X.A.mark (ξ (.ref a))) (excMatches (.ref a) v) Q E' s1) E sh := by
 obtain ⟨oe, vs, e, z, dd, S⟩ := q.held hf
 have ty : PySem.W.Looks (model X.prog X.w) sh.heap (typeOf (.ref a)) cls := fun _ _ _ _ k r => wpAny_typeOf_ref (k _ _ e) (by rw [z.1]; exact r)
 have m := (PySem.W.exm_one (M := model X.prog X.w) q.here.kIn ty hb).here (Q := Q) (E := E') (A := X.A.mark (ξ (.ref a))) h
 obtain ⟨g, nd, k | ⟨k1, k2, k3⟩⟩ := hc
 ·exact ld_glob (X := X.suite a ((a, oe) :: (X.pn ++ pins))) S g k m nd
 ·exact ld_blt (X := X.suite a ((a, oe) :: (X.pn ++ pins))) S g k1 k2 m k3 nd
end
def SkipT (X : Cx) (t : Expr) (p : Value → Prop) : Prop := ∀ {pins : List (Addr × Obj)} {σ : L2.St} {H : Hp} {cls : Value} {d : Option Addr} {a : Addr} {B : Heap} {sI sh : Shared}, Down X pins σ H cls d a B sI sh → X.env.frame = ξ X.env.locals → p cls → ∀ {Q : Bool → Shared → Prop} {E E' : Value → Shared → Prop}, (∀ sh', Down X pins σ H cls d a B sI sh' → Q false sh') →
  wpAny (model X.prog X.w) (X.A.mark (ξ (.ref a))) (eval t X.env) (fun v s1 => wpAny (model X.prog X.w) (X.A.mark (ξ (.ref a))) (excMatches (.ref a) v) Q E' s1) E sh
inductive Hds (X : Cx) : List ExceptHandler → (WX → Ends → WX) → Prop
 | nil : Hds X [] fun W _ => W
 | as {x n : Str} {c : Value} {i : Nat} {ts : Addr → Value → Option Addr → TS} {b : Stmt} {bs : List Stmt} {np pos : Pos} {hds : List ExceptHandler} {f : WX → Ends → WX} (hc : Names X x c) (hi : X.N[i]? = ξ n) (hl : X.env.kindOf n = ξ .local)
   (hb : ∀ (a : Addr) (oe : Obj) (cls : Value) (d : Option Addr) (pn : List (Addr × Obj)), Zc cls d oe → (∃ vs, oe.data = .fields vs) → PSs (X.suite a ((a, oe) :: pn)) (b :: bs) (ts a cls d)) (r : Hds X hds f) :
   Hds X (.ExceptHandler (ξ (.Name x np)) (ξ n) (b :: bs) pos :: hds) fun W D => wAs X.K c i ts (f W D) D
 | skip {t : Expr} {p : Value → Prop} {b : Stmt} {bs : List Stmt} {pos : Pos} {hds : List ExceptHandler} {f : WX → Ends → WX} (ht : SkipT X t p) (r : Hds X hds f) :
   Hds X (.ExceptHandler (ξ t) ζ (b :: bs) pos :: hds) fun W D cls d σ H => p cls ∧ f W D cls d σ H
 | bare {x : Str} {c : Value} {ts : Addr → Value → Option Addr → TS} {b : Stmt} {bs : List Stmt} {np pos : Pos} {hds : List ExceptHandler} {f : WX → Ends → WX} (hc : Names X x c)
   (hb : ∀ (a : Addr) (oe : Obj) (cls : Value) (d : Option Addr) (pn : List (Addr × Obj)), Zc cls d oe → (∃ vs, oe.data = .fields vs) → PSs (X.suite a ((a, oe) :: pn)) (b :: bs) (ts a cls d)) (r : Hds X hds f) :
   Hds X (.ExceptHandler (ξ (.Name x np)) ζ (b :: bs) pos :: hds) fun W D cls d σ H => ∃ k, PySem.W.exmOne X.K cls c = ξ k ∧ (k = true → ∀ a, H a = ζ → ts a cls d D σ H) ∧ (k = false → f W D cls d σ H)
section
variable {X: Cx}{pins: List (Addr × Obj)}
theorem Hds.go (hs : X.stack = X.env :: X.outer) (hf : X.env.frame = ξ X.env.locals) (hN : X.N.Nodup) {W : WX} {D : Ends} (tk : Takes X W) : ∀ {hds : List ExceptHandler} {f : WX → Ends → WX}, Hds X hds f → ∀ {σ : L2.St} {H : Hp} {cls : Value} {d : Option Addr} {a : Addr} {B : Heap} {sI sh : Shared}, Down X pins σ H cls d a B sI sh → f W D cls d σ H → wpAny (model X.prog X.w) X.A (handleBy (.ref a) X.env hds) (SP X pins D) X.xe sh := by
 intro hds f k
 induction k with
 | nil => exact fun q w => q.out hs hf tk w
 | @as x n c i ts b bs np pos hds f hc hi hl hb r ih =>
  intro σ H cls d a B sI sh q w
  obtain ⟨t, e, yes, no⟩ := w
  refine wpAny_handleBy_cons (codeAny_handlers_test (q.test hf hc e ?_)) (fun z => nomatch z)
  cases t with
  | false => exact ih q (no rfl)
  | true =>
   refine codeAny_handlers_suite_as (HandSPX.lands_againZ q.fly fun h fl u => ?_)
   obtain ⟨oe, vs, _, z, dd, S⟩ := (q.on fl u).held hf
   refine store_ok (X := X.suite a ((a, oe) :: (X.pn ++ pins))) (v := .ref a) S hN hi (.inl hl) rfl (fun s5 S5 => ?_) (.inr hl)
   refine wpAny_mono ((hb a oe cls d (X.pn ++ pins) z ⟨_, dd⟩).run [] s5 _ H _ S5 (yes rfl a q.new)) (fun fl s6 r6 => ?_) fun _ _ z => z.elim
   have gone : ∀ {σ6 : L2.St} {H6 : Hp} {Q : Shared → Prop}, Inv (X.suite a ((a, oe) :: (X.pn ++ pins))) [] σ6 H6 s6 → (∀ s7, Inv X pins (σ6.set i ζ) H6 s7 → Q s7) → wpAny (model X.prog X.w) X.A (do bindName X.env n .none; unbindBehindTheSuite X.env n pos) (fun _ s7 => Q s7) X.xe s6 :=
    fun S6 g => gone_ok (S6.unsuite q.inv.ok) hN hi hl g
   cases fl <;> first
    | (obtain ⟨σ6, H6, S6, q6⟩ := r6; exact gone S6 fun s7 J => ⟨_, _, J, q6⟩)
    | (obtain ⟨v6, σ6, H6, S6, rv, q6⟩ := r6; exact gone S6 fun s7 J => ⟨_, _, _, J, rv, q6⟩)
 | @skip t p b bs pos hds f ht r ih =>
  intro σ H cls d a B sI sh q w
  exact wpAny_handleBy_cons (codeAny_handlers_test (ht q hf w.1 fun sh' q' => ih q' w.2)) (fun z => nomatch z)
 | @bare x c ts b bs np pos hds f hc hb r ih =>
  intro σ H cls d a B sI sh q w
  obtain ⟨t, e, yes, no⟩ := w
  refine wpAny_handleBy_cons (codeAny_handlers_test (q.test hf hc e ?_)) (fun z => nomatch z)
  cases t with
  | false => exact ih q (no rfl)
  | true =>
   refine codeAny_handlers_suite (HandSPX.lands_againZ q.fly fun h fl u => ?_)
   obtain ⟨oe, vs, _, z, dd, S⟩ := (q.on fl u).held hf
   refine wpAny_mono ((hb a oe cls d (X.pn ++ pins) z ⟨_, dd⟩).run [] _ _ H _ S (yes rfl a q.new)) (fun fl s6 r6 => ?_) fun _ _ z => z.elim
   cases fl <;> first
    | (obtain ⟨σ6, H6, S6, q6⟩ := r6; exact ⟨_, _, S6.unsuite q.inv.ok, q6⟩)
    | (obtain ⟨v6, σ6, H6, S6, rv, q6⟩ := r6; exact ⟨_, _, _, S6.unsuite q.inv.ok, rv, q6⟩)
theorem HH {body : List Stmt} {h₀ : ExceptHandler} {hds : List ExceptHandler} {f : WX → Ends → WX} {pos : Pos} {tb : WX → TS} {W : WX} (hs : X.stack = X.env :: X.outer) (hf : X.env.frame = ξ X.env.locals) (hN : X.N.Nodup) (tk : Takes X W)
  (hb : ∀ (W : WX) (pn : List (Addr × Obj)) (xe : Value → Shared → Prop), Takes (X.tr pn xe) W → PassesOwn (model X.prog X.w) X.A X.env xe → PSs (X.tr pn xe) body (tb W)) (hh : Hds X (h₀ :: hds) f) :
  PS X (.Try body (h₀ :: hds) [] [] pos) (fun D σ H => tb (f W D) D σ H) := ⟨fun pins s σ H D I h => by
 have ok := I.ok
 have fr : X.A.frames = ξ (X.env :: X.outer) := hs ▸ ok.frames
 have b0 := hb (f W D) (X.pn ++ pins) (fun e s1 => wpAny (model X.prog X.w) X.A (noteFrame e X.env) (fun _ s2 => wpAny (model X.prog X.w) X.A (setFlight e ζ) (fun _ s3 => wpAny (model X.prog X.w) X.A (handleBy e X.env (h₀ :: hds)) (SP X pins D) X.xe s3) X.xe s2) X.xe s1) (fun u s' xx => by
  obtain ⟨a, B, sI, pn2, σ2, H2, cls, d, rfl, J, nb, up, sky, na, os, ag, w⟩ := xx
  exact Sky.land Zc.steady fr hf (show Sky B (X.env :: X.outer) a (Zc cls d) X.env.locals s'.heap from hs ▸ sky) fun h3 fl u3 => Hds.go hs hf hN tk hh ⟨J.ofTry ok, nb, up.trans u3, fl, na, os, ag⟩ w) PassesOwn.looking
 refine wpAny_Try_except (wpAny_mono (b0.run [] s σ H D (I.toTry _) h) (fun fl s1 r => ?_) fun _ _ z => z)
 cases fl <;> first
  | (obtain ⟨σ1, H1, J, q⟩ := r; exact wpAny_execs_nil ⟨σ1, H1, J.ofTry ok, q⟩)
  | (obtain ⟨σ1, H1, J, q⟩ := r; exact ⟨σ1, H1, J.ofTry ok, q⟩)
  | (obtain ⟨v, σ1, H1, J, rv, q⟩ := r; exact ⟨v, σ1, H1, J.ofTry ok, rv, q⟩)⟩
end
variable [Tabs][Past]
structure TryD (X : Cx) (hds : List ExceptHandler) (F : DS → DS) : Prop where
 ex : ∃ f, Hds X hds f ∧ ∀ (W : WX) (D : Ends) (db : DS) (σ : L2.St) (H : Hp), tS X.K W (F db) D σ H → tS X.K (f W D) db D σ H
section
variable {X: Cx}{Z: WX}{k: Nat}
theorem K' : TryD X [] fun db => db := ⟨_, .nil, fun _ _ _ _ _ h => h⟩
theorem Ax {K : PySem.W.Frag} {W : WX} {D : Ends} {c0 : Value} {C : Addr} {i : Nat} {db : DS} {de : DE} {σ : L2.St} {H : Hp} (h : tS K W (hZ (fun C' => PySem.W.exmOne K (.ref C') c0) C i db de) D σ H) :
    tS K (wAs K c0 i (fun a cls d D σ H => cls = .ref C ∧ tXx K (d8 K) a d i de σ H D.rt) W D) db D σ H := by
  obtain ⟨r, m, env, s, e0, h⟩ := h
  refine ⟨r, m, env, s, e0, ?_⟩
  unfold hZ at h
  cases hx : db env m with
  | none => rw [hx] at h; exact h
  | some y =>
    rw [hx] at h
    cases y with
    | fl fl en m1 => cases fl <;> exact h
    | exc C' dn en m1 =>
      simp only at h
      intro r1 H1 σ1 dv l1 s1 e1 x1
      cases hm : PySem.W.exmOne K (.ref C') c0 with
      | none => rw [hm] at h; exact h.elim
      | some b =>
        rw [hm] at h
        refine ⟨b, hm, fun hb1 a ha => ?_, fun hb1 => ?_⟩
        · subst hb1
          simp only at h
          by_cases hC : C' = C ∧ i < en.length
          · rw [if_pos hC] at h
            obtain ⟨rfl, hlen⟩ := hC
            have e2 : EnvR K r1 H1 ((en.set i (xn dn)).set i ζ) (σ1.set i (ξ (.ref a))) := by
              rw [List.set_set]
              refine ⟨by rw [List.length_set, List.length_set]; exact e1.1, fun j w hj => ?_⟩
              by_cases hij : i = j
              · subst hij
                rw [List.getElem?_set_self hlen] at hj
                cases hj
              · rw [List.getElem?_set_ne hij] at hj ⊢
                exact e1.2 j w hj
            refine ⟨rfl, r1, m1, en.set i (xn dn), dn, s1, ⟨e2, by rw [List.getElem?_set_self hlen]⟩, x1, by rw [List.getElem?_set_self (by rw [← e1.1]; exact hlen)], ?_⟩
            cases hd : de (en.set i (xn dn)) m1 with
            | none => rw [hd] at h; exact h
            | some z =>
              rw [hd] at h
              cases z with
              | exc C2 d2 m2 => exact h.elim
              | ok w m2 => exact fun r2 H2 v l2 s2 q2 => h r2 H2 v (l1.trans l2) s2 q2
          · rw [if_neg hC] at h; exact h.elim
        · subst hb1
          exact h r1 H1 σ1 dv l1 s1 e1 x1
theorem J6 {x n : Str} {c0 : Value} {C : Addr} {i : Nat} {e : Expr} {de : DE} {np rp pos : Pos} {hds : List ExceptHandler} {F : DS → DS} (hi : X.N[i]? = ξ n) (hl : X.env.kindOf n = ξ .local) (hc : Names X x c0)
  (he : ∀ (a : Addr) (oe : Obj) (d : Option Addr) (pn : List (Addr × Obj)), Zc (.ref C) d oe → (∃ vs, oe.data = .fields vs) → uY (X.suite a ((a, oe) :: pn)) a d i e de) (r : TryD X hds F) :
  TryD X (.ExceptHandler (ξ (.Name x np)) (ξ n) [.Return (ξ e) rp] pos :: hds) fun db => F (hZ (fun C' => PySem.W.exmOne X.K (.ref C') c0) C i db de) := by
 obtain ⟨f, h1, h2⟩ := r.ex
 refine ⟨_, .as hc hi hl (ts := fun a cls d D σ H => cls = .ref C ∧ tXx X.K (d8 X.K) a d i de σ H D.rt) (fun a oe cls d pn hz hd => ⟨fun pins s σ H D I ⟨hcl, h⟩ => ?_⟩) h1, fun W D db σ H h => Ax (h2 W D _ σ H h)⟩
 subst hcl
 exact (pss_cons (ps_ret (he a oe d pn hz hd)) pss_nil).run pins s σ H D I h
theorem Hc {body : List Stmt} {h₀ : ExceptHandler} {hds : List ExceptHandler} {F : DS → DS} {db : DS} {pos : Pos} (cc : Ctx X Z k) (hs : X.stack = X.env :: X.outer) (hf : X.env.frame = ξ X.env.locals)
  (hb : ∀ (W : WX) (pn : List (Addr × Obj)) (xe : Value → Shared → Prop), Ctx (X.tr pn xe) W k → rK (X.tr pn xe) W body db) (hh : TryD X (h₀ :: hds) F) :
  SS X Z (.Try body (h₀ :: hds) [] [] pos) (F db) := by
 obtain ⟨f, h1, h2⟩ := hh.ex
 exact PS.imp (HH (tb := fun W => tS X.K W db) hs hf cc.nd cc.tk (fun W pn xe tk po => hb W pn xe ⟨cc.calm, cc.nd, tk, po, cc.room, cc.gd⟩) h1) fun D σ H h => h2 Z D db σ H h
end
end SB
end
section
namespace SB
open PySem L2
variable [Tabs][Past]
section
end
end SB
end
section
namespace L2
open PySem PySem.Spec PyProof.Rows
section
end
section
end
section
end
end L2
end
section
namespace SB
open PySem PySem.Spec L2
open PyProof.Rows hiding St
variable [Tabs][Past]
section
end
section
end
section
end
section
end
section
end
section
end
end SB
end
section
namespace SB
open PySem PySem.Spec L2
open PyProof.Rows hiding St
theorem FC {K : PySem.W.Frag} {a c : Addr} {oc : Value} {od : Option Addr} {osl : Array (Option Value)} {fd : FuncData} (lk : K.lookup a = ξ ⟨oc, od, .func fd, osl⟩) (e : fd.code = .ref c) : z7 K a = c := by
 unfold z7
 simp only [lk, e]
variable [Tabs][Past]
section
variable {K: PySem.W.Frag}{r: List Addr}{H: Hp}{m: M}{P c: Addr}{q: Str}{ps qs: Array Value}
theorem RO.ntb {o : O} {u : HO} (h : RO K r H o u) : ∀ ps, u ≠ .tbl ps := by
 cases o <;> first | (obtain ⟨vs, rfl, _⟩ := h; intro ps z; cases z; done) | (obtain ⟨_, vs, rfl, _⟩ := h; intro ps z; cases z; done)
theorem Bj (hP : H P = ξ (.tbl ps)) (hc : H c = ζ) (hu : ∀ p ∈ Tabs.T, p.1 = P → p.2 = q) (ht : LamX.TabS (upd (upd H P (.tbl qs)) c (LamX.CodeO c q)) P q) : Later K H (upd (upd H P (.tbl qs)) c (LamX.CodeO c q)) := by
  have go : ∀ {a u}, H a = ξ u → (∀ z, u ≠ .tbl z) → upd (upd H P (.tbl qs)) c (LamX.CodeO c q) a = ξ u := fun {a u} e n => by
    have hP' : a ≠ P := fun z => by
      subst z
      rw [hP] at e
      exact n ps (Option.some.inj e).symm
    rw [upd_ne (ne_of_none e hc), upd_ne hP']
    exact e
  refine ⟨fun a vs e => go e fun z y => (by cases y), fun a vs e => ?_, fun a ob u e => go e fun z y => (by cases y), fun p hp t => ?_, fun a us e => ?_, fun a n e => go e LamX.codeO_ne⟩
  · rcases e with ⟨o, e⟩ | e
    · exact .inl ⟨o, go e fun z y => (by cases y)⟩
    · exact .inr e
  · by_cases hb : p.1 = P
    · rw [hu p hp hb, hb]
      exact ht
    · obtain ⟨us, h1, h2, h3⟩ := t
      refine ⟨us, ?_, h2, fun pos cv e => ?_⟩
      · rw [upd_ne (ne_of_none h1 hc), upd_ne hb]
        exact h1
      · obtain ⟨d, e1, e2⟩ := h3 pos cv e
        exact ⟨d, e1, go e2 LamX.codeO_ne⟩
  · by_cases hb : a = P
    · subst hb
      exact ⟨qs, by rw [upd_ne (ne_of_none hP hc), upd_same]⟩
    · exact ⟨us, by rw [upd_ne (ne_of_none e hc), upd_ne hb]; exact e⟩
theorem Sim.tab (s : Sim K r m H) (hP : H P = ξ (.tbl ps)) (hc : H c = ζ) (hu : ∀ p ∈ Tabs.T, p.1 = P → p.2 = q) (ht : LamX.TabS (upd (upd H P (.tbl qs)) c (LamX.CodeO c q)) P q) :
  Sim K r m (upd (upd H P (.tbl qs)) c (LamX.CodeO c q)) ∧ Lt K r H r (upd (upd H P (.tbl qs)) c (LamX.CodeO c q)) := by
 have la := Bj (K := K) hP hc hu ht
 have go : ∀ {a u}, H a = ξ u → (∀ z, u ≠ .tbl z) → upd (upd H P (.tbl qs)) c (LamX.CodeO c q) a = ξ u := fun {a u} e n => by
  have hP' : a ≠ P := fun z => by
   subst z
   rw [hP] at e
   exact n ps (Option.some.inj e).symm
  rw [upd_ne (ne_of_none e hc), upd_ne hP']
  exact e
 have lt : Lt K r H r (upd (upd H P (.tbl qs)) c (LamX.CodeO c q)) := ⟨List.prefix_rfl, la, fun a u e _ n => go e n, fun _ h n => absurd h n⟩
 exact ⟨⟨s.len, s.nd, fun n o e => by
  obtain ⟨a, u, e1, e2, e3⟩ := s.at_ n o e
  exact ⟨a, u, e1, go e2 e3.ntb, e3.mono lt⟩, fun p hp => la.tb p hp (s.tb p hp), fun p hp => (s.past p hp).trans lt.lp⟩, lt⟩
end
section
variable {X: Cx}
abbrev Bk (X : Cx) (params : Arguments) (body : Expr) (scope : Scope) (c : Addr) (pm ct : Value) : Obj := PySem.W.kla_obj "<lambda>" (X.env.qual ++ "<lambda>") params body scope (cloFrom X.env.cells scope.names []) pm c ct
structure LamAt (K : PySem.W.Frag) (base : Heap) (mg : Str → Option Value) (c P : Addr) (q : Str) : Prop where
 tb : LamX.TabB base mg c P
 mem : (P, q) ∈ Tabs.T
 one : ∀ p ∈ Tabs.T, p.1 = P → p.2 = q
end
def kX (i : Nat) (f : Addr) (D : M → Option (R W)) : DE := fun env m => match env[i]? with
 | some (ξ (.ob g)) => if g = f then D m else ζ
 | _ => ζ
def Np (P : Program) (w : World) (K : PySem.W.Frag) (mg : Str → Option Value) (base : Heap) (j : Nat) (A : Around) (outer : List PySem.Env) (s : Shared) (H : Hp) (f : Addr) (D : M → Option (R W)) : Prop :=
 ∀ (N : List Str) (q : Str) (sc : Scope) (g : Addr) (cd : Value) (i : Nat) (a : Str) (E : XK) (W : WX) (pn : List (Addr × Obj)) (xe : Value → Shared → Prop) (p1 p2 : Pos), N[i]? = ξ a → Vis sc a → (a == ("__debug__" : Str)) = false → (a == ("__classdict__" : Str)) = false →
  RoomG j (A.deeper (envOfC q sc s.heap.objs.size g cd)) → Takes ((cxOf (L2.CX P w) P w K mg base N q sc g cd A outer s H E).tr pn xe) W →
  SE ((cxOf (L2.CX P w) P w K mg base N q sc g cd A outer s H E).tr pn xe) W (.Call (.Name a p1) [] [] p2) (kX i f D)
def FW (P : Program) (w : World) (K : PySem.W.Frag) (mg : Str → Option Value) (base : Heap) (j k : Nat) (g : Addr) (F : Addr → (M → Option (R W)) → M → Option (R W)) : Prop :=
 PySem.W.keepIn K (.ref g) = true ∧ ∀ (pa : Past) (A : Around) (outer : List PySem.Env) (s : Shared) (H : Hp) (f : Addr) (D : M → Option (R W)) (Q : VK) (E : XK) (r : List Addr) (m : M), RoomG k A → Env0 P w K mg base A outer s H → Np P w K mg base j A outer s H f D → Sim K r m H → Post K (d8 K) r H (F f D m) Q E →
  codeAny (model P w) A (.call (.ref g) ⟨[.ref f], []⟩) (CR (L2.CX P w) outer P w H s Q E) s
section
variable {P: Program}{w: World}{K: PySem.W.Frag}{mg: Str → Option Value}{base: Heap}{x qual a: Str}{params: Arguments}{body: List Stmt}{scope: Scope}{kws: List (Str × V)}{g: Addr}{fd: FuncData}{j k: Nat}{N: List Str}
theorem E9 {ps : List Str} {b : DS} {q : Mkr} (F : FunD K x qual params body scope [] kws (q K) fd) (S : FnScope N ps scope)
  (hb : ∀ (cdv : Value) (A : Around) (outer : List PySem.Env) (s : Shared) (H : Hp) (E : XK), cdv = .ref (mT K q).1 → Ctx (cxOf (L2.CX P w) P w K mg base N qual scope (q K) cdv A outer s H E) (zOf E) k → rK (cxOf (L2.CX P w) P w K mg base N qual scope (q K) cdv A outer s H E) (zOf E) body b) :
  FnG P w K mg base (L2.CX P w) (k + 1) (q K) fd ps (spD K (cX ps.length N.length b)) := by
 have hlen : ∀ vs H Q E, spD K (cX ps.length N.length b) vs H Q E → vs.length = ps.length := fun vs H Q E ⟨r, m, ws, s, q, h⟩ => by
  unfold cX at h
  by_cases hl : ws.length = ps.length
  ·rw [← q.len]
   exact hl
  ·rw [if_neg hl] at h
   exact h.elim
 obtain ⟨oc, od, dV, kV, doc, pm, an, cdv, ct, osl, rfl, lk, hcd, _, _⟩ := F.ex
 obtain ⟨c, rfl⟩ := He.codeIn_ref hcd
 have ec : (mT K q).1 = c := FC lk rfl
 refine yz lk hcd S hlen fun A outer s H vs Q E hr hsp => ⟨_, hb (.ref c) A outer s H E (by rw [ec]) (uS S.nd hr), ?_⟩
 have hl := hlen vs H Q E hsp
 obtain ⟨r, m, ws, s', q, h⟩ := hsp
 have hw : ws.length = ps.length := by rw [q.len]; exact hl
 unfold cX at h
 rw [if_pos hw, ← hw] at h
 refine ⟨r, m, _, s', EnvR.start q, ?_⟩
 generalize hx : b (ws.map ξ ++ List.replicate (N.length - ws.length) ζ) m = y at h ⊢
 cases y with
 | none => exact h
 | some y =>
  cases y with
  | exc C d en m1 => exact fun r1 H1 σ1 dv l1 s1 e1 q1 => h r1 H1 dv l1 s1 q1
  | fl fl en m1 =>
   cases fl with
   | next => exact fun r1 H1 σ1 l1 s1 e1 => h r1 H1 .non l1 s1 rfl
   | ret v => exact fun r1 H1 v1 l1 s1 q1 => h r1 H1 v1 l1 s1 q1
   | brk => exact h.elim
   | cont => exact h.elim
theorem MT {ps : List Str} {b : DS} {q : Mkr} (F : FunD K x qual params body scope [] kws (q K) fd) (S : FnScope N ps scope)
  (hbi : ∀ (kV doc pm : Value) (an : Option Addr) (cdv ct : Value) (us : List Value), us.length = ps.length → bindArgs (PySem.W.fnOf x qual params body scope .none kV doc pm an cdv ct) ⟨us, []⟩ = pure (ps.zip us))
  (hb : ∀ (cdv : Value) (A : Around) (outer : List PySem.Env) (s : Shared) (H : Hp) (E : XK), cdv = .ref (mT K q).1 → Ctx (cxOf (L2.CX P w) P w K mg base N qual scope (q K) cdv A outer s H E) (zOf E) k → rK (cxOf (L2.CX P w) P w K mg base N qual scope (q K) cdv A outer s H E) (zOf E) body b) :
  Fn P w K mg base (k + 1) (q K) ps (cX ps.length N.length b) := ⟨⟨fd, E9 F S hb, F.bindsN hbi⟩, F.kp⟩
def AV (n : Nat) (b : Addr → (M → Option (R W)) → DS) : Addr → (M → Option (R W)) → M → Option (R W) := fun f D m => yD (b f D (ξ (.ob f) :: List.replicate (n - 1) ζ) m)
theorem Iy {b : Addr → (M → Option (R W)) → DS} (F : FunD K x qual params body scope [] kws g fd) (S : FnScope N [a] scope)
  (hbi : ∀ (kV doc pm : Value) (an : Option Addr) (cdv ct : Value) (us : List Value), us.length = [a].length → bindArgs (PySem.W.fnOf x qual params body scope .none kV doc pm an cdv ct) ⟨us, []⟩ = pure ([a].zip us))
  (hb : ∀ (pa : Past) (cdv : Value) (A : Around) (outer : List PySem.Env) (s : Shared) (H : Hp) (E : XK) (f : Addr) (D : M → Option (R W)), Ctx (cxOf (L2.CX P w) P w K mg base N qual scope g cdv A outer s H E) (zOf E) k → Np P w K mg base j A outer s H f D →
   rK (cxOf (L2.CX P w) P w K mg base N qual scope g cdv A outer s H E) (zOf E) body (b f D)) : FW P w K mg base j (k + 1) g (AV N.length b) := by
 refine ⟨F.kp, fun pa A outer s H f D Q E r m hr e0 hd s0 h => ?_⟩
 have hbn := F.bindsN hbi
 obtain ⟨oc, od, dV, kV, doc, pm, an, cdv, ct, osl, rfl, lk, hcd, _, _⟩ := F.ex
 have kin : K.In s.heap := e0.mod.kin.keeps fun b o e => (e0.bs b o e).1
 refine LamX.run_ofS (N := N) (ps := [a]) (us := [.ref f]) (vs := [.ref f]) lk hcd S hr.rm e0 (hbn s [.ref f] kin rfl) (.cons rfl .nil) rfl fun _ => ?_
 refine ⟨_, hb pa cdv A outer s H E f D (uS S.nd (hr.deeper _)) hd, r, m, ξ (.ob f) :: List.replicate (N.length - 1) ζ, s0, EnvR.start (K := K) (r := r) (H := H) (N := N) (ws := [.ob f]) (vs := [.ref f]) ⟨_, _, rfl, rfl, rfl⟩, ?_⟩
 unfold AV at h
 generalize hx : b f D (ξ (.ob f) :: List.replicate (N.length - 1) ζ) m = y at h ⊢
 cases y with
 | none => exact h
 | some y =>
  cases y with
  | exc C d en m1 => exact fun r1 H1 σ1 dv l1 s1 e1 q1 => h r1 H1 dv l1 s1 q1
  | fl fl en m1 =>
   cases fl with
   | next => exact fun r1 H1 σ1 l1 s1 e1 => h r1 H1 .non l1 s1 rfl
   | ret v => exact fun r1 H1 v1 l1 s1 q1 => h r1 H1 v1 l1 s1 q1
   | brk => exact h.elim
   | cont => exact h.elim
end
section
variable {H: Hp}{r: List Addr}{m: M}
@[reducible] def Past.and (p : Past) (r : List Addr) (H : Hp) : Past := ⟨(r, H) :: p.P⟩
theorem Sim.and {K : PySem.W.Frag} {r0 : List Addr} {H0 : Hp} (S : Sim K r m H) (l : Lp K r0 H0 r H) : @Sim _ (Past.and ‹Past› r0 H0) K r m H := by
 refine @Sim.mk _ (Past.and ‹Past› r0 H0) _ _ _ _ S.len S.nd S.at_ S.tb fun p hp => ?_
 rcases List.mem_cons.mp hp with rfl | hp
 ·exact l
 ·exact S.past p hp
theorem Sim.less {K : PySem.W.Frag} {r0 : List Addr} {H0 : Hp} (S : @Sim _ (Past.and ‹Past› r0 H0) K r m H) : Sim K r m H ∧ Lp K r0 H0 r H := by
 obtain ⟨s1, s2, s3, s4, s5⟩ := S
 exact ⟨⟨s1, s2, s3, s4, fun p hp => s5 p (.tail _ hp)⟩, s5 (r0, H0) (.head _)⟩
def lH (F : Addr → (M → Option (R W)) → M → Option (R W)) (d : DE) : DE := fun env m => F 0 (fun m1 => d env m1) m
end
abbrev tabsK (K : PySem.W.Frag) (tf : List (Mkr × Str)) (g : Bool := true) : Tabs := ⟨tf.map fun p => ((mT K p.1).2, p.2), g⟩
end SB
end
section
namespace SB
open PySem hiding Env
open L2
section
variable {m: M}{f: Addr}{D: M → Option (R W)}
inductive Sm : Option RS → Option RS → Prop
 | none : Sm ζ ζ
 | fl (f : F) (a b : Option W) (t : List (Option W)) (m : M) : Sm (ξ (.fl f (a :: t) m)) (ξ (.fl f (b :: t) m))
 | exc (C : Addr) (d : Option Nat) (a b : Option W) (t : List (Option W)) (m : M) : Sm (ξ (.exc C d (a :: t) m)) (ξ (.exc C d (b :: t) m))
theorem Hk {g : Addr} {t : List (Option W)} : Sm (fA (kX 0 f D) (ξ (.ob f) :: t) m) (fA (kX 0 g D) (ξ (.ob g) :: t) m) := by
 have e0 : ∀ f, kX 0 f D (ξ (.ob f) :: t) m = D m := fun f => by simp [kX]
 unfold fA
 rw [e0, e0]
 generalize D m = y
 cases y with
 | none => exact .none
 | some y =>
  cases y with
  | ok w m1 => exact .fl ..
  | exc C d m1 => exact .exc ..
theorem CP {j : Nat} {db db' : DS} {de : DE} {exm : Addr → Option Bool} {C : Addr} {e e' : Env} (h : Sm (db e m) (db' e' m)) (hd : ∀ a b t m, de (a :: t) m = de (b :: t) m) : Sm (hZ exm C (j + 1) db de e m) (hZ exm C (j + 1) db' de e' m) := by
  unfold hZ
  generalize db e m = x at h ⊢
  generalize db' e' m = y at h ⊢
  cases h with
  | none => exact .none
  | fl f a b t m => exact .fl ..
  | exc C' d a b t m1 =>
    simp only
    generalize exm C' = z
    cases z with
    | none => exact .none
    | some z =>
      cases z with
      | false => exact .exc ..
      | true =>
        simp only
        by_cases hc : C' = C ∧ j + 1 < (a :: t).length
        · rw [if_pos hc, if_pos (show C' = C ∧ j + 1 < (b :: t).length from hc), List.set_cons_succ, List.set_cons_succ, hd a b]
          generalize de (b :: t.set j (xn d)) m1 = y
          cases y with
          | none => exact .none
          | some y =>
            cases y with
            | ok w m2 => exact .fl ..
            | exc C d m1 => exact .none
        · rw [if_neg hc, if_neg (show ¬ (C' = C ∧ j + 1 < (b :: t).length) from hc)]
          exact .none
theorem Li {ds ds' r : DS} {e e' : Env} (h : Sm (ds e m) (ds' e' m)) (hr : ∀ a b t m, yD (r (a :: t) m) = yD (r (b :: t) m)) : yD (cb ds r e m) = yD (cb ds' r e' m) := by
 unfold cb
 generalize ds e m = x at h ⊢
 generalize ds' e' m = y at h ⊢
 cases h with
 | none => rfl
 | fl f a b t m => cases f <;> first | exact hr a b t m | rfl
 | exc C' d a b t m1 => rfl
end
end SB
end
section
namespace SB
open PySem PySem.Spec L2
open PyProof.Rows hiding St
section
end
variable [Tabs][Past]
section
end
section
end
end SB
end
section
namespace SB
open PySem L2
variable [Tabs][Past]
end SB
end
section
namespace SB
open PySem PySem.Spec L2
open PyProof.Rows hiding St
def isN8 : W → Bool
 | .int _ => true
 | _ => false
variable [Tabs][Past]
theorem RKV.same {κ : Type} {K : PySem.W.Frag} {r r' : List Addr} {H H' : Hp} : ∀ {ps qs : List (κ × W)} {vs : List (κ × V)}, RKV K r H ps vs → RKV K r' H' qs vs → (∀ p ∈ ps, isN8 p.2 = true) → qs = ps
 | [], [], _, _, _, _ => rfl
 | [], q :: qs, _, h, h', _ => by
  cases (show _ = _ from h)
  obtain ⟨_, _, z, _⟩ := h'
  cases z
 | p :: ps, [], _, h, h', _ => by
  cases (show _ = _ from h')
  obtain ⟨_, _, z, _⟩ := h
  cases z
 | p :: ps, q :: qs, _, h, h', hi => by
  obtain ⟨v, rest, rfl, h1, h2⟩ := h
  obtain ⟨v', rest', e, h3, h4⟩ := h'
  injection e with e1 e2
  injection e1 with e3 e4
  subst e2
  obtain ⟨k, w⟩ := p
  obtain ⟨k', w'⟩ := q
  have hw := hi _ (.head _)
  cases w <;> first | (cases hw; done) | skip
  cases (show v = _ from h1)
  subst e4
  cases w' <;> first | (cases (show _ = _ from h3); done) | skip
  ·cases (show _ = _ from h3)
   rw [RKV.same h2 h4 fun p hp => hi p (.tail _ hp)]
   exact congrArg (· :: ps) (Prod.ext e3.symm rfl)
  all_goals (first | (obtain ⟨_, _, z, _⟩ := h3; cases z; done) | (obtain ⟨_, _, z⟩ := h3; cases z; done) | (obtain ⟨_, z, _⟩ := h3; cases z))
section
end
section
end
section
end
section
variable {H: Hp}{r: List Addr}
theorem Dz {α β : Type} {K : PySem.W.Frag} {rel : Rel α β} {x : Option (R α)} {Q : β → Hp → Prop} {E : XK} {r0 : List Addr} {H0 : Hp} (h : Post K rel r H x Q E) : @Post _ (Past.and ‹Past› r0 H0) α β K rel r H x Q E := by
 cases x with
 | none => exact h
 | some y =>
  cases y with
  | ok w m1 => exact fun r1 H1 v1 l1 S1 q1 => h r1 H1 v1 l1 S1.less.1 q1
  | exc C d m1 => exact fun r1 H1 dv l1 S1 q1 => h r1 H1 dv l1 S1.less.1 q1
end
end SB
end
section
namespace SB
open PySem hiding Env
open L2
def Is (i : Nat) (f : Addr) (e : Env) : Prop := e[i]? = ξ (ξ (.ob f))
section
variable {i j: Nat}{f: Addr}{e: Env}
theorem Is.set (h : Is i f e) (hj : j ≠ i) (x : Option W) : Is i f (e.set j x) := by
 unfold Is
 rw [List.getElem?_set_ne hj]
 exact h
end
end SB
end
section
namespace TupW
open PySem PySem.SeqAt GQ
section
end
section
end
end TupW
namespace SB
open PySem L2
variable [Tabs][Past]
section
end
section
end
end SB
end
section
namespace SB
open PySem PySem.Spec L2
open PyProof.Rows hiding St
variable [Tabs][Past]
end SB
end
section
namespace SB
open PySem L2
open PyProof.Rows (envOfC)
variable [Tabs][Past]
section
end
end SB
end
section
namespace SB
open PySem L2
variable [Tabs][Past]
section
variable {X: Cx}{Z: WX}{e: Expr}{es: List Expr}{das: DA}{pos p: Pos}{k j: Nat}{x m: Str}{f C: Addr}{D: DF}{E: St → XK}{sp: Sp}{t: TA}
theorem sJ {pins : List (Addr × Obj)} {σ : St} {H : Hp} {s : Shared} {Q : VK} {us : List Value} {vs : List V} {E : XK} (M : Mk X.K C f) (F : FnRG X.prog X.w X.K X.mg X.base k f sp) (hr : RoomG (k + 1) X.A)
  (hx : PassesAt (L2.CX X.prog X.w) X σ E) (I : Inv X pins σ H s) (r : Vals vs us)
  (h : ∀ x dx, H x = ζ → H dx = ζ → dx ≠ x → sp (.ref x :: vs) (upd (upd H dx (.own x)) x (.ins C dx [])) (fun v H2 => v = .non ∧ Q (.ref x) H2) E) : wpAny (model X.prog X.w) X.A (call (.ref C) us) (EP X pins σ Q) X.xe s := by
 have hq := h (s.heap.objs.size + 1) s.heap.objs.size (I.hok.fresh (Nat.le_succ _)) (I.hok.fresh (Nat.le_refl _)) (Nat.ne_of_lt (Nat.lt_succ_self _))
 have I2 := Inv.made (C := C) I
 have r2 : Vals (V.ref (s.heap.objs.size + 1) :: vs) (Value.ref (s.heap.objs.size + 1) :: us) := .cons rfl r
 refine wpAny_call (make_map (f := f) I.kIn M.makes M.init (beq_iff_eq.mp M.fn) (codeAny_mono (F _ X.stack _ _ (Value.ref (s.heap.objs.size + 1) :: us) _ _ E (hr.make C us [])
  (I2.env0.make C us []) r2 hq) fun r s' hq' => ?_))
 cases r with
 | error e => exact hx pins _ _ e s' I2 hq'
 | ok fl =>
  cases fl with
  | ret u =>
   obtain ⟨v, H', I3, rv, ev, q3⟩ := I2.after hq'
   subst ev
   exact ⟨rv, ⟨V.ref (s.heap.objs.size + 1), H', I3, rfl, q3⟩⟩
  | next => exact False.elim hq'
  | brk => exact False.elim hq'
  | cont => exact False.elim hq'
def CA (C : Addr) (sp : Sp) (E : St → XK) (t : TA) : TE := fun σ H Q => t σ H fun vs H1 => ∀ x dx, H1 x = ζ → H1 dx = ζ → dx ≠ x → sp (.ref x :: vs) (upd (upd H1 dx (.own x)) x (.ins C dx [])) (fun v H2 => v = .non ∧ Q (.ref x) H2) (E σ)
theorem DJ (M : Mk X.K C f) (F : FnRG X.prog X.w X.K X.mg X.base k f sp) (hr : RoomG (k + 1) X.A) (hg : Gl X x) (hm : X.mg x = ξ (.ref C)) (hx : ∀ σ, PassesAt (L2.CX X.prog X.w) X σ (E σ)) (ha : PA X (e :: es) t)
  (hdb : (x == ("__debug__" : Str)) = false) (he : starEach (e :: es) X.env = (false, eval e X.env) :: starEach es X.env) (hpl : (backTo pos (starEach es X.env)).any (·.1) = false) : PE X (.Call (.Name x p) (e :: es) [] pos) (CA C sp E t) := by
 refine ⟨fun pins s σ H Q I h => ?_⟩
 refine wpAny_Call_Name_kw (ld_glob I hg hm ?_ hdb)
 refine PySem.W.callWith_K (h₀ := X.base) I.ok.mod.kin M.kp (thn (ha.run pos pins s σ H _ I h) fun us s1 ⟨vs, H1, I1, r, q⟩ => ⟨I1.kIn, ?_⟩) he hpl
 exact sJ M F hr (hx σ) I1 r q
theorem A9 (M : Mk X.K C f) (F : FnRG X.prog X.w X.K X.mg X.base k f sp) (hr : RoomG (k + 1) X.A) (hg : Gl X x) (hm : X.mg x = ξ (.ref C)) (hx : ∀ σ, PassesAt (L2.CX X.prog X.w) X σ (E σ))
  (hdb : (x == ("__debug__" : Str)) = false) : PE X (.Call (.Name x p) [] [] pos) (CA C sp E tNil) := by
 refine ⟨fun pins s σ H Q I h => ?_⟩
 refine wpAny_Call_Name_kw (ld_glob I hg hm ?_ hdb)
 refine PySem.W.callWith_K0 I.kIn M.kp ?_
 exact sJ M F hr (hx σ) I .nil h
theorem kA (Cc : Ctx X Z k) (M : Mk X.K C f) (F : FnP X.prog X.w X.K X.mg X.base j f D) (hm : X.mg x = ξ (.ref C)) (ha : SA X Z (e :: es) das) (hg : Gl X x := by rfl) (hjk : j + 1 ≤ k := by decide)
  (hdb : (x == ("__debug__" : Str)) = false := by decide) (he : starEach (e :: es) X.env = (false, eval e X.env) :: starEach es X.env := by rfl) (hpl : (backTo pos (starEach es X.env)).any (·.1) = false := by rfl) : SE X Z (.Call (.Name x p) (e :: es) [] pos) (bR C [] D das) :=
 PE.imp (DJ M F.run (Cc.rg hjk) hg hm (fun σ => passAt Cc.tk σ) ha hdb he hpl) fun σ H Q ⟨r, m, env, s, e, h⟩ => tX.step s e h fun ws m1 r1 H1 vs l1 s1 e1 q1 h1 => nI s1 q1 (by rw [List.append_nil] at h1; exact h1)
theorem CN (Cc : Ctx X Z k) (M : Mk X.K C f) (F : FnP X.prog X.w X.K X.mg X.base j f D) (hm : X.mg x = ξ (.ref C)) (hg : Gl X x := by rfl) (hjk : j + 1 ≤ k := by decide)
  (hdb : (x == ("__debug__" : Str)) = false := by decide) : SE X Z (.Call (.Name x p) [] [] pos) (bR C [] D aJ) :=
 PE.imp (A9 M F.run (Cc.rg hjk) hg hm (fun σ => passAt Cc.tk σ) hdb) fun σ H Q ⟨r, m, env, s, e, h⟩ => nI s (qF _ _) h
end
end SB
end
section
namespace SB
open PySem PySem.Spec L2
open PyProof.Rows hiding St
section
variable {X: Cx}{pins: List (Addr × Obj)}{σ: L2.St}{H: Hp}{cls: Value}{d: Option Addr}{a: Addr}{B: Heap}{sI sh: Shared}
theorem Down.name (q : Down X pins σ H cls d a B sI sh) (hf : X.env.frame = ξ X.env.locals) {x : Str} {c : Value} {np : Pos} {Q : Value → Shared → Prop} {E : Value → Shared → Prop} (hc : Names X x c) (h : Q c sh) :
  wpAny (model X.prog X.w) (X.A.mark (ξ (.ref a))) (eval (.Name x np) X.env) Q E sh := by
 obtain ⟨oe, vs, e, z, dd, S⟩ := q.held hf
 obtain ⟨g, nd, k | ⟨k1, k2, k3⟩⟩ := hc
 ·exact ld_glob (X := X.suite a ((a, oe) :: (X.pn ++ pins))) S g k h nd
 ·exact ld_blt (X := X.suite a ((a, oe) :: (X.pn ++ pins))) S g k1 k2 h k3 nd
end
variable [Tabs][Past]
end SB
end
section
namespace SB
open PySem hiding Env
open L2
end SB
end
section
namespace SB
open PySem PySem.Spec L2
open PyProof.Rows hiding St
variable [Tabs][Past]
section
end
end SB
end
section
namespace SB
open PySem PySem.Spec L2
open PyProof.Rows (envOfC)
variable [Tabs][Past]
def pickL {α : Type} (p : List Nat) (ws : List α) : List α := p.filterMap fun i => ws[i]?
def gN (p : List Nat) (n : Nat) (D : DF) : DF := fun ws m => if ws.length = n then D (pickL p ws) m else ζ
section
variable {K: PySem.W.Frag}{r: List Addr}{H: Hp}
theorem RWs.pickL : ∀ (p : List Nat) {ws : List W} {vs : List V}, RWs K r H ws vs → RWs K r H (pickL p ws) (SB.pickL p vs)
 | [], _, _, _ => rfl
 | i :: p, ws, vs, q => by
  have ih := RWs.pickL p q
  unfold SB.pickL at ih ⊢
  cases hw : ws[i]? with
  | none =>
   have hv : vs[i]? = ζ := by
    rw [List.getElem?_eq_none_iff] at hw ⊢
    rw [← q.len]; exact hw
   rw [List.filterMap_cons_none hw, List.filterMap_cons_none hv]
   exact ih
  | some w =>
   obtain ⟨v, hv, rw1⟩ := q.get hw
   rw [List.filterMap_cons_some hw, List.filterMap_cons_some hv]
   exact ⟨v, _, rfl, rw1, ih⟩
end
structure FnW (P : Program) (w : World) (K : PySem.W.Frag) (mg : Str → Option Value) (base : Heap) (k : Nat) (f : Addr) (n : Nat) (ks : List Str) (D : DF) : Prop where
 run : ∀ (A : Around) (outer : List PySem.Env) (s : Shared) (H : Hp) (us ws : List Value) (vs : List V) (Q : VK) (E : XK), RoomG k A → Env0 P w K mg base A outer s H → us.length = n → Vals vs (us ++ ws) → spD K D vs H Q E →
  codeAny (model P w) A (.call (.ref f) ⟨us, ks.zip ws⟩) (CR (L2.CX P w) outer P w H s Q E) s
 kp : PySem.W.keepIn K (.ref f) = true
section
end
section
variable {X: Cx}{Z: WX}{dks: DA}{kw: List Keyword}{ks: List Str}{pos p: Pos}{k j: Nat}{x m: Str}{f C: Addr}{D: DF}{E: St → XK}
theorem AU {pins : List (Addr × Obj)} {σ : St} {H : Hp} {s : Shared} {Q : VK} {ws : List Value} {vs : List V} (M : Mk X.K C f) (F : FnW X.prog X.w X.K X.mg X.base j f 1 ks D) (hr : RoomG (j + 1) X.A)
  (hx : PassesAt (L2.CX X.prog X.w) X σ (E σ)) (I : Inv X pins σ H s) (r : Vals vs ws)
  (h : ∀ x dx, H x = ζ → H dx = ζ → dx ≠ x → spD X.K D (.ref x :: vs) (upd (upd H dx (.own x)) x (.ins C dx [])) (fun v H2 => v = .non ∧ Q (.ref x) H2) (E σ)) : wpAny (model X.prog X.w) X.A (call (.ref C) [] (ks.zip ws)) (EP X pins σ Q) X.xe s := by
 have hq := h (s.heap.objs.size + 1) s.heap.objs.size (I.hok.fresh (Nat.le_succ _)) (I.hok.fresh (Nat.le_refl _)) (Nat.ne_of_lt (Nat.lt_succ_self _))
 have I2 := Inv.made (C := C) I
 have r2 : Vals (V.ref (s.heap.objs.size + 1) :: vs) ([Value.ref (s.heap.objs.size + 1)] ++ ws) := .cons rfl r
 refine wpAny_call (make_map (f := f) I.kIn M.makes M.init (beq_iff_eq.mp M.fn) (codeAny_mono (F.run _ X.stack _ _ [Value.ref (s.heap.objs.size + 1)] ws _ _ (E σ) (hr.make C [] (ks.zip ws))
  (I2.env0.make C [] (ks.zip ws)) rfl r2 hq) fun r s' hq' => ?_))
 cases r with
 | error e => exact hx pins _ _ e s' I2 hq'
 | ok fl =>
  cases fl with
  | ret u =>
   obtain ⟨v, H', I3, rv, ev, q3⟩ := I2.after hq'
   subst ev
   exact ⟨rv, ⟨V.ref (s.heap.objs.size + 1), H', I3, rfl, q3⟩⟩
  | next => exact False.elim hq'
  | brk => exact False.elim hq'
  | cont => exact False.elim hq'
theorem y4 (Cc : Ctx X Z k) (Mm : Mk X.K C f) (F : FnW X.prog X.w X.K X.mg X.base j f 1 ks D) (hm : X.mg x = ξ (.ref C)) (hkw : PK X kw (tA X.K Z dks)) (hg : Gl X x := by rfl) (hjk : j + 1 ≤ k := by decide)
  (hdb : (x == ("__debug__" : Str)) = false := by decide) (hall : (backToKw pos (keywordEach kw X.env)).all (·.1.isSome) = true := by rfl) (hks : (backToKw pos (keywordEach kw X.env)).filterMap (·.1) = ks := by rfl)
  (hpl : ((backTo pos (starEach [] X.env)).any (·.1) || (backToKw pos (keywordEach kw X.env)).any (·.1.isNone)) = false := by rfl) : SE X Z (.Call (.Name x p) [] kw pos) (bR C [] D dks) := by
 refine ⟨fun pins s σ H Q I h => ?_⟩
 obtain ⟨r, m, env, sm, ee, h⟩ := h
 refine wpAny_Call_Name_kw (ld_glob I hg hm ?_ hdb)
 refine PySem.W.callWith_KW0 (h₀ := X.base) I.ok.mod.kin Mm.kp hall (thn (hkw.run pos pins s σ H _ I (tX.step sm ee h fun ws m1 r1 H1 vs l1 s1 e1 q1 h1 => nI s1 (q1.append (qF r1 H1)) h1)) fun ws s2 ⟨vs, H2, I2, r2, q2⟩ => ⟨I2.kIn, ?_⟩) hpl
 rw [hks]
 simp only [List.append_nil] at q2
 exact AU (E := WE Z) Mm F (Cc.rg hjk) (passAt Cc.tk σ) I2 r2 q2
end
theorem GS.imp {X : Cx} {st : Stmt} {t u : TGn} (h : GS X st t) (i : ∀ D ys σ H, u D ys σ H → t D ys σ H) : GS X st u :=
 ⟨fun A S ip R n ys s₀ c fs K J gd lv s σ H D g hn k hI ht => h.run A S ip R n ys s₀ c fs K J gd lv s σ H D g hn k hI (i D ys σ H ht)⟩
theorem GSs.imp {X : Cx} {st : List Stmt} {t u : TGn} (h : GSs X st t) (i : ∀ D ys σ H, u D ys σ H → t D ys σ H) : GSs X st u :=
 ⟨fun A S ip R n ys s₀ c fs K J gd lv s σ H D g hn k hI ht => h.run A S ip R n ys s₀ c fs K J gd lv s σ H D g hn k hI (i D ys σ H ht)⟩
def PostY (K : PySem.W.Frag) (r : List Addr) (H : Hp) (x : Option RS) (D : GEnds) (Z : WX) : Prop := match x with
 | some (.fl .next (ξ (.tup ws) :: env) m) => ∀ r' H' σ' ys', Lt K r H r' H' → Sim K r' m H' → EnvR K r' H' env σ' → RWs K r' H' ws ys' → D.nx ys' σ' H'
 | some (.fl .brk (ξ (.tup ws) :: env) m) => ∀ r' H' σ' ys', Lt K r H r' H' → Sim K r' m H' → EnvR K r' H' env σ' → RWs K r' H' ws ys' → D.bk ys' σ' H'
 | some (.fl .cont (ξ (.tup ws) :: env) m) => ∀ r' H' σ' ys', Lt K r H r' H' → Sim K r' m H' → EnvR K r' H' env σ' → RWs K r' H' ws ys' → D.ct ys' σ' H'
 | some (.exc C d env m) => ∀ r' H' σ' dv, Lt K r H r' H' → Sim K r' m H' → EnvR K r' H' env.tail σ' → XR r' d dv → Z (.ref C) dv σ' H'
 | _ => False
section
variable {K: PySem.W.Frag}{r r': List Addr}{H H': Hp}{x: Option RS}{D: GEnds}{Z: WX}
theorem PostY.base (h : PostY K r H x D Z) (l : Lt K r H r' H') : PostY K r' H' x D Z := by
 unfold PostY at h ⊢
 split at h
 ·exact fun r2 H2 σ2 ys l2 => h r2 H2 σ2 ys (l.trans l2)
 ·exact fun r2 H2 σ2 ys l2 => h r2 H2 σ2 ys (l.trans l2)
 ·exact fun r2 H2 σ2 ys l2 => h r2 H2 σ2 ys (l.trans l2)
 ·exact fun r2 H2 σ2 dv l2 => h r2 H2 σ2 dv (l.trans l2)
 ·exact h.elim
end
section
end
section
end
section
end
end SB
end
section
namespace SB
open PySem PySem.Spec L2
open PyProof.Rows hiding St
variable [Tabs][Past]
section
end
section
end
theorem Lr {p0 p1 : Past} (sub : ∀ p ∈ p0.P, p ∈ p1.P) {K : PySem.W.Frag} {r : List Addr} {m : M} {H : Hp} (S : @Sim _ p1 K r m H) : @Sim _ p0 K r m H := by
 obtain ⟨s1, s2, s3, s4, s5⟩ := S
 exact @Sim.mk _ p0 _ _ _ _ s1 s2 s3 s4 fun p hp => s5 p (sub p hp)
theorem CQ {p0 p1 : Past} {K : PySem.W.Frag} {r r1 : List Addr} {m m1 : M} {H H1 : Hp} (S0 : @Sim _ p1 K r m H) (S : @Sim _ p0 K r1 m1 H1) (l : Lt K r H r1 H1) : @Sim _ p1 K r1 m1 H1 := by
 obtain ⟨s1, s2, s3, s4, _⟩ := S
 exact @Sim.mk _ p1 _ _ _ _ s1 s2 s3 s4 fun p hp => (@Sim.past _ p1 _ _ _ _ S0 p hp).trans l.lp
theorem HK {p0 p1 : Past} {α β : Type} {K : PySem.W.Frag} {rel : Rel α β} {r : List Addr} {m : M} {H : Hp} {x : Option (R α)} {Q : β → Hp → Prop} {E : XK} (S0 : @Sim _ p1 K r m H) (h : @Post _ p1 α β K rel r H x Q E) : @Post _ p0 α β K rel r H x Q E := by
 cases x with
 | none => exact h
 | some y =>
  cases y with
  | ok w m1 => exact fun r1 H1 v1 l1 S1 q1 => h r1 H1 v1 l1 (CQ S0 S1 l1) q1
  | exc C d m1 => exact fun r1 H1 dv l1 S1 q1 => h r1 H1 dv l1 (CQ S0 S1 l1) q1
section
end
section
end
end SB
end
section
namespace SB
open PySem hiding Env
open L2
section
end
section
end
end SB
end
section
namespace SB
open PySem L2
variable [Tabs][Past]
section
end
end SB
end
section
namespace SZ
open PySem
section
end
end SZ
end
section
namespace SB
open PySem PySem.Spec L2
variable [Tabs][Past]
end SB
end
section
namespace SB
open PySem L2
variable [Tabs][Past]
section
variable {K: PySem.W.Frag}
def DV : F2 := fun a b m => match a, b with
 | .str x, .int i => if x.length ≤ sizeLine then (match atI x.cps.toList i with
  | some c => ξ (.str ⟨#[c]⟩, m)
  | none => ζ) else ζ
 | _, _ => ζ
theorem IQ : Imp2 K rIxS DV := by
 intro r m H x y w1 w2 Q E s q1 q2 h
 cases w1 <;> first | exact h.elim | skip
 cases w2 <;> first | exact h.elim | skip
 rename_i z i
 unfold DV at h
 simp only at h
 by_cases hl : z.length ≤ sizeLine
 case neg => rw [if_neg hl] at h; exact h.elim
 rw [if_pos hl] at h
 cases hc : atI z.cps.toList i with
 | none => rw [hc] at h; exact h.elim
 | some c =>
  rw [hc] at h
  exact ⟨z, i, c, q1, q2, hl, hc, h.done s rfl⟩
theorem IB {X : Cx} : IxR X rIxS := ix_str
def iG (x : Str) : List Str := x.cps.toList.map fun c => ⟨#[c]⟩
def EK (a : DE) : DI := fun env m => bnd (a env m) fun w m1 => match w with
 | .str x => ξ (.ok ⟨(iG x).map W.str, fun _ => true⟩ m1)
 | _ => ζ
theorem ME {r : List Addr} {H : Hp} {x : Str} : JR K r H (Its x) ⟨(iG x).map W.str, fun _ => true⟩ := by
 intro i r' m H' l s hc
 have hl : ((iG x).map W.str).length = x.cps.size := by simp [iG]
 refine ⟨fun hi => (show x.cps.size ≤ i from by rw [← hl]; exact hi), fun w' hw => ?_⟩
 have hi : i < x.cps.size := by rw [← hl]; exact (List.getElem?_eq_some_iff.mp hw).1
 refine ⟨hi, fun v H2 ⟨e2, c, ec, ev⟩ => ?_⟩
 subst e2 ev
 have e3 : w' = .str ⟨#[c]⟩ := by
  unfold iG at hw
  rw [List.getElem?_map, List.getElem?_map, Array.getElem?_toList, ec] at hw
  exact (Option.some.inj hw).symm
 subst e3
 exact ⟨.refl, s, rfl⟩
variable {X: Cx}{Z: WX}{a b e tg: Expr}{da: DE}
theorem Lv (ha : SE X Z a da) : SI X Z tg a (EK da) := PI.imp (pi_str ha) fun σ H R ⟨r, m, env, s, e, h⟩ => by
 refine tI.step s e h (fun w m1 r1 H1 v l1 s1 e1 q1 h1 hS => ?_) (by intro w m1 C dd m2; split <;> simp)
 cases w <;> first | (simp at hS; done) | skip
 rename_i x
 exact ⟨x, q1, h1 _ _ rfl r1 H1 _ .refl s1 ME⟩
def Bg (neg : Bool) : F2 := fun a b m => match a, b with
 | .str x, .str z => (match x.cps.toList with
  | [c] => ξ (.bl (decide (c ∈ z.cps.toList) != neg), m)
  | _ => ζ)
 | _, _ => ζ
theorem DP {x : Str} {c : Nat} (h : x.cps.toList = [c]) : x = ⟨#[c]⟩ := by
 obtain ⟨a⟩ := x
 have : a = #[c] := by
  apply Array.toList_inj.mp
  exact h
 rw [this]
theorem IU {rr : R2} (neg : Bool) (hr : ∀ x y H Q, (∃ (c : Nat) (z : Str), x = .str ⟨#[c]⟩ ∧ y = .str z ∧ Q (.bl (decide (c ∈ z.cps.toList) != neg)) H) → rr x y H Q) : Imp2 K rr (Bg neg) := by
 intro r m H x y w1 w2 Q E s q1 q2 h
 cases w1 <;> first | exact h.elim | skip
 cases w2 <;> first | exact h.elim | skip
 rename_i x' z
 unfold Bg at h
 simp only at h
 refine hr _ _ _ _ ?_
 split at h
 ·rename_i c hc
  have e := DP hc
  subst e
  exact ⟨c, z, q1, q2, h.done s rfl⟩
 ·exact h.elim
theorem EF : Imp2 K (fun x y H Q => ∃ (c : Nat) (z : Str), x = .str ⟨#[c]⟩ ∧ y = .str z ∧ Q (.bl (decide (c ∈ z.cps.toList))) H) (Bg false) := IU false fun _ _ _ _ ⟨c, z, h1, h2, h⟩ => ⟨c, z, h1, h2, by simpa using h⟩
def oi : List W → Option (List Str)
 | [] => ξ []
 | .str x :: ws => (match oi ws with
  | some xs => ξ (x :: xs)
  | none => ζ)
 | _ :: _ => ζ
theorem vB : ∀ {ws : List W} {xs : List Str}, oi ws = ξ xs → ws = xs.map W.str
 | [], _, h => by cases h; rfl
 | w :: ws, xs, h => by
  cases w <;> first | (cases h; done) | skip
  rename_i x
  unfold oi at h
  cases hs : oi ws with
  | none => rw [hs] at h; cases h
  | some ys =>
   rw [hs] at h
   cases h
   rw [vB hs]
   rfl
theorem RWs.strs {r : List Addr} {H : Hp} : ∀ {xs : List Str} {vs : List V}, RWs K r H (xs.map W.str) vs → vs = xs.map V.str
 | [], _, h => h
 | x :: xs, _, h => by
  obtain ⟨v, rest, rfl, h1, h2⟩ := h
  rw [RWs.strs h2, show v = .str x from h1]
  rfl
def ow (a : Str) (ys : List Str) : Bool := Nat.ble ((ys.map (·.length)).sum + ys.length * a.length) 16777216
def wz : FM := fun w ws m => match w, ws with
 | .str a, [y] => (match jc m y with
  | some xs => (match oi xs with
   | some ys => if ow a ys = true then ξ (.str (Txt.join a ys), m) else ζ
   | none => ζ)
  | none => ζ)
 | _, _ => ζ
theorem ED : Q0 K (fun x xs H Q => ∃ a p, ∃ ys : List Str, x = .str a ∧ xs = [.ref p] ∧ (SqL K H p (ys.map V.str) ∨ SqT K H p (ys.map V.str)) ∧ (ys.map (·.length)).sum + ys.length * a.length ≤ 16777216 ∧ Q (.str (Txt.join a ys)) H) wz := by
 intro r m H x xs w ws Q E s q1 q2 h
 cases w <;> first | exact h.elim | skip
 rename_i a
 match ws, q2, h with
 | [], _, h => exact h.elim
 | _ :: _ :: _, _, h => exact h.elim
 | [y], q2, h =>
  unfold wz at h
  simp only at h
  obtain ⟨v, rfl, qv⟩ := q2.one_of
  cases hs : jc m y with
  | none => rw [hs] at h; exact h.elim
  | some us =>
   rw [hs] at h
   simp only at h
   cases hz : oi us with
   | none => rw [hz] at h; exact h.elim
   | some ys =>
    rw [hz] at h
    simp only at h
    by_cases hj : ow a ys = true
    case neg => rw [if_neg hj] at h; exact h.elim
    rw [if_pos hj] at h
    obtain ⟨p, vs, rfl, hp, rs⟩ := mr s qv hs
    rw [vB hz] at rs
    obtain rfl := rs.strs
    exact ⟨a, p, ys, q1, rfl, hp.imp id Or.inl, Nat.le_of_ble_eq_true hj, h.done s rfl⟩
end
section
end
end SB
end
section
namespace SB
open PySem PySem.Spec L2
open PyProof.Rows (envOfC)
open NdefX (NScope NF ncx CellsAt startF inv_startN)
variable [Tabs][Past]
structure FunC (K : PySem.W.Frag) (x qual : Str) (params : Arguments) (body : List Stmt) (scope : Scope) (f cc c : Addr) : Prop where
 ex : ∃ (oc : Value) (od : Option Addr) (kV doc pm : Value) (an : Option Addr) (ct : Value) (osl : Array (Option Value)), K.lookup f = ξ ⟨oc, od, .func (PySem.W.fnX x qual params body scope [("__class__", cc)] .none kV doc pm an (.ref c) ct), osl⟩
 code : PySem.W.codeIn K (.ref c) qual = true
 kp : PySem.W.keepIn K (.ref f) = true
structure SupC (P : Program) (K : PySem.W.Frag) (cc c D : Addr) : Prop where
 cell : ∃ (cl : Value) (cld : Option Addr) (csl : Array (Option Value)), K.lookup cc = ξ ⟨cl, cld, .cell (ξ (.ref D)), csl⟩
 cls : ∃ cd, PySem.W.clsIn K D = ξ cd
 file : ∃ (ccl : Value) (cdd : Option Addr) (us : Array Value) (ccs : Array (Option Value)) (file : Str) (tf : Tok), K.lookup c = ξ ⟨ccl, cdd, .fields us, ccs⟩ ∧ us[2]? = ξ (.str file tf) ∧ ((P.main.file : Str) == file) = true
 top : (P.main.scope.names.lookup ("super" : Str)).isSome = false
structure SupI (K : PySem.W.Frag) (C D f2 : Addr) : Prop where
 sub : PySem.W.mroIn K C (.ref D) = ξ true
 at_ : PySem.W.ks_superIn K C D "__init__" = ξ (ξ (.ref f2))
 ty : PySem.W.typeIn K (.ref f2) = ξ (.type "function")
 fi : PySem.W.fnIn K f2 = true
 ho : PySem.W.nsIn K cStatics "thirdparty.any" = ξ ζ
theorem z9 {K : PySem.W.Frag} {D : Addr} {cd : ClassData} (h : PySem.W.clsIn K D = ξ cd) : ∃ o, K.lookup D = ξ o ∧ o.data = .cls cd := by
 unfold PySem.W.clsIn at h
 cases e : K.lookup D with
 | none => rw [e] at h; cases h
 | some o =>
  obtain ⟨a1, a2, dt, a3⟩ := o
  rw [e] at h
  cases dt <;> first | (cases h; exact ⟨_, rfl, rfl⟩) | cases h
section
open PySem.W
variable {prog: Program}{w: World}{A: Around}{E: Value → Shared → Prop}{h: Heap}{g: Array GenState}{d: Drawn}{t: Nat}{os: OsState}{so x C D f: Addr}{of: Obj}{l₀ l: List Value}{K: Frag}{name: Str}
theorem AB {Q : Value → Shared → Prop} (hso : h.get? so = ξ (ks_superObj D x C)) (hno : Looks (model prog w) h (opaqueClassAbove (.ref C)) ζ) (hC : Looks (model prog w) h (mroOf (.ref C)) l₀) (hl : (l₀.dropWhile (· != .ref D)).drop 1 = l) (X : K.In h)
  (hf : alongIn K name l = ξ (ξ (.ref f))) (hfo : h.get? f = ξ of) (hfc : of.cls = .type "function") (hxC : x ≠ C) (hn : (name == ("__class__" : Str)) = false) (hq : Q (.ref h.objs.size) ⟨h.push (methodObj (.ref f) (.ref x)), g, d, t + 1, os⟩) :
  wpAny (model prog w) A (getAttr (.ref so) name true) Q E ⟨h, g, d, t, os⟩ := by
 have ty : ∀ n, (⟨h, g, d, n, os⟩ : Shared).TypeIs (.ref so) "super" := fun n => ⟨_, hso, rfl⟩
 have key : wpAny (model prog w) A (boundAndCalled (.builtin "super.__getattribute__") (.ref so) (.str name t)) (fun v s' => v = .ref h.objs.size ∧ s' = ⟨h.push (methodObj (.ref f) (.ref x)), g, d, t + 1, os⟩) (fun _ _ => False) ⟨h, g, d, t + 1, os⟩ := by
  unfold boundAndCalled
  refine wpAny_bind (wpAny_of_eq (F.ks_slot_super_ga.bind _) ?_)
  exact wpAny_call_entry F.ks_slot_super_ga (ty _) F.ks_entry_super_ga (ks_wpAny_super_ga hso hno hC hl X hf hfo hfc hxC hn ⟨_, rfl, rfl, rfl⟩) (F.ks_gaArgs_super _ _)
 have own : wpAny (model prog w) A (getAttrByItsOwn (.ref so) (.str name t) (.type "super") (.builtin "super.__getattribute__") true true) Q E ⟨h, g, d, t + 1, os⟩ := by
  unfold getAttrByItsOwn callGetattribute
  refine wpAny_bind (m := hookBefore (.type "super")) (wpAny_of_eq (a := ζ) rfl ?_)
  refine wpAny_bind (wpAny_attempt (wpAny_holding (wpAny_mono key (fun v s' z => ?_) fun _ _ z => z.elim)))
  obtain ⟨rfl, rfl⟩ := z
  exact wpAny_pure hq
 unfold getAttr getAttrBy
 exact wpAny_bind (wpAny_mkText (wpAny_holding (wpAny_bind (wpAny_typeOf (ty _) (wpAny_bind (wpAny_of_eq F.ks_slot_super_ga.lookup own))))))
end
section
variable {X: Cx}{pins: List (Addr × Obj)}{σ: St}{H: Hp}{s: Shared}
open PySem.W in
theorem xM {A : Around} {E : Value → Shared → Prop} {x C D : Addr} {ox od : Obj} {cdD : ClassData} {Q : Value → Shared → Prop} (I : Inv X pins σ H s) (J : InstAt s.heap x ox C (ξ od)) (hD : clsIn X.K D = ξ cdD) (hs : mroIn X.K C (.ref D) = ξ true)
  (h : ∀ so s', Inv X ((so, ks_superObj D x C) :: pins) σ H s' → Q (.ref so) s') : wpAny (model X.prog X.w) A (call (.type "super") [.ref D, .ref x]) Q E s := by
 obtain ⟨oD, lkD, hD2⟩ := z9 hD
 have nc : ∀ c, ox.data ≠ .cls c := fun c e => by
  have z : notCls ox = true := J.no
  unfold notCls at z
  simp only [e] at z
  cases z
 cases s with
 | mk hh g d t os => exact ks_wpAny_call_super (I.kIn _ _ lkD) hD2 J.at_ J.cls nc (looks_mroIn I.kIn hs) fun h' e k => h _ _ (ClX.pin_new I (fun b u q => k b u q) (Nat.le_refl _) e (fun v z => nomatch z))
open PySem.W in
theorem pT {x C D f2 : Addr} {ox od : Obj} (I : Inv X pins σ H s) (J : InstAt s.heap x ox C (ξ od)) (S : SupI X.K C D f2) : ∃ (cd : ClassData) (of : Obj), clsIn X.K C = ξ cd ∧ alongIn X.K "__init__" ((cd.mro.dropWhile (· != .ref D)).drop 1) = ξ (ξ (.ref f2)) ∧ s.heap.get? f2 = ξ of ∧ of.cls = .type "function" ∧ x ≠ C := by
 have at_ := S.at_
 have ty : (X.K.lookup f2).map (·.cls) = ξ (.type "function") := S.ty
 unfold ks_superIn at at_
 cases hc : clsIn X.K C with
 | none => rw [hc] at at_; cases at_
 | some cd =>
  cases e : X.K.lookup f2 with
  | none => rw [e] at ty; cases ty
  | some of =>
   rw [hc] at at_
   rw [e] at ty
   exact ⟨cd, of, rfl, at_, I.kIn _ _ e, Option.some.inj ty, ks_ne I.kIn J hc⟩
open PySem.W in
theorem xK {A : Around} {E : Value → Shared → Prop} {pl : Sem Bool} {so x C D f2 : Addr} {ox od : Obj} {Q : Value × List Value → Shared → Prop} (I : Inv X ((so, ks_superObj D x C) :: pins) σ H s) (J : InstAt s.heap x ox C (ξ od)) (S : SupI X.K C D f2)
  (h : ∀ q s', Inv X ((q, methodObj (.ref f2) (.ref x)) :: (so, ks_superObj D x C) :: pins) σ H s' → Q (.ref q, []) s') : wpAny (model X.prog X.w) A (getMethod (.ref so) "__init__" pl) Q E s := by
 obtain ⟨cd, of, hc, ha, hof, hofc, ne⟩ := pT I J S
 cases s with
 | mk hh g d t os => exact ks_wpAny_getMethod_super (ClX.pin_at I) (looks_opaque I.kIn S.ho) (fun A Q E s k q => wpAny_bind ((looks_clsIn I.kIn hc) A _ E s k (wpAny_pure q))) rfl I.kIn ha hof hofc ne (by decide) (h _ _ (ClX.met_new I))
open PySem.W in
theorem vy {A : Around} {E : Value → Shared → Prop} {so x C D f2 : Addr} {ox od : Obj} {Q : Value → Shared → Prop} (I : Inv X ((so, ks_superObj D x C) :: pins) σ H s) (J : InstAt s.heap x ox C (ξ od)) (S : SupI X.K C D f2)
  (h : ∀ q s', Inv X ((q, methodObj (.ref f2) (.ref x)) :: (so, ks_superObj D x C) :: pins) σ H s' → Q (.ref q) s') : wpAny (model X.prog X.w) A (getAttr (.ref so) "__init__" true) Q E s := by
 obtain ⟨cd, of, hc, ha, hof, hofc, ne⟩ := pT I J S
 cases s with
 | mk hh g d t os => exact AB (ClX.pin_at I) (looks_opaque I.kIn S.ho) (fun A Q E s k q => wpAny_bind ((looks_clsIn I.kIn hc) A _ E s k (wpAny_pure q))) rfl I.kIn ha hof hofc ne (by decide) (h _ _ (ClX.met_new I))
end
structure PM (X : Cx) (es : List Expr) (t : TA) : Prop where
 run : ∀ (pos : Pos) (q g a : Addr) (pins : List (Addr × Obj)) (s : Shared) (σ : St) (H : Hp) (R : List V → Hp → Prop) (Q : Value → Shared → Prop), Inv X ((q, PySem.W.methodObj (.ref g) (.ref a)) :: pins) σ H s → PySem.W.fnIn X.K g = true → t σ H R →
  (∀ us vs s' H', Inv X ((q, PySem.W.methodObj (.ref g) (.ref a)) :: pins) σ H' s' → Vals vs us → R vs H' → wpAny (model X.prog X.w) X.A (call (.ref q) us) Q X.xe s') → wpAny (model X.prog X.w) X.A (callWith pos (.ref q) [] (backTo pos (starEach es X.env)) []) Q X.xe s
section
variable {X: Cx}{Z: WX}{e: Expr}{es: List Expr}{de: DE}{das: DA}{sp_: Pos}
theorem DB (ha : SA X Z (e :: es) das) (he : starEach (e :: es) X.env = (false, eval e X.env) :: starEach es X.env := by rfl) (hpl : ∀ pos : Pos, (backTo pos (starEach es X.env)).any (·.1) = false := by intro _; rfl) : PM X (e :: es) (tA X.K Z das) := ⟨fun pos q g a pins s σ H R Q I hg h k => by
 refine PySem.W.callWith_of (P := PySem.W.MethP X.K q g (.ref a)) (keywords := []) ?_ (PySem.W.keeps_M hg) ?_
 ·rw [he]
  show ((false || (backTo pos (starEach es X.env)).any (·.1)) || false) = false
  rw [hpl pos]
  rfl
 ·have z := ha.run pos _ s σ H _ I h
  rw [he] at z ⊢
  exact Calls.evalArgs_plain (thn z fun us s' ⟨vs, H', I', rv, r⟩ => ⟨⟨ClX.pin_at I', I'.kIn⟩, k us vs s' H' I' rv r⟩)⟩
theorem zu (he : SE X Z e de) (hst : starEach [.Starred e sp_] X.env = [(true, eval e X.env)] := by rfl) : PM X [.Starred e sp_] (tA X.K Z (xj de aJ)) := ⟨fun pos q g a pins s σ H R Q I hg ⟨r, m, env, s', e', h⟩ k => by
 unfold xj at h
 have h' : Post X.K (uk X.K) r H (bnd (de env m) fun w m1 => match jc m1 w with
   | some xs => ξ (.ok xs m1)
   | none => ζ) R (WE Z σ) := by
  cases hd : de env m with
  | none => rw [hd] at h; exact h
  | some y =>
   rw [hd] at h
   cases y with
   | exc C2 d2 m2 => exact h
   | ok w m1 =>
    simp only [dZ] at h ⊢
    cases hx : jc m1 w with
    | none => rw [hx] at h; exact h
    | some xs =>
     rw [hx] at h
     simp only [aJ, dZ, List.append_nil] at h ⊢
     exact h
 rw [hst]
 refine PySem.W.ks_call (P := PySem.W.MethP X.K q g (.ref a)) rfl (PySem.W.keeps_M hg) (PySem.W.ks_lone (thn (he.run _ s σ H (fun y H1 => ∃ a xs, y = V.ref a ∧ (SqT X.K H1 a xs ∨ SqL X.K H1 a xs) ∧ R xs H1) I ?_) fun v s1 ⟨y, H1, I1, ry, a1, xs, ey, hxs, q1⟩ => ?_))
 ·refine tX.step s' e' h' fun w m1 r1 H1 v l1 s1 e1 q1 h1 => ?_
  cases hx : jc m1 w with
  | none => rw [hx] at h1; exact h1.elim
  | some xs =>
   rw [hx] at h1
   obtain ⟨a1, vs, rfl, hs, rs⟩ := mr s1 q1 hx
   exact ⟨a1, vs, rfl, hs.symm.imp Or.inl id, h1.done s1 rs⟩
 ·subst ey
  obtain rfl : v = Value.ref a1 := ry
  exact StX.star_any I1 hxs fun us s2 I2 rv => ⟨⟨ClX.pin_at I2, I2.kIn⟩, k us xs s2 H1 I2 rv q1⟩⟩
end
theorem G9 {K : PySem.W.Frag} {Z : WX} {d : DE} {b : DS} {D : Ends} {σ : St} {H : Hp} (h : tS K Z (cb (fA d) b) D σ H) : tE K Z d σ H fun _ H1 => tS K Z b D σ H1 := by
 obtain ⟨r, m, env, s, e, h⟩ := h
 refine ⟨r, m, env, s, e, ?_⟩
 unfold cb fA at h
 cases hd : d env m with
 | none => rw [hd] at h; exact h
 | some y =>
  rw [hd] at h
  cases y with
  | ok w m1 => exact fun r1 H1 v l s1 _ => ⟨r1, m1, env, s1, e.mono l, PostS.base h l⟩
  | exc C2 d2 m2 => exact fun r1 H1 dv l s1 q => h r1 H1 σ dv l s1 (e.mono l) q
structure PSsA (X : Cx) (st : List Stmt) (t : TS) : Prop where
 run : ∀ (pins : List (Addr × Obj)) (s : Shared) (σ : St) (H : Hp) (D : Ends), Inv X pins σ H s → t D σ H → PySem.wpAt (model X.prog X.w) X.A (.func st X.env) (execs st X.env) (SP X pins D) X.xe s
theorem D8 {M : Model} {A : Around} {c : Code} {E : Value → Shared → Prop} {s : Shared} {env : PySem.Env} {o : Expr} {name : Str} {apos pos : Pos} {es : List Expr} {gm : Value → Sem (Value × List Value)} {Q : Value → Shared → Prop}
  (he : eval (.Call (.Attribute o name apos) es [] pos) env = (do
   let ov ← attributeBase o name env (eval o env)
   standAt apos.atName
   let (f, first) ← holding [ov] (gm ov)
   callWith pos f first (backTo pos (starEach es env)) []))
  (h : PySem.wpAt M A c (attributeBase o name env (eval o env)) (fun ov s1 => wpAny M A (gm ov) (fun fx s2 => wpAny M A (callWith pos fx.1 fx.2 (backTo pos (starEach es env)) []) Q E s2) E s1) E s) :
  PySem.wpAt M A c (eval (.Call (.Attribute o name apos) es [] pos) env) Q E s := by
 rw [he]
 refine PySem.wpAt_bind (PySem.wpAt_mono h (fun ov s1 z => PySem.wpAt_of_wpAny (wpAny_bind (wpAny_standAt ?_))) fun _ _ z => z)
 exact wpAny_bind (wpAny_holding (thn z fun fx s2 y => y))
structure SupX (P : Program) (X : Cx) (f cc c D : Addr) (fst : Str) : Prop where
 fn : X.env.func = ξ f
 code : X.env.code = .ref c
 cell : X.env.cells.lookup ("__class__" : Str) = ξ cc
 ks : X.env.kindOf "super" = ξ .globalImplicit
 kc : X.env.kindOf "__class__" = ξ .free
 kf : X.env.kindOf fst = ξ .local
 n0 : X.N[0]? = ξ fst
 mg : X.mg "super" = ζ
 pg : X.prog = P
section
variable {X: Cx}{Z: WX}{das: DA}{b: DS}{k j: Nat}{f f2 cc c C D: Addr}{fst x qual: Str}{params: Arguments}{body rest: List Stmt}{scope: Scope}{es: List Expr}{p0 p1 apos pos ps: Pos}{D0: DF}{P: Program}
theorem sD {gm : Value → Sem (Value × List Value)} (Cc : Ctx X Z k) (Fc : FunC X.K x qual params body scope f cc c) (Sc : SupC P X.K cc c D) (Sx : SupX P X f cc c D fst) (Si : SupI X.K C D f2) (c1 : Cls X.K C) (F0 : FnP X.prog X.w X.K X.mg X.base j f2 D0) (ha : PM X es (tA X.K Z das)) (hr : rK X Z rest b)
  (hp : ∃ ar, (params.posonlyargs ++ params.args).head? = ξ ar ∧ ar.arg = fst) (hjk : j ≤ k := by decide) (hs : swapsWith (.Call (.Attribute (.Call (.Name "super" p0) [] [] p1) "__init__" apos) es [] pos) ζ ps.line X.env = pure false := by rfl)
  (hgm : ∀ {pins : List (Addr × Obj)} {σ : St} {H : Hp} {s : Shared} {so x : Addr} {ox od : Obj} {Q : Value × List Value → Shared → Prop} {A : Around} {E : Value → Shared → Prop}, Inv X ((so, PySem.W.ks_superObj D x C) :: pins) σ H s → PySem.W.InstAt s.heap x ox C (ξ od) →
   (∀ q s', Inv X ((q, PySem.W.methodObj (.ref f2) (.ref x)) :: (so, PySem.W.ks_superObj D x C) :: pins) σ H s' → Q (.ref q, []) s') → wpAny (model X.prog X.w) A (gm (.ref so)) Q E s)
  (he : eval (.Call (.Attribute (.Call (.Name "super" p0) [] [] p1) "__init__" apos) es [] pos) X.env = (do
   let ov ← attributeBase (.Call (.Name "super" p0) [] [] p1) "__init__" X.env (eval (.Call (.Name "super" p0) [] [] p1) X.env)
   standAt apos.atName
   let (f, first) ← holding [ov] (gm ov)
   callWith pos f first (backTo pos (starEach es X.env)) [])) :
  PSsA X (.Expr (.Call (.Attribute (.Call (.Name "super" p0) [] [] p1) "__init__" apos) es [] pos) ps :: rest) (tS X.K Z (cb (fA (kg C "__init__" [] D0 (ax 0) das)) b)) := ⟨fun pins s σ H Dn I h => by
 have h1 := Hx (ta := tA X.K Z das) qF (fun _ _ _ z => z) (G9 h)
 obtain ⟨r, m, env, sm, ee, h1⟩ := h1
 obtain ⟨v, hv, a, dx, fs, rfl, ea, hl, hargs⟩ := Dh sm ee h1
 obtain ⟨mA, ob, _, _, _, _⟩ := ins_get I.hok ea
 obtain ⟨od, J, _⟩ := ob.look
 obtain ⟨cdD, hD⟩ := Sc.cls
 obtain ⟨oc, odf, kV, doc, pm, an, ct, osl, lk⟩ := Fc.ex
 obtain ⟨ccl, cdd, us, ccs, file, tf, hco, hvs, hfile⟩ := Sc.file
 obtain ⟨cl, cld, csl, hcell⟩ := Sc.cell
 obtain ⟨ar, har, hfst⟩ := hp
 obtain ⟨oD, hD1, hD2⟩ := z9 hD
 refine ks_wpAt_execs_cons (PySem.wpAt_mono (Q := fun fl s' => fl = .next ∧ ∃ H', Inv X pins σ H' s' ∧ tS X.K Z b Dn σ H') (E' := X.xe) (ks_wpAt_Expr_any (D8 he ?_) I.quiet hs) (fun fl s' hq => ?_) fun _ _ z => z)
 ·refine ks_wpAt_super_base Sx.ks Sx.kc (by decide) Sx.fn (I.kIn _ _ lk) rfl har Sx.code (I.kIn _ _ hco) rfl hvs (by rw [Sx.pg]; exact hfile) (by rw [Sx.pg]; exact Sc.top) ?_
  obtain ⟨mb, hb1, hb2⟩ := I.mod.blt
  refine PySem.W.ks_loadName_global I.ok.kind Sx.ks (Calls.loadGlobal_builtin (by rw [I.ok.glob]; exact I.mod.glob.keeps I.bk) Sx.mg (by rw [I.ok.blt]; exact hb1.keeps I.bk) ((hb2 "super" (by decide)).trans (by decide +kernel)) ⟨rfl, ?_⟩)
  refine wpAny_loadName_free I.ok.kind Sx.kc Sx.cell ⟨_, I.kIn _ _ hcell, rfl⟩ ?_
  obtain ⟨ml, hns, hloc⟩ := I.loc
  rw [hfst]
  obtain ⟨u, ru, hlk⟩ := hloc 0 fst (.ref a) Sx.n0 hv (.inl Sx.kf)
  obtain rfl : u = Value.ref a := ru
  have hm : ml fst = ξ (.ref a) := by
   rcases hlk with ⟨_, q⟩ | ⟨q | q, _⟩
   ·exact q
   ·rw [Sx.kf] at q; cases q
   ·rw [Sx.kf] at q; cases q
  refine wpAny_loadName_local I.ok.kind Sx.kf hns hm ?_
  refine ks_wpAny_isType_cls (I.kIn _ _ hD1) hD2 ⟨rfl, ?_⟩
  refine xM I J hD Si.sub fun so s1 I1 => ?_
  obtain ⟨mA1, ob1, _, _, _, _⟩ := ins_get I1.hok ea
  obtain ⟨od1, J1, _⟩ := ob1.look
  refine hgm I1 J1 fun q s2 I2 => ?_
  refine ha.run pos q f2 a _ s2 σ H _ _ I2 Si.fi hargs fun us2 vs s3 H3 I3 rv q3 => ?_
  have z : wpAny (model X.prog X.w) X.A (call (.ref q) us2) (EP X ((q, PySem.W.methodObj (.ref f2) (.ref a)) :: (so, PySem.W.ks_superObj D a C) :: pins) σ fun _ H1 => tS X.K Z b Dn σ H1) X.xe s3 := by
   refine wpAny_call (PySem.W.method_call (ClX.pin_at I3) (codeAny_mono (Ka (us := .ref a :: us2) (vs := .ref a :: vs) F0.run (Cc.rg hjk) (passAt Cc.tk σ) I3 (.cons rfl rv) (by simp only [List.append_nil] at q3; exact q3)) fun z s' hq => ?_))
   cases z with
   | error e => exact hq
   | ok fl => cases fl <;> first | exact hq | exact False.elim hq
  exact thn z fun _ s' y => by
   obtain ⟨v4, H4, I4, _, q4⟩ := ClX.unpinE (ClX.unpinE y)
   exact ⟨rfl, H4, I4, q4⟩
 ·obtain ⟨rfl, H', I', q⟩ := hq
  exact PySem.wpAt_of_wpAny (hr.run pins s' σ H' Dn I' q)⟩
end
theorem Hj {X : Cx} {Z : WX} {das : DA} {b : DS} {k j : Nat} {f f2 cc c C D : Addr} {fst x qual : Str} {params : Arguments} {body rest : List Stmt} {scope : Scope} {es : List Expr} {p0 p1 apos pos ps : Pos} {D0 : DF} {P : Program} {pl : Sem Bool}
  (Cc : Ctx X Z k) (Fc : FunC X.K x qual params body scope f cc c) (Sc : SupC P X.K cc c D) (Sx : SupX P X f cc c D fst) (Si : SupI X.K C D f2) (c1 : Cls X.K C) (F0 : FnP X.prog X.w X.K X.mg X.base j f2 D0) (ha : PM X es (tA X.K Z das)) (hr : rK X Z rest b)
  (hp : ∃ ar, (params.posonlyargs ++ params.args).head? = ξ ar ∧ ar.arg = fst) (hjk : j ≤ k := by decide) (hs : swapsWith (.Call (.Attribute (.Call (.Name "super" p0) [] [] p1) "__init__" apos) es [] pos) ζ ps.line X.env = pure false := by rfl)
  (he : eval (.Call (.Attribute (.Call (.Name "super" p0) [] [] p1) "__init__" apos) es [] pos) X.env = (do
   let ov ← attributeBase (.Call (.Name "super" p0) [] [] p1) "__init__" X.env (eval (.Call (.Name "super" p0) [] [] p1) X.env)
   standAt apos.atName
   let (f, first) ← holding [ov] (getMethod ov "__init__" pl)
   callWith pos f first (backTo pos (starEach es X.env)) []) := by rfl) :
  PSsA X (.Expr (.Call (.Attribute (.Call (.Name "super" p0) [] [] p1) "__init__" apos) es [] pos) ps :: rest) (tS X.K Z (cb (fA (kg C "__init__" [] D0 (ax 0) das)) b)) :=
 sD (gm := fun ov => getMethod ov "__init__" pl) Cc Fc Sc Sx Si c1 F0 ha hr hp hjk hs (fun I J h => xK I J Si h) he
theorem vI {X : Cx} {Z : WX} {das : DA} {b : DS} {k j : Nat} {f f2 cc c C D : Addr} {fst x qual : Str} {params : Arguments} {body rest : List Stmt} {scope : Scope} {es : List Expr} {p0 p1 apos pos ps : Pos} {D0 : DF} {P : Program}
  (Cc : Ctx X Z k) (Fc : FunC X.K x qual params body scope f cc c) (Sc : SupC P X.K cc c D) (Sx : SupX P X f cc c D fst) (Si : SupI X.K C D f2) (c1 : Cls X.K C) (F0 : FnP X.prog X.w X.K X.mg X.base j f2 D0) (ha : PM X es (tA X.K Z das)) (hr : rK X Z rest b)
  (hp : ∃ ar, (params.posonlyargs ++ params.args).head? = ξ ar ∧ ar.arg = fst) (hjk : j ≤ k := by decide) (hs : swapsWith (.Call (.Attribute (.Call (.Name "super" p0) [] [] p1) "__init__" apos) es [] pos) ζ ps.line X.env = pure false := by rfl)
  (he : eval (.Call (.Attribute (.Call (.Name "super" p0) [] [] p1) "__init__" apos) es [] pos) X.env = (do
   let ov ← attributeBase (.Call (.Name "super" p0) [] [] p1) "__init__" X.env (eval (.Call (.Name "super" p0) [] [] p1) X.env)
   standAt apos.atName
   let (f, first) ← holding [ov] (do pure (← getAttr ov "__init__" true, ([] : List Value)))
   callWith pos f first (backTo pos (starEach es X.env)) []) := by rfl) :
  PSsA X (.Expr (.Call (.Attribute (.Call (.Name "super" p0) [] [] p1) "__init__" apos) es [] pos) ps :: rest) (tS X.K Z (cb (fA (kg C "__init__" [] D0 (ax 0) das)) b)) :=
 sD (gm := fun ov => do pure (← getAttr ov "__init__" true, ([] : List Value))) Cc Fc Sc Sx Si c1 F0 ha hr hp hjk hs (fun I J h => wpAny_bind (vy I J Si fun q s' J' => wpAny_pure (h q s' J'))) he
abbrev Om (P : Program) (w : World) (K : PySem.W.Frag) (mg : Str → Option Value) (base : Heap) (N : List Str) (x qual : Str) (params : Arguments) (body : List Stmt) (scope : Scope) (f cc c : Addr) (A : Around) (outer : List PySem.Env) (s : Shared) (H : Hp) (E : XK) : Cx :=
 ncx (L2.CX P w) P w K mg base N ⟨x, qual, params, body, scope, [("__class__", cc)], c⟩ f A outer s H E
structure FnV (P : Program) (w : World) (K : PySem.W.Frag) (mg : Str → Option Value) (base : Heap) (k : Nat) (f : Addr) (ks : List Str) (D : DF) : Prop where
 run : ∀ (A : Around) (outer : List PySem.Env) (s : Shared) (H : Hp) (us ws : List Value) (vs : List V) (Q : VK) (E : XK), RoomG k A → Env0 P w K mg base A outer s H → ws.length = ks.length → Vals vs (us ++ ws) → spD K D vs H Q E →
  codeAny (model P w) A (.call (.ref f) ⟨us, ks.zip ws⟩) (CR (L2.CX P w) outer P w H s Q E) s
 kp : PySem.W.keepIn K (.ref f) = true
def vG (n l : Nat) (D : DF) : DF := fun ws m => if n + l ≤ ws.length then bI (n + l) D (ws.take n ++ ws.drop (ws.length - l) ++ (ws.drop n).take (ws.length - l - n)) m else ζ
section
variable {P: Program}{w: World}{K: PySem.W.Frag}{mg: Str → Option Value}{base: Heap}{x qual fst: Str}{params: Arguments}{body: List Stmt}{scope: Scope}{f cc c D: Addr}{k: Nat}{N ps: List Str}{b: DS}
theorem B1 {s : Shared} {H : Hp} {A : Around} {outer : List PySem.Env} (Sc : SupC P K cc c D) (e0 : Env0 P w K mg base A outer s H) : CellsAt [("__class__", cc)] ["__class__"] [ζ] s.heap H := by
 obtain ⟨cl, cld, csl, hcell⟩ := Sc.cell
 have hb := e0.bs _ _ (e0.mod.kin _ _ hcell)
 have hn : ∀ (y : Str) (c1 : Addr), List.lookup y [(("__class__" : Str), cc)] = ξ c1 → y = "__class__" ∧ c1 = cc := fun y c1 e => by
  have := PySem.mem_of_lookup e
  simp at this
  exact this
 refine ⟨rfl, fun y c1 e => ?_, fun x1 y c1 e1 e2 => ?_, fun i y hi => ?_⟩
 ·obtain ⟨_, rfl⟩ := hn y c1 e
  exact ⟨hb.2, _, _, hb.1, rfl⟩
 ·rw [(hn x1 c1 e1).1, (hn y c1 e2).1]
 ·cases i with
  | zero =>
   simp at hi
   subst hi
   exact ⟨cc, by simp [List.lookup], fun v hv => by simp at hv⟩
  | succ i => simp at hi
theorem y6 {A : Around} {outer : List PySem.Env} {s : Shared} {H : Hp} {E : XK} (hmg : mg "super" = ζ) (hn : N[0]? = ξ fst) (hks : scope.names.lookup ("super" : Str) = ξ .globalImplicit) (hkc : scope.names.lookup ("__class__" : Str) = ξ .free) (hkf : scope.names.lookup fst = ξ .local) :
  SupX P (Om P w K mg base N x qual params body scope f cc c A outer s H E) f cc c D fst := ⟨rfl, rfl, by show List.lookup _ [(_, _)] = _; simp [List.lookup], hks, hkc, hkf, hn, hmg, rfl⟩
theorem vE {vs : List V} (h : vs.length < N.length) : startF N vs [ζ] = L2.start N vs := by
 unfold startF L2.start
 have e : N.length - vs.length = N.length - vs.length - 1 + 1 := by omega
 show _ ++ (([ζ] : List (Option V)) ++ List.replicate (N.length - vs.length - 1) ζ) = _
 rw [e, List.replicate_succ]
 rfl
theorem Jt {X : Cx} {CX : CXT} {outer : List PySem.Env} {P : Program} {w : World} {s s2 s' : Shared} {H H2 : Hp} {Q : VK} {fl : Flow} (un : Un (frs outer) [] H H2 s.heap s2.heap) (ho : s2.os = s.os) (h0 : X.s_0 = s2) (hH : X.H_0 = H2) (hf : X.fs = frs outer) (hx : X.ex = []) (hP : X.prog = P) (hw : X.w = w)
  (h : SP X [] { nx := fun _ H' => Q .non H', rt := Q } fl s') : CE outer P w H s Q (match (generalizing := false) fl with
   | .ret v => v
   | _ => .none) s' := by
 have go : ∀ {σ' : L2.St} {H' : Hp} {v : V} {u : Value}, Inv X [] σ' H' s' → RelV v u → Q v H' → CE outer P w H s Q u s' := fun {σ' H' v u} J rv q => by
  have b := J.base
  rw [h0, hH, hf, hx] at b
  have o := J.os
  rw [h0] at o
  have k := J.hok
  rw [hP, hw] at k
  exact ⟨v, H', o.trans ho, J.bare, un.trans b, k, rv, q⟩
 match fl, h with
 | .next, ⟨_, _, J, q⟩ => exact go (v := .non) (u := .none) J rfl q
 | .ret _, ⟨_, _, _, J, rv, q⟩ => exact go J rv q
 | .brk, ⟨_, _, _, q⟩ => exact q.elim
 | .cont, ⟨_, _, _, q⟩ => exact q.elim
theorem vU {A : Around} {outer : List PySem.Env} {s : Shared} {H : Hp} {args : Args} {Q : VK} {E : XK} {G : List V → Hp → Prop} {kV doc pm ct oc : Value} {an od : Option Addr} {osl : Array (Option Value)}
  (lk : K.lookup f = ξ ⟨oc, od, .func (PySem.W.fnX x qual params body scope [("__class__", cc)] .none kV doc pm an (.ref c) ct), osl⟩) (hcd : PySem.W.codeIn K (.ref c) qual = true) (Sc : SupC P K cc c D) (S : NScope N ps ["__class__"] scope) (hr : Room (k + 1) A) (e0 : Env0 P w K mg base A outer s H)
  (hb : StX.Bnd (L2.CX P w) P w K mg base (PySem.W.fnX x qual params body scope [("__class__", cc)] .none kV doc pm an (.ref c) ct) args ps A outer s H E G)
  (hbody : ∀ (s2 : Shared) (H2 : Hp) (vs : List V), G vs H2 → Room k (A.deeper (PySem.W.envX qual scope s2.heap.objs.size f (.ref c) [("__class__", cc)])) →
   ∃ t, PSsA (Om P w K mg base N x qual params body scope f cc c A outer s2 H2 E) body t ∧ t { nx := fun _ H' => Q .non H', rt := Q } (L2.start N vs) H2) : codeAny (model P w) A (.call (.ref f) args) (CR (L2.CX P w) outer P w H s Q E) s := by
 have inK : ∀ {s1 : Shared} {H1 : Hp}, Env0 P w K mg base A outer s1 H1 → K.In s1.heap := fun e => e.mod.kin.keeps fun b o q => (e.bs b o q).1
 refine codeAny_call_function hr.depth (inK e0 _ _ lk) rfl S.co S.gen rfl (PySem.W.codeRec_of (inK e0) hcd) (hb _ _ _ fun s2 H2 vs us e2 un ho hx r hl g => ?_)
 have nolim : s2.heap.NoLimit := e2.mod.nolimit.keeps fun b o q => (e2.bs b o q).1
 have longer : vs.length < N.length := by
  have q := congrArg List.length S.pre
  simp only [List.length_take, List.length_append, List.length_cons, List.length_nil] at q
  omega
 refine wpAny_newFunctionEnv S.nocell (fun y hy => S.par y.1 (List.of_mem_zip hy).1) (fun h1 hns hsb => ⟨nolim.fresh _ hsb, ks_codeAny_funcAt ?_⟩) S.kind
 have same : ∀ b o, s2.heap.get? b = ξ o → h1.get? b = ξ o := fun b o e => hsb.extBut b o (Nat.ne_of_lt (Heap.lt_size e)) (Heap.get?_push_of_some _ e)
 have I := inv_startN (CX := L2.CX P w) (E := E) (f := f) (F := ⟨x, qual, params, body, scope, [("__class__", cc)], c⟩) (tk := s2.toks + (ps.zip us).length) S hr.hd e2 hl r (B1 Sc e2) hns same
 rw [vE longer] at I
 obtain ⟨t, ht, hq⟩ := hbody s2 H2 vs g (hr.deeper _)
 exact PySem.wpAt_mono (ht.run [] _ _ H2 _ I hq) (fun fl s' z => Jt (CX := L2.CX P w) un ho rfl rfl rfl rfl rfl rfl z) fun e s' z => wpAny_mono z (fun _ s3 y => hx e s3 y) fun e' s3 y => hx e' s3 y
theorem w7 {r : List Addr} {m : M} {H : Hp} {ws : List W} {vs : List V} {n : Nat} {Q : VK} {E : XK} (hw : ws.length = n) (sm : Sim K r m H) (q : RWs K r H ws vs) (h : Post K (d8 K) r H (cX n N.length b ws m) Q E) : tS K (zOf E) b { nx := fun _ H' => Q .non H', rt := Q } (L2.start N vs) H := by
 subst hw
 unfold cX at h
 rw [if_pos rfl] at h
 refine ⟨r, m, _, sm, EnvR.start q, ?_⟩
 cases hx : b (ws.map ξ ++ List.replicate (N.length - ws.length) ζ) m with
 | none => rw [hx] at h; exact h
 | some y =>
  rw [hx] at h
  cases y with
  | exc C d en m1 => exact fun r1 H1 σ1 dv l1 s1 e1 q1 => h r1 H1 dv l1 s1 q1
  | fl fl en m1 =>
   cases fl with
   | next => exact fun r1 H1 σ1 l1 s1 e1 => h r1 H1 .non l1 s1 rfl
   | ret v => exact fun r1 H1 v1 l1 s1 q1 => h r1 H1 v1 l1 s1 q1
   | brk => exact h.elim
   | cont => exact h.elim
theorem vV {n l : Nat} {ws : List W} {m : M} {vs : List V} {r : List Addr} {H : Hp} {Q : VK} {E : XK} (h : Post K (d8 K) r H (cX n l b ws m) Q E) : ws.length = n := by
 unfold cX at h
 by_cases hl : ws.length = n
 ·exact hl
 ·rw [if_neg hl] at h
  exact h.elim
abbrev Q5 (k : Nat) (P : Program) (w : World) (K : PySem.W.Frag) (mg : Str → Option Value) (base : Heap) (N : List Str) (x qual : Str) (params : Arguments) (body : List Stmt) (scope : Scope) (f cc c D : Addr) (fst : Str) (b : DS) : Prop :=
 ∀ (A : Around) (outer : List PySem.Env) (s : Shared) (H : Hp) (E : XK), Ctx (Om P w K mg base N x qual params body scope f cc c A outer s H E) (zOf E) k → SupX P (Om P w K mg base N x qual params body scope f cc c A outer s H E) f cc c D fst →
  PSsA (Om P w K mg base N x qual params body scope f cc c A outer s H E) body (tS K (zOf E) b)
theorem z5 {A : Around} {outer : List PySem.Env} {s : Shared} {H : Hp} {E : XK} (nd : N.Nodup) (hr : RoomG k (A.deeper (PySem.W.envX qual scope s.heap.objs.size f (.ref c) [("__class__", cc)]))) :
  Ctx (Om P w K mg base N x qual params body scope f cc c A outer s H E) (zOf E) k := ⟨rfl, nd, takes_of rfl rfl rfl rfl, passes_of rfl, hr.rm, hr.gd⟩
theorem Fd (Fc : FunC K x qual params body scope f cc c) (Sc : SupC P K cc c D) (S : NScope N ps ["__class__"] scope) (hmg : mg "super" = ζ) (hn : N[0]? = ξ fst)
  (hbi : ∀ (kV doc pm : Value) (an : Option Addr) (ct : Value) (us : List Value), us.length = ps.length → bindArgs (PySem.W.fnX x qual params body scope [("__class__", cc)] .none kV doc pm an (.ref c) ct) ⟨us, []⟩ = pure (ps.zip us))
  (hb : Q5 k P w K mg base N x qual params body scope f cc c D fst b)
  (hks : scope.names.lookup ("super" : Str) = ξ .globalImplicit := by decide +kernel) (hkc : scope.names.lookup ("__class__" : Str) = ξ .free := by decide +kernel) (hkf : scope.names.lookup fst = ξ .local := by decide +kernel) :
  Fn P w K mg base (k + 1) f ps (cX ps.length N.length b) := by
 obtain ⟨oc, od, kV, doc, pm, an, ct, osl, lk⟩ := Fc.ex
 have hlen : ∀ vs H Q E, spD K (cX ps.length N.length b) vs H Q E → vs.length = ps.length := fun vs H Q E ⟨r, m, ws, s, q, h⟩ => by rw [← q.len]; exact vV (vs := vs) h
 refine ⟨⟨_, ⟨hlen, fun A outer s H args us vs Q E hr e0 hbs rv hsp => ?_⟩, .all (hbi kV doc pm an ct)⟩, Fc.kp⟩
 refine vU (kV := kV) lk Fc.code Sc S hr.rm e0 (G := fun xs H2 => xs = vs ∧ H2 = H) (fun A' Ex Q' hk => hbs _ _ _ _ (hk s H vs us e0 .refl rfl (fun _ _ z => z) rv (hlen _ _ _ _ hsp) ⟨rfl, rfl⟩)) fun s2 H2 xs g hr' => ?_
 obtain ⟨rfl, rfl⟩ := g
 have hg : RoomG k (A.deeper (PySem.W.envX qual scope s2.heap.objs.size f (.ref c) [("__class__", cc)])) := ⟨hr', hr.gd⟩
 obtain ⟨r, m, ws, sm, q, h⟩ := hsp
 exact ⟨_, hb A outer s2 _ E (z5 S.nd hg) (y6 hmg hn hks hkc hkf), w7 (vV (vs := xs) h) sm q h⟩
theorem vF {n l : Nat} {D : DF} {ws : List W} {m : M} {vs : List V} {us zs : List Value} {r : List Addr} {H : Hp} {Q : VK} {E : XK} (q : RWs K r H ws vs) (rv : Vals vs (us ++ zs)) (hz : zs.length = l) (h : Post K (d8 K) r H (vG n l D ws m) Q E) :
  ∃ u1 u2 : List Value, us = u1 ++ u2 ∧ u1.length = n ∧ u2.length ≤ sizeLine ∧ ∃ (v1 v2 v3 : List V) (w1 w2 w3 : List W), Vals v1 u1 ∧ Vals v2 u2 ∧ Vals v3 zs ∧ RWs K r H w1 v1 ∧ RWs K r H w2 v2 ∧ RWs K r H w3 v3 ∧ w1.length = n ∧ w3.length = l ∧ w2.length ≤ sizeLine ∧ Post K (d8 K) r H (D (w1 ++ w3 ++ [.tup w2]) m) Q E := by
 unfold vG at h
 by_cases hc : n + l ≤ ws.length
 case neg => rw [if_neg hc] at h; exact h.elim
 rw [if_pos hc] at h
 have hvl := q.len
 have hul := rv.length
 rw [List.length_append, hz] at hul
 have e1 : ws.take n ++ ((ws.drop n).take (ws.length - l - n) ++ ws.drop (ws.length - l)) = ws := by
  have : (ws.drop n).drop (ws.length - l - n) = ws.drop (ws.length - l) := by rw [List.drop_drop]; congr 1; omega
  rw [← this, List.take_append_drop, List.take_append_drop]
 have e2 : vs.take n ++ ((vs.drop n).take (ws.length - l - n) ++ vs.drop (ws.length - l)) = vs := by
  have : (vs.drop n).drop (ws.length - l - n) = vs.drop (ws.length - l) := by rw [List.drop_drop]; congr 1; omega
  rw [← this, List.take_append_drop, List.take_append_drop]
 have q1 := q.take n
 have q2 := (q.drop n).take (ws.length - l - n)
 have q3 := q.drop (ws.length - l)
 rw [← e2] at rv
 obtain ⟨a1, a2, ea, r1, r23⟩ := StX.vals_split rv
 obtain ⟨a3, a4, eb, r2, r3⟩ := StX.vals_split r23
 subst eb
 have l1 : a1.length = n := by rw [← r1.length]; simp; omega
 have l4 : a4.length = l := by rw [← r3.length]; simp; omega
 have e3 : us = a1 ++ a3 ∧ zs = a4 := by
  rw [← List.append_assoc] at ea
  exact List.append_inj' ea (by rw [hz, l4])
 obtain ⟨rfl, rfl⟩ := e3
 have lw1 : (ws.take n).length = n := by simp; omega
 have lw3 : (ws.drop (ws.length - l)).length = l := by simp; omega
 unfold bI at h
 have hl2 : (ws.take n ++ ws.drop (ws.length - l)).length = n + l := by rw [List.length_append, lw1, lw3]
 have ed : (ws.take n ++ ws.drop (ws.length - l) ++ (ws.drop n).take (ws.length - l - n)).drop (n + l) = (ws.drop n).take (ws.length - l - n) := by rw [← hl2, List.drop_left]
 have et : (ws.take n ++ ws.drop (ws.length - l) ++ (ws.drop n).take (ws.length - l - n)).take (n + l) = ws.take n ++ ws.drop (ws.length - l) := by rw [← hl2, List.take_left]
 rw [ed, et] at h
 by_cases hs : n + l ≤ (ws.take n ++ ws.drop (ws.length - l) ++ (ws.drop n).take (ws.length - l - n)).length ∧ ((ws.drop n).take (ws.length - l - n)).length ≤ sizeLine
 case neg => rw [if_neg hs] at h; exact h.elim
 rw [if_pos hs] at h
 exact ⟨a1, a3, rfl, l1, by rw [← r2.length, ← q2.len]; exact hs.2, _, _, _, _, _, _, r1, r2, r3, q1, q2, q3, lw1, lw3, hs.2, h⟩
theorem E5 {ks : List Str} {pv : Str} (Fc : FunC K x qual params body scope f cc c) (Sc : SupC P K cc c D) (S : NScope N (ps ++ ks ++ [pv]) ["__class__"] scope) (hmg : mg "super" = ζ) (hn : N[0]? = ξ fst)
  (hbi : ∀ (kV doc pm : Value) (an : Option Addr) (ct : Value) (us rest ws : List Value), us.length = ps.length → ws.length = ks.length → bindArgs (PySem.W.fnX x qual params body scope [("__class__", cc)] .none kV doc pm an (.ref c) ct) ⟨us ++ rest, ks.zip ws⟩ = (newTuple rest >>= fun t => pure ((ps ++ ks).zip (us ++ ws) ++ [(pv, t)])))
  (hb : Q5 k P w K mg base N x qual params body scope f cc c D fst b)
  (hks : scope.names.lookup ("super" : Str) = ξ .globalImplicit := by decide +kernel) (hkc : scope.names.lookup ("__class__" : Str) = ξ .free := by decide +kernel) (hkf : scope.names.lookup fst = ξ .local := by decide +kernel) :
  FnV P w K mg base (k + 1) f ks (vG ps.length ks.length (cX (ps.length + ks.length + 1) N.length b)) := by
 obtain ⟨oc, od, kV, doc, pm, an, ct, osl, lk⟩ := Fc.ex
 refine ⟨fun A outer s H us zs vs Q E hr e0 hz rv hsp => ?_, Fc.kp⟩
 obtain ⟨r, m, ws, sm, q, h⟩ := hsp
 obtain ⟨u1, u2, rfl, hl1, hl2, v1, v2, v3, w1, w2, w3, r1, r2, r3, q1, q2, q3, lw1, lw3, hs, h⟩ := vF q rv hz h
 have hn0 : H s.heap.objs.size = Option.none := e0.hok.fresh (Nat.le_refl _)
 have hv2 : v2.length ≤ sizeLine := by rw [← q2.len]; exact hs
 have lv : (v1 ++ v3).length = ps.length + ks.length := by rw [List.length_append, ← q1.len, ← q3.len, lw1, lw3]
 refine vU (kV := kV) lk Fc.code Sc S hr.rm e0 (G := fun xs H2 => ∃ p, H p = Option.none ∧ xs = v1 ++ v3 ++ [V.ref p] ∧ H2 = upd H p (.tup v2)) (fun A' Ex Q' hk => ?_) fun s2 H2 xs ⟨p, hp, ex, eH⟩ hr' => ?_
 ·rw [hbi kV doc pm an ct u1 u2 zs hl1 hz]
  refine wpAny_bind (wpAny_newTuple (wpAny_pure ?_) hl2)
  have nw : ObjOk P w (upd H s.heap.objs.size (.tup v2)) (s.heap.push ({ cls := .type "tuple", data := .seq u2.toArray } : Obj)) s.heap.objs.size (.tup v2) := ⟨hv2, u2, r2, ⟨_, Heap.get?_push_size _ rfl, rfl, _, rfl⟩⟩
  have un := StX.un_laid (fs := frs outer) (s := s) (o := ({ cls := .type "tuple", data := .seq u2.toArray } : Obj)) (u := .tup v2) hn0
  have z := hk _ _ (v1 ++ v3 ++ [V.ref s.heap.objs.size]) (u1 ++ zs ++ [Value.ref s.heap.objs.size]) (StX.env0_laid e0 nw) un rfl (fun e s' => StX.cxUp outer s H _ _ E e s' un (fun b o q => Heap.get?_push_of_some _ q) rfl) ((r1.append r3).append (.cons rfl .nil))
   (by rw [List.length_append, lv]; simp; omega) ⟨_, hn0, rfl, rfl⟩
  rw [List.zip_append (by simp [hl1, hz])] at z
  exact z
 ·subst ex eH
  have hg : RoomG k (A.deeper (PySem.W.envX qual scope s2.heap.objs.size f (.ref c) [("__class__", cc)])) := ⟨hr', hr.gd⟩
  have l0 : Lt K r H r (upd H p (.tup v2)) := cH hp
  have qq : RWs K r (upd H p (.tup v2)) (w1 ++ w3 ++ [.tup w2]) (v1 ++ v3 ++ [V.ref p]) := ((q1.mono l0).append (q3.mono l0)).append ⟨V.ref p, [], rfl, ⟨p, _, rfl, upd_same, q2.mono l0⟩, rfl⟩
  exact ⟨_, hb A outer s2 _ E (z5 S.nd hg) (y6 hmg hn hks hkc hkf), w7 (by simp [lw1, lw3]; omega) (sm.aside hp) qq (h.base l0)⟩
theorem FnV.fw {ks : List Str} {D D' : DF} {n : Nat} (F : FnV P w K mg base k f ks D) (p : List Nat) (h : ∀ ws : List W, ws.length = n + ks.length → ∀ m, D' (pickL p ws) m = D ws m) : FnW P w K mg base k f n ks (gN p (n + ks.length) D') := ⟨fun A outer s H us zs vs Q E hr e0 hu rv hsp => by
 obtain ⟨r, m, ws, sm, q, hp⟩ := hsp
 unfold gN at hp
 by_cases hl : ws.length = n + ks.length
 ·rw [if_pos hl, h ws hl m] at hp
  have hz : zs.length = ks.length := by
   have e1 := q.len
   have e2 := rv.length
   rw [List.length_append] at e2
   omega
  exact F.run A outer s H us zs vs Q E hr e0 hz rv ⟨r, m, ws, sm, q, hp⟩
 ·rw [if_neg hl] at hp
  exact hp.elim, F.kp⟩
end
end SB
end
section
namespace SB
open PySem PySem.Spec L2
variable [Tabs][Past]
section
variable {X: Cx}{Z: WX}{e: Expr}{es: List Expr}{das dks: DA}{kw: List Keyword}{ks: List Str}{pos p: Pos}{k j n: Nat}{x m: Str}{f C: Addr}{D: DF}{E: St → XK}
def JO (a b : DA) : DA := fun env m => bnd (a env m) fun ws m1 => bnd (b env m1) fun zs m2 => ξ (.ok (ws ++ zs) m2)
theorem xZ {pins : List (Addr × Obj)} {σ : St} {H : Hp} {s : Shared} {Q : VK} {us ws : List Value} {vs : List V} (M : Mk X.K C f) (F : FnW X.prog X.w X.K X.mg X.base j f (n + 1) ks D) (hr : RoomG (j + 1) X.A)
  (hx : PassesAt (L2.CX X.prog X.w) X σ (E σ)) (I : Inv X pins σ H s) (hu : us.length = n) (r : Vals vs (us ++ ws))
  (h : ∀ x dx, H x = ζ → H dx = ζ → dx ≠ x → spD X.K D (.ref x :: vs) (upd (upd H dx (.own x)) x (.ins C dx [])) (fun v H2 => v = .non ∧ Q (.ref x) H2) (E σ)) : wpAny (model X.prog X.w) X.A (call (.ref C) us (ks.zip ws)) (EP X pins σ Q) X.xe s := by
 have hq := h (s.heap.objs.size + 1) s.heap.objs.size (I.hok.fresh (Nat.le_succ _)) (I.hok.fresh (Nat.le_refl _)) (Nat.ne_of_lt (Nat.lt_succ_self _))
 have I2 := Inv.made (C := C) I
 have r2 : Vals (V.ref (s.heap.objs.size + 1) :: vs) ((Value.ref (s.heap.objs.size + 1) :: us) ++ ws) := .cons rfl r
 refine wpAny_call (make_map (f := f) I.kIn M.makes M.init (beq_iff_eq.mp M.fn) (codeAny_mono (F.run _ X.stack _ _ (Value.ref (s.heap.objs.size + 1) :: us) ws _ _ (E σ) (hr.make C us (ks.zip ws))
  (I2.env0.make C us (ks.zip ws)) (by simp [hu]) r2 hq) fun r s' hq' => ?_))
 cases r with
 | error e => exact hx pins _ _ e s' I2 hq'
 | ok fl =>
  cases fl with
  | ret u =>
   obtain ⟨v, H', I3, rv, ev, q3⟩ := I2.after hq'
   subst ev
   exact ⟨rv, ⟨V.ref (s.heap.objs.size + 1), H', I3, rfl, q3⟩⟩
  | next => exact False.elim hq'
  | brk => exact False.elim hq'
  | cont => exact False.elim hq'
def yH (n : Nat) (a : DA) : DA := fun env m => bnd (a env m) fun ws m1 => if ws.length = n then ξ (.ok ws m1) else ζ
theorem Ni {K : PySem.W.Frag} {σ : St} {H : Hp} {Q : List V → Hp → Prop} (h : tA K Z (yH n das) σ H Q) : tA K Z das σ H fun vs H1 => vs.length = n ∧ Q vs H1 := by
 obtain ⟨r, m, env, s, e, h⟩ := h
 refine tX.step s e h fun ws m1 r1 H1 vs l1 s1 e1 q1 h1 => ?_
 by_cases hl : ws.length = n
 ·rw [if_pos hl] at h1
  exact ⟨by rw [← q1.len]; exact hl, h1.done s1 q1⟩
 ·rw [if_neg hl] at h1
  exact h1.elim
theorem CH (Cc : Ctx X Z k) (Mm : Mk X.K C f) (F : FnW X.prog X.w X.K X.mg X.base j f (n + 1) ks D) (hm : X.mg x = ξ (.ref C)) (ha : SA X Z (e :: es) das) (hkw : PK X kw (tA X.K Z dks)) (hg : Gl X x := by rfl) (hjk : j + 1 ≤ k := by decide)
    (hdb : (x == ("__debug__" : Str)) = false := by decide) (hall : (backToKw pos (keywordEach kw X.env)).all (·.1.isSome) = true := by rfl) (hks : (backToKw pos (keywordEach kw X.env)).filterMap (·.1) = ks := by rfl)
    (he : starEach (e :: es) X.env = (false, eval e X.env) :: starEach es X.env := by rfl)
    (hpl : ((backTo pos (starEach (e :: es) X.env)).any (·.1) || (backToKw pos (keywordEach kw X.env)).any (·.1.isNone)) = false := by rfl) : SE X Z (.Call (.Name x p) (e :: es) kw pos) (bR C [] D (JO (yH n das) dks)) := by
  refine ⟨fun pins s σ H Q I h => ?_⟩
  obtain ⟨r, m, env, sm, ee, h⟩ := h
  refine wpAny_Call_Name_kw (ld_glob I hg hm ?_ hdb)
  have h0 : tA X.K Z (yH n das) σ H fun vs H1 => tA X.K Z dks σ H1 fun zs H2 => ∀ x dx, H2 x = ζ → H2 dx = ζ → dx ≠ x → spD X.K D (.ref x :: (vs ++ zs)) (upd (upd H2 dx (.own x)) x (.ins C dx [])) (fun v H2 => v = .non ∧ Q (.ref x) H2) (WE Z σ) := by
    unfold bR JO at h
    have h' : Post X.K (d8 X.K) r H (bnd (yH n das env m) fun ws m1 => bnd (dks env m1) fun zs m2 => Mf C D (ws ++ zs) m2) Q (WE Z σ) := by
      cases ha1 : yH n das env m with
      | none => rw [ha1] at h; exact h
      | some y =>
        rw [ha1] at h
        cases y with
        | exc C2 d2 m2 => exact h
        | ok ws m1 =>
          simp only [dZ] at h ⊢
          cases hk1 : dks env m1 with
          | none => rw [hk1] at h; exact h
          | some y =>
            rw [hk1] at h
            cases y with
            | exc C2 d2 m2 => exact h
            | ok zs m2 => simp only [dZ, List.append_nil] at h ⊢; exact h
    exact tX.step sm ee h' fun ws m1 r1 H1 vs l1 s1 e1 q1 h1 => tX.step s1 e1 h1 fun zs m2 r2 H2 vs2 l2 s2 e2 q2 h2 => nI s2 ((q1.mono l2).append q2) h2
  refine PySem.W.callWith_KW (h₀ := X.base) I.ok.mod.kin Mm.kp hall (thn (ha.run pos pins s σ H _ I (Ni h0)) fun us s2 ⟨vs, H2, I2, rv, hl, q2⟩ => ?_) hpl he
  refine thn (hkw.run pos pins s2 σ H2 _ I2 q2) fun ws s3 ⟨zs, H3, I3, rz, q3⟩ => ⟨I3.kIn, ?_⟩
  rw [hks]
  exact xZ (E := WE Z) Mm F (Cc.rg hjk) (passAt Cc.tk σ) I3 (by rw [List.nil_append, ← rv.length]; exact hl) (rv.append rz) q3
def kL : List DE → DA → DA
 | [], d => d
 | a :: ds, d => aq a (kL ds d)
theorem Aa : ∀ (ds : List DE) (env : Env) (m : M) (ws : List W) (m1 : M), kL ds aJ env m = ξ (.ok ws m1) → ws.length = ds.length
 | [], env, m, ws, m1, h => by cases h; rfl
 | a :: ds, env, m, ws, m1, h => by
  unfold kL aq at h
  cases ha : a env m with
  | none => rw [ha] at h; cases h
  | some y =>
   rw [ha] at h
   cases y with
   | exc C d m2 => cases h
   | ok w m2 =>
    simp only [dZ] at h
    cases hb : kL ds aJ env m2 with
    | none => rw [hb] at h; cases h
    | some y =>
     rw [hb] at h
     cases y with
     | exc C d m2 => cases h
     | ok ws2 m3 =>
      cases h
      simp [Aa ds env m2 ws2 _ hb]
theorem FR (ds : List DE) : yH ds.length (kL ds aJ) = kL ds aJ := by
 funext env m
 unfold yH
 cases h : kL ds aJ env m with
 | none => rfl
 | some y =>
  cases y with
  | exc C d m2 => rfl
  | ok ws m1 => simp only [dZ, if_pos (Aa ds env m ws m1 h)]
theorem xk : ∀ (ds : List DE) (d : DA), JO (kL ds aJ) d = kL ds d
 | [], d => by
  funext env m
  unfold JO kL
  show bnd (d env m) (fun zs m2 => ξ (.ok ([] ++ zs) m2)) = _
  cases d env m with
  | none => rfl
  | some y => cases y <;> rfl
 | a :: ds, d => by
  funext env m
  have ih := xk ds d
  show bnd (bnd (a env m) fun x m1 => bnd (kL ds aJ env m1) fun xs m2 => ξ (.ok (x :: xs) m2)) (fun ws m1 => bnd (d env m1) fun zs m2 => ξ (.ok (ws ++ zs) m2)) = bnd (a env m) fun x m1 => bnd (kL ds d env m1) fun xs m2 => ξ (.ok (x :: xs) m2)
  cases a env m with
  | none => rfl
  | some y =>
   cases y with
   | exc C d m2 => rfl
   | ok w m2 =>
    simp only [dZ]
    rw [← ih]
    show _ = bnd (bnd (kL ds aJ env m2) fun ws m1 => bnd (d env m1) fun zs m2 => ξ (.ok (ws ++ zs) m2)) fun xs m2 => ξ (.ok (w :: xs) m2)
    cases kL ds aJ env m2 with
    | none => rfl
    | some y =>
     cases y with
     | exc C d m2 => rfl
     | ok ws m3 =>
      simp only [dZ]
      cases d env m3 with
      | none => rfl
      | some y => cases y <;> rfl
theorem d7 (Cc : Ctx X Z k) (Mm : Mk X.K C f) (ds : List DE) (F : FnW X.prog X.w X.K X.mg X.base j f (ds.length + 1) ks D) (hm : X.mg x = ξ (.ref C)) (ha : SA X Z (e :: es) (kL ds aJ)) (hkw : PK X kw (tA X.K Z dks)) (hg : Gl X x := by rfl) (hjk : j + 1 ≤ k := by decide)
  (hdb : (x == ("__debug__" : Str)) = false := by decide) (hall : (backToKw pos (keywordEach kw X.env)).all (·.1.isSome) = true := by rfl) (hks : (backToKw pos (keywordEach kw X.env)).filterMap (·.1) = ks := by rfl)
  (he : starEach (e :: es) X.env = (false, eval e X.env) :: starEach es X.env := by rfl)
  (hpl : ((backTo pos (starEach (e :: es) X.env)).any (·.1) || (backToKw pos (keywordEach kw X.env)).any (·.1.isNone)) = false := by rfl) : SE X Z (.Call (.Name x p) (e :: es) kw pos) (bR C [] D (kL ds dks)) := by
 have h := CH (p := p) (pos := pos) Cc Mm F hm ha hkw hg hjk hdb hall hks he hpl
 rw [FR, xk] at h
 exact h
end
theorem xf {K : PySem.W.Frag} {C : Addr} {f : Str} (h : z6 K C f = true) : ∃ u, Con K C f .non u := by
 unfold z6 at h
 split at h
 ·rename_i e
  simp only [Bool.and_eq_true, Bool.not_eq_true'] at h
  exact ⟨_, e, rfl, He.eqO_ok h.1, h.2⟩
 ·cases h
theorem pB {X : Cx} {Z : WX} {o : Expr} {da : DE} {pos : Pos} {C : Addr} {f : Str} (c : Cls X.K C) (h : ∃ u, Con X.K C f .non u) (ho : SE X Z o da) (hb : attributeBase o f X.env (eval o X.env) = eval o X.env := by rfl) : SE X Z (.Attribute o f pos) (jE C f .non da) := by
 obtain ⟨u, h⟩ := h
 exact C6 c h (fun _ _ => rfl) ho hb
def yE : DE := fun _ _ => ζ
theorem C3 {X : Cx} {Z : WX} {e : Expr} : SE X Z e yE := ⟨fun pins s σ H Q I ⟨_, _, _, _, _, h⟩ => h.elim⟩
end SB
end
section
namespace SB
open PySem hiding Env
open L2
variable [Tabs][Past]
end SB
end
section
namespace SB
open PySem hiding Env
open L2
end SB
end
section
namespace SB
open PySem PySem.Spec L2
section
end
end SB
end
section
namespace SB
open PySem L2
variable [Tabs][Past]
section
end
section
end
open He (ga ma)
end SB
end
section
namespace SB
open PySem L2
variable [Tabs][Past]
section
end
end SB
end
section
namespace SB
open PySem PySem.Spec L2
open PyProof.Rows hiding St
variable [Tabs][Past]
section
end
section
end
section
end
section
end
end SB
end
section
namespace SB
open PySem PySem.Spec L2
open PyProof.Rows (envOfC)
open NdefX (NScope NF ncx CellsAt startF inv_startN)
variable [Tabs][Past]
section
end
section
end
end SB
end
section
namespace L2
open PySem PySem.Spec PyProof.Rows
section
end
section
end
end L2
end
section
namespace SB
open PySem PySem.Spec L2
open PyProof.Rows hiding St
variable [Tabs][Past]
section
end
section
end
section
end
section
end
end SB
end
section
namespace L2
open PySem PySem.Spec PyProof.Rows
def Mq (m : Nat) : Prop := m = 7 ∨ m = 31 ∨ m = 127 ∨ m = 511 ∨ m = 2047 ∨ m = 8191
structure TabQ (t : SetTable) (hs : List Int) : Prop where
 up : Ris t.place.toList
 dm : t.dummies = #[]
 sz : t.place.toList.length = hs.length
 mq : Mq t.mask
 way : ∀ (i : Nat) (x : Int) (j : Nat), hs[i]? = ξ x → t.place.toList[i]? = ξ j → ∃ k, L2.way t.mask x k = j ∧ ∀ k', k' < k → L2.way t.mask x k' ∈ t.place.toList
section
end
section
end
section
variable {P: Program}{w: World}
structure SetTQ (P : Program) (w : World) (h : Heap) (a : Addr) (L : List (Addr × List Int)) (es : Array (Int × Value)) (ep : Nat) (t : SetTable) : Prop where
 at_ : ∃ o, h.get? a = ξ o ∧ o.ExactSet ∧ o.data = .set es ep t
 rows : es.toList = rowsOf P w L
 tab : TabQ t (L.map fun p => thash P w p.2)
 once : (L.map (·.2)).Nodup
 tup : ∀ p ∈ L, IsT P w h p.2 p.1
 flat : t.plain = true
 led : w.params.followText "set-order" = true ∨ t.led = true
 room : L.length * 5 < t.mask * 3
 few : L.length < 1800
end
section
end
abbrev Pr (w : World) : Obj := { cls := .type "set", dict := ζ, data := .set #[] 0 (.fresh 0 0 (!w.params.followText "set-order")) }
section
variable {P: Program}{w: World}
def HasQ (P : Program) (w : World) (h : Heap) (S : Addr) (ks : List (Addr × List Int)) (i : Nat) : Prop := ∃ L es ep t, SetTQ P w h S L es ep t ∧ Got ks i L
theorem HasQ.start {h : Heap} {a : Addr} (ho : h.get? a = ξ (Pr w)) (ks : List (Addr × List Int)) : HasQ P w h a ks 0 := by
 have hm : (SetTable.fresh 0 0 (!w.params.followText "set-order")).mask = 7 := rfl
 refine ⟨[], #[], 0, .fresh 0 0 (!w.params.followText "set-order"), ⟨⟨_, ho, ⟨rfl, rfl, rfl⟩, rfl⟩, rfl, ⟨List.Pairwise.nil, rfl, rfl, .inl rfl, (fun i x j hi => nomatch (show ζ = ξ x from hi))⟩, List.nodup_nil, (fun _ z => nomatch z), rfl, ?_, by rw [hm]; decide, by decide⟩, Got.zero ks⟩
 show _ ∨ (!w.params.followText "set-order") = true
 cases w.params.followText "set-order"
 ·exact .inr rfl
 ·exact .inl rfl
end
section
end
end L2
end
section
namespace SB
open PySem PySem.Spec L2
open PyProof.Rows hiding St
variable [Tabs][Past]
section
end
section
variable {X: Cx}{Z: WX}{pins: List (Addr × Obj)}{σ: L2.St}{H: Hp}{s: Shared}{r: List Addr}{m: M}
abbrev LTx := Arguments × Expr × Scope
def LamF (X : Cx) (t : LTx) (H : Hp) (f : Addr) : Prop := ∃ (c' : Addr) (pm ct : Value), H f = ξ (.frz (Bk X t.1 t.2.1 t.2.2 c' pm ct) (.own f)) ∧ H c' = ξ (LamX.CodeO c' (X.env.qual ++ "<lambda>"))
theorem LamF.later {K : PySem.W.Frag} {t : LTx} {H H' : Hp} {f : Addr} (l : Later K H H') : LamF X t H f → LamF X t H' f := fun ⟨c', pm, ct, h1, h2⟩ => ⟨c', pm, ct, l.lk _ _ _ h1, l.co _ _ h2⟩
def LamsF (X : Cx) (H : Hp) : List LTx → List Addr → Prop
 | [], fs => fs = []
 | t :: ts, fs => ∃ f rest, fs = f :: rest ∧ LamF X t H f ∧ LamsF X H ts rest
theorem LamsF.later {K : PySem.W.Frag} {H H' : Hp} (l : Later K H H') : ∀ {ts : List LTx} {fs : List Addr}, LamsF X H ts fs → LamsF X H' ts fs
 | [], _, h => h
 | _ :: _, _, ⟨f, rest, e, h1, h2⟩ => ⟨f, rest, e, h1.later l, LamsF.later l h2⟩
theorem LamsF.snoc {H : Hp} {t : LTx} {f : Addr} (h : LamF X t H f) : ∀ {ts : List LTx} {fs : List Addr}, LamsF X H ts fs → LamsF X H (ts ++ [t]) (fs ++ [f])
 | [], _, e => by
  subst e
  exact ⟨f, [], rfl, h, rfl⟩
 | _ :: _, _, ⟨f1, rest, e, h1, h2⟩ => ⟨f1, rest ++ [f], by rw [e]; rfl, h1, LamsF.snoc h h2⟩
theorem LamsF.some {H : Hp} : ∀ {ts : List LTx} {fs : List Addr}, LamsF X H ts fs → ∀ f ∈ fs, H f ≠ ζ
 | [], _, e, f, hf => by subst e; cases hf
 | _ :: _, _, ⟨f1, rest, e, ⟨_, _, _, h1, _⟩, h2⟩, f, hf => by
  subst e
  rcases List.mem_cons.mp hf with z | z
  ·subst z
   rw [h1]
   exact fun z => nomatch z
  ·exact LamsF.some h2 f z
theorem LamsF.len {H : Hp} : ∀ {ts : List LTx} {fs : List Addr}, LamsF X H ts fs → fs.length = ts.length
 | [], _, e => by subst e; rfl
 | _ :: _, _, ⟨_, _, e, _, h2⟩ => by subst e; simp [LamsF.len h2]
theorem Ek {P c : Addr} {params : Arguments} {body : Expr} {scope : Scope} {pos : Pos} {E Q : Value → Shared → Prop} (I : Inv X pins σ H s) (S : Sim X.K r m H) (la : LamAt X.K X.base X.mg c P (X.env.qual ++ "<lambda>")) (hcode : X.env.code = .ref c)
  (hdef : defaultsOf params X.env = ([], [])) (hfree : ∀ y ∈ scope.names, y.2 = .free → ∃ c, X.env.cells.lookup y.1 = ξ c)
  (h : ∀ (f : Addr) (H1 : Hp) (s' : Shared), Inv X pins σ H1 s' → Sim X.K r m H1 → Lt X.K r H r H1 → H f = ζ → LamF X (params, body, scope) H1 f → Q (.ref f) s') :
  wpAny (model X.prog X.w) X.A (eval (.Lambda params body scope pos) X.env) Q E s := by
 obtain ⟨ps, hP, tr, nm⟩ := S.tb _ la.mem
 have oP : s.heap.get? P = ξ { cls := .none, data := .fields ps } := I.hok P _ hP
 have bm := la.tb.bm.keeps I.bk
 refine PySem.W.kla_eval hdef ?_
 generalize hcd : codeAmong pos ps.toList = z
 cases z with
 | some cv =>
  obtain ⟨c1, rfl, hco⟩ := nm pos cv hcd
  refine PySem.W.kla_makeFunctionHit (mg := X.mg) (P := P) (c := c) (ps := ps) (closure_ok hfree) I.ok.glob (I.mod.glob.keeps I.bk) hcode (la.tb.code.keeps I.bk) oP tr hcd bm fun ct h1 tk old big => ?_
  have nf : H h1.objs.size = ζ := I.hok.fresh big
  have I1 := I.laid (h' := h1.push (Bk X params body scope c1 ((X.mg "__name__").getD .none) ct)) (t' := tk) (o := .frz (Bk X params body scope c1 ((X.mg "__name__").getD .none) ct) (.own h1.objs.size)) (fun b o e => Heap.get?_push_of_some _ (old b o e)) big
   ⟨Heap.get?_push_size _ rfl, _, Heap.get?_push_size _ rfl⟩
  exact h h1.objs.size _ _ I1 (S.aside nf) (cH nf) nf ⟨c1, _, ct, upd_same, by rw [upd_ne (ne_of_none hco nf)]; exact hco⟩
 | none =>
  refine PySem.W.kla_makeFunction (mg := X.mg) (P := P) (c := c) (ps := ps) (closure_ok hfree) I.ok.glob (I.mod.glob.keeps I.bk) hcode (la.tb.code.keeps I.bk) oP tr hcd la.tb.gP bm fun c1 ct h1 tk old ge1 lt1 rec_ tab1 => ?_
  obtain ⟨c2, oc, vs, t, e2, hoc, hd, hv⟩ := rec_
  cases e2
  have big : s.heap.objs.size ≤ h1.objs.size := Nat.le_trans ge1 (Nat.le_of_lt lt1)
  have nC : H c1 = ζ := I.hok.fresh ge1
  have I1 := LamX.inv_table (t' := tk) (more := #[rawInt pos.line, rawInt pos.col, .ref c1]) (h' := h1) I hP
   (fun b o ne e => old b o ne e) tab1 ge1 ⟨oc, vs, t, hoc, hd, hv⟩
  have eL : (ps ++ #[rawInt pos.line, rawInt pos.col, .ref c1]).toList = ps.toList ++ [rawInt pos.line, rawInt pos.col, .ref c1] := by simp
  have ht : LamX.TabS (upd (upd H P (.tbl (ps ++ #[rawInt pos.line, rawInt pos.col, .ref c1]))) c1 (LamX.CodeO c1 (X.env.qual ++ "<lambda>"))) P (X.env.qual ++ "<lambda>") := by
   refine ⟨ps ++ #[rawInt pos.line, rawInt pos.col, .ref c1], by rw [upd_ne (ne_of_none hP nC), upd_same], by rw [eL]; exact PySem.TriplesOk_snoc _ _ _ _ tr, fun p' cv hcv => ?_⟩
   rw [eL] at hcv
   rcases LamX.among_app _ tr hcv with z | z
   ·obtain ⟨c0, e1, e3⟩ := nm p' cv z
    refine ⟨c0, e1, ?_⟩
    have n0 : c0 ≠ P := fun z => by
     subst z
     rw [hP] at e3
     exact LamX.codeO_ne ps (Option.some.inj e3).symm
    rw [upd_ne (ne_of_none e3 nC), upd_ne n0]
    exact e3
   ·exact ⟨c1, z, upd_same⟩
  obtain ⟨S1, l1⟩ := S.tab hP nC la.one ht
  have n1 : h1.objs.size ≠ c1 := Nat.ne_of_gt lt1
  have n2 : h1.objs.size ≠ P := Nat.ne_of_gt (Nat.lt_of_lt_of_le (Heap.lt_size oP) big)
  have nf : H h1.objs.size = ζ := I.hok.fresh big
  have nf1 : upd (upd H P (.tbl (ps ++ #[rawInt pos.line, rawInt pos.col, .ref c1]))) c1 (LamX.CodeO c1 (X.env.qual ++ "<lambda>")) h1.objs.size = ζ := by
   rw [upd_ne n1, upd_ne n2]
   exact nf
  have I2 := I1.laid (h' := h1.push (Bk X params body scope c1 ((X.mg "__name__").getD .none) ct)) (t' := tk) (o := .frz (Bk X params body scope c1 ((X.mg "__name__").getD .none) ct) (.own h1.objs.size)) (fun b o e => Heap.get?_push_of_some _ e) (Nat.le_refl _)
   ⟨Heap.get?_push_size _ rfl, _, Heap.get?_push_size _ rfl⟩
  exact h h1.objs.size _ _ I2 (S1.aside nf1) (l1.trans (cH nf1)) nf ⟨c1, _, ct, upd_same, by rw [upd_ne (Ne.symm n1), upd_same]⟩
def CC (X : Cx) (t : LTx) : L2.TE := fun _ H Q => ∃ r m, Sim X.K r m H ∧ ∀ (f : Addr) (H1 : Hp), Sim X.K r m H1 → Lt X.K r H r H1 → H f = ζ → LamF X t H1 f → Q (.ref f) H1
theorem zv {P c : Addr} {t : LTx} {pos : Pos} (la : LamAt X.K X.base X.mg c P (X.env.qual ++ "<lambda>")) (hcode : X.env.code = .ref c)
  (hdef : defaultsOf t.1 X.env = ([], [])) (hl : LamX.lamSB X.env.scope t.2.2 = true) : PE X (.Lambda t.1 t.2.1 t.2.2 pos) (CC X t) := by
 have L := LamX.lamS_by hl
 refine ⟨fun pins s σ H Q I ⟨r, m, S, h⟩ => ?_⟩
 exact Ek I S la hcode hdef (L.has I.ok) fun f H1 s' I1 S1 l1 hf hF => ⟨.ref f, H1, I1, rfl, h f H1 S1 l1 hf hF⟩
structure GSt (X : Cx) (i : Nat) (r : List Addr) (m : M) (σ0 : L2.St) (H0 : Hp) (ts : List LTx) (σ : L2.St) (H : Hp) : Prop where
 sim : Sim X.K r m H
 lt : Lt X.K r H0 r H
 ex : ∃ (a : Addr) (fs : List Addr), H0 a = ζ ∧ a ∉ r ∧ σ = σ0.set i (ξ (.ref a)) ∧ H a = ξ (.lst (fs.map V.ref)) ∧ LamsF X H ts fs ∧ fs.Nodup ∧ i < σ0.length
def tL (X : Cx) (Z : WX) (i : Nat) (ts : List LTx) (d : DS) : TS := fun D σ H => ∃ r m env σ0 H0, GSt X i r m σ0 H0 ts σ H ∧ EnvR X.K r H0 env σ0 ∧ PostS X.K r H0 (d env m) D Z
variable {P c: Addr}{t: LTx}{i k: Nat}{x: Str}{px p0 lpos pos apos cpos: Pos}{rest: List Stmt}{d: DS}{ts: List LTx}
theorem Ba (la : LamAt X.K X.base X.mg c P (X.env.qual ++ "<lambda>")) (hcode : X.env.code = .ref c)
  (hdef : defaultsOf t.1 X.env = ([], [])) (hl : LamX.lamSB X.env.scope t.2.2 = true) (hs : starEach [.Lambda t.1 t.2.1 t.2.2 pos] X.env = [(false, eval (.Lambda t.1 t.2.1 t.2.2 pos) X.env)] := by rfl) :
  PE X (.List [.Lambda t.1 t.2.1 t.2.2 pos] lpos) (fun σ H Q => ∃ r m, Sim X.K r m H ∧ ∀ (a f : Addr) (H1 : Hp), Sim X.K r m H1 → Lt X.K r H r H1 → H a = ζ → a ∉ r → H1 a = ξ (.lst [.ref f]) → LamF X t H1 f → Q (.ref a) H1) := by
 have L := LamX.lamS_by hl
 refine ⟨fun pins s σ H Q I ⟨r, m, S, h⟩ => ?_⟩
 refine (pe_lst (t := fun σ H Q => CC X t σ H fun v H1 => Q [v] H1) ?_).run pins s σ H Q I ⟨r, m, S, fun f H1 S1 l1 hf hF => ⟨(show 1 ≤ sizeLine by decide), fun a ha => ?_⟩⟩
 ·refine ⟨fun pos' pins s σ H Q I h => ?_⟩
  exact (pa_cons (zv la hcode hdef hl) (pa_nil (X := X)) hs).run pos' pins s σ H Q I h
 ·have n := S1.notin ha
  have ha0 : H a = ζ := by
   cases e : H a with
   | none => rfl
   | some u =>
    by_cases ht : ∃ ps, u = .tbl ps
    ·obtain ⟨ps, rfl⟩ := ht
     obtain ⟨qs, e2⟩ := l1.lat.tbs a ps e
     rw [ha] at e2
     cases e2
    ·have := l1.kept a u e n fun ps z => ht ⟨ps, z⟩
     rw [ha] at this
     cases this
  exact h a f _ (S1.aside ha) (l1.trans (cH ha)) ha0 n upd_same (hF.later (kG (K := X.K) ha))
theorem Hh (la : LamAt X.K X.base X.mg c P (X.env.qual ++ "<lambda>")) (C : Ctx X Z k) (hr : PSs X rest (tL X Z i [t] d)) (hcode : X.env.code = .ref c)
  (hl : LamX.lamSB X.env.scope t.2.2 = true) (hi : X.N[i]? = ξ x := by rfl) (hx : Loc X.env.scope x := by first | exact Or.inl rfl | exact Or.inr rfl) (hdef : defaultsOf t.1 X.env = ([], []) := by rfl)
  (hs : swapsWith (.List [.Lambda t.1 t.2.1 t.2.2 pos] lpos) (ξ (.Name x px)) p0.line X.env = pure false := by rfl)
  (hf : X.fn x = true ∨ X.env.scope.names.lookup x = ξ .local := by first | exact .inl rfl | exact .inr rfl | assumption) (hst : starEach [.Lambda t.1 t.2.1 t.2.2 pos] X.env = [(false, eval (.Lambda t.1 t.2.1 t.2.2 pos) X.env)] := by rfl) :
  rK X Z (.Assign [.Name x px] (.List [.Lambda t.1 t.2.1 t.2.2 pos] lpos) p0 :: rest) d := by
 refine ⟨fun pins s σ H D I ⟨r, m, env, S, er, h⟩ => (pss_cons (ps_set C.nd hi hx (Ba la hcode hdef hl hst) hs hf) hr).run pins s σ H D I ?_⟩
 have hil : i < σ.length := by
  rw [I.len]
  exact (List.getElem?_eq_some_iff.mp hi).1
 exact ⟨r, m, S, fun a f H1 S1 l1 ha n hH hF => ⟨r, m, env, σ, H, ⟨S1, l1, a, [f], ha, n, rfl, hH, ⟨f, [], rfl, hF, rfl⟩, by simp, hil⟩, er, h⟩⟩
theorem Hg (la : LamAt X.K X.base X.mg c P (X.env.qual ++ "<lambda>")) (C : Ctx X Z k) (hr : PSs X rest (tL X Z i (ts ++ [t]) d)) (hcode : X.env.code = .ref c)
  (hl : LamX.lamSB X.env.scope t.2.2 = true) (hts : ts.length < 1000 := by decide) (hi : X.N[i]? = ξ x := by rfl) (hv : Vis X.env.scope x := by first | exact Or.inl rfl | exact Or.inr (Or.inl rfl) | exact Or.inr (Or.inr rfl)) (hdef : defaultsOf t.1 X.env = ([], []) := by rfl)
  (hdb : (x == ("__debug__" : Str)) = false := by decide) (hcd : (x == ("__classdict__" : Str)) = false := by decide)
  (hbase : attributeBase (.Name x px) "append" X.env (eval (.Name x px) X.env) = eval (.Name x px) X.env := by rfl)
  (hfew : ((backTo cpos (starEach [.Lambda t.1 t.2.1 t.2.2 pos] X.env)).all (fun x => !x.1) && (backToKw cpos (keywordEach [] X.env)).all (fun x => x.1.isSome)
   && decide (([.Lambda t.1 t.2.1 t.2.2 pos] : List Expr).length + ([] : List Keyword).length + (if ([] : List Keyword).isEmpty then 0 else 1) < 30)) = true := by rfl)
  (hline : (apos.endLine == cpos.line) = true := by rfl) (hst : starEach [.Lambda t.1 t.2.1 t.2.2 pos] X.env = [(false, eval (.Lambda t.1 t.2.1 t.2.2 pos) X.env)] := by rfl)
  (hs : swapsWith (.Call (.Attribute (.Name x px) "append" apos) [.Lambda t.1 t.2.1 t.2.2 pos] [] cpos) ζ p0.line X.env = pure false := by rfl) :
  PSs X (.Expr (.Call (.Attribute (.Name x px) "append" apos) [.Lambda t.1 t.2.1 t.2.2 pos] [] cpos) p0 :: rest) (tL X Z i ts d) := by
 have pa : PA X [.Lambda t.1 t.2.1 t.2.2 pos] (fun σ H Q => CC X t σ H fun v H1 => Q [v] H1) := by
  refine ⟨fun pos' pins s σ H Q I h => ?_⟩
  exact (pa_cons (zv la hcode hdef hl) (pa_nil (X := X)) hst).run pos' pins s σ H Q I h
 have ps := ps_expr (X := X) (pos := p0) (pe_bm (cpos := cpos) (apos := apos) PySem.F.plainAttrs_list PySem.F.slot_list_append PySem.F.type_list_append mt_append (pe_var (pos := px) hi hv hdb hcd) pa hbase hfew hline hst (by rfl)) hs
 refine PSs.imp (pss_cons ps hr) fun D σ H ⟨r, m, env, σ0, H0, G, er, h⟩ => ?_
 obtain ⟨S, l, a, fs, ha0, na, eσ, hH, hF, nd, hil⟩ := G
 refine ⟨.ref a, by rw [eσ]; exact List.getElem?_set_self hil, ?_⟩
 refine ⟨.inl ⟨rfl, _, SqL.of hH⟩, r, m, S, fun f H1 S1 l1 hf hF1 => ?_⟩
 have hH1 : H1 a = ξ (.lst (fs.map V.ref)) := l1.kept a _ hH na fun ps z => nomatch z
 refine ⟨a, fs.map V.ref, .ref f, rfl, rfl, hH1, ?_, ?_⟩
 ·rw [List.length_map, hF.len]
  have : (1000 : Nat) ≤ sizeLine := by decide
  omega
 ·refine ⟨r, m, env, σ0, H0, ⟨S1.hid na hH1, (l.trans l1).hid ha0 hH1, a, fs ++ [f], ha0, na, eσ, by rw [upd_same, List.map_append]; rfl, LamsF.snoc (hF1.later (fQ (K := X.K) hH1)) ((hF.later l1.lat).later (fQ (K := X.K) hH1)), ?_, hil⟩, er, h⟩
  rw [List.nodup_append]
  refine ⟨nd, by simp, fun b hb b' hb' e => ?_⟩
  simp at hb'
  subst hb'
  subst e
  exact hF.some b hb hf
def Kz (e e' : Env) : Prop := e.length = e'.length ∧ ∀ (i : Nat) (w : W), e[i]? = ξ (ξ w) → e'[i]? = ξ (ξ w)
def LeS : Option RS → Option RS → Prop
 | none, _ => True
 | some (.fl f e m), y => ∃ e', y = ξ (.fl f e' m) ∧ Kz e e'
 | some (.exc C d e m), y => ∃ e', y = ξ (.exc C d e' m) ∧ Kz e e'
theorem EnvR.weak {K : PySem.W.Frag} {e e' : Env} {σ : L2.St} (h : EnvR K r H e' σ) (l : Kz e e') : EnvR K r H e σ := ⟨l.1.trans h.1, fun i w q => h.2 i w (l.2 i w q)⟩
theorem LeS.post {K : PySem.W.Frag} {x y : Option RS} {D : Ends} (l : LeS x y) (h : PostS K r H x D Z) : PostS K r H y D Z := by
 cases x with
 | none => exact h.elim
 | some x =>
  cases x with
  | exc C d e m =>
   obtain ⟨e', rfl, le⟩ := l
   exact fun r1 H1 σ1 dv l1 S1 q1 => h r1 H1 σ1 dv l1 S1 (q1.weak le)
  | fl f e m =>
   obtain ⟨e', rfl, le⟩ := l
   cases f with
   | next => exact fun r1 H1 σ1 l1 S1 q1 => h r1 H1 σ1 l1 S1 (q1.weak le)
   | brk => exact fun r1 H1 σ1 l1 S1 q1 => h r1 H1 σ1 l1 S1 (q1.weak le)
   | cont => exact fun r1 H1 σ1 l1 S1 q1 => h r1 H1 σ1 l1 S1 (q1.weak le)
   | ret w => exact fun r1 H1 v l1 S1 q1 => h r1 H1 v l1 S1 q1
theorem A8 {K : PySem.W.Frag} {x : Option RS} {D : Ends} {r0 : List Addr} {H0 : Hp} (h : PostS K r H x D Z) : @PostS _ (Past.and ‹Past› r0 H0) K r H x D Z := by
 cases x with
 | none => exact h
 | some x =>
  cases x with
  | exc C d e m => exact fun r1 H1 σ1 dv l1 S1 q1 => h r1 H1 σ1 dv l1 S1.less.1 q1
  | fl f e m => cases f <;> exact fun r1 H1 σ1 l1 S1 q1 => h r1 H1 σ1 l1 S1.less.1 q1
theorem lD {env : Env} {w : W} : Kz (env.set i ζ) (env.set i (ξ w)) := ⟨by simp, fun j x h => by
 rw [List.getElem?_set] at h ⊢
 by_cases hij : i = j
 ·subst hij
  rw [if_pos rfl] at h
  split at h <;> cases h
 ·rw [if_neg hij] at h ⊢
  exact h⟩
theorem uI {d1 d2 : DE} {e1 e2 : Env} (h : d1 e1 m = d2 e2 m) (l : Kz e1 e2) : LeS (iR d1 e1 m) (iR d2 e2 m) := by
 unfold iR
 rw [h]
 cases d2 e2 m with
 | none => trivial
 | some y => cases y <;> exact ⟨_, rfl, l⟩
theorem zJ {e1 e2 : Env} (l : Kz e1 e2) : LeS (fy e1 m) (fy e2 m) := ⟨_, rfl, l⟩
theorem Qj {c1 c2 : DT} {a1 a2 b1 b2 : DS} {e1 e2 : Env} (h : c1 e1 m = c2 e2 m) (l : Kz e1 e2) (ha : ∀ m, LeS (a1 e1 m) (a2 e2 m)) (hb : ∀ m, LeS (b1 e1 m) (b2 e2 m)) : LeS (rP c1 a1 b1 e1 m) (rP c2 a2 b2 e2 m) := by
 unfold rP
 rw [h]
 cases c2 e2 m with
 | none => trivial
 | some y =>
  cases y with
  | exc C d m1 => exact ⟨_, rfl, l⟩
  | ok b m1 => cases b <;> simp only [bS] <;> first | exact ha m1 | exact hb m1
def eG (i : Nat) (a : Addr) (L : DE) : DE := fun env m => match env[i]? with
 | some (ξ (.ob g)) => if g = a then L (env.set i ζ) m else ζ
 | _ => ζ
theorem Fo {a : Addr} {L : DE} {env : Env} (h : i < env.length) : eG i a L (env.set i (ξ (.ob a))) m = L (env.set i ζ) m := by
 unfold eG
 rw [List.getElem?_set_self h]
 simp only [if_true, List.set_set]
def vT (i : Nat) (d : DS) : DS := fun env m => d (env.set i ζ) m
theorem zr {fin : Stmt} {dF : DE → DS} {L : DE}
  (hfin : ∀ (r3 : List Addr) (H3 : Hp) (a : Addr) (od : Obj) (fs : List Addr), H3 a = ξ (.frz od (.lst (fs.map V.ref))) → LamsF X H3 ts fs → fs.Nodup → @SS _ (Past.and ‹Past› r3 H3) X Z fin (dF (eG i a L)))
  (hd : ∀ (a : Addr) (env : Env) (m : M), i < env.length → LeS (dF L (env.set i ζ) m) (dF (eG i a L) (env.set i (ξ (.ob a))) m)) : PS X fin (tL X Z i ts (vT i (dF L))) := by
 refine ⟨fun pins s σ H D I ⟨r, m, env, σ0, H0, G, er, h⟩ => ?_⟩
 obtain ⟨S, l, a, fs, ha0, na, eσ, hH, hF, nd, hil⟩ := G
 obtain ⟨od, I2⟩ := I.lock hH trivial
 have l2 := l.hid (u := .frz od (.lst (fs.map V.ref))) ha0 hH
 refine (hfin r _ a od fs upd_same (hF.later (fQ (K := X.K) hH)) nd).run pins s σ _ D I2 ⟨r, m, env.set i (ξ (.ob a)), (S.hid na hH).and .refl, ?_, ?_⟩
 ·rw [eσ]
  exact (er.mono l2).set (w := .ob a) (v := .ref a) rfl i
 ·exact A8 ((hd a env m (by rw [er.1]; exact hil)).post (PostS.base h l2))
theorem Hf {fin : Stmt} {d2 : DS} (h1 : PS X fin (tL X Z i ts d)) (h2 : rK X Z rest d2) : PSs X (fin :: rest) (tL X Z i ts (cb d d2)) := PSs.imp (pss_cons h1 h2) fun D σ H ⟨r, m, env, σ0, H0, G, er, h⟩ => by
 refine ⟨r, m, env, σ0, H0, G, er, ?_⟩
 unfold cb at h
 cases hx : d env m with
 | none => rw [hx] at h; exact h
 | some y =>
  rw [hx] at h
  cases y with
  | exc C dd en m1 => exact h
  | fl f en m1 =>
   cases f with
   | next => exact fun r1 H1 σ1 l1 s1 e1 => ⟨r1, m1, en, s1, e1, PostS.base h l1⟩
   | brk => exact h
   | cont => exact h
   | ret w => exact h
theorem zb {fin : Stmt} (h1 : PS X fin (tL X Z i ts d)) : PSs X [fin] (tL X Z i ts d) := pss_one h1
end
end SB
end
section
namespace SB
open PySem PySem.Spec L2
open PyProof.Rows hiding St
section
variable {X: Cx}{e tg iter: Expr}{ifs: List Expr}{us: List Nat}
theorem BW {pins : List (Addr × Obj)} {s : Shared} {σ : St} {H : Hp} {Q : VK} {rest : List Comprehension} {scope : Scope} {own : List (Str × Nat)} {pos' : Pos} {wi : TI} {use : Option (Value → Sem Unit)} {Qf : Value → Shared → Prop} {newAcc : Sem Value} {ob : Obj} {u0 : Addr → HO} {actF : Addr → PySem.Env → ActT} {innerF : Addr → TN}
  (hc : X.calm = true) (hN : X.N.Nodup) (hcm : IsCmp e (⟨tg, iter, ifs, 0⟩ :: rest)) (I : Inv X pins σ H s) (hi : PI X tg iter wi) (ok : BlkOk X.N X.env.scope scope own)
  (hnew : ∀ (A : Around) (Q : Value → Shared → Prop) (E : Value → Shared → Prop) (s : Shared), Q (.ref s.heap.objs.size) { s with heap := s.heap.push ob } → wpAny (model X.prog X.w) A newAcc Q E s)
  (hob : ∀ (H : Hp) (h : Heap), sysModules < h.objs.size → ObjOk X.prog X.w H (h.push ob) h.objs.size (u0 h.objs.size))
  (hg : ∀ (s : Shared) (H : Hp) (C : Addr) (cl : List (Str × Addr)) (fp : List Addr), PG (X.blk s H scope (compEnvC scope cl C X.env) fp) tg g) (ht : ∀ (s : Shared) (H : Hp) (C : Addr) (cl : List (Str × Addr)) (fp : List Addr), PTs (X.blk s H scope (compEnvC scope cl C X.env) fp) ifs tt)
  (hT : ∀ (D C : Addr) (cl : List (Str × Addr)), Ad X.prog X.w X.A e 0 tg ifs (.ref D) (compEnvC scope cl C X.env) (actF D (compEnvC scope cl C X.env)))
  (ha : ∀ (D : Addr) (s1 : Shared) (H1 : Hp) (C : Addr) (cl : List (Str × Addr)) (fp : List Addr), (∀ {p2 : List (Addr × Obj)} {σ2 : St} {H2 : Hp} {s2 : Shared}, Inv (X.blk s1 H1 scope (compEnvC scope cl C X.env) fp) p2 σ2 H2 s2 → Inv X pins σ H2 s2) → PAct (X.blk s1 H1 scope (compEnvC scope cl C X.env) fp) (actF D (compEnvC scope cl C X.env)) us (innerF D)) (hus : ∀ i ∈ us, i ∈ own.map (·.2)) (hs : ∀ x, foldedSetIterable iter X.env x = pure x)
  (h : wi σ H fun J H1 => ∀ D, H1 D = ζ → wB J g tt (own.map (·.2)) (innerF D) σ (upd H1 D (u0 D)) fun H' => Q (.ref D) H')
  (hRR : ∀ D C s' m H', Inv X pins σ H' s' → Q (.ref D) H' → s'.heap.Ns C m → FpOk X pins H' C → compPost (model X.prog X.w) X.A X.xe use Qf (.ref D) C (.ok .next) s') :
  wpAny (model X.prog X.w) X.A (comprehension e scope X.env pos' newAcc false (eval iter X.env) use) Qf X.xe s := by
 have hfree : ∀ y ∈ scope.names, y.2 = .free → ∃ c, X.env.cells.lookup y.1 = ξ c := fun y hy z => by
  rcases ok.free y hy z with k | k
  ·exact I.ok.has _ (.inl k)
  ·exact I.ok.has _ (.inr k)
 have hcl : clausesOf e = ⟨tg, iter, ifs, 0⟩ :: rest := by cases hcm <;> rfl
 refine wpAny_comprehension_free (use := use) hcl hs (closure_ok hfree) ok.kind (fun y hy z => by rw [ok.uniq y hy, z])
  (wpAny_mono (hi.run pins s σ H _ I h) (fun xv s1 hx => wpAny_mono hx (fun itv s2 h2 => ?_) fun _ _ z => z) fun _ _ z => z)
 obtain ⟨it, fp, tn, J, H2, rfl, I2, T, st2, f2, q⟩ := h2
 refine hnew _ _ _ s2 (newEnv_comp ?_)
 generalize hD : s2.heap.objs.size = D
 have hDn : H2 D = ζ := I2.hok.fresh (Nat.le_of_eq hD)
 have lp := q D hDn
 generalize hs3 : ({ s2 with heap := s2.heap.push ob } : Shared) = s3
 have h3 : s3.heap = s2.heap.push ob := by rw [← hs3]
 have I3 : Inv X pins σ (upd H2 D (u0 D)) s3 := by
  rw [← hs3]
  refine I2.laid (t' := s2.toks) (fun b o z => Heap.get?_push_of_some _ z) (Nat.le_of_eq hD) ?_
  rw [← hD]
  exact hob _ s2.heap I2.big
 have f3 : ∀ b ∈ fp, FpOk X pins (upd H2 D (u0 D)) b ∧ b < s3.heap.objs.size := fun b hb => by
  have hlt : b < s2.heap.objs.size := by
   obtain ⟨o, z, _⟩ := T.obj _ _ st2 b hb
   exact Heap.lt_size z
  refine ⟨⟨?_, (f2 b hb).2⟩, by rw [h3, Heap.size_push]; exact Nat.lt_succ_of_lt hlt⟩
  rw [upd_ne (by rw [← hD]; exact Nat.ne_of_lt hlt)]
  exact (f2 b hb).1
 have st3 : tn 0 s3.heap := T.keep _ _ _ st2 fun b _ o z => by rw [h3]; exact Heap.get?_push_of_some _ z
 have I4 := block_start I3 ok hN f3
 generalize hcc : cellsFrom (s3.heap.objs.size + 1) scope.names (cloFrom X.env.cells scope.names []) = cc at I4
 have pg := hg s3 (upd H2 D (u0 D)) s3.heap.objs.size cc fp
 have pt := ht s3 (upd H2 D (u0 D)) s3.heap.objs.size cc fp
 have pa := ha D s3 (upd H2 D (u0 D)) s3.heap.objs.size cc fp fun I6 => I3.call' (ch := fp) I6.os I6.base I6.hok I6.bare fun b hb => ⟨(f3 b hb).1.2.2.2.1, (f3 b hb).1.2.1, (f3 b hb).1.2.2.2.2.1, (f3 b hb).1.2.2.2.2.2⟩
 have hTT := hT D s3.heap.objs.size cc
 have hst : codeAny (model X.prog X.w) X.A (.compStart e 0 (.ref it) (.ref D) (compEnvC scope cc s3.heap.objs.size X.env)) (compPost (model X.prog X.w) X.A X.xe use Qf (.ref D) s3.heap.objs.size) { s3 with heap := pushCells (s3.heap.push { cls := .type "dict", data := .dict #[] }) scope.names } := by
  have nfp : ∀ b ∈ fp, (upd H2 D (u0 D)) b = ζ := fun b hb => (f3 b hb).1.1
  generalize hce : compEnvC scope cc s3.heap.objs.size X.env = ce at I4 pg pt pa hTT ⊢
  have cL : ce.locals = s3.heap.objs.size := by subst hce; rfl
  generalize hH3 : upd H2 D (u0 D) = H3 at I3 I4 pg pt pa nfp f3 lp
  generalize hs4 : ({ s3 with heap := pushCells (s3.heap.push { cls := .type "dict", data := .dict #[] }) scope.names } : Shared) = s4 at I4 ⊢
  have st4 : tn 0 s4.heap := T.keep _ _ _ st3 fun b _ o z => by rw [← hs4]; exact pushCells_keeps _ _ _ _ (Heap.get?_push_of_some _ z)
  have fb : ∀ b ∈ fp, FpOk (X.blk s3 H3 scope ce fp) [] H3 b := fun b hb =>
   ⟨nfp b hb, (I4.ok.exf b hb).1, I4.ok.exfs b hb, .inl hb, fun x c z => (I4.ok.exf b hb).2 x c z, fun p hp => absurd (show p ∈ ([] : List (Addr × Obj)) ++ [] from hp) (by simp)⟩
  have loop : codeAny (model X.prog X.w) X.A (.compLoop e 0 (.ref it) (.ref D) ce) (compPost (model X.prog X.w) X.A X.xe use Qf (.ref D) s3.heap.objs.size) s4 := by
   refine xg (X := X.blk s3 H3 scope ce fp) hcm hc (fun _ _ z => z) hTT pg pt pa hus I4 T st4 fb (yg lp) fun s6 σ6 H6 I6 _ qq => ?_
   have I7 : Inv X pins σ H6 s6 := I3.call' (ch := fp) I6.os I6.base I6.hok I6.bare fun b hb => ⟨(f3 b hb).1.2.2.2.1, (f3 b hb).1.2.1, (f3 b hb).1.2.2.2.2.1, (f3 b hb).1.2.2.2.2.2⟩
   have nC : H6 s3.heap.objs.size = ζ := by
    have z : H6 ce.locals = ζ := I6.free
    rw [cL] at z
    exact z
   obtain ⟨m, hn, _⟩ := I6.loc
   have hn : s6.heap.Ns ce.locals m := hn
   rw [cL] at hn
   exact hRR D s3.heap.objs.size s6 m H6 I7 qq hn (I3.fpOk (Nat.le_refl _) nC)
  exact AF hcm rfl loop (T.self X.A 0 _ _ _ st4 loop)
 exact hst
end
section
variable [Tabs][Past]
variable {X: Cx}{Z: WX}{pins: List (Addr × Obj)}{σ: L2.St}{H: Hp}{s: Shared}{m: M}{tg iter elt: Expr}{pos: Pos}
theorem Ms {Q : VK} {di : DI} {sl : List Nat} {g : DG} {de : DE} {scope : Scope} {own : List (Str × Nat)} (hc : X.calm = true) (hN : X.N.Nodup) (I : Inv X pins σ H s) (hi : SI X Z tg iter di) (ok : BlkOk X.N X.env.scope scope own)
  (hg : ∀ (s : Shared) (H : Hp) (C : Addr) (cl : List (Str × Addr)) (fp : List Addr), SG (X.blk s H scope (compEnvC scope cl C X.env) fp) tg sl g)
  (he : ∀ (s1 : Shared) (H1 : Hp) (C : Addr) (cl : List (Str × Addr)) (fp : List Addr), (∀ {p2 : List (Addr × Obj)} {σ2 : St} {H2 : Hp} {s2 : Shared}, Inv (X.blk s1 H1 scope (compEnvC scope cl C X.env) fp) p2 σ2 H2 s2 → Inv X pins σ H2 s2) → SE (X.blk s1 H1 scope (compEnvC scope cl C X.env) fp) Z0 elt de)
  (hsl : ∀ i ∈ sl, i ∈ own.map (·.2)) (hs : ∀ x, foldedSetIterable iter X.env x = pure x) (h : tE X.K Z (Gf di g lZ de (own.map (·.2))) σ H Q) :
  wpAny (model X.prog X.w) X.A (eval (.ListComp elt [⟨tg, iter, [], 0⟩] scope pos) X.env) (EP X pins σ Q) X.xe s := by
 rw [eval_ListComp]
 obtain ⟨ob, hn, hob⟩ := DZ (X := X)
 refine BW (Q := Q) (u0 := fun _ => .lst []) (actF := fun D env => JN X.prog X.w X.A elt (.ref D) env) (innerF := fun D => Ey D (tE X.K Z0 de)) (us := []) hc hN .lst I hi ok hn hob hg (fun s H C cl fp => ue) (fun D C cl => xH rfl rfl) (fun D s1 H1 C cl fp back => Bb (fun _ _ z => z) (he s1 H1 C cl fp back)) (fun i z => by cases z) hs (Ke hsl h) fun D C s' m H' I' q hn f => ⟨m, hn, fun h'' sb => ?_⟩
 obtain ⟨f0, f1, f2, f3, f4, f5⟩ := f
 exact ⟨.ref D, H', I'.turned (t' := s'.toks) (fun b o hb e => (sb.2 b hb).trans e) f0 f1 f3 f4 f5, rfl, q⟩
end
variable [Tabs]
section
inductive LamsB [Past] (X : Cx) (j : Nat) : List LTx → List DE → Prop where
 | nil : LamsB X j [] []
 | cons {params : Arguments} {body : Expr} {scope : Scope} {d : DE} {ts : List LTx} {ds : List DE} (hl : LamX.lamSB X.env.scope scope = true)
  (hbind : ∀ (q : Str) (cl : List (Str × Addr)) (pm cv ctv : Value), bindArgs (PySem.W.kla_fn "<lambda>" q params body scope cl pm cv ctv) ⟨[], []⟩ = pure [])
  (hbody : ∀ (f c' : Addr) (A : Around) (outer : List PySem.Env) (s : Shared) (H : Hp) (E : XK), Ctx (LamX.lamCx X A outer s H E scope f c') (zOf E) j → SE (LamX.lamCx X A outer s H E scope f c') (zOf E) body d)
  (h : LamsB X j ts ds) : LamsB X j ((params, body, scope) :: ts) (d :: ds)
variable {p0: Past}[Past]{X: Cx}{Z: WX}{pins: List (Addr × Obj)}{σ: L2.St}{H: Hp}{s: Shared}{r: List Addr}{m: M}
theorem zK {j : Nat} {g : Addr} {E : DE} : ∀ {ts : List LTx} {fs : List Addr} {Es : List DE}, LamsF X H ts fs → @LamsB _ p0 X j ts Es → (fs.zip Es).lookup g = ξ E →
  ∃ (params : Arguments) (body : Expr) (scope : Scope), LamF X (params, body, scope) H g ∧ LamX.lamSB X.env.scope scope = true ∧
   (∀ (q : Str) (cl : List (Str × Addr)) (pm cv ctv : Value), bindArgs (PySem.W.kla_fn "<lambda>" q params body scope cl pm cv ctv) ⟨[], []⟩ = pure []) ∧
   ∀ (f c' : Addr) (A : Around) (outer : List PySem.Env) (s : Shared) (H : Hp) (E' : XK), Ctx (LamX.lamCx X A outer s H E' scope f c') (zOf E') j → @SE _ p0 (LamX.lamCx X A outer s H E' scope f c') (zOf E') body E
 | [], fs, Es, hF, hB, h => by
  cases hB
  cases hF
  cases h
 | _ :: _, fs, Es, ⟨f, rest, e, h1, h2⟩, hB, h => by
  cases hB
  rename_i hl hbind hbody hr
  subst e
  rw [List.zip_cons_cons, List.lookup_cons] at h
  by_cases hg : (g == f) = true
  ·rw [hg] at h
   cases h
   rw [beq_iff_eq.mp hg]
   exact ⟨_, _, _, h1, hl, hbind, hbody⟩
  ·simp only [Bool.not_eq_true] at hg
   rw [hg] at h
   exact zK h2 hr h
theorem Jz {s0 : Shared} {H0 : Hp} {bs : Scope} {ce : PySem.Env} {fp : List Addr} {params : Arguments} {body : Expr} {scope : Scope} {f : Addr} {env : Env} {d : DE} {j : Nat} {p1 : List (Addr × Obj)} {σ1 : L2.St} {H1 : Hp} {s1 : Shared}
  (back : ∀ {p2 : List (Addr × Obj)} {σ2 : L2.St} {H2 : Hp} {s2 : Shared}, Inv (X.blk s0 H0 bs ce fp) p2 σ2 H2 s2 → Inv X pins σ H2 s2) (I1 : Inv (X.blk s0 H0 bs ce fp) p1 σ1 H1 s1) (mem : (r, H) ∈ Past.P) (sub : ∀ p ∈ p0.P, p ∈ Past.P) (er : EnvR X.K r H env σ)
  (hF : LamF X (params, body, scope) H f) (hl : LamX.lamSB X.env.scope scope = true)
  (hbind : ∀ (q : Str) (cl : List (Str × Addr)) (pm cv ctv : Value), bindArgs (PySem.W.kla_fn "<lambda>" q params body scope cl pm cv ctv) ⟨[], []⟩ = pure [])
  (hbody : ∀ (f c' : Addr) (A : Around) (outer : List PySem.Env) (s : Shared) (H : Hp) (E : XK), Ctx (LamX.lamCx X A outer s H E scope f c') (zOf E) j → @SE _ p0 (LamX.lamCx X A outer s H E scope f c') (zOf E) body d) (nd : X.N.Nodup) :
  Np X.prog X.w X.K X.mg X.base (j + 1) X.A (X.blk s0 H0 bs ce fp).stack s1 H1 f (fun m => d env m) := by
 have L := LamX.lamS_by hl
 intro N q sc g cd i a E W pn xe q1 q2 hN hv hd hcd hr tk
 refine ⟨fun pinsZ sZ σZ HZ Q IZ h => ?_⟩
 obtain ⟨rZ, mZ, envZ, SZ, eZ, hp⟩ := h
 have lp : Lp X.K r H rZ HZ := SZ.past _ mem
 unfold kX at hp
 split at hp
 case h_2 => exact hp.elim
 rename_i g' hg
 split at hp
 case isFalse => exact hp.elim
 rename_i hgf
 subst hgf
 obtain ⟨v0, hσ, rv0⟩ := eZ.2 i _ hg
 cases (show v0 = V.ref _ from rv0)
 refine wpAny_Call_Name_kw (thn ((pe_var (pos := q1) (i := i) hN hv hd hcd).run pinsZ sZ σZ HZ (fun v H1 => v = .ref g' ∧ H1 = HZ) IZ ⟨.ref g', hσ, rfl, rfl⟩) fun u s2 ⟨v, H2, I2, r2, q2⟩ => ?_)
 obtain ⟨rfl, rfl⟩ := q2
 obtain rfl : u = Value.ref g' := r2
 obtain ⟨c', pm, ct, hf, hco⟩ := hF.later lp.lat
 have of2 : s2.heap.get? g' = ξ (Bk X params body scope c' pm ct) := (I2.hok g' _ hf).1
 refine PySem.W.callWith_F0 ⟨_, _, _, _, of2⟩ ?_
 obtain ⟨⟨oc, vs, t, hoc, hdc, hvc⟩, _, _⟩ := I2.hok c' _ hco
 have I0 : Inv X pins σ H2 s2 := back (I1.call' (ch := []) I2.os I2.base I2.hok I2.bare fun b hb => by cases hb)
 have rc : codeAny (model X.prog X.w) (X.A.deeper (envOfC q sc s1.heap.objs.size g cd)) (.call (.ref g') ⟨[], []⟩) (CR (L2.CX X.prog X.w) (envOfC q sc s1.heap.objs.size g cd :: (X.blk s0 H0 bs ce fp).stack) X.prog X.w H2 s2 Q (WE W σZ)) s2 := by
  refine PySem.W.kla_callFunE hr.rm.depth of2 rfl L.co L.gen rfl ⟨c', oc, vs, t, rfl, hoc, hdc, hvc⟩ ?_
  rw [hbind]
  refine wpAny_pure (wpAny_newFunctionEnv (fun y hy => (L.own y hy).2) (fun y hy => absurd hy (by simp)) (fun h₁ hns hsb => ⟨I2.nolimit.fresh _ hsb, ?_⟩) L.kind)
  show codeAny _ _ (.expr body (LamX.lamEnv X scope s2.heap.objs.size g' c')) _ _
  have J := LamX.lam_start2 (X := X) (pins := pins) (scope := scope) (f := g') (c' := c') (h₁ := h₁) (E := WE W σZ) (A := X.A.deeper (envOfC q sc s1.heap.objs.size g cd)) (outer := envOfC q sc s1.heap.objs.size g cd :: (X.blk s0 H0 bs ce fp).stack) (tk := s2.toks + ([] : List (Str × Value)).length) I0 L I2.env0 hr.rm.hd (Un.kept fun b o e => e) hns
   fun b o e => hsb.extBut b o (Nat.ne_of_lt (Heap.lt_size e)) (Heap.get?_push_of_some _ e)
  have rg : RoomG j ((X.A.deeper (envOfC q sc s1.heap.objs.size g cd)).deeper (LamX.lamEnv X scope s2.heap.objs.size g' c')) := hr.deeper _
  have b1 := hbody g' c' (X.A.deeper (envOfC q sc s1.heap.objs.size g cd)) (envOfC q sc s1.heap.objs.size g cd :: (X.blk s0 H0 bs ce fp).stack) s2 H2 (WE W σZ) ⟨rfl, nd, takes_of rfl rfl rfl rfl, passes_of rfl, rg.rm, rg.gd⟩
  refine PySem.W.kla_codeExpr (wpAny_mono (b1.run [] _ _ H2 Q J ⟨rZ, mZ, env, Lr sub SZ, er.le lp.le, HK SZ hp⟩) (fun v s' hq => ?_) fun e s' hq => hq)
  obtain ⟨w', H', J', rv, q'⟩ := hq
  exact ⟨w', H', J'.os, J'.bare, J'.base, J'.hok, rv, q'⟩
 refine wpAny_call (codeAny_mono rc fun z s' hq => ?_)
 cases z with
 | error e => exact passAt tk σZ pinsZ H2 s2 e s' I2 hq
 | ok fl =>
  cases fl <;> first | exact I2.after hq | exact False.elim hq
def rj (F : Addr → (M → Option (R W)) → M → Option (R W)) (iy : Nat) (env0 : Env) (tbl : List (Addr × DE)) : DE := fun env m => match env[iy]? with
 | some (ξ (.ob g)) => (match tbl.lookup g with
  | some E => F 0 (fun m1 => E env0 m1) m
  | none => ζ)
 | _ => ζ
theorem Hr {s0 : Shared} {H0 : Hp} {bs : Scope} {ce : PySem.Env} {fp : List Addr} {x y : Str} {iy : Nat} {g : Addr} {F : Addr → (M → Option (R W)) → M → Option (R W)} {env : Env} {j k n : Nat} {ts : List LTx} {fs : List Addr} {Es : List DE} {p py pos : Pos}
  (C : Ctx (X.blk s0 H0 bs ce fp) Z n) (G : FW X.prog X.w X.K X.mg X.base (j + 1) k g F) (hF : ∀ f D m, F f D m = F 0 D m) (hm : X.mg x = ξ (.ref g))
  (back : ∀ {p2 : List (Addr × Obj)} {σ2 : L2.St} {H2 : Hp} {s2 : Shared}, Inv (X.blk s0 H0 bs ce fp) p2 σ2 H2 s2 → Inv X pins σ H2 s2) (mem : (r, H) ∈ Past.P) (sub : ∀ p ∈ p0.P, p ∈ Past.P) (er : EnvR X.K r H env σ) (hFs : LamsF X H ts fs) (hB : @LamsB _ p0 X j ts Es) (nd : X.N.Nodup)
  (hg : Gl (X.blk s0 H0 bs ce fp) x) (hk : k ≤ n) (hdb : (x == ("__debug__" : Str)) = false) (hy : (X.blk s0 H0 bs ce fp).N[iy]? = ξ y) (hv : Vis (X.blk s0 H0 bs ce fp).env.scope y) (hdy : (y == ("__debug__" : Str)) = false) (hcy : (y == ("__classdict__" : Str)) = false) :
  SE (X.blk s0 H0 bs ce fp) Z (.Call (.Name x p) [.Name y py] [] pos) (rj F iy env (fs.zip Es)) := by
 refine ⟨fun pins1 s1 σ1 H1 Q I1 h => ?_⟩
 obtain ⟨r1, m1, env1, S1, er1, h⟩ := h
 unfold rj at h
 split at h
 case h_2 => exact h.elim
 rename_i g' hg'
 split at h
 case h_2 => exact h.elim
 rename_i E hE
 obtain ⟨v0, hσ, rv0⟩ := er1.2 iy _ hg'
 cases (show v0 = V.ref _ from rv0)
 obtain ⟨params, body, scope, f1, f2, f3, f4⟩ := zK hFs hB hE
 refine wpAny_Call_Name_kw (ld_glob I1 hg hm ?_ hdb)
 refine PySem.W.callWith_K (h₀ := X.base) I1.ok.mod.kin G.1 (thn ((pa_cons (pe_var (pos := py) (i := iy) hy hv hdy hcy) (pa_nil (X := X.blk s0 H0 bs ce fp)) (by rfl)).run pos pins1 s1 σ1 H1 (fun vs H2 => vs = [.ref g'] ∧ H2 = H1) I1 ⟨.ref g', hσ, rfl, rfl⟩) fun us s2 ⟨vs, H2, I2, rv, ev, eH⟩ => ⟨I2.kIn, ?_⟩) (by rfl) (by rfl)
 subst ev
 subst eH
 obtain ⟨u, rfl, ru⟩ := rv.one
 obtain rfl : u = Value.ref g' := ru
 have dd := Jz back I2 mem sub er f1 f2 f3 f4 nd
 have h1 : Post X.K (d8 X.K) r1 H2 (F g' (fun m => E env m) m1) Q (WE Z σ1) := by
  rw [hF]
  exact h
 have rc := G.2 ‹Past› X.A (X.blk s0 H0 bs ce fp).stack s2 H2 g' (fun m => E env m) Q (WE Z σ1) r1 m1 (C.rg hk) I2.env0 dd S1 h1
 refine wpAny_call (codeAny_mono rc fun z s' hq => ?_)
 cases z with
 | error e => exact passAt C.tk σ1 pins1 H2 s2 e s' I2 hq
 | ok fl => cases fl <;> first | exact I2.after hq | exact False.elim hq
end
def nxV : Option (R W) → Option (R W)
 | some (.ok w m1) => ξ (.ok w m1)
 | _ => ζ
def Ge (d : DE) : DE := fun env m => nxV (d env m)
def oR : List DE → DA
 | [] => aJ
 | d :: ds => aq d (oR ds)
def yI (B : DE → DE) (F : Addr → (M → Option (R W)) → M → Option (R W)) (Es : List DE) : DA := oR (Es.map fun E => B (lH F E))
def IY (i : Nat) (a : Addr) (fs : List Addr) : DI := fun env m => match env[i]? with
 | some (ξ (.ob g)) => if g = a then ξ (.ok ⟨fs.map W.ob, fun _ => true⟩ m) else ζ
 | _ => ζ
section
variable {p0: Past}[Past]{X: Cx}{Z: WX}{pins: List (Addr × Obj)}{σ: L2.St}{H H3: Hp}{s: Shared}{r r3: List Addr}{m: M}{i iy j k n: Nat}{x y fn: Str}{a g: Addr}{od: Obj}{fs: List Addr}{px py py2 p pos lpos: Pos}{tg elt: Expr}
theorem zf {K : PySem.W.Frag} : ∀ {fs : List Addr}, RWs K r H (fs.map W.ob) (fs.map V.ref)
 | [] => rfl
 | f :: _ => ⟨.ref f, _, rfl, rfl, zf⟩
theorem Lw (mem : (r3, H3) ∈ Past.P) (hH : H3 a = ξ (.frz od (.lst (fs.map V.ref)))) (hi : X.N[i]? = ξ x) (hv : Vis X.env.scope x) (hdb : (x == ("__debug__" : Str)) = false) (hcd : (x == ("__classdict__" : Str)) = false) :
  SI X Z tg (.Name x px) (IY i a fs) := PI.imp (pi_list (pe_var hi hv hdb hcd)) fun σ H R ⟨r, m, env, s, e, h⟩ => by
 have hg : env[i]? = ξ (ξ (.ob a)) := by
  generalize hy : IY i a fs env m = y at h
  unfold IY at hy
  split at hy
  ·rename_i g hg
   split at hy
   ·rename_i hga
    rw [hg, hga]
   ·subst hy
    exact h.elim
  ·subst hy
   exact h.elim
 have hd : IY i a fs env m = ξ (.ok ⟨fs.map W.ob, fun _ => true⟩ m) := by
  unfold IY
  simp only [hg, if_true]
 rw [hd] at h
 obtain ⟨v, hσ, rv⟩ := e.2 i _ hg
 cases (show v = V.ref _ from rv)
 have hH' := (s.past _ mem).lat.lk _ _ _ hH
 refine ⟨_, hσ, a, rfl, ⟨_, .inl (.inr ⟨od, hH'⟩)⟩, h r H _ .refl s ?_⟩
 intro i' r' m' H' l s' hc
 have hs : SqL X.K H' a (fs.map V.ref) := .inl (.inr ⟨od, l.lat.lk _ _ _ hH'⟩)
 have rs : RWs X.K r' H' (fs.map W.ob) (fs.map V.ref) := zf
 refine ⟨fun hi => ⟨_, hs, by rw [← rs.len]; exact hi⟩, fun w' hw => ?_⟩
 obtain ⟨v, hv, rv⟩ := rs.get hw
 refine ⟨⟨_, v, hs, hv⟩, fun x H2 ⟨e2, f⟩ => ?_⟩
 subst e2
 have e3 := f _ hs
 rw [hv] at e3
 cases e3
 exact ⟨.refl, s', rv⟩
theorem Kn {F : Addr → (M → Option (R W)) → M → Option (R W)} {B : DE → DE} {h : DE} {env0 envi : Env} (hB : ∀ (h' : DE) (f : Addr), (∀ m, h (envi.set iy (ξ (.ob f))) m = h' env0 m) → ∀ m, B h (envi.set iy (ξ (.ob f))) m = B h' env0 m) :
    ∀ (fs : List Addr) (Es : List DE), fs.length = Es.length → (∀ (n : Nat) (f : Addr) (E : DE), fs[n]? = ξ f → Es[n]? = ξ E → ∀ m, h (envi.set iy (ξ (.ob f))) m = lH F E env0 m) → ∀ (m m1 : M) (ws : List W), oR (Es.map fun E => B (lH F E)) env0 m = ξ (.ok ws m1) →
      eY (fun _ => true) (cg iy) lZ (B h) (envi.set iy ζ) (fs.map W.ob) m = ξ (ws, m1)
  | [], [], _, _, m, m1, ws, e => by
    cases e
    rfl
  | f :: fs, E :: Es, hl, hh, m, m1, ws, e => by
    have e0 : B h (envi.set iy (ξ (.ob f))) m = B (lH F E) env0 m := hB (lH F E) f (hh 0 f E rfl rfl) m
    have e : aq (B (lH F E)) (oR (Es.map fun E => B (lH F E))) env0 m = ξ (.ok ws m1) := e
    rw [fV] at e
    show eY _ _ _ _ _ (W.ob f :: fs.map W.ob) m = _
    unfold eY
    simp only [if_true, cg, lZ, List.set_set, e0]
    cases hx : B (lH F E) env0 m with
    | none => rw [hx] at e; cases e
    | some z =>
      cases z with
      | exc C d m2 => rw [hx] at e; cases e
      | ok w m2 =>
        rw [hx] at e
        simp only [dZ] at e
        cases hy : oR (Es.map fun E => B (lH F E)) env0 m2 with
        | none => rw [hy] at e; cases e
        | some z =>
          cases z with
          | exc C d m2 => rw [hy] at e; cases e
          | ok ws2 m3 =>
            rw [hy] at e
            simp only [dZ] at e
            cases e
            have := Kn hB fs Es (by simpa using hl) (fun n f' E' a1 a2 => hh (n + 1) f' E' a1 a2) m2 m1 ws2 hy
            simp only [this]
  | [], _ :: _, hl, _, _, _, _, _ => by cases hl
  | _ :: _, [], hl, _, _, _, _, _ => by cases hl
theorem qK {f : Addr} {E : DE} : ∀ {fs : List Addr} {Es : List DE} (n : Nat), fs.Nodup → fs[n]? = ξ f → Es[n]? = ξ E → (fs.zip Es).lookup f = ξ E
 | [], _, n, _, h, _ => by cases n <;> cases h
 | _ :: _, [], n, _, _, h => by cases n <;> cases h
 | f1 :: fs, E1 :: Es, 0, _, h1, h2 => by
  cases h1
  cases h2
  rw [List.zip_cons_cons, List.lookup_cons_self]
 | f1 :: fs, E1 :: Es, n + 1, nd, h1, h2 => by
  have ne : (f == f1) = false := by
   rw [beq_eq_false_iff_ne]
   rintro rfl
   exact (List.nodup_cons.mp nd).1 (List.mem_of_getElem? h1)
  rw [List.zip_cons_cons, List.lookup_cons, ne]
  exact qK n (List.nodup_cons.mp nd).2 h1 h2
theorem C4 {F : Addr → (M → Option (R W)) → M → Option (R W)} {B : DE → DE} {ts : List LTx} {Es : List DE} {scope : Scope} (mem3 : (r3, H3) ∈ Past.P) (sub : ∀ p ∈ p0.P, p ∈ Past.P) (hH : H3 a = ξ (.frz od (.lst (fs.map V.ref)))) (hFs : LamsF X H3 ts fs) (nd : fs.Nodup) (hz : ts.length ≤ sizeLine) (hlen : ts.length = Es.length)
    (hBs : @LamsB _ p0 X j ts Es) (C : Ctx X Z n) (G : FW X.prog X.w X.K X.mg X.base (j + 1) k g F) (hF : ∀ f D m, F f D m = F 0 D m) (hm : X.mg fn = ξ (.ref g))
    (helt : ∀ (pa : Past) (s : Shared) (H : Hp) (C : Addr) (cl : List (Str × Addr)) (fp : List Addr) (h : DE), @SE _ pa (X.blk s H scope (compEnvC scope cl C X.env) fp) Z0 (.Call (.Name fn p) [.Name y py] [] pos) h → @SE _ pa (X.blk s H scope (compEnvC scope cl C X.env) fp) Z0 elt (B h))
    (hB : ∀ (h h' : DE) (env : Env) (w w' : W) (m : M), (∀ m, h ((env.set i (ξ w')).set iy (ξ w)) m = h' (env.set i ζ) m) → B h ((env.set i (ξ w')).set iy (ξ w)) m = B h' (env.set i ζ) m)
    (ok : BlkOk X.N X.env.scope scope [(y, iy)]) (hi : X.N[i]? = ξ x) (hv : Vis X.env.scope x) (hdb : (x == ("__debug__" : Str)) = false) (hcd : (x == ("__classdict__" : Str)) = false)
    (hiy : X.N[iy]? = ξ y) (hdy : (y == ("__debug__" : Str)) = false) (hcy : (y == ("__classdict__" : Str)) = false) (hdf : (fn == ("__debug__" : Str)) = false) (hk : k ≤ n)
    (hg : ∀ (s : Shared) (H : Hp) (C : Addr) (cl : List (Str × Addr)) (fp : List Addr), Gl (X.blk s H scope (compEnvC scope cl C X.env) fp) fn)
    (hvy : ∀ (s : Shared) (H : Hp) (C : Addr) (cl : List (Str × Addr)) (fp : List Addr), Vis (X.blk s H scope (compEnvC scope cl C X.env) fp).env.scope y)
    (hgn : ∀ (pa : Past) (s : Shared) (H : Hp) (C : Addr) (cl : List (Str × Addr)) (fp : List Addr), @SG _ pa (X.blk s H scope (compEnvC scope cl C X.env) fp) (.Name y py2) [iy] (cg iy))
    (hs : ∀ v : Value, foldedSetIterable (.Name x px) X.env v = pure v) (hne : iy ≠ i) :
    SE X Z (.ListComp elt [⟨.Name y py2, .Name x px, [], 0⟩] scope lpos) (eG i a (Ge (dM (oR (Es.map fun E => B (lH F E)))))) := by
  refine ⟨fun pins s σ H Q I ⟨r, m, env, S, er, h⟩ => ?_⟩
  unfold eG at h
  split at h
  case h_2 => exact h.elim
  rename_i a' ha'
  split at h
  case isFalse => exact h.elim
  rename_i haa
  subst haa
  -- without exceptions
  unfold Ge at h
  generalize hd : dM (oR (Es.map fun E => B (lH F E))) (env.set i ζ) m = y1 at h
  have e1 : env.set i (ξ (.ob a')) = env := by
    apply List.ext_getElem?
    intro q
    rw [List.getElem?_set]
    by_cases hq : i = q
    · subst hq
      rw [if_pos rfl, ha']
      have : i < env.length := (List.getElem?_eq_some_iff.mp ha').1
      rw [if_pos this]
    · rw [if_neg hq]
  have hle : Kz (env.set i ζ) env := by
    have := lD (i := i) (env := env) (w := .ob a')
    rw [e1] at this
    exact this
  have lp := S.past _ mem3
  have hF' := hFs.later lp.lat
  have hiyl : iy < env.length := by
    rw [er.1, I.len]
    exact (List.getElem?_eq_some_iff.mp hiy).1
  have hfl : fs.length = Es.length := hFs.len.trans hlen
  -- the same list, by the comprehension
  have hlc : @tE _ (Past.and ‹Past› r H) X.K Z (Gf (IY i a' fs) (cg iy) lZ (B (rj F iy (env.set i ζ) (fs.zip Es))) ([(y, iy)].map (·.2))) σ H Q := by
    refine ⟨r, m, env, S.and .refl, er, ?_⟩
    have hL : Gf (IY i a' fs) (cg iy) lZ (B (rj F iy (env.set i ζ) (fs.zip Es))) ([(y, iy)].map (·.2)) env m = nxV y1 ∨ nxV y1 = ζ := by
      cases y1 with
      | none => exact .inr rfl
      | some y1 =>
        cases y1 with
        | exc C d m1 => exact .inr rfl
        | ok w m1 =>
          left
          unfold dM at hd
          cases hx : oR (Es.map fun E => B (lH F E)) (env.set i ζ) m with
          | none => rw [hx] at hd; cases hd
          | some z =>
            cases z with
            | exc C d m2 => rw [hx] at hd; cases hd
            | ok ws m2 =>
              rw [hx] at hd
              simp only [dZ] at hd
              split at hd
              case isFalse => cases hd
              cases hd
              have run := Kn (F := F) (B := B) (h := rj F iy (env.set i ζ) (fs.zip Es)) (env0 := env.set i ζ) (envi := env) (iy := iy) (fun h' f q m => by
                have := hB (rj F iy (env.set i ζ) (fs.zip Es)) h' env (.ob f) (.ob a') m (fun m => by rw [e1]; exact q m)
                rw [e1] at this
                exact this) fs Es hfl (fun n f E q1 q2 m => by
                unfold rj lH
                rw [List.getElem?_set_self hiyl]
                simp only [qK n nd q1 q2]) m m2 ws hx
              have hd0 : IY i a' fs env m = ξ (.ok ⟨fs.map W.ob, fun _ => true⟩ m) := by
                unfold IY
                simp only [ha', if_true]
              unfold Gf
              rw [hd0]
              simp only [dZ, List.length_map]
              have hz' : fs.length ≤ sizeLine := by rw [hFs.len]; exact hz
              rw [if_pos hz']
              have hw : fu env ([(y, iy)].map (·.2)) = env.set iy ζ := rfl
              rw [hw, run]
              rfl
    rcases hL with hL | hL
    · rw [hL]
      exact Dz h
    · rw [hL] at h
      exact h.elim
  refine @Ms _ (Past.and ‹Past› r H) X Z pins σ H s _ _ _ lpos Q _ _ _ _ _ _ C.calm C.nd I (@Lw _ (Past.and ‹Past› r H) X Z _ _ _ _ _ _ _ _ _ (.tail _ mem3) hH hi hv hdb hcd) ok (fun s H C cl fp => hgn _ s H C cl fp) (fun s1 H1 C1 cl fp back => ?_) (fun i z => z) hs hlc
  exact helt _ s1 H1 C1 cl fp _ (@Hr _ p0 (Past.and ‹Past› r H) X Z0 pins σ H r _ _ _ _ _ _ _ _ _ _ _ _ _ _ _ _ _ _ _ _ C.blk G hF hm back (.head _) (fun p hp => .tail _ (sub p hp)) (er.weak hle) hF' hBs C.nd (hg s1 H1 C1 cl fp) hk hdf hiy (hvy s1 H1 C1 cl fp) hdy hcy)
end
theorem mD {i j : Nat} {env : Env} {x : Option W} {m : M} (h : i ≠ j) : ax j (env.set i x) m = ax j env m := by
 unfold ax
 rw [List.getElem?_set_ne h]
section
variable [Past]{X: Cx}{Z: WX}{P c: Addr}{params: Arguments}{body: Expr}{scope: Scope}{i k: Nat}{x: Str}{px p0 lpos pos apos cpos: Pos}{rest: List Stmt}{d: DS}{ts: List LTx}
theorem xV (la : LamAt X.K X.base X.mg c P (X.env.qual ++ "<lambda>")) (hcode : X.env.code = .ref c) (hl : LamX.lamSB X.env.scope scope = true) (C : Ctx X Z k) (hr : PSs X rest (tL X Z i [(params, body, scope)] d))
  (hi : X.N[i]? = ξ x := by rfl) (hx : Loc X.env.scope x := by first | exact Or.inl rfl | exact Or.inr rfl) (hdef : defaultsOf params X.env = ([], []) := by rfl)
  (hs : swapsWith (.List [.Lambda params body scope pos] lpos) (ξ (.Name x px)) p0.line X.env = pure false := by rfl)
  (hf : X.fn x = true ∨ X.env.scope.names.lookup x = ξ .local := by first | exact .inl rfl | exact .inr rfl | assumption) (hst : starEach [.Lambda params body scope pos] X.env = [(false, eval (.Lambda params body scope pos) X.env)] := by rfl) :
  rK X Z (.Assign [.Name x px] (.List [.Lambda params body scope pos] lpos) p0 :: rest) d := Hh (t := (params, body, scope)) la C hr hcode hl hi hx hdef hs hf hst
theorem dh (la : LamAt X.K X.base X.mg c P (X.env.qual ++ "<lambda>")) (hcode : X.env.code = .ref c) (hl : LamX.lamSB X.env.scope scope = true) (C : Ctx X Z k) (hr : PSs X rest (tL X Z i (ts ++ [(params, body, scope)]) d))
  (hts : Nat.blt ts.length 1000 = true := by rfl) (hi : X.N[i]? = ξ x := by rfl) (hv : Vis X.env.scope x := by first | exact Or.inl rfl | exact Or.inr (Or.inl rfl) | exact Or.inr (Or.inr rfl)) (hdef : defaultsOf params X.env = ([], []) := by rfl)
  (hdb : (x == ("__debug__" : Str)) = false := by decide) (hcd : (x == ("__classdict__" : Str)) = false := by decide)
  (hbase : attributeBase (.Name x px) "append" X.env (eval (.Name x px) X.env) = eval (.Name x px) X.env := by rfl)
  (hfew : ((backTo cpos (starEach [.Lambda params body scope pos] X.env)).all (fun x => !x.1) && (backToKw cpos (keywordEach [] X.env)).all (fun x => x.1.isSome)
   && decide (([.Lambda params body scope pos] : List Expr).length + ([] : List Keyword).length + (if ([] : List Keyword).isEmpty then 0 else 1) < 30)) = true := by rfl)
  (hline : (apos.endLine == cpos.line) = true := by rfl) (hst : starEach [.Lambda params body scope pos] X.env = [(false, eval (.Lambda params body scope pos) X.env)] := by rfl)
  (hs : swapsWith (.Call (.Attribute (.Name x px) "append" apos) [.Lambda params body scope pos] [] cpos) ζ p0.line X.env = pure false := by rfl) :
  PSs X (.Expr (.Call (.Attribute (.Name x px) "append" apos) [.Lambda params body scope pos] [] cpos) p0 :: rest) (tL X Z i ts d) := Hg (t := (params, body, scope)) la C hr hcode hl (Nat.blt_eq.mp hts) hi hv hdef hdb hcd hbase hfew hline hst hs
end
section
variable [Past]{X: Cx}{Z: WX}{i iy j k n: Nat}{x y fn: Str}{g: Addr}{px py py2 p pos lpos cpos fpos upos spos: Pos}{elt: Expr}{F: Addr → (M → Option (R W)) → M → Option (R W)}{B: DE → DE}{ts: List LTx}{Es: List DE}{scope: Scope}{sa sb: List Stmt}{da db: DS}
variable (hBs: LamsB X j ts Es)(C: Ctx X Z n)(G: FW X.prog X.w X.K X.mg X.base (j + 1) k g F)(hF: ∀ f D m, F f D m = F 0 D m)(hm: X.mg fn = ξ (.ref g))(hma: X.mg "all" = ζ)(helt: ∀ (pa : Past) (s : Shared) (H : Hp) (C : Addr) (cl : List (Str × Addr)) (fp : List Addr) (h : DE), @SE _ pa (X.blk s H scope (compEnvC scope cl C X.env) fp) Z0 (.Call (.Name fn p) [.Name y py] [] pos) h → @SE _ pa (X.blk s H scope (compEnvC scope cl C X.env) fp) Z0 elt (B h))(hB: ∀ (h h' : DE) (env : Env) (w w' : W) (m : M), (∀ m, h ((env.set i (ξ w')).set iy (ξ w)) m = h' (env.set i ζ) m) → B h ((env.set i (ξ w')).set iy (ξ w)) m = B h' (env.set i ζ) m)(ok: BlkOk X.N X.env.scope scope [(y, iy)])(hg: ∀ (s : Shared) (H : Hp) (C : Addr) (cl : List (Str × Addr)) (fp : List Addr), Gl (X.blk s H scope (compEnvC scope cl C X.env) fp) fn)(hvy: ∀ (s : Shared) (H : Hp) (C : Addr) (cl : List (Str × Addr)) (fp : List Addr), Vis (X.blk s H scope (compEnvC scope cl C X.env) fp).env.scope y)(hgn: ∀ (pa : Past) (s : Shared) (H : Hp) (C : Addr) (cl : List (Str × Addr)) (fp : List Addr), @SG _ pa (X.blk s H scope (compEnvC scope cl C X.env) fp) (.Name y py2) [iy] (cg iy))
variable (ha: ∀ pa : Past, @rK _ pa X Z sa da)(hb: ∀ pa : Past, @rK _ pa X Z sb db)(la: ∀ (env : Env) (w : W) (m : M), LeS (da (env.set i ζ) m) (da (env.set i (ξ w)) m))(lb: ∀ (env : Env) (w : W) (m : M), LeS (db (env.set i ζ) m) (db (env.set i (ξ w)) m))
variable (hz : Nat.blt ts.length 1000 = true := by rfl)(hlen : ts.length = Es.length := by rfl)(hi : X.N[i]? = ξ x := by rfl)(hv : Vis X.env.scope x := by first | exact Or.inl rfl | exact Or.inr (Or.inl rfl) | exact Or.inr (Or.inr rfl))(hdb : (x == ("__debug__" : Str)) = false := by decide)(hcd : (x == ("__classdict__" : Str)) = false := by decide)(hiy : X.N[iy]? = ξ y := by rfl)(hdy : (y == ("__debug__" : Str)) = false := by decide)(hcy : (y == ("__classdict__" : Str)) = false := by decide)(hdf : (fn == ("__debug__" : Str)) = false := by decide)(hk : k ≤ n := by decide)(hga : Gl X "all" := by rfl)(hs : ∀ v : Value, foldedSetIterable (.Name x px) X.env v = pure v := by intro _; rfl)(hne : iy ≠ i := by decide)(he : starEach [.ListComp elt [⟨.Name y py2, .Name x px, [], 0⟩] scope lpos] X.env = [(false, eval (.ListComp elt [⟨.Name y py2, .Name x px, [], 0⟩] scope lpos) X.env)] := by rfl)
include hBs C G hF hm hma helt hB ok hg hvy hgn hz hlen hi hv hdb hcd hiy hdy hcy hdf hk hga hs hne he
theorem sG (r3 : List Addr) (H3 : Hp) (a : Addr) (od : Obj) (fs : List Addr) (h1 : H3 a = ξ (.frz od (.lst (fs.map V.ref)))) (h2 : LamsF X H3 ts fs) (h3 : fs.Nodup) :
  @SE _ (Past.and ‹Past› r3 H3) X Z (.Call (.Name "all" fpos) [.ListComp elt [⟨.Name y py2, .Name x px, [], 0⟩] scope lpos] [] cpos) (iI nE (aq (eG i a (Ge (dM (yI B F Es)))) aJ)) := by
 have lc := @C4 _ ‹Past› (Past.and ‹Past› r3 H3) X Z H3 r3 i iy j k n x y fn a g od fs px py py2 p pos lpos elt F B ts Es scope (.head _) (fun p hp => .tail _ hp) h1 h2 h3 (Nat.le_trans (Nat.le_of_lt (Nat.blt_eq.mp hz)) (show 1000 ≤ sizeLine by decide)) hlen hBs C G hF hm helt hB ok hi hv hdb hcd hiy hdy hcy hdf hk hg hvy hgn hs hne
 letI : Past := Past.and ‹Past› r3 H3
 exact jb (cr_all C.calm) zS hma (ai lc aB he) hga (by decide +kernel) (by decide) (by decide) he (by rfl)
theorem Lj : PS X (.Return (ξ (.Call (.Name "all" fpos) [.ListComp elt [⟨.Name y py2, .Name x px, [], 0⟩] scope lpos] [] cpos)) spos) (tL X Z i ts (vT i (iR (iI nE (aq (Ge (dM (yI B F Es))) aJ))))) :=
 zr (dF := fun h => iR (iI nE (aq h aJ))) (fun r3 H3 a od fs h1 h2 h3 => @fM _ (Past.and ‹Past› r3 H3) _ _ _ _ _ (sG (lpos := lpos) (cpos := cpos) (fpos := fpos) hBs C G hF hm hma helt hB ok hg hvy hgn hz hlen hi hv hdb hcd hiy hdy hcy hdf hk hga hs hne he r3 H3 a od fs h1 h2 h3))
  fun a env m hl => uI (by simp only [iI, aq, aJ, Fo hl]) lD
include ha hb la lb in
theorem J8 :
  PS X (.If (.UnaryOp .Not (.Call (.Name "all" fpos) [.ListComp elt [⟨.Name y py2, .Name x px, [], 0⟩] scope lpos] [] cpos) upos) sa sb spos) (tL X Z i ts (vT i (rP (i9 (bJ (iI nE (aq (Ge (dM (yI B F Es))) aJ)))) da db))) :=
 zr (dF := fun h => rP (i9 (bJ (iI nE (aq h aJ)))) da db) (fun r3 H3 a od fs h1 h2 h3 => by
  have l := sG (lpos := lpos) (cpos := cpos) (fpos := fpos) hBs C G hF hm hma helt hB ok hg hvy hgn hz hlen hi hv hdb hcd hiy hdy hcy hdf hk hga hs hne he r3 H3 a od fs h1 h2 h3
  have a1 := ha (Past.and ‹Past› r3 H3)
  have b1 := hb (Past.and ‹Past› r3 H3)
  letI : Past := Past.and ‹Past› r3 H3
  exact jN (nq (nk l)) a1 b1)
  fun a env m hl => Qj (by simp only [i9, bJ, iI, aq, aJ, Fo hl]) lD (fun m => la env _ m) (fun m => lb env _ m)
end
end SB
end
section
noncomputable section
namespace SB
open PySem PySem.W PySem.Calls PyProof.Rows HandSHeadRun
end SB
end
section
namespace SB
open PySem PySem.Spec L2
open PyProof.Rows hiding St
abbrev emptyO : Obj := { cls := .none, data := .fields #[] }
open HandSHeadRun PySem.W PySem.Calls
noncomputable section
end
section
variable [Tabs][Past]
theorem Qm {P : Program} {w : World} {K : PySem.W.Frag} {mg mb : Str → Option Value} {CX : CXT} {k : Nat} {fa a : Addr} {cs : List (Addr × Addr)} {fd : FuncData} {x : Str} {sp : Sp} {t₁ : Shared} {vs : List Value} {ns : List Int}
    (KX : K.In t₁.heap) (hns : t₁.heap.Ns mainGlobals mg) (hbn : t₁.heap.Ns builtinsNs mb) (hbb : ∀ x : Str, x ≠ "__name__" → mb x = bootBuiltins x) (hlim : t₁.heap.NoLimit) (hg : t₁.gens = #[])
    (e1 : ∀ p ∈ cs, t₁.heap.get? p.2 = ξ emptyO) (e2 : ∀ p ∈ cs, K.lookup p.2 = ζ) (e3 : ∀ p ∈ cs, PySem.W.CodeHd t₁.heap p.1 p.2)
    (hbm : ∃ (bm : Addr) (ob : Obj), mg "__builtins__" = ξ (.ref bm) ∧ bm ≠ builtinsNs ∧ t₁.heap.get? bm = ξ ob ∧ ob.cls = .type "module" ∧ ob.dict = ξ builtinsNs ∧ ob.data = .plain)
    (ha : t₁.heap.get? a = ξ { cls := .type "list", data := .seq vs.toArray }) (hi : IntsAre vs ns) (hl : ns.length ≤ sizeLine) (hr : Room k callerA)
    (F : ∀ bs : Heap, K.In bs → bs.Ns mainGlobals mg → (∀ p ∈ cs, LamX.TabB bs mg p.1 p.2) → FnG P w K mg bs CX k fa fd [x] sp) (hbd : ∀ (s : Shared) (u : Value), BindsTo s fd ⟨[u], []⟩ [(x, u)])
    (hsp : ∀ H : Hp, (∀ p ∈ cs, H p.2 = ξ (.tbl #[])) → SqF K H a (ns.map V.int) → sp [.ref a] H (fun v _ => v = .bl true) fun _ _ _ => False)
    (hCX : ∀ H e s', CX [] H t₁ (fun _ _ _ => False) e s' → False) :
    codeAny (model P w) callerA (.call (.ref fa) ⟨[.ref a], []⟩) (fun z s' => z = .ok (.ret (.bool true)) ∧ OldK t₁.heap s'.heap ∧ s'.os = t₁.os ∧ AllBare s'.gens) t₁ := by
  have rvs := vals_ints hi
  have lnV := hi.length
  have emp : ∀ {b : Addr}, b ∈ cs.map (·.2) → t₁.heap.get? b = ξ emptyO := fun {b} hb => by
    obtain ⟨p, hp, rfl⟩ := List.mem_map.mp hb
    exact e1 p hp
  have inC : ∀ {p}, p ∈ cs → p.2 ∈ cs.map (·.2) := fun {p} hp => List.mem_map.mpr ⟨p, hp, rfl⟩
  have aC : a ∉ cs.map (·.2) := fun z => by
    have y := (emp z).symm.trans ha
    injection y with y
    cases congrArg Obj.data y
  have core : ∀ H : Hp, (∀ p ∈ cs, H p.2 = ξ (.tbl #[])) → SqF K H a (ns.map V.int) → HOk P w H t₁.heap → (∀ b u, H b = ξ u → b ∈ cs.map (·.2) ∨ (b = a ∧ ∃ o xs, u = .frz o (.lst xs))) → (H a ≠ ζ → K.lookup a = ζ) →
      codeAny (model P w) callerA (.call (.ref fa) ⟨[.ref a], []⟩) (fun z s' => z = .ok (.ret (.bool true)) ∧ OldK t₁.heap s'.heap ∧ s'.os = t₁.os ∧ AllBare s'.gens) t₁ := by
    intro H hH hS hk hA hK
    have kept : ∀ {b : Addr} {o : Obj}, t₁.heap.get? b = ξ o → H b = ζ → (hidT t₁.heap H).get? b = ξ o := fun e n => hidT_get e n
    have open_ : ∀ {b : Addr} {o : Obj}, t₁.heap.get? b = ξ o → (∀ vs n, o.data ≠ .seq vs n) → o.data ≠ .fields #[] → H b = ζ := fun {b o} e n1 n2 => by
      cases q : H b with
      | none => rfl
      | some u =>
        rcases hA b u q with z | ⟨rfl, _⟩
        · cases (emp z).symm.trans e
          exact absurd rfl n2
        · cases ha.symm.trans e
          exact absurd rfl (n1 _ _)
    have nsK : ∀ {b : Addr} {m : Str → Option Value}, t₁.heap.Ns b m → (hidT t₁.heap H).Ns b m := fun {b m} ⟨o, es, ep, e, d, r⟩ => ⟨o, es, ep, kept e (open_ e (fun _ _ z => by cases d.symm.trans z) fun z => by cases d.symm.trans z), d, r⟩
    have inB : K.In (hidT t₁.heap H) := fun b o e => kept (KX b o e) (by
      cases q : H b with
      | none => rfl
      | some u =>
        rcases hA b u q with z | ⟨rfl, _⟩
        · obtain ⟨p, hp, rfl⟩ := List.mem_map.mp z
          cases (e2 p hp).symm.trans e
        · cases (hK (by rw [q]; simp)).symm.trans e)
    have md : Mod K mg (hidT t₁.heap H) := ⟨inB, nsK hns, ⟨mb, nsK hbn, hbb⟩, let ⟨mc, h1, h2⟩ := hlim; ⟨mc, nsK h1, h2⟩⟩
    have en : Env0 P w K mg (hidT t₁.heap H) callerA [] t₁ H := ⟨rfl, md, fun b o e => of_hidT e, Nat.le_of_eq (hidT_size _ _), trivial, fun b hb => absurd (show b ∈ ([] : List Addr) from hb) (by simp), hk, .of_eq hg⟩
    have tb : ∀ p ∈ cs, LamX.TabB (hidT t₁.heap H) mg p.1 p.2 := fun p hp => by
      have nG : mainGlobals ≠ p.2 := fun z => by
        obtain ⟨o, es, ep, e, d, _⟩ := hns
        rw [z] at e
        cases (e1 p hp).symm.trans e
        cases d
      refine ⟨?_, ?_, nG⟩
      · obtain ⟨o, us, file, tf, flags, tg, inF, text, tt, c1, r1, r2, r3, rest⟩ := e3 p hp
        exact ⟨o, us, file, tf, flags, tg, inF, text, tt, kept c1 (open_ c1 (fun _ _ z => by cases r2.symm.trans z) fun z => by cases r2.symm.trans z; simp at r3), r1, r2, r3, rest⟩
      · obtain ⟨bm, ob, b1, b2, b3, b4, b5, b6⟩ := hbm
        refine ⟨bm, ob, b1, b2, fun z => ?_, fun z => ?_, kept b3 (open_ b3 (fun _ _ z => by cases b6.symm.trans z) fun z => by cases b6.symm.trans z), b4, b5, b6⟩
        · obtain ⟨o, es, ep, e, d, _⟩ := hns
          subst z
          cases b3.symm.trans e
          cases b6.symm.trans d
        · subst z
          cases b3.symm.trans (e1 p hp)
          cases b6
    refine codeAny_mono ((F _ inB (nsK hns) tb).run callerA [] t₁ H ⟨[.ref a], []⟩ [.ref a] [.ref a] _ _ ⟨hr, fun _ => rfl⟩ en (hbd t₁ (.ref a)) (.cons rfl .nil) (hsp H hH hS)) fun z s' h => ?_
    cases z with
    | error e => exact (hCX H e s' h).elim
    | ok fl =>
      cases fl <;> first | exact False.elim h | skip
      rename_i u
      obtain ⟨v, H', os, bare, un, hk', rr, q⟩ := h
      cases (show v = .bl true from q)
      obtain rfl : u = Value.bool true := rr
      have grew : ∀ p ∈ cs, ∃ more : Array Value, s'.heap.get? p.2 = ξ { cls := .none, data := .fields more } := fun p hp => by
        obtain ⟨more, y⟩ := un.tbls p.2 #[] (hH p hp)
        exact ⟨_, hk' p.2 _ y⟩
      have same : ∀ b o, b ∉ cs.map (·.2) → t₁.heap.get? b = ξ o → s'.heap.get? b = ξ o := fun b o nb e => by
        cases qb : H b with
        | none => exact un.keep b o e qb (by intro z; exact absurd (show b ∈ ([] : List Addr) from z) (by simp)) (by simp)
        | some u =>
          rcases hA b u qb with z | ⟨_, ob, xs, rfl⟩
          · exact absurd z nb
          · obtain ⟨e1, _⟩ := hk b _ qb
            obtain ⟨e2, _⟩ := hk' b _ (un.frzs b ob _ qb)
            cases e.symm.trans e1
            exact e2
      refine ⟨rfl, ⟨fun b o e => ?_, fun b o e => ?_⟩, os, bare⟩
      · by_cases hb : b ∈ cs.map (·.2)
        · obtain ⟨p, hp, rfl⟩ := List.mem_map.mp hb
          obtain ⟨more, hm⟩ := grew p hp
          cases (e1 p hp).symm.trans e
          exact .inr (.inl ⟨((e3 p hp).tab (e1 p hp)).isCodeTable, rfl, #[], more, rfl, by rw [Array.empty_append]; exact hm⟩)
        · exact .inl (same b o hb e)
      · by_cases hb : b ∈ cs.map (·.2)
        · obtain ⟨p, hp, rfl⟩ := List.mem_map.mp hb
          obtain ⟨more, hm⟩ := grew p hp
          exact ⟨_, hm⟩
        · exact ⟨o, same b o hb e⟩
  cases lk : K.lookup a with
  | some o =>
    have e := KX a o lk
    cases ha.symm.trans e
    refine core (fun b => if b ∈ cs.map (·.2) then ξ (.tbl #[]) else ζ) (fun p hp => if_pos (inC hp)) (.inr ⟨_, vs.toArray, _, lk, rfl, rfl, rfl, by rw [List.size_toArray, lnV]; exact hl, by simpa using rvs⟩) (fun b u z => ?_) (fun b u z => ?_) fun z => absurd (if_neg aC) z
    · by_cases h : b ∈ cs.map (·.2)
      · cases ((if_pos h).symm.trans z)
        exact emp h
      · cases ((if_neg h).symm.trans z)
    · by_cases h : b ∈ cs.map (·.2)
      · exact .inl h
      · cases ((if_neg h).symm.trans z)
  | none =>
    refine core (fun b => if b ∈ cs.map (·.2) then ξ (.tbl #[]) else if b = a then ξ (.frz { cls := .type "list", data := .seq vs.toArray } (.lst (ns.map V.int))) else ζ) (fun p hp => if_pos (inC hp)) (.inl ⟨{ cls := .type "list", data := .seq vs.toArray }, (if_neg aC).trans (if_pos rfl)⟩) (fun b u z => ?_) (fun b u z => ?_) fun _ => lk
    · by_cases h : b ∈ cs.map (·.2)
      · cases ((if_pos h).symm.trans z)
        exact emp h
      · have z := (if_neg h).symm.trans z
        by_cases h2 : b = a
        · cases ((if_pos h2).symm.trans z)
          subst h2
          exact ⟨ha, by rw [List.length_map]; exact hl, vs, _, rvs, ha⟩
        · cases ((if_neg h2).symm.trans z)
    · by_cases h : b ∈ cs.map (·.2)
      · exact .inl h
      · have z := (if_neg h).symm.trans z
        by_cases h2 : b = a
        · cases ((if_pos h2).symm.trans z)
          exact .inr ⟨h2, _, _, rfl⟩
        · cases ((if_neg h2).symm.trans z)
end
theorem walk_zT {g : Bool} {l : PySem.W.OpenLaw} {n k : Nat} {q : Program} {loose : List Str} {XP : (Str → Option Value) → Heap → Prop} {YP : World → Heap → Prop} {d : DefRec} {x : Str} {tf : List (Mkr × Str)} (hn : l.most = ξ n) (hn2 : n ≤ sizeLine) (hdf : d.params.defaults = []) (hr : Room k callerA)
  (F : ∀ (w : World) (mg : Str → Option Value) (fa : Addr) (h : Heap), YP w h → h.Ns mainGlobals mg → mg d.name = ξ (.ref fa) →
   ∃ (K : PySem.W.Frag) (fd : FuncData) (D : DF), K.In h ∧ (∀ p ∈ tf, h.get? (mT K p.1).2 = ξ emptyO) ∧ (∀ p ∈ tf, K.lookup (mT K p.1).2 = ζ) ∧ (∀ p ∈ tf, PySem.W.CodeHd h (mT K p.1).1 (mT K p.1).2) ∧ apartB K tf = true ∧ (∀ (s : Shared) (u : Value), BindsTo s fd ⟨[u], []⟩ [(x, u)]) ∧ (∀ ns : List Int, ns.length ≤ n → ∃ m, D [.scr ns] [] = ξ (.ok (.bl true) m)) ∧
    ∀ base : Heap, (∀ p ∈ tf, @LamAt (tabsK K tf g) K base mg (mT K p.1).1 (mT K p.1).2 p.2) → @FnG (tabsK K tf g) l.prog w K mg base (L2.CX l.prog w) k fa fd [x] (@spD (tabsK K tf g) noPast K D)) :
  PySem.W.WalkO q loose XP YP l.row.toRowW d [] (fun f vs => PySem.call f vs) := by
 refine Att.attach_call hn hdf fun w s₀ s₁ mg mb fa o pm cd doc a vs ns G Y ho hd hcd hmg hobj hints hlen hg => ?_
 obtain ⟨K, fd, D, KX, t1, t2, t3, ap, hb, hD, hF⟩ := F w mg fa _ Y G.T.g hmg
 have nd := of_decide_eq_true ap
 have inT : ∀ {p : Addr × Addr}, p ∈ tf.map (fun p => mT K p.1) → ∃ y ∈ tf, p = mT K y.1 := fun {p} hp => by
  obtain ⟨y, hy, rfl⟩ := List.mem_map.mp hp
  exact ⟨y, hy, rfl⟩
 letI : Tabs := tabsK K tf g
 refine Qm (cs := tf.map fun p => mT K p.1) KX G.T.g G.T.b G.T.builtins G.T.nolimit hg (fun p hp => ?_) (fun p hp => ?_) (fun p hp => ?_) G.T.bmain hobj hints (Nat.le_trans hlen hn2) hr (fun base _ _ tb => hF base fun p hp => ⟨tb _ (List.mem_map.mpr ⟨p, hp, rfl⟩), List.mem_map.mpr ⟨p, hp, rfl⟩, fun y hy e => ?_⟩) hb (fun H hH hS => ?_) fun H e s' hc => ?_
 ·obtain ⟨y, hy, rfl⟩ := inT hp
  exact t1 y hy
 ·obtain ⟨y, hy, rfl⟩ := inT hp
  exact t2 y hy
 ·obtain ⟨y, hy, rfl⟩ := inT hp
  exact t3 y hy
 ·obtain ⟨z, hz, rfl⟩ := List.mem_map.mp hy
  obtain ⟨i, hi, ei⟩ := List.mem_iff_getElem.mp hp
  obtain ⟨j, hj, ej⟩ := List.mem_iff_getElem.mp hz
  have hij : i = j := by
   refine (List.getElem_inj (h₀ := by simpa using hi) (h₁ := by simpa using hj) nd).mp ?_
   rw [List.getElem_map, List.getElem_map, ei, ej]
   exact e.symm
  subst hij
  rw [← ei, ← ej]
 ·obtain ⟨m, hm⟩ := hD ns hlen
  refine ⟨[], [], [.scr ns], ⟨rfl, .nil, fun n o e => by simp at e, fun p hp => ?_, fun p hp => absurd hp (by simp [Past.P])⟩, ⟨.ref a, [], rfl, ⟨a, rfl, hS⟩, rfl⟩, ?_⟩
  ·obtain ⟨y, hy, rfl⟩ := List.mem_map.mp hp
   exact LamX.TabS.nil (hH _ (List.mem_map.mpr ⟨y, hy, rfl⟩))
  ·rw [hm]
   exact fun r' H' v _ _ q => q
 ·obtain ⟨_, _, _, _, _, _, _, _, _, _, _, _, z⟩ := hc
  exact z
end SB
end
section
namespace SB
open PySem PySem.Spec L2
open PyProof.Rows hiding St
open He (ga ma)
structure SupP (P : Program) : Prop where
 file : ((P.main.file : Str) == ("/claim/cut.py" : Str)) = true
 top : (P.main.scope.names.lookup ("super" : Str)).isSome = false
theorem ku {P : Program} {K : PySem.W.Frag} {f D : Addr} {file : Str} (h : supB K f D file = true) (hf : ((P.main.file : Str) == file) = true) (ht : (P.main.scope.names.lookup ("super" : Str)).isSome = false) : SupC P K (Gg K f) (JF K f) D := by
 unfold supB at h
 simp only [Bool.and_eq_true] at h
 obtain ⟨h1, h2, h3⟩ := h
 refine ⟨?_, Option.isSome_iff_exists.mp h2, ?_, ht⟩
 ·split at h1
  ·rename_i a b D' e hx
   rw [of_decide_eq_true h1] at hx
   exact ⟨_, _, _, hx⟩
  ·cases h1
 ·split at h3
  ·rename_i a b us e hx
   split at h3
   ·rename_i fl tk hy
    rw [of_decide_eq_true h3] at hy
    exact ⟨_, _, _, _, _, _, hx, hy, hf⟩
   ·cases h3
  ·cases h3
theorem pU {K : PySem.W.Frag} {C D f2 : Addr} (h : vA K C D f2 = true) : SupI K C D f2 := by
 unfold vA at h
 simp only [Bool.and_eq_true] at h
 obtain ⟨h1, h2, h3, h4, h5⟩ := h
 exact ⟨of_decide_eq_true h1, He.eqO_ok h2, of_decide_eq_true h3, h4, He.eqO_ok h5⟩
theorem DefC.funD {K : PySem.W.Frag} {d : DefC} (hc : d.cl = []) (e : Jj K (d.d.at_ K) = d.val) (c : d.d.ok K = true) : ∃ fd, FunD K d.d.name d.d.qual d.d.params d.d.body d.d.scope (d.d.dvs K) (d.d.kws K) (d.d.at_ K) fd := by
 refine He5.DefA.funD ?_ c
 unfold Jj DefC.val at e
 unfold He5.fnA He5.DefA.val
 cases q : K.lookup (d.d.at_ K) with
 | none => rw [q] at e; cases e
 | some o =>
  obtain ⟨oc, od, dt, osl⟩ := o
  rw [q] at e
  cases dt with
  | func fd =>
   rw [hc] at e
   have e2 := e
   simp only [Option.some.injEq, Prod.mk.injEq, List.map_nil, List.map_eq_nil_iff] at e2
   obtain ⟨h1, h2, h3, h4, h5, h6, h7, h8⟩ := e2
   show ξ (fd.name, fd.qualname, fd.params, fd.body, fd.scope, fd.globals, fd.closure, fd.builtins) = _
   rw [h1, h2, h3, h4, h5, h6, h7, h8]
  | _ => cases e
theorem DefC.funC {K : PySem.W.Frag} {d : DefC} (hc : d.cl = [("__class__" : Str)]) (hd : d.d.dfl = []) (e : Jj K (d.d.at_ K) = d.val) (c : d.d.ok K = true) : FunC K d.d.name d.d.qual d.d.params d.d.body d.d.scope (d.d.at_ K) (Gg K (d.d.at_ K)) (JF K (d.d.at_ K)) := by
 unfold He5.DefA.ok at c
 obtain ⟨kp, c2⟩ := Bool.and_eq_true_iff.mp c
 unfold Jj DefC.val at e
 cases q : K.lookup (d.d.at_ K) with
 | none => rw [q] at e; cases e
 | some o =>
  obtain ⟨oc, od, dt, osl⟩ := o
  rw [q] at e c2
  cases dt with
  | func fd =>
   rw [hc] at e
   obtain ⟨n1, n2, n3, n4, n5, n6, n7, n8, n9, n10, n11, n12, n13, n14, n15⟩ := fd
   have e2 : (ξ (n1, n2, n3, n4, n5, n6, n7.map (fun p => (p.1, 0)), n15) : He5.FnW) = ξ (d.d.name, d.d.qual, d.d.params, FuncBody.stmts d.d.body, d.d.scope, mainGlobals, [(("__class__" : Str), 0)], builtinsNs) := e
   simp only [Option.some.injEq, Prod.mk.injEq] at e2
   obtain ⟨h1, h2, h3, h4, h5, h6, h7, h8⟩ := e2
   subst h1 h2 h3 h4 h5 h6 h8
   have c3 : (PySem.W.codeIn K n13 d.d.qual && (He.dflB K n8 (d.d.dvs K) && He.kwdB K n9 (d.d.kws K))) = true := c2
   obtain ⟨k1, k2⟩ := Bool.and_eq_true_iff.mp c3
   obtain ⟨k3, _⟩ := Bool.and_eq_true_iff.mp k2
   have hz : d.d.dvs K = [] := by unfold He5.DefA.dvs; rw [hd]; rfl
   rw [hz] at k3
   have hn8 : n8 = .none := by
    rcases He.dflB_ok k3 with ⟨_, h⟩ | ⟨h, _⟩
    ·exact h
    ·exact absurd rfl h
   subst hn8
   obtain ⟨cc, rfl⟩ : ∃ cc, n7 = [(("__class__" : Str), cc)] := by
    cases n7 with
    | nil => simp at h7
    | cons p r =>
     cases r with
     | nil =>
      simp at h7
      exact ⟨p.2, by rw [← h7]⟩
     | cons p2 r2 => simp at h7
   obtain ⟨c0, rfl⟩ : ∃ c0, n13 = .ref c0 := by
    cases n13 <;> first | exact ⟨_, rfl⟩ | cases k1
   have hcl : Gg K (d.d.at_ K) = cc := by unfold Gg; rw [q]
   have hcd : JF K (d.d.at_ K) = c0 := by unfold JF; rw [q]
   rw [hcl, hcd]
   exact ⟨⟨_, _, _, _, _, _, _, _, q⟩, k1, kp⟩
  | _ => cases e
def DR (ex : PySem.W.Frag → Bool) (fn : List DefC) (K : PySem.W.Frag) : He.AlD := (ex K && ((He.Fa.glo "law").ok K && fn.all fun d => d.d.ok K), fn.map fun d => Jj K (d.d.at_ K))
def SaysZC (ex : PySem.W.Frag → Bool) (fn : List DefC) (K : PySem.W.Frag) : Prop := DR ex fn K = (true, fn.map DefC.val)
section
variable {ex: PySem.W.Frag → Bool}{fn: List DefC}{K: PySem.W.Frag}
theorem SaysZC.all (c : SaysZC ex fn K) : ex K = true ∧ (He.Fa.glo "law").ok K = true ∧ (fn.all fun d => d.d.ok K) = true := by
 have c1 : (ex K && ((He.Fa.glo "law").ok K && fn.all fun d => d.d.ok K)) = true := congrArg (fun z : He.AlD => z.1) c
 simp only [Bool.and_eq_true] at c1
 exact c1
theorem SaysZC.exs (c : SaysZC ex fn K) : ex K = true := c.all.1
theorem SaysZC.law (c : SaysZC ex fn K) : (He.Fa.glo "law").ok K = true := c.all.2.1
theorem SaysZC.at_ (c : SaysZC ex fn K) (i : Nat) {d : DefC} (h : fn[i]? = ξ d) : Jj K (d.d.at_ K) = d.val ∧ d.d.ok K = true := by
 have e : fn.map (fun d => Jj K (d.d.at_ K)) = fn.map DefC.val := congrArg (fun z : He.AlD => z.2) c
 have e2 : (fn.map fun d => Jj K (d.d.at_ K))[i]? = (fn.map DefC.val)[i]? := by rw [e]
 rw [List.getElem?_map, List.getElem?_map, h] at e2
 exact ⟨Option.some.inj e2, List.all_eq_true.mp c.all.2.2 d (List.mem_of_getElem? h)⟩
theorem SaysZC.def_ (c : SaysZC ex fn K) (i : Nat) {d : He5.DefA} (h : fn[i]? = ξ ⟨d, []⟩ := by rfl) : ∃ fd, FunD K d.name d.qual d.params d.body d.scope (d.dvs K) (d.kws K) (d.at_ K) fd :=
 DefC.funD (d := ⟨d, []⟩) rfl (c.at_ i h).1 (c.at_ i h).2
theorem SaysZC.defS (c : SaysZC ex fn K) (i : Nat) {d : He5.DefA} (h : fn[i]? = ξ ⟨d, [("__class__" : Str)]⟩ := by rfl) (hd : d.dfl = [] := by rfl) : FunC K d.name d.qual d.params d.body d.scope (d.at_ K) (Gg K (d.at_ K)) (JF K (d.at_ K)) :=
 DefC.funC (d := ⟨d, [("__class__" : Str)]⟩) rfl hd (c.at_ i h).1 (c.at_ i h).2
end
def zA (as : List Addr) (ex : PySem.W.Frag → Bool) (fn : List DefC) (tf : List Mkr) (g : Addr → Option Obj) : He.AlD :=
 (Cw g tf (He.frT g as) && (DR ex fn (He.frT g as)).1, (DR ex fn (He.frT g as)).2)
structure SaysTC (ex : PySem.W.Frag → Bool) (fn : List DefC) (tf : List Mkr) (h : Heap) (K : PySem.W.Frag) : Prop where
 z : SaysZC ex fn K
 hd : ∀ p ∈ tf, PySem.W.codeHdIn K (mT K p).1 (mT K p).2 = true
 out : ∀ p ∈ tf, K.lookup (mT K p).2 = ζ
 emp : ∀ p ∈ tf, h.get? (mT K p).2 = ξ emptyO
theorem AR {as : List Addr} {ex : PySem.W.Frag → Bool} {fn : List DefC} {tf : List Mkr} {h : Heap} (e : zA as ex fn tf h.get? = (true, fn.map DefC.val)) : SaysTC ex fn tf h (He.frT h.get? as) := by
 unfold zA at e
 injection e with e1 e2
 obtain ⟨t1, t2⟩ := Bool.and_eq_true_iff.mp e1
 have at_ : ∀ p ∈ tf, PySem.W.codeHdIn (He.frT h.get? as) (mT (He.frT h.get? as) p).1 (mT (He.frT h.get? as) p).2 = true ∧ ∃ o, h.get? (mT (He.frT h.get? as) p).2 = ξ o ∧ He.emptyTab o = true := fun p hp => by
  obtain ⟨a1, a2⟩ := Bool.and_eq_true_iff.mp (List.all_eq_true.mp t1 p hp)
  refine ⟨a1, ?_⟩
  generalize h.get? (mT (He.frT h.get? as) p).2 = y at a2 ⊢
  cases y with
  | none => cases a2
  | some o => exact ⟨o, rfl, a2⟩
 refine ⟨Prod.ext t2 e2, fun p hp => (at_ p hp).1, fun p hp => ?_, fun p hp => ?_⟩
 ·obtain ⟨_, o, a1, a2⟩ := at_ p hp
  exact He.frT_none a1 a2
 ·obtain ⟨_, o, a1, a2⟩ := at_ p hp
  rw [a1, He.emptyTab_eq a2]
def E4 (as : List Addr) (ex : PySem.W.Frag → Bool) (fn : List DefC) (tf : List Mkr) : PySem.W.Hook where
 α := He.AlD
 obs := fun s => zA as ex fn tf s.heap.get?
 val := fun _ => (true, fn.map DefC.val)
 says := fun _ h => ∃ K : PySem.W.Frag, K.In h ∧ SaysTC ex fn tf h K
 of := fun _ _ e => ⟨_, He.frT_in, AR e⟩
 keeps := fun _ _ _ ⟨K, hK, c⟩ k => ⟨K, PySem.W.Frag.In.keeps hK k, c.z, c.hd, c.out, fun p hp => k _ _ (c.emp p hp)⟩
open HandSHeadRun PySem.W PySem.Calls
noncomputable section
def Ib (as : List Addr) (ex : PySem.W.Frag → Bool) (fn : List DefC) (tf : List Mkr) (s : SharedT) : He.AlD := zA as ex fn tf (getT s)
theorem Ia {as : List Addr} {ex : PySem.W.Frag → Bool} {fn : List DefC} {tf : List Mkr} (s : SharedT) : Ib as ex fn tf s = (E4 as ex fn tf).obs s.abs := by
 have e : getT s = s.abs.heap.get? := funext (getT_eq s)
 unfold Ib
 rw [e]
 rfl
theorem xY {r : OpenRow} {q : Program} {M : Nat} {as : List Addr} {ex : PySem.W.Frag → Bool} {fn : List DefC} {tf : List Mkr} {loose : List PySem.Str} {w : World} (h1 : Ky r q M loose w) (h2 : KA r M as (fun K => ex K && (He.Fa.glo "law").ok K) tf w) (h4 : KC r M as fn w) :
  RunEq r q (E4 as ex fn tf) (Ib as ex fn tf) M loose w := fun os => by
 have a := h1 os
 have b := h2 os
 have d := h4 os
 show (BE r M w os).map _ = _
 generalize BE r M w os = x at a b d
 cases x with
 | none => cases a
 | some s =>
  injection a with a
  injection b with b
  injection d with d
  injection a with a1 a2
  injection d with d1 d2
  show ξ (_, _, (_ && (_ && _), _)) = ξ (_, _, (true, _))
  rw [a1, a2]
  obtain ⟨b0, b'⟩ := Bool.and_eq_true_iff.mp b
  obtain ⟨b1, b2⟩ := Bool.and_eq_true_iff.mp b'
  have e : (Cw (getT s) tf (mC as s) && (ex (mC as s) && ((He.Fa.glo "law").ok (mC as s) && fn.all fun d => d.d.ok (mC as s)))) = true := by
   rw [b0, b1, b2, d1]
   rfl
  exact congrArg ξ (Prod.ext rfl (Prod.ext rfl (Prod.ext e d2)))
end
end SB
end
section
namespace SB
open PySem L2
open He (ga ma)
abbrev FD (K : PySem.W.Frag) (d : He5.DefA) (fd : FuncData) : Prop := FunD K d.name d.qual d.params d.body d.scope (d.dvs K) (d.kws K) (d.at_ K) fd
def QD (N P : List Str) (c : Scope) : Bool :=
 (decide (c.kind = .function) && (!c.isCoroutine && !c.isGenerator)) && ((decide N.Nodup && decide (N.take P.length = P)) && ((P.all fun x => decide (c.names.lookup x = ξ .local) || decide (c.names.lookup x = ξ .cell)) && c.names.all fun y => decide (y.2 ≠ .free)))
theorem hW {N P : List Str} {c : Scope} (h : QD N P c = true) : FnScope N P c := by
 unfold QD at h
 rw [Bool.and_eq_true, Bool.and_eq_true, Bool.and_eq_true, Bool.and_eq_true, Bool.and_eq_true, Bool.and_eq_true] at h
 obtain ⟨⟨a, b, d⟩, ⟨e, f⟩, g, i⟩ := h
 refine ⟨of_decide_eq_true a, by simpa using b, by simpa using d, of_decide_eq_true e, of_decide_eq_true f, fun x hx => ?_, fun y hy => of_decide_eq_true (List.all_eq_true.mp i y hy)⟩
 have := List.all_eq_true.mp g x hx
 rw [Bool.or_eq_true] at this
 exact this.imp of_decide_eq_true of_decide_eq_true
section
variable (K: PySem.W.Frag)(mg: Str → Option Value)(C f: Str)
abbrev Fr : Prop := mg f = ζ
abbrev Gb : Prop := mg f = ξ (.ref (ga K f))
abbrev Na : Prop := NoAttr K (ga K C) f
abbrev Mi : Prop := Mk K (ga K C) (ma K (ga K C) "__init__")
end
end SB
end
section
namespace KD
open PySem L2 SB
open He (ga ma)
def f7 (K : PySem.W.Frag) : DS :=
 (cb (jd (eC (.int 0)) (cg 2))
 (cb (rP (bJ (cY L9 (ax 1) (iI jz (aq (ax 0) aJ)))) (jd (cY zD (ax 0) (ax 1)) (cg 2)) fy)
 (cb (jd (iI Ie (aq (ax 2) aJ)) (cg 3))
 (iR (dM (aq (cY j7 (ax 3) (iI zE (aq (cY oGe (ax 3) (cY Ic (eC (.int 10)) (eC (.int 18)))) aJ))) (aq (cY jO (cY jO (cY jO (cY ur (ax 2) (eC (.int 1000000000000000009))) (cY j7 (cY j7 (eC (.int 9973)) (ax 1)) (ax 1))) (cY j7 (eC (.int 71)) (ax 1))) (eC (.int 7))) (aq (eC (.int 0)) aJ))))))))
def fZ (K : PySem.W.Frag) : DF := cX 2 4 (f7 K)
def iB (K : PySem.W.Frag) : DS :=
 (cb (rP (bJ (cY Ma (cY zD (ax 0) (eC (.int 0))) (eC (.int 0)))) (cb (jd (cY ur (cY zD (ax 0) (eC (.int 0))) (ax 1)) (cg 6))
 (cb (jd (cY DX (cY zD (ax 0) (eC (.int 0))) (ax 1)) (BO sR (ax 0) (eC (.int 0))))
 (iR (ax 6)))) fy)
 (cb (jd (ri (aq (eC (.int 2147483647)) (aq (eC (.int 2147483629)) (aq (eC (.int 2147483587)) (aq (eC (.int 2147483579)) (aq (eC (.int 2147483563)) (aq (eC (.int 2147483549)) (aq (eC (.int 2147483543)) (aq (eC (.int 2147483497)) aJ))))))))) (cg 2))
 (cb (jd (cY jO (cY zD (ax 0) (eC (.int 2))) (eC (.int 1))) (BO sR (ax 0) (eC (.int 2))))
 (cb (jd (cY zD (ax 0) (eC (.int 2))) (cg 3))
 (cb (jd (cY jO (cY jO (cY j7 (cY zD (ax 0) (eC (.int 1))) (cY jO (cY j7 (eC (.int 2)) (ax 3)) (eC (.int 5)))) (cY j7 (cY j7 (eC (.int 6217)) (ax 3)) (ax 3))) (eC (.int 83))) (cg 4))
 (cb (jd (cY ur (cY Ic (ax 4) (eC (.int 3))) (cY zD (ax 2) (cY ur (ax 3) (eC (.int 8))))) (cg 5))
 (iR (cY ur (cY DX (cY ur (cY j7 (ax 5) (cY jO (cY DX (ax 5) (eC (.int 4093))) (eC (.int 29)))) (cY zD (ax 2) (cY ur (cY jO (ax 3) (eC (.int 3))) (eC (.int 8))))) (eC (.int 16))) (ax 1)))))))))
def fm (K : PySem.W.Frag) : DF := cX 2 7 (iB K)
def f9 (K : PySem.W.Frag) : DS :=
 (iR (cY DV (ax 1) (e7 [] (fm K) (aq (ax 0) (aq (iI jz (aq (ax 1) aJ)) aJ)))))
def f6 (K : PySem.W.Frag) : DF := cX 2 2 (f9 K)
def kl (K : PySem.W.Frag) : DS :=
 (iR (RR "str" wz (eC (.str "")) (aq (Gf (uM (aq (cY jO (eC (.int 1)) (e7 [] (fm K) (aq (ax 0) (aq (eC (.int 3)) aJ)))) aJ)) (cg 1) lZ (e7 [] (f6 K) (aq (ax 0) (aq (eC (.str "abcxyz")) aJ))) [1]) aJ)))
def iQ (K : PySem.W.Frag) : DF := cX 1 2 (kl K)
def nZ (K : PySem.W.Frag) : DS :=
 (iR (tF (iI (Bf K) (aq (ax 0) (aq (eC (.ty "str")) aJ))) (tF (nR RA RA (eC (.int 1)) (iI jz (aq (ax 0) aJ)) (eC (.int 3))) (iI nE (aq (Gf (EK (ax 0)) (cg 1) lZ (cY (Bg false) (ax 1) (eC (.str "abcdefghijklmnopqrstuvwxyz"))) [1]) aJ)))))
def g9 (K : PySem.W.Frag) : DF := cX 1 2 (nZ K)
def d5 (K : PySem.W.Frag) : DS :=
 (cb (j1 (ga K "ClosedSet") "set_kinds" (ax 0) (iI qC (aq (ax 1) aJ)))
 (j1 (ga K "ClosedSet") "forks" (ax 0) (Fm (bJ (cY DW (ax 2) (eC .non))) (eC .non) yE)))
def d4 (K : PySem.W.Frag) : DF := cX 3 3 (d5 K)
def dP (K : PySem.W.Frag) : DS :=
 (iR (nQ 0 (ga K "ClosedSet") (d4 K) (aq (ax 1) (aq (eC .non) aJ))))
def dO (K : PySem.W.Frag) : DF := cX 2 2 (dP K)
def dy (K : PySem.W.Frag) : DS :=
 (cb (uh (oH (ax 1)) (cg 2) (rP (i9 (bJ (e7 [] (g9 K) (aq (ax 2) aJ)))) (lu (ga K "BadName") ["name"] (aq (ax 2) aJ)) fy))
 (cb (rP (xJ (bJ (cY L9 (iI jz (aq (ax 1) aJ)) (jE (ga K "Table") "FEWEST" (.int 1) (ax 0)))) (pS (bJ (cY qD (jE (ga K "Table") "MOST" (.int 3) (ax 0)) (eC .non))) (bJ (cY Ma (iI jz (aq (ax 1) aJ)) (jE (ga K "Table") "MOST" (.int 3) (ax 0)))))) (jw (ga K "BadConstraint")) fy)
 (j1 (ga K "Table") "variables" (ax 0) (ax 1))))
def dq (K : PySem.W.Frag) : DF := cX 2 3 (dy K)
def gI (K : PySem.W.Frag) : DS :=
 (cb (fA (kg (ga K "Table") "__init__" [] (bI 1 (dq K)) (ax 0) (xj (ax 2) aJ)))
 (j1 (ga K "Table") "table_rows" (ax 0) (iI wh (aq (ax 1) aJ))))
def bh (K : PySem.W.Frag) : DF := cX 3 4 (gI K)
def gK (K : PySem.W.Frag) : DS :=
 (cb (uh (oH (ax 1)) (cg 2) (rP (i9 (bJ (e7 [] (g9 K) (aq (ax 2) aJ)))) (lu (ga K "BadName") ["name"] (aq (ax 2) aJ)) fy))
 (cb (rP (xJ (bJ (cY L9 (iI jz (aq (ax 1) aJ)) (jE (ga K "Equal") "FEWEST" (.int 2) (ax 0)))) (pS (bJ (cY qD (jE (ga K "Equal") "MOST" .non (ax 0)) (eC .non))) (bJ (cY Ma (iI jz (aq (ax 1) aJ)) (jE (ga K "Equal") "MOST" .non (ax 0)))))) (jw (ga K "BadConstraint")) fy)
 (j1 (ga K "Equal") "variables" (ax 0) (ax 1))))
def bw (K : PySem.W.Frag) : DF := cX 2 3 (gK K)
def cW (K : PySem.W.Frag) : DS :=
 (cb (uh (oH (ax 1)) (cg 2) (rP (i9 (bJ (e7 [] (g9 K) (aq (ax 2) aJ)))) (lu (ga K "BadName") ["name"] (aq (ax 2) aJ)) fy))
 (cb (rP (xJ (bJ (cY L9 (iI jz (aq (ax 1) aJ)) (jE (ga K "Member") "FEWEST" (.int 1) (ax 0)))) (pS (bJ (cY qD (jE (ga K "Member") "MOST" .non (ax 0)) (eC .non))) (bJ (cY Ma (iI jz (aq (ax 1) aJ)) (jE (ga K "Member") "MOST" .non (ax 0)))))) (jw (ga K "BadConstraint")) fy)
 (j1 (ga K "Member") "variables" (ax 0) (ax 1))))
def cU (K : PySem.W.Frag) : DF := cX 2 3 (cW K)
def gb (K : PySem.W.Frag) : DS :=
 (cb (fA (kg (ga K "Member") "__init__" [] (bI 1 (cU K)) (ax 0) (xj (ax 2) aJ)))
 (j1 (ga K "Member") "closed_rows" (ax 0) (ax 1)))
def b8 (K : PySem.W.Frag) : DF := cX 3 4 (gb K)
def dB (K : PySem.W.Frag) : DS :=
 (cb (uh (oH (ax 1)) (cg 2) (rP (i9 (bJ (e7 [] (g9 K) (aq (ax 2) aJ)))) (lu (ga K "BadName") ["name"] (aq (ax 2) aJ)) fy))
 (cb (rP (xJ (bJ (cY L9 (iI jz (aq (ax 1) aJ)) (jE (ga K "Fixed") "FEWEST" (.int 1) (ax 0)))) (pS (bJ (cY qD (jE (ga K "Fixed") "MOST" (.int 1) (ax 0)) (eC .non))) (bJ (cY Ma (iI jz (aq (ax 1) aJ)) (jE (ga K "Fixed") "MOST" (.int 1) (ax 0)))))) (jw (ga K "BadConstraint")) fy)
 (j1 (ga K "Fixed") "variables" (ax 0) (ax 1))))
def dw (K : PySem.W.Frag) : DF := cX 2 3 (dB K)
def gJ (K : PySem.W.Frag) : DS :=
 (cb (fA (kg (ga K "Fixed") "__init__" [] (bI 1 (dw K)) (ax 0) (aq (ax 1) aJ)))
 (j1 (ga K "Fixed") "only_value" (ax 0) (ax 2)))
def eD (K : PySem.W.Frag) : DF := cX 3 4 (gJ K)
def eE (K : PySem.W.Frag) (f : PySem.Addr) (D : M → Option (R W)) : DS :=
 (cb (hZ (fun C' => PySem.W.exmOne K (.ref C') (.ref (ga K "BadConstraint"))) (ga K "BadConstraint") 1 (hZ (fun C' => PySem.W.exmOne K (.ref C') (.ref (ga K "BadName"))) (ga K "BadName") 1 (fA (kX 0 f D)) (Fm (bJ (oX 1 K (ga K "BadName") (.type "ValueError"))) (dM (aq (eC (.str "BadName")) (aq (tD 1 "name") aJ))) (eC .non))) (Fm (bJ (oX 1 K (ga K "BadConstraint") (.type "ValueError"))) (dM (aq (eC (.str "BadConstraint")) aJ)) (eC .non)))
 (iR (eC .non)))
def bL (K : PySem.W.Frag) : PySem.Addr → (M → Option (R W)) → M → Option (R W) := AV 2 (eE K)
theorem fS {K : PySem.W.Frag} (f : PySem.Addr) (D : M → Option (R W)) (m : M) : bL K f D m = bL K 0 D m := by
 unfold bL AV eE
 exact Li (CP (CP Hk (fun _ _ _ _ => rfl)) (fun _ _ _ _ => rfl)) (fun _ _ _ _ => rfl)
def cV (K : PySem.W.Frag) : DS :=
 (vT 3 (iR (iI nE (aq (Ge (dM (yI (fun h => (cY N8 (iI sS (aq h aJ)) (iI sS (aq (dM (aq (eC (.str "BadName")) (aq (ax 1) aJ))) aJ)))) (bL K) [(bR (ga K "Table") [] (gN [0, 2, 1] 3 (bI 2 (bh K))) (aq (ax 1) (aq (dM aJ) aJ))), (bR (ga K "Table") [] (gN [0, 3, 1, 2] 4 (bI 2 (bh K))) (aq (ax 0) (aq (ax 1) (aq (dM aJ) aJ)))), (bR (ga K "Table") [] (gN [0, 4, 1, 2, 3] 5 (bI 2 (bh K))) (aq (ax 0) (aq (ax 0) (aq (ax 1) (aq (dM aJ) aJ))))), (bR (ga K "Table") [] (gN [0, 5, 1, 2, 3, 4] 6 (bI 2 (bh K))) (aq (ax 0) (aq (ax 0) (aq (ax 0) (aq (ax 1) (aq (dM aJ) aJ)))))), (bR (ga K "Table") [] (gN [0, 6, 1, 2, 3, 4, 5] 7 (bI 2 (bh K))) (aq (ax 1) (aq (eC .non) (aq (ax 0) (aq (ax 0) (aq (ax 0) (aq (dM aJ) aJ))))))), (bR (ga K "Fixed") [] (eD K) (aq (ax 1) (aq (eC (.int 0)) aJ))), (bR (ga K "Equal") [] (bI 1 (bw K)) (aq (ax 1) aJ)), (bR (ga K "Equal") [] (bI 1 (bw K)) (aq (ax 0) (aq (ax 1) aJ))), (bR (ga K "Equal") [] (bI 1 (bw K)) (aq (ax 1) (aq (ax 0) (aq (eC (.int 3)) aJ)))), (bR (ga K "Member") [] (gN [0, 2, 1] 3 (bI 2 (b8 K))) (aq (ax 1) (aq (ax 2) aJ))), (bR (ga K "Member") [] (gN [0, 5, 1, 2, 3, 4] 6 (bI 2 (b8 K))) (aq (ax 0) (aq (ax 0) (aq (ax 1) (aq (ax 0) (aq (ax 2) aJ))))))]))) aJ))))
def cS (K : PySem.W.Frag) : DF := cX 3 5 (cV K)
def nY (K : PySem.W.Frag) : DS :=
 (cb (jd (rn (ga K "ClosedSet") (bI 1 (dO K)) (eC (.ob (ga K "ClosedSet"))) aJ) (cg 1))
 (cb (uh (uM (aq (iI zC (aq (eC (.int 1)) (aq (iI zB (aq (eC (.int 3)) (aq (iI jz (aq (ax 0) aJ)) aJ))) aJ))) aJ)) (cg 2) (cb (jd (e7 [] (fZ K) (aq (ax 0) (aq (ax 2) aJ))) (cg 3))
 (cb (jd (ri (aq (e7 [] (iQ K) (aq (ax 3) aJ)) (aq (e7 [] (iQ K) (aq (ax 3) aJ)) aJ))) (Fu 2 (nS (cg 4) (nS (cg 5) Fp))))
 (cb (uh (oH (dM (aq (eC (.str "")) (aq (eC (.str "abcd")) (aq (eC (.str "A")) (aq (eC (.str "a1")) (aq (eC (.str "a b")) (aq (eC (.str " a")) (aq (eC .non) (aq (eC (.int 0)) (aq (eC (.bl true)) (aq (ri (aq (eC (.str "a")) aJ)) (aq (dM (aq (eC (.str "a")) aJ)) (aq (eC (.str "aB")) (aq (eC (.str "abcdefgh")) (aq (eC (.str "1")) (aq (eC (.str "-")) (aq (eC (.str "_")) aJ)))))))))))))))))) (cg 6) (rP (i9 (bJ (e7 [] (cS K) (aq (ax 4) (aq (ax 6) (aq (ax 1) aJ)))))) (iR (eC (.bl false))) fy))
 (cb (jd (dM (aq (eC (.str "BadConstraint")) aJ)) (cg 7))
 (cb (vT 8 (rP (i9 (bJ (iI nE (aq (Ge (dM (yI (fun h => (cY N8 h (ax 7))) (bL K) [(bR (ga K "Table") [] (gN [0, 1] 2 (bI 2 (bh K))) (aq (dM aJ) aJ)), (bR (ga K "Table") [] (gN [0, 5, 1, 2, 3, 4] 6 (bI 2 (bh K))) (aq (ax 4) (aq (ax 5) (aq (ax 4) (aq (ax 5) (aq (dM aJ) aJ)))))), (bR (ga K "Equal") [] (bI 1 (bw K)) aJ), (bR (ga K "Equal") [] (bI 1 (bw K)) (aq (ax 4) aJ)), (bR (ga K "Member") [] (gN [0, 1] 2 (bI 2 (b8 K))) (aq (ax 1) aJ))]))) aJ)))) (iR (eC (.bl false))) fy))
 (vT 8 (rP (i9 (bJ (iI nE (aq (Ge (dM (yI (fun h => (cY DW h (eC .non))) (bL K) [(bR (ga K "Table") [] (gN [0, 4, 1, 2, 3] 5 (bI 2 (bh K))) (aq (ax 4) (aq (ax 5) (aq (ax 4) (aq (dM aJ) aJ))))), (bR (ga K "Equal") [] (bI 1 (bw K)) (aq (ax 4) (aq (ax 4) aJ))), (bR (ga K "Fixed") [] (eD K) (aq (ax 5) (aq (eC (.int 0)) aJ))), (bR (ga K "Equal") [] (bI 1 (bw K)) (aq (ax 4) (aq (ax 5) (aq (ax 4) (aq (ax 5) (aq (ax 4) aJ)))))), (bR (ga K "Member") [] (gN [0, 6, 1, 2, 3, 4, 5] 7 (bI 2 (b8 K))) (aq (ax 4) (aq (ax 4) (aq (ax 5) (aq (ax 4) (aq (ax 5) (aq (ax 1) aJ)))))))]))) aJ)))) (iR (eC (.bl false))) fy))))))))
 (iR (eC (.bl true)))))
def D_law_k62 (K : PySem.W.Frag) : DF := cX 1 10 (nY K)
end KD
end
section
namespace K62
open PySem L2 SB
open He (ga ma)
variable [Tabs][Past]
abbrev gW : Stmt := inClass (top 41) 1
abbrev gj : Stmt := inClass (top 44) 0
abbrev gX : Stmt := inClass (top 42) 1
structure Tx (K : PySem.W.Frag) (mg : Str → Option Value) : Prop where
 y00 : Fr mg "ValueError"
 y01 : Fr mg "abs"
 y02 : Fr mg "all"
 y03 : Fr mg "int"
 y04 : Fr mg "isinstance"
 y05 : Fr mg "len"
 y06 : Fr mg "list"
 y07 : Fr mg "max"
 y08 : Fr mg "min"
 y09 : Fr mg "range"
 y0a : Fr mg "repr"
 y0b : Fr mg "str"
 y0c : Fr mg "super"
 y0d : Fr mg "tuple"
 y0e : Gb K mg "BadConstraint"
 y0f : Gb K mg "BadName"
 y0g : Gb K mg "ClosedSet"
 y0h : Gb K mg "Equal"
 y0i : Gb K mg "Fixed"
 y0j : ∃ t, mg "LETTERS" = ξ (.str "abcdefghijklmnopqrstuvwxyz" t)
 y0k : ∃ t, mg "MOST_LETTERS" = ξ (.int 3 t)
 y0l : Gb K mg "Member"
 y0m : Gb K mg "Table"
 y0n : Gb K mg "_law_bad_names_right"
 y0o : Gb K mg "_law_choice"
 y0p : Gb K mg "_law_draw"
 y0q : Gb K mg "_law_error"
 y0r : Gb K mg "_law_name"
 y0s : Gb K mg "_law_source"
 y0t : Gb K mg "is_name"
 y0u : Cls K (ga K "ClosedSet")
 y0v : Cls K (ga K "Equal")
 y0w : Cls K (ga K "Fixed")
 y0x : Cls K (ga K "Member")
 y0y : Cls K (ga K "Table")
 y0z : oC K "ClosedSet" = true
 y10 : oC K "Equal" = true
 y11 : oC K "Fixed" = true
 y12 : oC K "Member" = true
 y13 : oC K "Table" = true
 y14 : Na K "ClosedSet" "forks"
 y15 : Na K "ClosedSet" "set_kinds"
 y16 : Na K "Equal" "variables"
 y17 : Na K "Fixed" "only_value"
 y18 : Na K "Fixed" "variables"
 y19 : Na K "Member" "closed_rows"
 y1a : Na K "Member" "variables"
 y1b : Na K "Table" "table_rows"
 y1c : Na K "Table" "variables"
 y1d : Mi K "ClosedSet"
 y1e : Mi K "Equal"
 y1f : Mi K "Fixed"
 y1g : Mi K "Member"
 y1h : Mi K "Table"
 y1i : ∃ u, Con K (ga K "Equal") "FEWEST" (.int 2) u
 y1j : ∃ u, Con K (ga K "Equal") "MOST" .non u
 y1k : ∃ u, Con K (ga K "Fixed") "FEWEST" (.int 1) u
 y1l : ∃ u, Con K (ga K "Fixed") "MOST" (.int 1) u
 y1m : ∃ u, Con K (ga K "Member") "FEWEST" (.int 1) u
 y1n : ∃ u, Con K (ga K "Member") "MOST" .non u
 y1o : ∃ u, Con K (ga K "Table") "FEWEST" (.int 1) u
 y1p : ∃ u, Con K (ga K "Table") "MOST" (.int 3) u
 y1q : supB K (ma K (ga K "Table") "__init__") (ga K "Table") "/claim/cut.py" = true
 y1r : supB K (ma K (ga K "Member") "__init__") (ga K "Member") "/claim/cut.py" = true
 y1s : supB K (ma K (ga K "Fixed") "__init__") (ga K "Fixed") "/claim/cut.py" = true
 y1t : SupI K (ga K "Fixed") (ga K "Fixed") (ma K (ga K "Constraint") "__init__")
 y1u : SupI K (ga K "Member") (ga K "Member") (ma K (ga K "Constraint") "__init__")
 y1v : SupI K (ga K "Table") (ga K "Table") (ma K (ga K "Constraint") "__init__")
 y1w : ClX.CRead K (ga K "ClosedSet") (.type "type")
 y1x : ClX.CMet K (ga K "ClosedSet") (.type "type") "empty" (ma K (ga K "ClosedSet") "empty") (He5.wf K (ga K "ClosedSet") "classmethod" "empty")
 y1y : PySem.W.excIn K (ga K "BadConstraint") He.veBase "ValueError.__new__" = true ∧ PySem.W.keepIn K (.ref (ga K "BadConstraint")) = true ∧ PySem.W.subIn K (.ref (ga K "BadConstraint")) (.type "BaseException") = ξ true ∧ PySem.W.typeIn K (.ref (ga K "BadConstraint")) = ξ (.type "type")
 y1z : OexC K (ga K "BadName")
 y20 : Ini K (ga K "BadName") (ma K (ga K "BadName") "__init__") ["name"]
 y21 : ExcC K (ga K "BadConstraint")
 y22 : ExcC K (ga K "BadName")
 y23 : PySem.W.findIn K (.ref (ga K "BadName")) "name" = ξ ζ
 enn : PySem.W.exmOne K (.ref (ga K "BadName")) (.ref (ga K "BadName")) = ξ true
 ecn : PySem.W.exmOne K (.ref (ga K "BadConstraint")) (.ref (ga K "BadName")) = ξ false
 ecc : PySem.W.exmOne K (.ref (ga K "BadConstraint")) (.ref (ga K "BadConstraint")) = ξ true
 knv : PySem.W.kitOne K (.ref (ga K "BadName")) (.type "ValueError") = ξ true
 kcv : PySem.W.kitOne K (.ref (ga K "BadConstraint")) (.type "ValueError") = ξ true
 ap : apartB K tf = true
theorem MY {K : PySem.W.Frag} {h : Heap} {mg : Str → Option Value} (X : K.In h) (G : h.Ns mainGlobals mg) (c : Oi K = true) : Tx K mg := by
 unfold Oi at c
 simp only [Bool.and_eq_true] at c
 obtain ⟨c0, c1, c2, c3, c4, c5, c6, c7, c8, c9, c10, c11, c12, c13, c14, c15, c16, c17, c18, c19, c20, c21, c22, c23, c24, c25, c26, c27, c28, c29, c30, c31, c32, c33, c34, c35, c36, c37, c38, c39, c40, c41, c42, c43, c44, c45, c46, c47, c48, c49, c50, c51, c52, c53, c54, c55, c56, c57, c58, c59, c60, c61, c62, c63, c64, c65, c66, c67, c68, c69, c70, c71, c72, c73, c74, c75, c76, c77, c78, c79, c80, c81⟩ := c
 exact ⟨He.free_ok X G c0, He.free_ok X G c1, He.free_ok X G c2, He.free_ok X G c3, He.free_ok X G c4, He.free_ok X G c5, He.free_ok X G c6, He.free_ok X G c7, He.free_ok X G c8, He.free_ok X G c9, He.free_ok X G c10, He.free_ok X G c11, He.free_ok X G c12, He.free_ok X G c13, He.glo_ok X G c14, He.glo_ok X G c15, He.glo_ok X G c16, He.glo_ok X G c17, He.glo_ok X G c18, He.str_ok X G c19, He.int_ok X G c20, He.glo_ok X G c21, He.glo_ok X G c22, He.glo_ok X G c23, He.glo_ok X G c24, He.glo_ok X G c25, He.glo_ok X G c26, He.glo_ok X G c27, He.glo_ok X G c28, He.glo_ok X G c29, (kH c30).1, (kH c31).1, (kH c32).1, (kH c33).1, (kH c34).1, c35, c36, c37, c38, c39, He.noat_ok c40, He.noat_ok c41, He.noat_ok c42, He.noat_ok c43, He.noat_ok c44, He.noat_ok c45, He.noat_ok c46, He.noat_ok c47, He.noat_ok c48, He.mkr_ok c49, He.mkr_ok c50, He.mkr_ok c51, He.mkr_ok c52, He.mkr_ok c53, jh c54, xf c55, jh c56, jh c57, jh c58, xf c59, jh c60, jh c61, c62, c63, c64, pU c65, pU c66, pU c67, BP c68, M8 c69, He.exc_ok c70, HY c71, IL c72, w6 c73, w6 c74, of_decide_eq_true c75, of_decide_eq_true c76, of_decide_eq_true c77, of_decide_eq_true c78, of_decide_eq_true c79, of_decide_eq_true c80, c81⟩
end K62
end
section
namespace K62
open PySem L2 SB KD
open He (ga ma)
variable [Tabs][Past]
abbrev mW : List Str := ["self", "rows", "names", "__class__"]
theorem rN : NdefX.NScope mW ["self", "rows", "names"] ["__class__"] (defScope gW) := NdefX.nscope_by (by decide +kernel)
abbrev k9 : List Str := ["self", "closed", "names", "__class__"]
theorem pZ : NdefX.NScope k9 ["self", "closed", "names"] ["__class__"] (defScope gj) := NdefX.nscope_by (by decide +kernel)
abbrev mX : List Str := ["self", "name", "value", "__class__"]
theorem rO : NdefX.NScope mX ["self", "name", "value"] ["__class__"] (defScope gX) := NdefX.nscope_by (by decide +kernel)
section
section
variable (P: Program)(w: World)(K: PySem.W.Frag)(mg: Str → Option Value)(base: Heap)
abbrev iA : Prop := FnX P w K mg base (ga K "BadName") ["name"]
abbrev jn : Prop := Fn P w K mg base 1 (ma K (ga K "ClosedSet") "__init__") ["self", "set_kinds", "forks"] (d4 K)
abbrev mV : Prop := FnP P w K mg base 3 (He5.wf K (ga K "ClosedSet") "classmethod" "empty") (bI 1 (dO K))
abbrev jm : Prop := Fn P w K mg base 1 (ga K "is_name") ["thing"] (g9 K)
abbrev iu : Prop := FnP P w K mg base 3 (ma K (ga K "Constraint") "__init__") (bI 1 (dq K))
abbrev mR : Prop := FnV P w K mg base 5 (ma K (ga K "Table") "__init__") ["rows"] (vG 1 1 (bh K))
abbrev mU : Prop := FnP P w K mg base 3 (ma K (ga K "Equal") "__init__") (bI 1 (bw K))
abbrev gR : Prop := FnP P w K mg base 3 (ma K (ga K "Constraint") "__init__") (bI 1 (cU K))
abbrev k8 : Prop := FnV P w K mg base 5 (ma K (ga K "Member") "__init__") ["closed"] (vG 1 1 (b8 K))
abbrev iw : Prop := FnP P w K mg base 3 (ma K (ga K "Constraint") "__init__") (bI 1 (dw K))
abbrev mS : Prop := Fn P w K mg base 5 (ma K (ga K "Fixed") "__init__") ["self", "name", "value"] (eD K)
abbrev mQ : Prop := FW P w K mg base 7 8 (ga K "_law_error") (bL K)
abbrev jK : Prop := Fn P w K mg base 9 (ga K "_law_bad_names_right") ["_law_one", "_law_odd", "_law_bare"] (cS K)
abbrev kj : Prop := Fn P w K mg base 1 (ga K "_law_draw") ["_law_source_here", "_law_often"] (fm K)
abbrev k7 : Prop := Fn P w K mg base 2 (ga K "_law_choice") ["_law_source_here", "_law_some"] (f6 K)
abbrev xm : Prop := Fn P w K mg base 3 (ga K "_law_name") ["_law_source_here"] (iQ K)
abbrev sf : Prop := Fn P w K mg base 1 (ga K "_law_source") ["_law_script", "_law_place"] (fZ K)
end
variable (P: Program)(w: World){K: PySem.W.Frag}{mg: Str → Option Value}(base: Heap)
theorem wd (T : Tx K mg) {fd : FuncData} (F : FD K ie fd) : iA P w K mg base :=
 MR (N := ["self", "name"]) (ps := ["self", "name"]) T.y1z T.y20 F (hW (by decide +kernel)) rfl rfl (by decide) (fun _ _ _ _ _ _ us hl => match us, hl with | [_, _], _ => rfl) (fun X hK hN hS => (pss_cons (HI 1 hK hN hS) pss_nil))
theorem my (T : Tx K mg) {fd : FuncData} (F : FD K fU fd) : jn P w K mg base :=
 tq (N := ["self", "set_kinds", "forks"]) (b := d5 K) F (hW (by decide +kernel)) (fun _ _ _ _ _ _ us hl => match us, hl with | [_, _, _], _ => rfl) (fun _ _ _ _ _ _ C =>
  (bo (jv T.y0u T.y15 (aj 0) (CW call_tuple_of Bp T.y0d (ai (aj 1) aB)))
  (bg (jv T.y0u T.y14 (aj 0) (C5 (eF op_isN zR (aj 2) hU) hU C3)))))
theorem lB (T : Tx K mg) {fd : FuncData} (F : FD K d_ClosedSet_empty fd) (F0 : jn P w K mg base) : mV P w K mg base :=
 qY (ps := ["cls"]) (N := ["cls", "kinds"]) (b := dP K) F (hW (by decide +kernel)) (fun kV doc pm an cdv ct => StX.bind_star1 (B := fun us => bindArgs (PySem.W.fnOf d_ClosedSet_empty.name d_ClosedSet_empty.qual d_ClosedSet_empty.params d_ClosedSet_empty.body d_ClosedSet_empty.scope .none kV doc pm an cdv ct) ⟨us, []⟩) (fun _ => rfl) (fun _ _ _ => rfl)) (fun _ _ _ _ _ _ C =>
  (bg (fM (CM C T.y1d F0 0 (ai (aj 1) (ai hU aB))))))
theorem yc (T : Tx K mg) {fd : FuncData} (F : FD K nT fd) : jm P w K mg base :=
 tq (N := ["thing", "sign"]) (b := nZ K) F (hW (by decide +kernel)) (fun _ _ _ _ _ _ us hl => match us, hl with | [_], _ => rfl) (fun _ _ _ _ _ _ C =>
  (bg (fM (Dc (jb call_isi IT T.y04 (ai (aj 0) (ai (Pp T.y0b) aB))) (Dc (C7 op_le op_le EC EC aS (jb call_len ek T.y05 (ai (aj 0) aB)) (Ho T.y0k)) (Lz (jb (cr_all C.calm) zS T.y02 (ai (J9 (own := [("sign", 1)]) (sl := [1]) C.calm C.nd (Lv (aj 0)) (blkOk_by (by kernel_rfl)) (fun _ _ _ _ _ => (dR (i := 1) (C.blk).nd)) (fun _ _ _ _ _ => ue) (fun _ _ _ _ _ => (pY op_in_sign EF (aj 1) (Hn T.y0j)))) aB))))))))
theorem kJ (T : Tx K mg) {fd : FuncData} (F : FD K d_Table_super_init fd) (E0 : iA P w K mg base) (F2 : jm P w K mg base) : iu P w K mg base :=
 qY (ps := ["self"]) (N := ["self", "names", "name"]) (b := dy K) F (hW (by decide +kernel)) (fun kV doc pm an cdv ct => StX.bind_star1 (B := fun us => bindArgs (PySem.W.fnOf d_Table_super_init.name d_Table_super_init.qual d_Table_super_init.params d_Table_super_init.body d_Table_super_init.scope .none kV doc pm an cdv ct) ⟨us, []⟩) (fun _ => rfl) (fun _ _ _ => rfl)) (fun _ _ _ _ _ _ C =>
  (bo (nr C (pX (aj 1)) (dR (i := 2) C.nd) (bg (jN (nq (nk (eU C F2 T.y0t (ai (aj 2) aB)))) (bg (mj C E0 T.y0f (ai (aj 2) aB))) fN)))
  (bo (jN (vH (y3 (eF op_lt qS (jb call_len ek T.y05 (ai (aj 1) aB)) (j0 T.y0y T.y1o (aj 0))) (t9 (vH (ud (eF op_notN mB (j0 T.y0y T.y1p (aj 0)) hU) (pA (eF op_gt qT (jb call_len ek T.y05 (ai (aj 1) aB)) (j0 T.y0y T.y1p (aj 0))))))))) (bg (kB C T.y1y T.y0e)) fN)
  (bg (jv T.y0y T.y1c (aj 0) (aj 1))))))
theorem rS (T : Tx K mg) (Fc : FunC K "__init__" "Table.__init__" (defArgs gW) (defBody gW) (defScope gW) (ma K (ga K "Table") "__init__") (Gg K (ma K (ga K "Table") "__init__")) (JF K (ma K (ga K "Table") "__init__"))) (hP : SupP P) (F3 : iu P w K mg base) : mR P w K mg base :=
 E5 (ps := ["self"]) (ks := ["rows"]) (pv := "names") (N := mW) (b := gI K) (fst := "self") Fc (ku T.y1q hP.file hP.top) rN T.y0c rfl (fun _ _ _ _ _ us rest ws h1 h2 => match us, rest, ws, h1, h2 with | [_], [], [_], _, _ => rfl | [_], _ :: _, [_], _, _ => rfl) (fun _ _ _ _ _ C SX =>
  (vI C Fc (ku T.y1q hP.file hP.top) SX T.y1v T.y0y F3 (zu (aj 2))
  (bg (jv T.y0y T.y1b (aj 0) (CW call_list_of EB T.y06 (ai (aj 1) aB)))) ⟨_, rfl, rfl⟩))
theorem rV (T : Tx K mg) {fd : FuncData} (F : FD K d_Equal_init fd) (E0 : iA P w K mg base) (F2 : jm P w K mg base) : mU P w K mg base :=
 qY (ps := ["self"]) (N := ["self", "names", "name"]) (b := gK K) F (hW (by decide +kernel)) (fun kV doc pm an cdv ct => StX.bind_star1 (B := fun us => bindArgs (PySem.W.fnOf d_Equal_init.name d_Equal_init.qual d_Equal_init.params d_Equal_init.body d_Equal_init.scope .none kV doc pm an cdv ct) ⟨us, []⟩) (fun _ => rfl) (fun _ _ _ => rfl)) (fun _ _ _ _ _ _ C =>
  (bo (nr C (pX (aj 1)) (dR (i := 2) C.nd) (bg (jN (nq (nk (eU C F2 T.y0t (ai (aj 2) aB)))) (bg (mj C E0 T.y0f (ai (aj 2) aB))) fN)))
  (bo (jN (vH (y3 (eF op_lt qS (jb call_len ek T.y05 (ai (aj 1) aB)) (j0 T.y0v T.y1i (aj 0))) (t9 (vH (ud (eF op_notN mB (pB T.y0v T.y1j (aj 0)) hU) (pA (eF op_gt qT (jb call_len ek T.y05 (ai (aj 1) aB)) (pB T.y0v T.y1j (aj 0))))))))) (bg (kB C T.y1y T.y0e)) fN)
  (bg (jv T.y0v T.y16 (aj 0) (aj 1))))))
theorem j6 (T : Tx K mg) {fd : FuncData} (F : FD K d_Member_super_init fd) (E0 : iA P w K mg base) (F2 : jm P w K mg base) : gR P w K mg base :=
 qY (ps := ["self"]) (N := ["self", "names", "name"]) (b := cW K) F (hW (by decide +kernel)) (fun kV doc pm an cdv ct => StX.bind_star1 (B := fun us => bindArgs (PySem.W.fnOf d_Member_super_init.name d_Member_super_init.qual d_Member_super_init.params d_Member_super_init.body d_Member_super_init.scope .none kV doc pm an cdv ct) ⟨us, []⟩) (fun _ => rfl) (fun _ _ _ => rfl)) (fun _ _ _ _ _ _ C =>
  (bo (nr C (pX (aj 1)) (dR (i := 2) C.nd) (bg (jN (nq (nk (eU C F2 T.y0t (ai (aj 2) aB)))) (bg (mj C E0 T.y0f (ai (aj 2) aB))) fN)))
  (bo (jN (vH (y3 (eF op_lt qS (jb call_len ek T.y05 (ai (aj 1) aB)) (j0 T.y0x T.y1m (aj 0))) (t9 (vH (ud (eF op_notN mB (pB T.y0x T.y1n (aj 0)) hU) (pA (eF op_gt qT (jb call_len ek T.y05 (ai (aj 1) aB)) (pB T.y0x T.y1n (aj 0))))))))) (bg (kB C T.y1y T.y0e)) fN)
  (bg (jv T.y0x T.y1a (aj 0) (aj 1))))))
theorem qB (T : Tx K mg) (Fc : FunC K "__init__" "Member.__init__" (defArgs gj) (defBody gj) (defScope gj) (ma K (ga K "Member") "__init__") (Gg K (ma K (ga K "Member") "__init__")) (JF K (ma K (ga K "Member") "__init__"))) (hP : SupP P) (F6 : gR P w K mg base) : k8 P w K mg base :=
 E5 (ps := ["self"]) (ks := ["closed"]) (pv := "names") (N := k9) (b := gb K) (fst := "self") Fc (ku T.y1r hP.file hP.top) pZ T.y0c rfl (fun _ _ _ _ _ us rest ws h1 h2 => match us, rest, ws, h1, h2 with | [_], [], [_], _, _ => rfl | [_], _ :: _, [_], _, _ => rfl) (fun _ _ _ _ _ C SX =>
  (vI C Fc (ku T.y1r hP.file hP.top) SX T.y1u T.y0x F6 (zu (aj 2))
  (bg (jv T.y0x T.y19 (aj 0) (aj 1))) ⟨_, rfl, rfl⟩))
theorem kK (T : Tx K mg) {fd : FuncData} (F : FD K d_Fixed_super_init fd) (E0 : iA P w K mg base) (F2 : jm P w K mg base) : iw P w K mg base :=
 qY (ps := ["self"]) (N := ["self", "names", "name"]) (b := dB K) F (hW (by decide +kernel)) (fun kV doc pm an cdv ct => StX.bind_star1 (B := fun us => bindArgs (PySem.W.fnOf d_Fixed_super_init.name d_Fixed_super_init.qual d_Fixed_super_init.params d_Fixed_super_init.body d_Fixed_super_init.scope .none kV doc pm an cdv ct) ⟨us, []⟩) (fun _ => rfl) (fun _ _ _ => rfl)) (fun _ _ _ _ _ _ C =>
  (bo (nr C (pX (aj 1)) (dR (i := 2) C.nd) (bg (jN (nq (nk (eU C F2 T.y0t (ai (aj 2) aB)))) (bg (mj C E0 T.y0f (ai (aj 2) aB))) fN)))
  (bo (jN (vH (y3 (eF op_lt qS (jb call_len ek T.y05 (ai (aj 1) aB)) (j0 T.y0w T.y1k (aj 0))) (t9 (vH (ud (eF op_notN mB (j0 T.y0w T.y1l (aj 0)) hU) (pA (eF op_gt qT (jb call_len ek T.y05 (ai (aj 1) aB)) (j0 T.y0w T.y1l (aj 0))))))))) (bg (kB C T.y1y T.y0e)) fN)
  (bg (jv T.y0w T.y18 (aj 0) (aj 1))))))
theorem rT (T : Tx K mg) (Fc : FunC K "__init__" "Fixed.__init__" (defArgs gX) (defBody gX) (defScope gX) (ma K (ga K "Fixed") "__init__") (Gg K (ma K (ga K "Fixed") "__init__")) (JF K (ma K (ga K "Fixed") "__init__"))) (hP : SupP P) (F8 : iw P w K mg base) : mS P w K mg base :=
 Fd (N := mX) (b := gJ K) (fst := "self") Fc (ku T.y1s hP.file hP.top) rO T.y0c rfl (fun _ _ _ _ _ us hl => match us, hl with | [_, _, _], _ => rfl) (fun _ _ _ _ _ C SX =>
  (Hj C Fc (ku T.y1s hP.file hP.top) SX T.y1t T.y0w F8 (DB (ai (aj 1) aB))
  (bg (jv T.y0w T.y17 (aj 0) (aj 2))) ⟨_, rfl, rfl⟩))
theorem rR (T : Tx K mg) {fd : FuncData} (F : FD K jF fd) : mQ P w K mg base :=
 Iy (N := ["_law_call", "e"]) (b := eE K) F (hW (by decide +kernel)) (fun _ _ _ _ _ _ us hl => match us, hl with | [_], _ => rfl) (fun _ _ _ _ _ _ _ f D C hd =>
  (bo (Hc (F := fun db => (hZ (fun C' => PySem.W.exmOne K (.ref C') (.ref (ga K "BadConstraint"))) (ga K "BadConstraint") 1 (hZ (fun C' => PySem.W.exmOne K (.ref C') (.ref (ga K "BadName"))) (ga K "BadName") 1 db (Fm (bJ (oX 1 K (ga K "BadName") (.type "ValueError"))) (dM (aq (eC (.str "BadName")) (aq (tD 1 "name") aJ))) (eC .non))) (Fm (bJ (oX 1 K (ga K "BadConstraint") (.type "ValueError"))) (dM (aq (eC (.str "BadConstraint")) aJ)) (eC .non)))) C rfl rfl (fun _ _ _ CT => (bg (Hi (hd _ _ _ _ _ 0 _ _ _ _ _ _ _ rfl (Or.inl rfl) (by decide) (by decide) (CT.rg (by decide)) CT.tk)))) (J6 (F := fun db => (hZ (fun C' => PySem.W.exmOne K (.ref C') (.ref (ga K "BadConstraint"))) (ga K "BadConstraint") 1 db (Fm (bJ (oX 1 K (ga K "BadConstraint") (.type "ValueError"))) (dM (aq (eC (.str "BadConstraint")) aJ)) (eC .non)))) (i := 1) rfl rfl ⟨rfl, rfl, .inl T.y0f⟩ (fun _ _ _ _ hz hf => (yS (x_test (J3 T.y22 hz hf rfl T.y04 (pe_var rfl (Or.inl rfl)) (pe_bltn (v := .ty "ValueError") rfl T.y00 rfl rfl) (fun _ h => h))) (x_lst (xB (Q6 pe_str (fun _ _ => rfl)) (xB (Oz (QG T.y22) T.y23 rfl hz hf rfl (Or.inl rfl) rfl rfl) J2))) (Q6 pe_non (fun _ _ => rfl)))) (J6 (F := fun db => db) (i := 1) rfl rfl ⟨rfl, rfl, .inl T.y0e⟩ (fun _ _ _ _ hz hf => (yS (x_test (J3 T.y21 hz hf rfl T.y04 (pe_var rfl (Or.inl rfl)) (pe_bltn (v := .ty "ValueError") rfl T.y00 rfl rfl) (fun _ h => h))) (x_lst (xB (Q6 pe_str (fun _ _ => rfl)) J2)) (Q6 pe_non (fun _ _ => rfl)))) K')))
  (bg (fM hU))))
theorem jf [Reprs] (T : Tx K mg) {fd : FuncData} (F : FD K cQ fd) (F4 : mR P w K mg base) (F9 : mS P w K mg base) (F5 : mU P w K mg base) (F7 : k8 P w K mg base) (F10 : mQ P w K mg base) (LA : LamAt K base mg (mT K bp).1 (mT K bp).2 ("_law_bad_names_right" ++ ".<locals>." ++ "<lambda>" : Str)) : jK P w K mg base :=
  MT (N := ["_law_one", "_law_odd", "_law_bare", "_law_calls", "_law_call"]) (b := cV K) (q := bp) F (hW (by decide +kernel)) (fun _ _ _ _ _ _ us hl => match us, hl with | [_, _, _], _ => rfl) (fun _ _ _ _ _ _ hC C =>
    (xV LA hC (by kernel_rfl) C
    (dh LA hC (by kernel_rfl) C
    (dh LA hC (by kernel_rfl) C
    (dh LA hC (by kernel_rfl) C
    (dh LA hC (by kernel_rfl) C
    (dh LA hC (by kernel_rfl) C
    (dh LA hC (by kernel_rfl) C
    (dh LA hC (by kernel_rfl) C
    (dh LA hC (by kernel_rfl) C
    (dh LA hC (by kernel_rfl) C
    (dh LA hC (by kernel_rfl) C
    (zb (Lj (i := 3) (iy := 4) (LamsB.cons (by kernel_rfl) (by intros; rfl) (fun _ _ _ _ _ _ _ CL => (d7 CL T.y1h [(ax 1)] (F4.fw (n := 2) [0, 2, 1] (fun ws h m => match ws, h with | [_, _, _], _ => rfl)) T.y0m (ai (aj 1) aB) (eh (fO aB) gE)))
      (LamsB.cons (by kernel_rfl) (by intros; rfl) (fun _ _ _ _ _ _ _ CL => (d7 CL T.y1h [(ax 0), (ax 1)] (F4.fw (n := 3) [0, 3, 1, 2] (fun ws h m => match ws, h with | [_, _, _, _], _ => rfl)) T.y0m (ai (aj 0) (ai (aj 1) aB)) (eh (fO aB) gE)))
      (LamsB.cons (by kernel_rfl) (by intros; rfl) (fun _ _ _ _ _ _ _ CL => (d7 CL T.y1h [(ax 0), (ax 0), (ax 1)] (F4.fw (n := 4) [0, 4, 1, 2, 3] (fun ws h m => match ws, h with | [_, _, _, _, _], _ => rfl)) T.y0m (ai (aj 0) (ai (aj 0) (ai (aj 1) aB))) (eh (fO aB) gE)))
      (LamsB.cons (by kernel_rfl) (by intros; rfl) (fun _ _ _ _ _ _ _ CL => (d7 CL T.y1h [(ax 0), (ax 0), (ax 0), (ax 1)] (F4.fw (n := 5) [0, 5, 1, 2, 3, 4] (fun ws h m => match ws, h with | [_, _, _, _, _, _], _ => rfl)) T.y0m (ai (aj 0) (ai (aj 0) (ai (aj 0) (ai (aj 1) aB)))) (eh (fO aB) gE)))
      (LamsB.cons (by kernel_rfl) (by intros; rfl) (fun _ _ _ _ _ _ _ CL => (d7 CL T.y1h [(ax 1), (eC .non), (ax 0), (ax 0), (ax 0)] (F4.fw (n := 6) [0, 6, 1, 2, 3, 4, 5] (fun ws h m => match ws, h with | [_, _, _, _, _, _, _], _ => rfl)) T.y0m (ai (aj 1) (ai hU (ai (aj 0) (ai (aj 0) (ai (aj 0) aB))))) (eh (fO aB) gE)))
      (LamsB.cons (by kernel_rfl) (by intros; rfl) (fun _ _ _ _ _ _ _ CL => (zc CL T.y1f F9 T.y0i (ai (aj 1) (ai aS aB))))
      (LamsB.cons (by kernel_rfl) (by intros; rfl) (fun _ _ _ _ _ _ _ CL => (kA CL T.y1e F5 T.y0h (ai (aj 1) aB)))
      (LamsB.cons (by kernel_rfl) (by intros; rfl) (fun _ _ _ _ _ _ _ CL => (kA CL T.y1e F5 T.y0h (ai (aj 0) (ai (aj 1) aB))))
      (LamsB.cons (by kernel_rfl) (by intros; rfl) (fun _ _ _ _ _ _ _ CL => (kA CL T.y1e F5 T.y0h (ai (aj 1) (ai (aj 0) (ai aS aB)))))
      (LamsB.cons (by kernel_rfl) (by intros; rfl) (fun _ _ _ _ _ _ _ CL => (d7 CL T.y1g [(ax 1)] (F7.fw (n := 2) [0, 2, 1] (fun ws h m => match ws, h with | [_, _, _], _ => rfl)) T.y0l (ai (aj 1) aB) (eh (aj 2) gE)))
      (LamsB.cons (by kernel_rfl) (by intros; rfl) (fun _ _ _ _ _ _ _ CL => (d7 CL T.y1g [(ax 0), (ax 0), (ax 1), (ax 0)] (F7.fw (n := 5) [0, 5, 1, 2, 3, 4] (fun ws h m => match ws, h with | [_, _, _, _, _, _], _ => rfl)) T.y0l (ai (aj 0) (ai (aj 0) (ai (aj 1) (ai (aj 0) aB)))) (eh (aj 2) gE)))
      LamsB.nil))))))))))) C F10 fS T.y0q T.y02 (fun pa _ _ _ _ _ h hh => by letI : Past := pa; exact (pY (op_eqD (C.blk).room.units) EG (jb (tJ ((C.blk).rg (Nat.le_refl _))) wK T.y0a (ai hh aB)) (jb (tJ ((C.blk).rg (Nat.le_refl _))) wK T.y0a (ai (fO (ai dI (ai (aj 1) aB))) aB)))) (fun h h' env w w' m e => by simp only [cY, iI, dM, ri, aq, aJ, eC, mD (show (3 : Nat) ≠ 1 by decide), mD (show (4 : Nat) ≠ 1 by decide), e]) (blkOk_by (by kernel_rfl)) (fun _ _ _ _ _ => rfl) (fun _ _ _ _ _ => Or.inl rfl) (fun pa _ _ _ _ _ => by letI : Past := pa; exact dR (i := 4) (C.blk).nd)))))))))))))))
theorem uo (T : Tx K mg) {fd : FuncData} (F : FD K ki fd) : kj P w K mg base :=
 tq (N := ["_law_source_here", "_law_often", "_law_primes", "_law_turn", "_law_base", "_law_found", "_law_digit"]) (b := iB K) F (hW (by decide +kernel)) (fun _ _ _ _ _ _ us hl => match us, hl with | [_, _], _ => rfl) (fun _ _ _ _ _ _ C =>
  (bo (jN (eF op_gt qT (kP g6 jB (aj 0) aS) aS) (bo (hO (i := 6) C.nd (b9 op_mod jA (kP g6 jB (aj 0) aS) (aj 1)))
  (bo (xQ (b9 op_fdiv uL (kP g6 jB (aj 0) aS) (aj 1)) (CV C (aj 0) aS set_list wJ))
  (bg (fM (aj 6))))) fN)
  (bo (hO (i := 2) C.nd (xX (ai aS (ai aS (ai aS (ai aS (ai aS (ai aS (ai aS (ai aS aB))))))))))
  (bo (xQ (b9 gp d9 (kP g6 jB (aj 0) aS) aS) (CV C (aj 0) aS set_list wJ))
  (bo (hO (i := 3) C.nd (kP g6 jB (aj 0) aS))
  (bo (hO (i := 4) C.nd (b9 gp d9 (b9 gp d9 (b9 g5 e6 (kP g6 jB (aj 0) aS) (b9 gp d9 (b9 g5 e6 aS (aj 3)) aS)) (b9 g5 e6 (b9 g5 e6 aS (aj 3)) (aj 3))) aS))
  (bo (hO (i := 5) C.nd (b9 op_mod jA (b9 zx wL (aj 4) aS) (kP g6 jB (aj 2) (b9 op_mod jA (aj 3) aS))))
  (bg (fM (b9 op_mod jA (b9 op_fdiv uL (b9 op_mod jA (b9 g5 e6 (aj 5) (b9 gp d9 (b9 op_fdiv uL (aj 5) aS) aS)) (kP g6 jB (aj 2) (b9 op_mod jA (b9 gp d9 (aj 3) aS) aS))) aS) (aj 1)))))))))))
theorem qA (T : Tx K mg) {fd : FuncData} (F : FD K iU fd) (F12 : kj P w K mg base) : k7 P w K mg base :=
 tq (N := ["_law_source_here", "_law_some"]) (b := f9 K) F (hW (by decide +kernel)) (fun _ _ _ _ _ _ us hl => match us, hl with | [_, _], _ => rfl) (fun _ _ _ _ _ _ C =>
  (bg (fM (kP IB IQ (aj 1) (eU C F12 T.y0p (ai (aj 0) (ai (jb call_len ek T.y05 (ai (aj 1) aB)) aB)))))))
theorem um (T : Tx K mg) {fd : FuncData} (F : FD K kh fd) (F12 : kj P w K mg base) (F13 : k7 P w K mg base) : xm P w K mg base :=
 tq (N := ["_law_source_here", "_law_k"]) (b := kl K) F (hW (by decide +kernel)) (fun _ _ _ _ _ _ us hl => match us, hl with | [_], _ => rfl) (fun _ _ _ _ _ _ C =>
  (bg (fM (Pw PySem.F.plainAttrs_str PySem.F.slot_str_join PySem.F.type_str_join mt_join ED dI (ai (J9 (own := [("_law_k", 1)]) (sl := [1]) C.calm C.nd (sF rfl T.y09 (ai (b9 gp d9 aS (eU C F12 T.y0p (ai (aj 0) (ai aS aB)))) aB)) (blkOk_by (by kernel_rfl)) (fun _ _ _ _ _ => (dR (i := 1) (C.blk).nd)) (fun _ _ _ _ _ => ue) (fun _ _ _ _ _ => (eU (C.blk) F13 T.y0o (ai (aj 0) (ai dI aB))))) aB)))))
theorem qz (T : Tx K mg) {fd : FuncData} (F : FD K iT fd) : sf P w K mg base :=
 tq (N := ["_law_script", "_law_place", "_law_cell", "_law_far"]) (b := f7 K) F (hW (by decide +kernel)) (fun _ _ _ _ _ _ us hl => match us, hl with | [_, _], _ => rfl) (fun _ _ _ _ _ _ C =>
  (bo (hO (i := 2) C.nd aS)
  (bo (jN (eF op_lt qS (aj 1) (jb call_len ek T.y05 (ai (aj 0) aB))) (bg (hO (i := 2) C.nd (kP g6 jB (aj 0) (aj 1)))) fN)
  (bo (hO (i := 3) C.nd (jb call_abs IX T.y01 (ai (aj 2) aB)))
  (bg (fM (fO (ai (b9 g5 e6 (aj 3) (CW call_int1 EE T.y03 (ai (pY op_ge MK (aj 3) (b9 zx wL aS aS)) aB))) (ai (b9 gp d9 (b9 gp d9 (b9 gp d9 (b9 op_mod jA (aj 2) aS) (b9 g5 e6 (b9 g5 e6 aS (aj 1)) (aj 1))) (b9 g5 e6 aS (aj 1))) aS) (ai aS aB))))))))))
end
theorem facts [Reprs] {P : Program} {w : World} {K : PySem.W.Frag} {h : Heap} {mg : Str → Option Value} {f : Addr} (X : K.In h) (G : h.Ns mainGlobals mg) (hfa : mg ("law" : Str) = ξ (.ref f)) (c : SaysZC Oi RN K) (hP : SupP P) :
  Tx K mg ∧ ∃ fd : FuncData, (∀ (s : Shared) (v : Value), BindsTo s fd ⟨[v], []⟩ [("_law_script", v)]) ∧ ∀ base : Heap, LamAt K base mg (mT K bp).1 (mT K bp).2 ("_law_bad_names_right" ++ ".<locals>." ++ "<lambda>" : Str) → LamAt K base mg (mT K zk).1 (mT K zk).2 ("law" ++ ".<locals>." ++ "<lambda>" : Str) → FnG P w K mg base (L2.CX P w) 10 f fd ["_law_script"] (spD K (D_law_k62 K)) := by
 have T := MY X G c.exs
 obtain ⟨fd0, F0⟩ := c.def_ 0 (d := fU)
 obtain ⟨fd1, F1⟩ := c.def_ 1 (d := d_ClosedSet_empty)
 obtain ⟨fd2, F2⟩ := c.def_ 2 (d := nT)
 obtain ⟨fd3, F3⟩ := c.def_ 3 (d := d_Table_super_init)
 have F4 := c.defS 4 (d := mF)
 obtain ⟨fd5, F5⟩ := c.def_ 5 (d := d_Equal_init)
 obtain ⟨fd6, F6⟩ := c.def_ 6 (d := d_Member_super_init)
 have F7 := c.defS 7 (d := kY)
 obtain ⟨fd8, F8⟩ := c.def_ 8 (d := d_Fixed_super_init)
 have F9 := c.defS 9 (d := mG)
 obtain ⟨fd10, F10⟩ := c.def_ 10 (d := jF)
 obtain ⟨fd11, F11⟩ := c.def_ 11 (d := cQ)
 obtain ⟨fd12, F12⟩ := c.def_ 12 (d := ki)
 obtain ⟨fd13, F13⟩ := c.def_ 13 (d := iU)
 obtain ⟨fd14, F14⟩ := c.def_ 14 (d := kh)
 obtain ⟨fd15, F15⟩ := c.def_ 15 (d := iT)
 obtain ⟨fd16, F16⟩ := c.def_ 16 (d := Kr)
 obtain ⟨fd17, F17⟩ := c.def_ 17 (d := ie)
 have e := hfa.symm.trans (He.glo_ok X G c.law)
 cases e
 have b := FunD.bindsA (ps := ["_law_script"]) F16 fun _ _ _ _ _ _ us hl => match us, hl with | [_], _ => rfl
 refine ⟨T, fd16, fun s v => b s [v] rfl, fun base la11 la16 => ?_⟩
 have ex0 := wd P w base T F17
 have o0 := my P w base T F0 
 have o1 := lB P w base T F1 o0
 have o2 := yc P w base T F2 
 have o3 := kJ P w base T F3 ex0 o2
 have o4 := rS P w base T F4 hP o3
 have o5 := rV P w base T F5 ex0 o2
 have o6 := j6 P w base T F6 ex0 o2
 have o7 := qB P w base T F7 hP o6
 have o8 := kK P w base T F8 ex0 o2
 have o9 := rT P w base T F9 hP o8
 have o10 := rR P w base T F10 
 have o11 := jf P w base T F11 o4 o9 o5 o7 o10 la11
 have o12 := uo P w base T F12 
 have o13 := qA P w base T F13 o12
 have o14 := um P w base T F14 o12 o13
 have o15 := qz P w base T F15 
 exact E9 (N := ["_law_script", "_law_bare", "_law_at", "_law_source_here", "_law_one", "_law_two", "_law_odd", "_law_bad", "_law_calls", "_law_call"]) (b := nY K) (q := zk) F16 (hW (by decide +kernel)) (fun _ _ _ _ _ _ hC C =>
  (bo (hO (i := 1) C.nd (AH C T.y1w T.y1x o1 (Pq T.y0g)))
  (bo (nr C (sF rfl T.y09 (ai (jb (call_max2 C.calm) EA T.y07 (ai aS (ai (jb (call_min2 C.calm) Ez T.y08 (ai aS (ai (jb call_len ek T.y05 (ai (aj 0) aB)) aB))) aB))) aB)) (dR (i := 2) C.nd) (bo (hO (i := 3) C.nd (eU C o15 T.y0s (ai (aj 0) (ai (aj 2) aB))))
  (bo (xQ (xX (ai (eU C o14 T.y0r (ai (aj 3) aB)) (ai (eU C o14 T.y0r (ai (aj 3) aB)) aB))) (Ly C.calm (vM (dR (i := 4) C.nd) (vM (dR (i := 5) C.nd) Hm))))
  (bo (nr C (pX (fO (ai dI (ai dI (ai dI (ai dI (ai dI (ai dI (ai hU (ai aS (ai vS (ai (xX (ai dI aB)) (ai (fO (ai dI aB)) (ai dI (ai dI (ai dI (ai dI (ai dI aB)))))))))))))))))) (dR (i := 6) C.nd) (bg (jN (nq (nk (eU C o11 T.y0n (ai (aj 4) (ai (aj 6) (ai (aj 1) aB)))))) (bg (fM vS)) fN)))
  (bo (hO (i := 7) C.nd (fO (ai dI aB)))
  (xV la16 hC (by kernel_rfl) C
  (dh la16 hC (by kernel_rfl) C
  (dh la16 hC (by kernel_rfl) C
  (dh la16 hC (by kernel_rfl) C
  (dh la16 hC (by kernel_rfl) C
  (Hf (J8 (i := 8) (iy := 9) (LamsB.cons (by kernel_rfl) (by intros; rfl) (fun _ _ _ _ _ _ _ CL => (y4 CL T.y1h (o4.fw (n := 1) [0, 1] (fun ws h m => match ws, h with | [_, _], _ => rfl)) T.y0m (eh (fO aB) gE)))
   (LamsB.cons (by kernel_rfl) (by intros; rfl) (fun _ _ _ _ _ _ _ CL => (d7 CL T.y1h [(ax 4), (ax 5), (ax 4), (ax 5)] (o4.fw (n := 5) [0, 5, 1, 2, 3, 4] (fun ws h m => match ws, h with | [_, _, _, _, _, _], _ => rfl)) T.y0m (ai (aj 4) (ai (aj 5) (ai (aj 4) (ai (aj 5) aB)))) (eh (fO aB) gE)))
   (LamsB.cons (by kernel_rfl) (by intros; rfl) (fun _ _ _ _ _ _ _ CL => (CN CL T.y1e o5 T.y0h))
   (LamsB.cons (by kernel_rfl) (by intros; rfl) (fun _ _ _ _ _ _ _ CL => (kA CL T.y1e o5 T.y0h (ai (aj 4) aB)))
   (LamsB.cons (by kernel_rfl) (by intros; rfl) (fun _ _ _ _ _ _ _ CL => (y4 CL T.y1g (o7.fw (n := 1) [0, 1] (fun ws h m => match ws, h with | [_, _], _ => rfl)) T.y0l (eh (aj 1) gE)))
   LamsB.nil))))) C o10 fS T.y0q T.y02 (fun pa _ _ _ _ _ h hh => by letI : Past := pa; exact (pY (op_eqD (C.blk).room.units) EG hh (aj 7))) (fun h h' env w w' m e => by simp only [cY, iI, dM, ri, aq, aJ, eC, mD (show (8 : Nat) ≠ 7 by decide), mD (show (9 : Nat) ≠ 7 by decide), e]) (blkOk_by (by kernel_rfl)) (fun _ _ _ _ _ => rfl) (fun _ _ _ _ _ => Or.inl rfl) (fun pa _ _ _ _ _ => by letI : Past := pa; exact dR (i := 9) (C.blk).nd) (fun pa => by letI : Past := pa; exact (bg (fM vS))) (fun pa => by letI : Past := pa; exact fN) (fun _ _ _ => uI rfl lD) (fun _ _ _ => zJ lD))
  (xV la16 hC (by kernel_rfl) C
  (dh la16 hC (by kernel_rfl) C
  (dh la16 hC (by kernel_rfl) C
  (dh la16 hC (by kernel_rfl) C
  (dh la16 hC (by kernel_rfl) C
  (zb (J8 (i := 8) (iy := 9) (LamsB.cons (by kernel_rfl) (by intros; rfl) (fun _ _ _ _ _ _ _ CL => (d7 CL T.y1h [(ax 4), (ax 5), (ax 4)] (o4.fw (n := 4) [0, 4, 1, 2, 3] (fun ws h m => match ws, h with | [_, _, _, _, _], _ => rfl)) T.y0m (ai (aj 4) (ai (aj 5) (ai (aj 4) aB))) (eh (fO aB) gE)))
   (LamsB.cons (by kernel_rfl) (by intros; rfl) (fun _ _ _ _ _ _ _ CL => (kA CL T.y1e o5 T.y0h (ai (aj 4) (ai (aj 4) aB))))
   (LamsB.cons (by kernel_rfl) (by intros; rfl) (fun _ _ _ _ _ _ _ CL => (zc CL T.y1f o9 T.y0i (ai (aj 5) (ai aS aB))))
   (LamsB.cons (by kernel_rfl) (by intros; rfl) (fun _ _ _ _ _ _ _ CL => (kA CL T.y1e o5 T.y0h (ai (aj 4) (ai (aj 5) (ai (aj 4) (ai (aj 5) (ai (aj 4) aB)))))))
   (LamsB.cons (by kernel_rfl) (by intros; rfl) (fun _ _ _ _ _ _ _ CL => (d7 CL T.y1g [(ax 4), (ax 4), (ax 5), (ax 4), (ax 5)] (o7.fw (n := 6) [0, 6, 1, 2, 3, 4, 5] (fun ws h m => match ws, h with | [_, _, _, _, _, _, _], _ => rfl)) T.y0l (ai (aj 4) (ai (aj 4) (ai (aj 5) (ai (aj 4) (ai (aj 5) aB))))) (eh (aj 1) gE)))
   LamsB.nil))))) C o10 fS T.y0q T.y02 (fun pa _ _ _ _ _ h hh => by letI : Past := pa; exact (pY op_isN zR hh hU)) (fun h h' env w w' m e => by simp only [cY, iI, dM, ri, aq, aJ, eC, e]) (blkOk_by (by kernel_rfl)) (fun _ _ _ _ _ => rfl) (fun _ _ _ _ _ => Or.inl rfl) (fun pa _ _ _ _ _ => by letI : Past := pa; exact dR (i := 9) (C.blk).nd) (fun pa => by letI : Past := pa; exact (bg (fM vS))) (fun pa => by letI : Past := pa; exact fN) (fun _ _ _ => uI rfl lD) (fun _ _ _ => zJ lD)))))))))))))))))))
  (bg (fM vS)))))
end K62
end
section
namespace K62
open PySem L2 SB
abbrev hk : PySem.W.Hook := E4 as Oi RN (tf.map (·.1))
def ob (s : PySem.W.SharedT) : He.AlD := Ib as Oi RN (tf.map (·.1)) s
theorem ob_eq (s : PySem.W.SharedT) : ob s = hk.obs s.abs := Ia s
theorem run (w : World) : HandSHeadRun.RunEq R (PySem.W.view R.prog [52]) hk ob 12000 loose w := xY (seen w) (fact w) (dfns w)
end K62
end
section
namespace BV
open PySem hiding Env
open L2 SB
inductive Kd where
 | lst | dct (ks : List Key) | dtp (ks : List (List Key)) | ins (C : Addr) (fs : List Str) | xd (fs : List Str)
inductive T where
 | non | bl (b : Bool) | int (i : Int) | str (x : Str) | ob (a : Addr) | ty (n : String) | scr (ns : List Int) | tup (ts : List T) | nd (o : Bool) (k : Kd) (ts : List T) | im (k : Im) (ts : List T)
def Kd.mk : Kd → List W → O
 | .lst, ws => .lst ws
 | .dct ks, ws => .dct (ks.zip ws)
 | .dtp ks, ws => .dtp (ks.zip ws)
 | .ins C fs, ws => .ins C (fs.zip ws)
 | .xd fs, ws => .xd (fs.zip ws)
def Kd.fit : Kd → Nat → Bool
 | .lst, _ => true
 | .dct ks, n => ks.length == n
 | .dtp ks, n => ks.length == n
 | .ins _ fs, n => fs.length == n
 | .xd fs, n => fs.length == n
abbrev TE := List (Option T)
abbrev Own := Nat → Prop
def Kd.lk : Kd → List W → Option O
 | .dct ks, ws => ξ (.lcd (ks.zip ws))
 | .dtp ks, ws => ξ (.lct (ks.zip ws))
 | _, _ => ζ
def Nd (m : M) (n : Nat) (o : Bool) (k : Kd) (ws : List W) : Prop := m[n]? = ξ (k.mk ws) ∨ (o = false ∧ ∃ u, k.lk ws = ξ u ∧ m[n]? = ξ u)
theorem Nd.hot {m : M} {n : Nat} {k : Kd} {ws : List W} (h : Nd m n true k ws) : m[n]? = ξ (k.mk ws) := by
 rcases h with h | ⟨h, _⟩
 ·exact h
 ·cases h
theorem Nd.plain {m : M} {n : Nat} {o : Bool} {k : Kd} {ws : List W} (h : Nd m n o k ws) (hk : k.lk ws = ζ) : m[n]? = ξ (k.mk ws) := by
 rcases h with h | ⟨_, u, h, _⟩
 ·exact h
 ·rw [hk] at h; cases h
theorem Nd.lst {m : M} {n : Nat} {o : Bool} {ws : List W} (h : Nd m n o .lst ws) : m[n]? = ξ (.lst ws) := h.plain rfl
theorem Nd.ins {m : M} {n : Nat} {o : Bool} {C : Addr} {fs : List Str} {ws : List W} (h : Nd m n o (.ins C fs) ws) : m[n]? = ξ (.ins C (fs.zip ws)) := h.plain rfl
theorem Nd.lt {m : M} {n : Nat} {o : Bool} {k : Kd} {ws : List W} (h : Nd m n o k ws) : n < m.length := by
 rcases h with h | ⟨_, u, _, h⟩ <;> exact (List.getElem?_eq_some_iff.mp h).1
theorem Nd.map {m m' : M} {n : Nat} {o : Bool} {k : Kd} {ws : List W} (h : Nd m n o k ws) (hm : ∀ u, m[n]? = ξ u → m'[n]? = ξ u) : Nd m' n o k ws := by
 rcases h with h | ⟨c, u, e, h⟩
 ·exact .inl (hm _ h)
 ·exact .inr ⟨c, u, e, hm _ h⟩
theorem Nd.cold {m : M} {n : Nat} {o : Bool} {k : Kd} {ws : List W} (h : Nd m n o k ws) : Nd m n false k ws := by
 rcases h with h | ⟨c, u, e, h⟩
 ·exact .inl h
 ·exact .inr ⟨rfl, u, e, h⟩
def Oa : O → Option O
 | .dct k => ξ (.lcd k)
 | .dtp k => ξ (.lct k)
 | _ => ζ
def Kx (o : O) (x : Option O) : Prop := x = ξ o ∨ ∃ o', Oa o = ξ o' ∧ x = ξ o'
theorem Kx.plain {o : O} {x : Option O} (h : Kx o x) (e : Oa o = ζ) : x = ξ o := by
 rcases h with h | ⟨o', h, _⟩
 ·exact h
 ·rw [e] at h; cases h
theorem Mr {k : Kd} {ws : List W} {o : O} (h : Oa (k.mk ws) = ξ o) : k.lk ws = ξ o := by
 cases k <;> first | exact h | cases h
theorem zI {o o' : O} (h : Oa o = ξ o') : Oa o' = ζ := by
 cases o <;> cases h <;> rfl
theorem Mp {k : Kd} {ws : List W} {o : O} (h : k.lk ws = ξ o) : Oa o = ζ := by
 cases k <;> cases h <;> rfl
theorem Nd.kx {m m' : M} {n : Nat} {k : Kd} {ws : List W} (h : Nd m n false k ws) (hm : ∀ u, m[n]? = ξ u → Kx u m'[n]?) : Nd m' n false k ws := by
 rcases h with h | ⟨c, u, e, h⟩
 ·rcases hm _ h with h2 | ⟨o', e', h2⟩
  ·exact .inl h2
  ·exact .inr ⟨rfl, o', Mr e', h2⟩
 ·exact .inr ⟨rfl, u, e, (hm _ h).plain (Mp e)⟩
mutual
def Rp (m : M) (S : Own) : T → W → List Nat → Prop
 | .non, w, G => w = .non ∧ G = []
 | .bl b, w, G => w = .bl b ∧ G = []
 | .int i, w, G => w = .int i ∧ G = []
 | .str x, w, G => w = .str x ∧ G = []
 | .ob a, w, G => w = .ob a ∧ G = []
 | .ty a, w, G => w = .ty a ∧ G = []
 | .scr a, w, G => w = .scr a ∧ G = []
 | .tup ts, w, G => ∃ ws, w = .tup ws ∧ Rps m S ts ws G
 | .im k ts, w, G => ∃ ws, w = .im k ws ∧ Rps m S ts ws G
 | .nd o k ts, w, G => ∃ n ws G', w = .ref n ∧ Nd m n o k ws ∧ k.fit ts.length = true ∧ Rps m S ts ws G' ∧ ((o = true ∧ G = n :: G') ∨ (o = false ∧ ¬ S n ∧ G' = [] ∧ G = []))
def Rps (m : M) (S : Own) : List T → List W → List Nat → Prop
 | [], ws, G => ws = [] ∧ G = []
 | t :: ts, ws, G => ∃ w ws' G1 G2, ws = w :: ws' ∧ Rp m S t w G1 ∧ Rps m S ts ws' G2 ∧ G = G1 ++ G2
end
def EnvT (m : M) (S : Own) : TE → Env → List Nat → Prop
 | [], env, F => env = [] ∧ F = []
 | none :: te, env, F => ∃ x env', env = x :: env' ∧ EnvT m S te env' F
 | some t :: te, env, F => ∃ w env' G F', env = ξ w :: env' ∧ Rp m S t w G ∧ EnvT m S te env' F' ∧ F = G ++ F'
mutual
def hot : T → Bool
 | .tup ts => hots ts
 | .im _ ts => hots ts
 | .nd o _ ts => o || hots ts
 | _ => false
def hots : List T → Bool
 | [] => false
 | t :: ts => hot t || hots ts
end
mutual
def frz : T → T
 | .tup ts => .tup (frzs ts)
 | .im k ts => .im k (frzs ts)
 | .nd _ k ts => .nd false k (frzs ts)
 | t => t
def frzs : List T → List T
 | [] => []
 | t :: ts => frz t :: frzs ts
end
theorem wR : ∀ {ts : List T}, (frzs ts).length = ts.length
 | [] => rfl
 | _ :: _ => by simp [frzs, wR]
def Sep (G : List Nat) : Prop := ∀ n, G.count n ≤ 1
structure Aft (m : M) (S : Own) (A : List Nat) (m' : M) (S' : Own) (B : List Nat) : Prop where
 up : ∀ n, S' n ↔ (S n ∧ A.count n = 0) ∨ B.count n ≠ 0
 sep : Sep B
 len : m.length ≤ m'.length
 lt : ∀ n, B.count n ≠ 0 → n < m'.length
 keep : ∀ n o, m[n]? = ξ o → A.count n = 0 → m'[n]? = ξ o ∨ (¬ S n ∧ Kx o m'[n]?)
 new : ∀ n, n < m.length → B.count n ≠ 0 → A.count n ≠ 0
 dom : ∀ n, S n → n < m.length
structure Stt (m : M) (S : Own) (te : TE) (env : Env) (F : List Nat) : Prop where
 env : EnvT m S te env F
 sep : Sep F
 sub : ∀ n, F.count n ≠ 0 → S n
 lt : ∀ n, S n → n < m.length
section
variable {m m' m1 m2: M}{S S' S1 S2: Own}{A A' B B' C F G G0: List Nat}{t: T}{ts: List T}{w: W}{ws: List W}
theorem lG {n : Nat} {o : O} (h : m[n]? = ξ o) : n < m.length := (List.getElem?_eq_some_iff.mp h).1
theorem Rps.len : ∀ {ts : List T} {ws : List W} {G : List Nat}, Rps m S ts ws G → ts.length = ws.length
 | [], _, _, h => by rw [h.1]; rfl
 | _ :: _, _, _, h => by
  obtain ⟨w, ws', G1, G2, rfl, _, h2, _⟩ := h
  simp [Rps.len h2]
mutual
theorem Rp.stayL (hk : ∀ n o, m[n]? = ξ o → (G0.count n ≠ 0 → m'[n]? = ξ o) ∧ (¬ S n → Kx o m'[n]?)) (hs : ∀ n, n < m.length → ¬ S n → ¬ S' n) : ∀ {t : T} {w : W} {G : List Nat}, (∀ n, G.count n ≠ 0 → G0.count n ≠ 0) → Rp m S t w G → Rp m' S' t w G
 | .non, _, _, _, h => h
 | .bl _, _, _, _, h => h
 | .int _, _, _, _, h => h
 | .str _, _, _, _, h => h
 | .ob _, _, _, _, h => h
 | .ty _, _, _, _, h => h
 | .scr _, _, _, _, h => h
 | .tup ts, _, _, hg, h => by
  obtain ⟨ws, e, h⟩ := h
  exact ⟨ws, e, Rps.stayL hk hs hg h⟩
 | .im k ts, _, _, hg, h => by
  obtain ⟨ws, e, h⟩ := h
  exact ⟨ws, e, Rps.stayL hk hs hg h⟩
 | .nd o k ts, _, _, hg, h => by
  obtain ⟨n, ws, G', e, e1, ft, h, c⟩ := h
  rcases c with ⟨rfl, rfl⟩ | ⟨rfl, hS, rfl, rfl⟩
  ·exact ⟨n, ws, G', e, e1.map fun u eu => (hk n u eu).1 (hg n (by simp)), ft, Rps.stayL hk hs (fun x hx => hg x (by rw [List.count_cons]; omega)) h, .inl ⟨rfl, rfl⟩⟩
  ·exact ⟨n, ws, [], e, e1.kx fun u eu => (hk n u eu).2 hS, ft, Rps.stayL hk hs (fun x hx => hg x hx) h, .inr ⟨rfl, hs n e1.lt hS, rfl, rfl⟩⟩
theorem Rps.stayL (hk : ∀ n o, m[n]? = ξ o → (G0.count n ≠ 0 → m'[n]? = ξ o) ∧ (¬ S n → Kx o m'[n]?)) (hs : ∀ n, n < m.length → ¬ S n → ¬ S' n) : ∀ {ts : List T} {ws : List W} {G : List Nat}, (∀ n, G.count n ≠ 0 → G0.count n ≠ 0) → Rps m S ts ws G → Rps m' S' ts ws G
 | [], _, _, _, h => h
 | t :: ts, _, _, hg, h => by
  obtain ⟨w, ws', G1, G2, e, h1, h2, rfl⟩ := h
  exact ⟨w, ws', G1, G2, e, Rp.stayL hk hs (fun x hx => hg x (by rw [List.count_append]; omega)) h1, Rps.stayL hk hs (fun x hx => hg x (by rw [List.count_append]; omega)) h2, rfl⟩
end
theorem EnvT.stayL (hk : ∀ n o, m[n]? = ξ o → (F.count n ≠ 0 → m'[n]? = ξ o) ∧ (¬ S n → Kx o m'[n]?)) (hs : ∀ n, n < m.length → ¬ S n → ¬ S' n) : ∀ {te : TE} {env : Env} {G : List Nat}, (∀ n, G.count n ≠ 0 → F.count n ≠ 0) → EnvT m S te env G → EnvT m' S' te env G
 | [], _, _, _, h => h
 | none :: te, _, _, hg, h => by
  obtain ⟨x, env', e, h⟩ := h
  exact ⟨x, env', e, EnvT.stayL hk hs hg h⟩
 | some t :: te, _, _, hg, h => by
  obtain ⟨w, env', G1, F', e, h1, h2, rfl⟩ := h
  exact ⟨w, env', G1, F', e, Rp.stayL hk hs (fun x hx => hg x (by rw [List.count_append]; omega)) h1, EnvT.stayL hk hs (fun x hx => hg x (by rw [List.count_append]; omega)) h2, rfl⟩
theorem Rp.stay (hk : ∀ n o, m[n]? = ξ o → (¬ S n ∨ G0.count n ≠ 0) → m'[n]? = ξ o) (hs : ∀ n, n < m.length → ¬ S n → ¬ S' n) {t : T} {w : W} {G : List Nat} (hg : ∀ n, G.count n ≠ 0 → G0.count n ≠ 0) (h : Rp m S t w G) : Rp m' S' t w G := Rp.stayL (fun n o e => ⟨fun c => hk n o e (.inr c), fun c => .inl (hk n o e (.inl c))⟩) hs hg h
theorem Rps.stay (hk : ∀ n o, m[n]? = ξ o → (¬ S n ∨ G0.count n ≠ 0) → m'[n]? = ξ o) (hs : ∀ n, n < m.length → ¬ S n → ¬ S' n) {ts : List T} {ws : List W} {G : List Nat} (hg : ∀ n, G.count n ≠ 0 → G0.count n ≠ 0) (h : Rps m S ts ws G) : Rps m' S' ts ws G := Rps.stayL (fun n o e => ⟨fun c => hk n o e (.inr c), fun c => .inl (hk n o e (.inl c))⟩) hs hg h
theorem EnvT.stay (hk : ∀ n o, m[n]? = ξ o → (¬ S n ∨ F.count n ≠ 0) → m'[n]? = ξ o) (hs : ∀ n, n < m.length → ¬ S n → ¬ S' n) {te : TE} {env : Env} {G : List Nat} (hg : ∀ n, G.count n ≠ 0 → F.count n ≠ 0) (h : EnvT m S te env G) : EnvT m' S' te env G := EnvT.stayL (fun n o e => ⟨fun c => hk n o e (.inr c), fun c => .inl (hk n o e (.inl c))⟩) hs hg h
mutual
theorem Rp.frz (hs : ∀ n, S' n → S n) (hg : ∀ n, G0.count n ≠ 0 → ¬ S' n) : ∀ {t : T} {w : W} {G : List Nat}, (∀ n, G.count n ≠ 0 → G0.count n ≠ 0) → Rp m S t w G → Rp m S' (frz t) w []
 | .non, _, _, _, h => ⟨h.1, rfl⟩
 | .bl _, _, _, _, h => ⟨h.1, rfl⟩
 | .int _, _, _, _, h => ⟨h.1, rfl⟩
 | .str _, _, _, _, h => ⟨h.1, rfl⟩
 | .ob _, _, _, _, h => ⟨h.1, rfl⟩
 | .ty _, _, _, _, h => ⟨h.1, rfl⟩
 | .scr _, _, _, _, h => ⟨h.1, rfl⟩
 | .tup ts, _, _, hG, h => by
  obtain ⟨ws, e, h⟩ := h
  exact ⟨ws, e, Rps.frz hs hg hG h⟩
 | .im k ts, _, _, hG, h => by
  obtain ⟨ws, e, h⟩ := h
  exact ⟨ws, e, Rps.frz hs hg hG h⟩
 | .nd o k ts, _, _, hG, h => by
  obtain ⟨n, ws, G', e, e1, ft, h, c⟩ := h
  have hl : (frzs ts).length = ts.length := wR
  rcases c with ⟨rfl, rfl⟩ | ⟨rfl, hS, rfl, rfl⟩
  ·exact ⟨n, ws, [], e, e1.cold, by rw [hl]; exact ft, Rps.frz hs hg (fun x hx => hG x (by rw [List.count_cons]; omega)) h, .inr ⟨rfl, hg n (hG n (by simp)), rfl, rfl⟩⟩
  ·exact ⟨n, ws, [], e, e1.cold, by rw [hl]; exact ft, Rps.frz hs hg (fun x hx => hG x hx) h, .inr ⟨rfl, fun q => hS (hs n q), rfl, rfl⟩⟩
theorem Rps.frz (hs : ∀ n, S' n → S n) (hg : ∀ n, G0.count n ≠ 0 → ¬ S' n) : ∀ {ts : List T} {ws : List W} {G : List Nat}, (∀ n, G.count n ≠ 0 → G0.count n ≠ 0) → Rps m S ts ws G → Rps m S' (frzs ts) ws []
 | [], _, _, _, h => ⟨h.1, rfl⟩
 | t :: ts, _, _, hG, h => by
  obtain ⟨w, ws', G1, G2, e, h1, h2, rfl⟩ := h
  exact ⟨w, ws', [], [], e, Rp.frz hs hg (fun x hx => hG x (by rw [List.count_append]; omega)) h1, Rps.frz hs hg (fun x hx => hG x (by rw [List.count_append]; omega)) h2, rfl⟩
end
mutual
theorem Rp.cold : ∀ {t : T} {w : W} {G : List Nat}, hot t = false → Rp m S t w G → G = []
 | .non, _, _, _, h => h.2
 | .bl _, _, _, _, h => h.2
 | .int _, _, _, _, h => h.2
 | .str _, _, _, _, h => h.2
 | .ob _, _, _, _, h => h.2
 | .ty _, _, _, _, h => h.2
 | .scr _, _, _, _, h => h.2
 | .tup ts, _, _, c, h => by
  obtain ⟨ws, e, h⟩ := h
  exact Rps.cold (by simpa [hot] using c) h
 | .im k ts, _, _, c, h => by
  obtain ⟨ws, e, h⟩ := h
  exact Rps.cold (by simpa [hot] using c) h
 | .nd o k ts, _, _, c, h => by
  obtain ⟨n, ws, G', e, e1, ft, h, q⟩ := h
  simp only [hot, Bool.or_eq_false_iff] at c
  rcases q with ⟨rfl, rfl⟩ | ⟨rfl, hS, rfl, rfl⟩
  ·exact absurd c.1 (by simp)
  ·rfl
theorem Rps.cold : ∀ {ts : List T} {ws : List W} {G : List Nat}, hots ts = false → Rps m S ts ws G → G = []
 | [], _, _, _, h => h.2
 | t :: ts, _, _, c, h => by
  obtain ⟨w, ws', G1, G2, e, h1, h2, rfl⟩ := h
  simp only [hots, Bool.or_eq_false_iff] at c
  rw [Rp.cold c.1 h1, Rps.cold c.2 h2]
  rfl
end
theorem Aft.trans (a : Aft m S A m1 S1 B) (b : Aft m1 S1 B m2 S2 C) : Aft m S A m2 S2 C := by
  refine ⟨fun n => ?_, b.sep, Nat.le_trans a.len b.len, b.lt, fun n o h e => ?_, fun n h q => ?_, a.dom⟩
  · rw [b.up, a.up]
    constructor
    · rintro (⟨(⟨h1, h2⟩ | h1), h3⟩ | h)
      · exact .inl ⟨h1, h2⟩
      · exact absurd h3 h1
      · exact .inr h
    · rintro (⟨h1, h2⟩ | h)
      · by_cases hb : B.count n = 0
        · exact .inl ⟨.inl ⟨h1, h2⟩, hb⟩
        · exact absurd h2 (a.new n (a.dom n h1) hb)
      · exact .inr h
  · by_cases hb : B.count n = 0
    · rcases a.keep n o h e with h1 | ⟨hS, h1 | ⟨o', hl, h1⟩⟩
      · rcases b.keep n o h1 hb with h2 | ⟨hS, h2⟩
        · exact .inl h2
        · exact .inr ⟨fun z => hS ((a.up n).mpr (.inl ⟨z, e⟩)), h2⟩
      · rcases b.keep n o h1 hb with h2 | ⟨_, h2⟩
        · exact .inl h2
        · exact .inr ⟨hS, h2⟩
      · rcases b.keep n o' h1 hb with h2 | ⟨_, h2⟩
        · exact .inr ⟨hS, .inr ⟨o', hl, h2⟩⟩
        · exact .inr ⟨hS, .inr ⟨o', hl, h2.plain (zI hl)⟩⟩
    · exact absurd e (a.new n (lG h) hb)
  · have := b.new n (Nat.lt_of_lt_of_le h a.len) q
    exact a.new n h this
theorem Aft.dom' (a : Aft m S A m' S' B) : ∀ n, S' n → n < m'.length := fun n h => by
 rcases (a.up n).mp h with ⟨h, _⟩ | h
 ·exact Nat.lt_of_lt_of_le (a.dom n h) a.len
 ·exact a.lt n h
theorem Aft.frame (a : Aft m S A m' S' B) (sub : ∀ n, G.count n ≠ 0 → S n) (sep : Sep (A ++ G)) : Aft m S (A ++ G) m' S' (B ++ G) := by
  have hz : ∀ n, G.count n ≠ 0 → A.count n = 0 ∧ B.count n = 0 ∧ G.count n = 1 := fun n h => by
    have h1 := sep n
    rw [List.count_append] at h1
    have h2 : A.count n = 0 := by omega
    refine ⟨h2, ?_, by omega⟩
    by_cases hb : B.count n = 0
    · exact hb
    · exact absurd h2 (a.new n (a.dom n (sub n h)) hb)
  refine ⟨fun n => ?_, fun n => ?_, a.len, fun n h => ?_, fun n o h e => ?_, fun n h q => ?_, a.dom⟩
  · rw [a.up]
    simp only [List.count_append]
    by_cases hG : G.count n = 0
    · simp [hG]
    · obtain ⟨h1, h2, h3⟩ := hz n hG
      constructor
      · intro _
        exact .inr (by omega)
      · intro _
        exact .inl ⟨sub n hG, h1⟩
  · rw [List.count_append]
    have := a.sep n
    by_cases hG : G.count n = 0
    · omega
    · obtain ⟨h1, h2, h3⟩ := hz n hG
      omega
  · rw [List.count_append] at h
    by_cases hG : G.count n = 0
    · exact a.lt n (by omega)
    · exact Nat.lt_of_lt_of_le (a.dom n (sub n hG)) a.len
  · rw [List.count_append] at e
    exact a.keep n o h (by omega)
  · rw [List.count_append] at q ⊢
    by_cases hG : G.count n = 0
    · have := a.new n h (by omega)
      omega
    · omega
theorem Aft.refl (sub : ∀ n, A.count n ≠ 0 → S n) (sep : Sep A) (dom : ∀ n, S n → n < m.length) : Aft m S A m S A := by
 refine ⟨fun n => ?_, sep, Nat.le_refl _, fun n h => dom n (sub n h), fun n o h _ => .inl h, fun n _ h => h, dom⟩
 constructor
 ·intro h
  by_cases q : A.count n = 0
  ·exact .inl ⟨h, q⟩
  ·exact .inr q
 ·rintro (h | h)
  ·exact h.1
  ·exact sub n h
def less (S : Own) (A B : List Nat) : Own := fun n => (S n ∧ A.count n = 0) ∨ B.count n ≠ 0
theorem Aft.less (sub : ∀ n, A.count n ≠ 0 → S n) (sep : Sep A) (dom : ∀ n, S n → n < m.length) (le : ∀ n, B.count n ≤ A.count n) : Aft m S A m (less S A B) B := by
 refine ⟨fun n => Iff.rfl, fun n => Nat.le_trans (le n) (sep n), Nat.le_refl _, fun n h => dom n (sub n ?_), fun n o h _ => .inl h, fun n _ h => ?_, dom⟩
 ·have := le n
  omega
 ·have := le n
  omega
theorem cJ (sub : ∀ n, A.count n ≠ 0 → S n) (le : ∀ n, B.count n ≤ A.count n) : ∀ n, BV.less S A B n → S n := fun n h => by
 rcases h with ⟨h, _⟩ | h
 ·exact h
 ·exact sub n (by have := le n; omega)
theorem Aft.sub (a : Aft m S A m' S' B) : ∀ n, B.count n ≠ 0 → S' n := fun n h => (a.up n).mpr (.inr h)
theorem Aft.perm (a : Aft m S A m' S' B) (h : ∀ n, A'.count n = A.count n) (q : ∀ n, B'.count n = B.count n) : Aft m S A' m' S' B' := by
 refine ⟨fun n => by rw [a.up, h, q], fun n => by rw [q]; exact a.sep n, a.len, fun n e => a.lt n (by rw [← q]; exact e), fun n o e z => a.keep n o e (by rw [← h]; exact z), fun n l e => by rw [h]; exact a.new n l (by rw [← q]; exact e), a.dom⟩
theorem Aft.kx {n : Nat} {o : O} (a : Aft m S A m' S' B) (sub : ∀ n, A.count n ≠ 0 → S n) (dis : ∀ n, G.count n ≠ 0 → A.count n = 0 ∧ S n) (e : m[n]? = ξ o) : (G.count n ≠ 0 → m'[n]? = ξ o) ∧ (¬ S n → Kx o m'[n]?) := by
 refine ⟨fun c => ?_, fun c => ?_⟩
 ·rcases a.keep n o e (dis n c).1 with h | ⟨h, _⟩
  ·exact h
  ·exact absurd (dis n c).2 h
 ·have hz : A.count n = 0 := by
   by_cases z : A.count n = 0
   ·exact z
   ·exact absurd (sub n z) c
  rcases a.keep n o e hz with h | ⟨_, h⟩
  ·exact .inl h
  ·exact h
theorem Aft.rps (a : Aft m S A m' S' B) (sub : ∀ n, A.count n ≠ 0 → S n) (dis : ∀ n, G.count n ≠ 0 → A.count n = 0) (sg : ∀ n, G.count n ≠ 0 → S n) (h : Rps m S ts ws G) : Rps m' S' ts ws G := by
 refine Rps.stayL (G0 := G) (fun n o e => a.kx sub (fun n c => ⟨dis n c, sg n c⟩) e) (fun n l c q => ?_) (fun n h => h) h
 ·rcases (a.up n).mp q with h | h
  ·exact c h.1
  ·exact c (sub n (a.new n l h))
theorem Aft.rp (a : Aft m S A m' S' B) (sub : ∀ n, A.count n ≠ 0 → S n) (dis : ∀ n, G.count n ≠ 0 → A.count n = 0) (sg : ∀ n, G.count n ≠ 0 → S n) (h : Rp m S t w G) : Rp m' S' t w G := by
 have := a.rps (ts := [t]) (ws := [w]) (G := G) sub dis sg ⟨w, [], G, [], rfl, h, ⟨rfl, rfl⟩, by simp⟩
 obtain ⟨w', ws', G1, G2, e, h1, h2, rfl⟩ := this
 cases e
 rw [h2.2, List.append_nil]
 exact h1
theorem Aft.envT {te : TE} {env : Env} (a : Aft m S A m' S' B) (sub : ∀ n, A.count n ≠ 0 → S n) (dis : ∀ n, F.count n ≠ 0 → A.count n = 0) (sg : ∀ n, F.count n ≠ 0 → S n) (h : EnvT m S te env F) : EnvT m' S' te env F := by
 refine EnvT.stayL (F := F) (fun n o e => a.kx sub (fun n c => ⟨dis n c, sg n c⟩) e) (fun n l c q => ?_) (fun n h => h) h
 ·rcases (a.up n).mp q with h | h
  ·exact c h.1
  ·exact c (sub n (a.new n l h))
theorem Rps.one {m : M} {S : Own} {t : T} {w : W} {G : List Nat} (h : Rp m S t w G) : Rps m S [t] [w] G := ⟨w, [], G, [], rfl, h, ⟨rfl, rfl⟩, by simp⟩
theorem Rps.app : ∀ {ts us : List T} {ws vs : List W} {G G' : List Nat}, Rps m S ts ws G → Rps m S us vs G' → Rps m S (ts ++ us) (ws ++ vs) (G ++ G')
 | [], _, _, _, _, _, h, q => by rw [h.1, h.2]; exact q
 | t :: ts, _, _, _, _, _, h, q => by
  obtain ⟨w, ws', G1, G2, rfl, h1, h2, rfl⟩ := h
  exact ⟨w, _, G1, _, rfl, h1, Rps.app h2 q, by rw [List.append_assoc]⟩
theorem Rps.get : ∀ {ts : List T} {ws : List W} {G : List Nat} {i : Nat} {t : T}, Rps m S ts ws G → ts[i]? = ξ t → ∃ w G1, ws[i]? = ξ w ∧ Rp m S t w G1 ∧ ∀ n, G1.count n ≤ G.count n
 | [], _, _, _, _, _, e => by simp at e
 | t :: ts, _, _, 0, _, h, e => by
  obtain ⟨w, ws', G1, G2, rfl, h1, h2, rfl⟩ := h
  simp at e
  subst e
  exact ⟨w, G1, rfl, h1, fun n => by rw [List.count_append]; omega⟩
 | t :: ts, _, _, i + 1, _, h, e => by
  obtain ⟨w, ws', G1, G2, rfl, h1, h2, rfl⟩ := h
  obtain ⟨w', G3, e1, h3, le⟩ := Rps.get (i := i) h2 (by simpa using e)
  exact ⟨w', G3, by simpa using e1, h3, fun n => by rw [List.count_append]; have := le n; omega⟩
theorem EnvT.len : ∀ {te : TE} {env : Env} {F : List Nat}, EnvT m S te env F → te.length = env.length
 | [], _, _, h => by rw [h.1]; rfl
 | none :: te, _, _, h => by
  obtain ⟨x, env', rfl, h⟩ := h
  simp [EnvT.len h]
 | some t :: te, _, _, h => by
  obtain ⟨w, env', G, F', rfl, _, h, _⟩ := h
  simp [EnvT.len h]
theorem EnvT.take : ∀ {te : TE} {env : Env} {F : List Nat} {i : Nat} {t : T}, EnvT m S te env F → te[i]? = ξ (ξ t) → ∃ w G F', env[i]? = ξ (ξ w) ∧ Rp m S t w G ∧ EnvT m S (te.set i ζ) env F' ∧ ∀ n, F.count n = F'.count n + G.count n
 | [], _, _, _, _, _, e => by simp at e
 | none :: te, _, _, 0, _, _, e => by simp at e
 | some t :: te, _, _, 0, _, h, e => by
  simp at e
  subst e
  obtain ⟨w, env', G, F', rfl, h1, h2, rfl⟩ := h
  exact ⟨w, G, F', rfl, h1, ⟨_, _, rfl, h2⟩, fun n => by rw [List.count_append]; omega⟩
 | none :: te, _, _, i + 1, _, h, e => by
  obtain ⟨x, env', rfl, h⟩ := h
  obtain ⟨w, G, F', e1, h1, h2, c⟩ := EnvT.take (i := i) h (by simpa using e)
  exact ⟨w, G, F', by simpa using e1, h1, ⟨_, _, rfl, h2⟩, c⟩
 | some t :: te, _, _, i + 1, _, h, e => by
  obtain ⟨w0, env', G0, F0, rfl, h0, h, rfl⟩ := h
  obtain ⟨w, G, F', e1, h1, h2, c⟩ := EnvT.take (i := i) h (by simpa using e)
  exact ⟨w, G, G0 ++ F', by simpa using e1, h1, ⟨_, _, _, _, rfl, h0, h2, rfl⟩, fun n => by rw [List.count_append, List.count_append]; have := c n; omega⟩
theorem EnvT.wipe : ∀ {te : TE} {env : Env} {F : List Nat} (i : Nat), EnvT m S te env F → ∃ F', EnvT m S (te.set i ζ) env F' ∧ ∀ n, F'.count n ≤ F.count n
 | [], _, F, _, h => ⟨F, h, fun n => Nat.le_refl _⟩
 | none :: te, _, _, 0, h => ⟨_, h, fun n => Nat.le_refl _⟩
 | some t :: te, _, _, 0, h => by
  obtain ⟨w, env', G, F', rfl, h1, h2, rfl⟩ := h
  exact ⟨F', ⟨_, _, rfl, h2⟩, fun n => by rw [List.count_append]; omega⟩
 | none :: te, _, _, i + 1, h => by
  obtain ⟨x, env', rfl, h⟩ := h
  obtain ⟨F', h2, c⟩ := EnvT.wipe i h
  exact ⟨F', ⟨_, _, rfl, h2⟩, c⟩
 | some t :: te, _, _, i + 1, h => by
  obtain ⟨w0, env', G0, F0, rfl, h0, h, rfl⟩ := h
  obtain ⟨F', h2, c⟩ := EnvT.wipe i h
  exact ⟨G0 ++ F', ⟨_, _, _, _, rfl, h0, h2, rfl⟩, fun n => by rw [List.count_append, List.count_append]; have := c n; omega⟩
theorem EnvT.put : ∀ {te : TE} {env : Env} {F : List Nat} (i : Nat) {t : T} {w : W}, EnvT m S te env F → Rp m S t w G → ∃ F', EnvT m S (te.set i (ξ t)) (env.set i (ξ w)) F' ∧ ∀ n, F'.count n ≤ F.count n + G.count n
 | [], _, _, _, _, _, h, _ => by
  rw [h.1, h.2]
  exact ⟨[], ⟨rfl, rfl⟩, fun n => by simp⟩
 | none :: te, _, _, 0, _, _, h, q => by
  obtain ⟨x, env', rfl, h⟩ := h
  exact ⟨G ++ _, ⟨_, _, _, _, rfl, q, h, rfl⟩, fun n => by rw [List.count_append]; omega⟩
 | some t :: te, _, _, 0, _, _, h, q => by
  obtain ⟨w, env', G, F', rfl, h1, h2, rfl⟩ := h
  exact ⟨_, ⟨_, _, _, _, rfl, q, h2, rfl⟩, fun n => by rw [List.count_append, List.count_append]; omega⟩
 | none :: te, _, _, i + 1, _, _, h, q => by
  obtain ⟨x, env', rfl, h⟩ := h
  obtain ⟨F', h2, c⟩ := EnvT.put i h q
  exact ⟨F', ⟨_, _, rfl, h2⟩, c⟩
 | some t :: te, _, _, i + 1, _, _, h, q => by
  obtain ⟨w0, env', G0, F0, rfl, h0, h, rfl⟩ := h
  obtain ⟨F', h2, c⟩ := EnvT.put i h q
  exact ⟨G0 ++ F', ⟨_, _, _, _, rfl, h0, h2, rfl⟩, fun n => by rw [List.count_append, List.count_append]; have := c n; omega⟩
theorem EnvT.back : ∀ {te : TE} {env : Env} {F : List Nat} (i : Nat) {t : T} {w : W}, EnvT m S te env F → env[i]? = ξ (ξ w) → Rp m S t w G → ∃ F', EnvT m S (te.set i (ξ t)) env F' ∧ ∀ n, F'.count n ≤ F.count n + G.count n := fun {te env F} i {t w} h e q => by
 obtain ⟨F', h', c⟩ := h.put i q
 have : env.set i (ξ w) = env := by
  apply List.ext_getElem?
  intro j
  rw [List.getElem?_set]
  split
  ·rename_i h; subst h
   split
   ·exact e.symm
   ·rename_i h2
    rw [List.getElem?_eq_none (by omega)]
  ·rfl
 rw [this] at h'
 exact ⟨F', h', c⟩
theorem EnvT.get {te : TE} {env : Env} {i : Nat} {t : T} (h : EnvT m S te env F) (e : te[i]? = ξ (ξ t)) : ∃ w G, env[i]? = ξ (ξ w) ∧ Rp m S t w G := by
 obtain ⟨w, G, F', e1, h1, _⟩ := h.take e
 exact ⟨w, G, e1, h1⟩
end
inductive VR (α : Type) where
 | ok (a : α) (te : TE) | exc (C : Addr) (d : Option T) (te : TE)
def a9 {α β : Type} (x : Option (VR α)) (k : α → TE → Option (VR β)) : Option (VR β) := match x with
 | none => ζ
 | some (.ok a te) => k a te
 | some (.exc C d te) => ξ (.exc C d te)
abbrev VD := TE → Option (VR T)
abbrev VT := TE → Option (VR Bool)
abbrev VA := TE → Option (VR (List T))
abbrev VV := TE → Option T
abbrev tO := TE → Option (List T)
abbrev Rl (α β : Type) := M → Own → α → β → List Nat → Prop
abbrev uj : Rl T W := fun m S t w G => Rp m S t w G
abbrev Kb : Rl (List T) (List W) := fun m S t w G => Rps m S t w G
abbrev Kc : Rl Bool Bool := fun _ _ a b G => a = b ∧ G = []
def RX (m : M) (S : Own) : Option T → Option Nat → List Nat → Prop
 | none, d, G => d = ζ ∧ G = []
 | some t, d, G => ∃ n, d = ξ n ∧ Rp m S t (.ref n) G
def Out {α β : Type} (rel : Rl α β) (m : M) (S : Own) (env : Env) (A : List Nat) (x : Option (R β)) (y : Option (VR α)) : Prop := match y with
 | none => True
 | some (.ok a te) => ∃ b m' S' F G, x = ξ (.ok b m') ∧ Aft m S A m' S' (F ++ G) ∧ EnvT m' S' te env F ∧ rel m' S' a b G
 | some (.exc C d te) => ∃ dn m' S' F G, x = ξ (.exc C dn m') ∧ Aft m S A m' S' (F ++ G) ∧ EnvT m' S' te env F ∧ RX m' S' d dn G
def XG {α β : Type} (rel : Rl α β) (de : Env → M → Option (R β)) (vd : TE → Option (VR α)) : Prop := ∀ m S te env F, Stt m S te env F → Out rel m S env F (de env m) (vd te)
abbrev XE (de : DE) (vd : VD) : Prop := XG uj de vd
abbrev XT (de : DT) (vd : VT) : Prop := XG Kc de vd
abbrev XA (de : DA) (vd : VA) : Prop := XG Kb de vd
def XV (de : DE) (vv : VV) : Prop := ∀ m S te env F, EnvT m S te env F → match vv te with
 | none => True
 | some t => ∃ w G, de env m = ξ (.ok w m) ∧ Rp m S t w G
def Oq (de : DA) (vv : tO) : Prop := ∀ m S te env F, EnvT m S te env F → match vv te with
 | none => True
 | some ts => ∃ ws G, de env m = ξ (.ok ws m) ∧ Rps m S ts ws G
def FV {α β : Type} (rel : Rl α β) : Prop := ∀ m S S' a b G, (∀ n, S' n → S n) → rel m S a b G → rel m S' a b G
section
variable {m m' m1: M}{S S' S1 S2: Own}{A B B' C F G G0 Gh: List Nat}{t: T}{ts hs: List T}{w: W}{ws us: List W}{env: Env}{te: TE}
theorem Rp.sh (hs : ∀ n, S' n → S n) (h : Rp m S t w G) : Rp m S' t w G := Rp.stay (G0 := G) (fun n o e _ => e) (fun n _ c q => c (hs n q)) (fun n h => h) h
theorem Rps.sh (hs : ∀ n, S' n → S n) (h : Rps m S ts ws G) : Rps m S' ts ws G := Rps.stay (G0 := G) (fun n o e _ => e) (fun n _ c q => c (hs n q)) (fun n h => h) h
theorem EnvT.sh (hs : ∀ n, S' n → S n) (h : EnvT m S te env F) : EnvT m S' te env F := EnvT.stay (F := F) (fun n o e _ => e) (fun n _ c q => c (hs n q)) (fun n h => h) h
theorem RX.sh {d : Option T} {dn : Option Nat} (hs : ∀ n, S' n → S n) (h : RX m S d dn G) : RX m S' d dn G := by
 cases d with
 | none => exact h
 | some t => obtain ⟨n, e, h⟩ := h; exact ⟨n, e, h.sh hs⟩
theorem sT : FV uj := fun _ _ _ _ _ _ h q => Rp.sh h q
theorem ye : FV Kb := fun _ _ _ _ _ _ h q => Rps.sh h q
theorem nH : FV Kc := fun _ _ _ _ _ _ _ q => q
theorem Out.trans {α β : Type} {rel : Rl α β} {x : Option (R β)} {y : Option (VR α)} (a : Aft m S A m1 S1 B) (h : Out rel m1 S1 env B x y) : Out rel m S env A x y := by
 cases y with
 | none => trivial
 | some y =>
  cases y with
  | ok v te =>
   obtain ⟨b, m', S', F, G, e, q, r⟩ := h
   exact ⟨b, m', S', F, G, e, a.trans q, r⟩
  | exc C d te =>
   obtain ⟨b, m', S', F, G, e, q, r⟩ := h
   exact ⟨b, m', S', F, G, e, a.trans q, r⟩
theorem Aft.drop (a : Aft m S A m1 S1 B) (le : ∀ n, B'.count n ≤ B.count n) : ∃ S2, Aft m S A m1 S2 B' ∧ ∀ n, S2 n → S1 n := by
 refine ⟨BV.less S1 B B', a.trans (Aft.less a.sub a.sep a.dom' le), cJ a.sub le⟩
theorem Stt.own (st : Stt m S te env F) : Aft m S F m S F := Aft.refl st.sub st.sep st.lt
theorem XG.bind {α β γ δ : Type} {rel1 : Rl α β} {rel : Rl γ δ} {de : Env → M → Option (R β)} {vd : TE → Option (VR α)} {k : β → M → Option (R δ)} {k' : α → TE → Option (VR γ)} (h : XG rel1 de vd) (st : Stt m S te env F) (hh : Rps m S hs us Gh) (sep : Sep (F ++ Gh)) (sub : ∀ n, Gh.count n ≠ 0 → S n)
  (hk : ∀ a te1 b m1 S1 F1 G1, Stt m1 S1 te1 env F1 → Rps m1 S1 hs us Gh → rel1 m1 S1 a b G1 → Sep (F1 ++ G1 ++ Gh) → (∀ n, (F1 ++ G1 ++ Gh).count n ≠ 0 → S1 n) → Out rel m1 S1 env (F1 ++ G1 ++ Gh) (k b m1) (k' a te1)) :
  Out rel m S env (F ++ Gh) (bnd (de env m) k) (a9 (vd te) k') := by
 have h0 := h m S te env F st
 have dis : ∀ n, Gh.count n ≠ 0 → F.count n = 0 := fun n h => by
  have := sep n
  rw [List.count_append] at this
  omega
 cases hy : vd te with
 | none => exact trivial
 | some y =>
  rw [hy] at h0
  cases y with
  | ok a te1 =>
   obtain ⟨b, m1, S1, F1, G1, e, q, ev, r⟩ := h0
   have q2 := q.frame sub sep
   rw [e]
   refine Out.trans q2 (hk a te1 b m1 S1 F1 G1 ⟨ev, fun n => ?_, fun n h => q.sub n ?_, q.dom'⟩ (q.rps st.sub dis sub hh) r q2.sep q2.sub)
   ·have := q.sep n
    rw [List.count_append] at this
    omega
   ·rw [List.count_append]
    omega
  | exc C d te1 =>
   obtain ⟨b, m1, S1, F1, G1, e, q, ev, r⟩ := h0
   have q2 := q.frame sub sep
   rw [e]
   obtain ⟨S2, q3, le⟩ := q2.drop (B' := F1 ++ G1) fun n => by rw [List.count_append (l₁ := F1 ++ G1)]; omega
   exact ⟨b, m1, S2, F1, G1, rfl, q3, ev.sh le, r.sh le⟩
theorem XG.bind0 {α β γ δ : Type} {rel1 : Rl α β} {rel : Rl γ δ} {de : Env → M → Option (R β)} {vd : TE → Option (VR α)} {k : β → M → Option (R δ)} {k' : α → TE → Option (VR γ)} (h : XG rel1 de vd) (st : Stt m S te env F)
  (hk : ∀ a te1 b m1 S1 F1 G1, Stt m1 S1 te1 env F1 → rel1 m1 S1 a b G1 → Sep (F1 ++ G1) → (∀ n, (F1 ++ G1).count n ≠ 0 → S1 n) → Out rel m1 S1 env (F1 ++ G1) (k b m1) (k' a te1)) :
  Out rel m S env F (bnd (de env m) k) (a9 (vd te) k') := by
 have := h.bind (rel := rel) (k := k) (k' := k') (hs := []) (us := []) (Gh := []) st ⟨rfl, rfl⟩ (by rw [List.append_nil]; exact st.sep) (by simp) (fun a te1 b m1 S1 F1 G1 s1 _ r sp sb => by
  rw [List.append_nil] at sp sb ⊢
  exact hk a te1 b m1 S1 F1 G1 s1 r sp sb)
 rw [List.append_nil] at this
 exact this
theorem Out.done {α β : Type} {rel : Rl α β} {a : α} {b : β} (mono : FV rel) (ev : EnvT m S te env F) (q : rel m S a b G) (sub : ∀ n, A.count n ≠ 0 → S n) (sep : Sep A) (dom : ∀ n, S n → n < m.length) (le : ∀ n, (F ++ G).count n ≤ A.count n) : Out rel m S env A (ξ (.ok b m)) (ξ (.ok a te)) :=
 ⟨b, m, less S A (F ++ G), F, G, rfl, Aft.less sub sep dom le, ev.sh (cJ sub le), mono _ _ _ _ _ _ (cJ sub le) q⟩
theorem Out.alloc {k : Kd} (ev : EnvT m S te env F) (q : Rps m S ts ws G) (ft : k.fit ts.length = true) (sub : ∀ n, A.count n ≠ 0 → S n) (sep : Sep A) (dom : ∀ n, S n → n < m.length) (le : ∀ n, (F ++ G).count n ≤ A.count n) : Out uj m S env A (ξ (.ok (.ref m.length) (m ++ [k.mk ws]))) (ξ (.ok (.nd true k ts) te)) := by
 have hf : ∀ n, (F ++ G).count n ≠ 0 → n < m.length := fun n h => dom n (sub n (by have := le n; omega))
 have hk : ∀ (n : Nat) o, m[n]? = ξ o → (m ++ [k.mk ws])[n]? = ξ o := fun n o e => by rw [List.getElem?_append_left (lG e)]; exact e
 have hs : ∀ n, n < m.length → ¬ S n → ¬ less S A (F ++ m.length :: G) n := fun n l c q => by
  rcases q with q | q
  ·exact c q.1
  ·refine c (sub n ?_)
   have h1 := le n
   rw [List.count_append] at h1 q
   rw [List.count_cons] at q
   have : ¬ (m.length == n) = true := by simp; omega
   simp only [this] at q
   simp at q
   omega
 refine ⟨_, _, less S A (F ++ m.length :: G), F, m.length :: G, rfl, ⟨fun n => Iff.rfl, fun n => ?_, by simp, fun n h => ?_, fun n o e _ => .inl (hk n o e), fun n l h => ?_, dom⟩, ?_, ?_⟩
 ·have h1 := le n
  have h2 := sep n
  rw [List.count_append] at h1 ⊢
  rw [List.count_cons]
  by_cases z : m.length = n
  ·have h3 : (F ++ G).count n = 0 := by
    by_cases z2 : (F ++ G).count n = 0
    ·exact z2
    ·exact absurd (hf n z2) (by omega)
   rw [List.count_append] at h3
   split <;> omega
  ·have : ¬ (m.length == n) = true := by simp; exact z
   rw [if_neg this]
   omega
 ·rw [List.length_append]
  by_cases z : m.length = n
  ·simp; omega
  ·have : ¬ (m.length == n) = true := by simp; exact z
   rw [List.count_append, List.count_cons, if_neg this] at h
   have := hf n (by rw [List.count_append]; omega)
   simp; omega
 ·have : ¬ (m.length == n) = true := by simp; omega
  rw [List.count_append, List.count_cons, if_neg this] at h
  have := le n
  rw [List.count_append] at this
  omega
 ·exact EnvT.stay (F := F) (fun n o e _ => hk n o e) hs (fun n h => h) ev
 ·exact ⟨m.length, ws, G, rfl, .inl (by simp), ft, Rps.stay (G0 := G) (fun n o e _ => hk n o e) hs (fun n h => h) q, .inl ⟨rfl, rfl⟩⟩
end
inductive PN where
 | pur (t : T) | new (k : Kd) (ts : List T)
abbrev G2 := T → T → Option PN
abbrev GN := List T → Option PN
def xo (f : FN) (g : GN) : Prop := ∀ m S ts ws Gs, Rps m S ts ws Gs → match g ts with
 | none => True
 | some (.pur t) => ∃ w G, f ws m = ξ (w, m) ∧ Rp m S t w G ∧ ∀ n, G.count n ≤ Gs.count n
 | some (.new k cs) => ∃ us G, f ws m = ξ (.ref m.length, m ++ [k.mk us]) ∧ Rps m S cs us G ∧ k.fit cs.length = true ∧ ∀ n, G.count n ≤ Gs.count n
def lI (f : F2) (g : G2) : Prop := ∀ m S t1 w1 G1 t2 w2 G2, Rp m S t1 w1 G1 → Rp m S t2 w2 G2 → match g t1 t2 with
 | none => True
 | some (.pur t) => ∃ w G, f w1 w2 m = ξ (w, m) ∧ Rp m S t w G ∧ ∀ n, G.count n ≤ (G1 ++ G2).count n
 | some (.new k cs) => ∃ us G, f w1 w2 m = ξ (.ref m.length, m ++ [k.mk us]) ∧ Rps m S cs us G ∧ k.fit cs.length = true ∧ ∀ n, G.count n ≤ (G1 ++ G2).count n
def ae (i : Nat) : VV := fun te => match te[i]? with
 | some (ξ t) => ξ t
 | _ => ζ
def aI (t : T) : VV := fun _ => ξ t
def aD (g : G2) (a b : VV) : VV := fun te => match a te, b te with
 | some x, ξ y => (match g x y with
  | some (.pur t) => ξ t
  | _ => ζ)
 | _, _ => ζ
def aK : tO := fun _ => ξ []
def aw (a : VV) (as : tO) : tO := fun te => match a te, as te with
 | some x, ξ xs => ξ (x :: xs)
 | _, _ => ζ
def bt (g : GN) (as : tO) : VV := fun te => match as te with
 | some xs => (match g xs with
  | some (.pur t) => ξ t
  | _ => ζ)
 | none => ζ
def hM (as : tO) : VV := fun te => match as te with
 | some xs => if xs.length ≤ sizeLine then ξ (.tup xs) else ζ
 | none => ζ
def y0 (f : Str) : List Str → List T → Option T
 | g :: gs, t :: ts => if f == g then ξ t else y0 f gs ts
 | _, _ => ζ
def ib (C : Addr) (f : Str) : T → Option T
 | .nd _ (.ins C' fs) ts => if C' = C then y0 f fs ts else ζ
 | _ => ζ
def aZ (C : Addr) (f : Str) (a : VV) : VV := fun te => match a te with
 | some t => ib C f t
 | none => ζ
def Cm (a : VV) : VV := fun te => match a te with
 | some (.bl b) => ξ (.bl (!b))
 | _ => ζ
def yT (a b : VV) : VV := fun te => match a te with
 | some (.bl true) => b te
 | some (.bl false) => ξ (.bl false)
 | _ => ζ
def vvOr (a b : VV) : VV := fun te => match a te with
 | some (.bl true) => ξ (.bl true)
 | some (.bl false) => b te
 | _ => ζ
def gi (f g : G2) (a b c : VV) : VV := fun te => match a te, b te with
  | some x, ξ y => (match f x y with
    | some (.pur (.bl true)) => (match c te with
      | some z => (match g y z with
        | some (.pur t) => ξ t
        | _ => ζ)
      | none => ζ)
    | some (.pur (.bl false)) => ξ (.bl false)
    | _ => ζ)
  | _, _ => ζ
section
variable {da db dc: DE}{va vb vc: VV}{das: DA}{vas: tO}{f f': F2}{g g': G2}
theorem ao {i : Nat} : XV (ax i) (ae i) := fun m S te env F h => by
 unfold ae
 split
 ·trivial
 ·rename_i t hx
  split at hx
  ·rename_i t' ht
   cases hx
   obtain ⟨w, G, e, q⟩ := h.get ht
   exact ⟨w, G, by simp [e], q⟩
  ·cases hx
theorem Ae {t : T} {w : W} (h : ∀ m S, Rp m S t w []) : XV (eC w) (aI t) := fun m S te env F _ => ⟨w, [], rfl, h m S⟩
theorem fH : XV (eC .non) (aI .non) := Ae fun _ _ => ⟨rfl, rfl⟩
theorem u6 {b : Bool} : XV (eC (.bl b)) (aI (.bl b)) := Ae fun _ _ => ⟨rfl, rfl⟩
theorem aR {b : Int} : XV (eC (.int b)) (aI (.int b)) := Ae fun _ _ => ⟨rfl, rfl⟩
theorem cE {b : Str} : XV (eC (.str b)) (aI (.str b)) := Ae fun _ _ => ⟨rfl, rfl⟩
theorem Ow {b : Addr} : XV (eC (.ob b)) (aI (.ob b)) := Ae fun _ _ => ⟨rfl, rfl⟩
theorem Ov {b : String} : XV (eC (.ty b)) (aI (.ty b)) := Ae fun _ _ => ⟨rfl, rfl⟩
theorem aY (hf : lI f g) (ha : XV da va) (hb : XV db vb) : XV (cY f da db) (aD g va vb) := fun m S te env F h => by
 have h1 := ha m S te env F h
 have h2 := hb m S te env F h
 unfold aD
 cases hx : va te with
 | none => trivial
 | some x =>
  cases hy : vb te with
  | none => trivial
  | some y =>
   rw [hx] at h1
   rw [hy] at h2
   obtain ⟨w1, G1, e1, q1⟩ := h1
   obtain ⟨w2, G2, e2, q2⟩ := h2
   have h3 := hf m S x w1 G1 y w2 G2 q1 q2
   simp only
   cases hz : g x y with
   | none => trivial
   | some z =>
    rw [hz] at h3
    cases z with
    | new k ts => trivial
    | pur t =>
     obtain ⟨w, G, e, q, _⟩ := h3
     exact ⟨w, G, by simp [e1, e2, e], q⟩
theorem bP : Oq aJ aK := fun m S te env F h => ⟨[], [], rfl, rfl, rfl⟩
theorem aQ (ha : XV da va) (hb : Oq das vas) : Oq (aq da das) (aw va vas) := fun m S te env F h => by
 have h1 := ha m S te env F h
 have h2 := hb m S te env F h
 unfold aw
 cases hx : va te with
 | none => trivial
 | some x =>
  cases hy : vas te with
  | none => trivial
  | some y =>
   rw [hx] at h1
   rw [hy] at h2
   obtain ⟨w1, G1, e1, q1⟩ := h1
   obtain ⟨w2, G2, e2, q2⟩ := h2
   exact ⟨w1 :: w2, G1 ++ G2, by simp [e1, e2], w1, w2, G1, G2, rfl, q1, q2, rfl⟩
theorem fq {f : FN} {g : GN} (hf : xo f g) (ha : Oq das vas) : XV (iI f das) (bt g vas) := fun m S te env F h => by
 have h1 := ha m S te env F h
 unfold bt
 cases hx : vas te with
 | none => trivial
 | some x =>
  rw [hx] at h1
  obtain ⟨w1, G1, e1, q1⟩ := h1
  have h3 := hf m S x w1 G1 q1
  simp only
  cases hz : g x with
  | none => trivial
  | some z =>
   rw [hz] at h3
   cases z with
   | new k ts => trivial
   | pur t =>
    obtain ⟨w, G, e, q, _⟩ := h3
    exact ⟨w, G, by simp [e1, e], q⟩
theorem B7 (ha : Oq das vas) : XV (ri das) (hM vas) := fun m S te env F h => by
 have h1 := ha m S te env F h
 unfold hM
 cases hx : vas te with
 | none => trivial
 | some x =>
  rw [hx] at h1
  obtain ⟨w1, G1, e1, q1⟩ := h1
  simp only
  by_cases hl : x.length ≤ sizeLine
  ·rw [if_pos hl]
   exact ⟨.tup w1, G1, by simp only [w8, e1, gq]; rw [if_pos (by rw [← q1.len]; exact hl)], w1, rfl, q1⟩
  ·rw [if_neg hl]
   trivial
theorem Ca (hf : lI f g) (hf' : lI f' g') (ha : XV da va) (hb : XV db vb) (hc : XV dc vc) : XV (nR f f' da db dc) (gi g g' va vb vc) := fun m S te env F h => by
  have h1 := ha m S te env F h
  have h2 := hb m S te env F h
  have h4 := hc m S te env F h
  unfold gi
  cases hx : va te with
  | none => trivial
  | some x =>
    cases hy : vb te with
    | none => trivial
    | some y =>
      rw [hx] at h1
      rw [hy] at h2
      obtain ⟨w1, G1, e1, q1⟩ := h1
      obtain ⟨w2, G2, e2, q2⟩ := h2
      have h3 := hf m S x w1 G1 y w2 G2 q1 q2
      simp only
      cases hz : g x y with
      | none => trivial
      | some z =>
        rw [hz] at h3
        cases z with
        | new k ts => trivial
        | pur t =>
          cases t <;> first | trivial | skip
          rename_i b
          obtain ⟨w, G, e, ⟨rfl, rfl⟩, _⟩ := h3
          cases b with
          | false => exact ⟨.bl false, [], by simp [nR, e1, e2, e], rfl, rfl⟩
          | true =>
            simp only
            cases hu : vc te with
            | none => trivial
            | some z =>
              rw [hu] at h4
              obtain ⟨w3, G3, e3, q3⟩ := h4
              have h5 := hf' m S y w2 G2 z w3 G3 q2 q3
              simp only
              cases hv : g' y z with
              | none => trivial
              | some u =>
                rw [hv] at h5
                cases u with
                | new k ts => trivial
                | pur t =>
                  obtain ⟨w, G, e', q, _⟩ := h5
                  exact ⟨w, G, by simp [nR, e1, e2, e, e3, e'], q⟩
end
def kT (x : Option PN) (te : TE) : Option (VR T) := match x with
 | some (.pur t) => ξ (.ok t te)
 | some (.new k ts) => ξ (.ok (.nd true k ts) te)
 | none => ζ
def dj (x : Option PN) (te : TE) : Option (VR T) := match x with
 | some (.pur t) => if hot t = true then ζ else ξ (.ok t te)
 | some (.new k ts) => if hots ts = true then ζ else ξ (.ok (.nd true k ts) te)
 | none => ζ
section
variable {m: M}{S: Own}{A F G Gh: List Nat}{t: T}{w: W}{us: List W}{env: Env}{te: TE}
theorem Stt.le {A : List Nat} (h : Stt m S te env F) : (∀ n, F.count n ≠ 0 → S n) := h.sub
theorem Out.pn {x : Option PN} {y : Option (W × M)} (h : match x with
   | none => True
   | some (.pur t) => ∃ w G, y = ξ (w, m) ∧ Rp m S t w G ∧ ∀ n, G.count n ≤ Gh.count n
   | some (.new k cs) => ∃ us G, y = ξ (.ref m.length, m ++ [k.mk us]) ∧ Rps m S cs us G ∧ k.fit cs.length = true ∧ ∀ n, G.count n ≤ Gh.count n)
  (ev : EnvT m S te env F) (sub : ∀ n, A.count n ≠ 0 → S n) (sep : Sep A) (dom : ∀ n, S n → n < m.length) (le : ∀ n, F.count n + Gh.count n ≤ A.count n) : Out uj m S env A (up y) (kT x te) := by
 cases x with
 | none => trivial
 | some x =>
  cases x with
  | pur t =>
   obtain ⟨w, G, rfl, q, l⟩ := h
   exact Out.done sT ev q sub sep dom fun n => by rw [List.count_append]; have := le n; have := l n; omega
  | new k cs =>
   obtain ⟨us, G, rfl, q, ft, l⟩ := h
   exact Out.alloc ev q ft sub sep dom fun n => by rw [List.count_append]; have := le n; have := l n; omega
theorem Out.pnc {x : Option PN} {y : Option (W × M)} (h : match x with
   | none => True
   | some (.pur t) => ∃ w G, y = ξ (w, m) ∧ Rp m S t w G ∧ ∀ n, G.count n ≤ Gh.count n
   | some (.new k cs) => ∃ us G, y = ξ (.ref m.length, m ++ [k.mk us]) ∧ Rps m S cs us G ∧ k.fit cs.length = true ∧ ∀ n, G.count n ≤ Gh.count n)
  (ev : EnvT m S te env F) (sub : ∀ n, A.count n ≠ 0 → S n) (sep : Sep A) (dom : ∀ n, S n → n < m.length) (le : ∀ n, F.count n ≤ A.count n) : Out uj m S env A (up y) (dj x te) := by
 cases x with
 | none => trivial
 | some x =>
  cases x with
  | pur t =>
   obtain ⟨w, G, rfl, q, l⟩ := h
   unfold dj
   simp only
   by_cases hh : hot t = true
   ·rw [if_pos hh]; trivial
   ·rw [if_neg hh]
    have hc := Rp.cold (by simpa using hh) q
    subst hc
    exact Out.done sT ev q sub sep dom fun n => by rw [List.append_nil]; exact le n
  | new k cs =>
   obtain ⟨us, G, rfl, q, ft, l⟩ := h
   unfold dj
   simp only
   by_cases hh : hots cs = true
   ·rw [if_pos hh]; trivial
   ·rw [if_neg hh]
    have hc := Rps.cold (by simpa using hh) q
    subst hc
    exact Out.alloc ev q ft sub sep dom fun n => by rw [List.append_nil]; exact le n
end
def au (vv : VV) : VD := fun te => match vv te with
 | some t => if hot t = true then ζ else ξ (.ok t te)
 | none => ζ
def Av (i : Nat) : VD := fun te => match te[i]? with
 | some (ξ t) => ξ (.ok (frz t) (te.set i (ξ (frz t))))
 | _ => ζ
def K7 (i : Nat) : VD := fun te => match te[i]? with
 | some (ξ t) => ξ (.ok t (te.set i ζ))
 | _ => ζ
section
variable {da db: DE}{va vb: VD}{vv: VV}{das: DA}{vas: VA}{vvs: tO}{ta tb: DT}{ua ub: VT}{f: F2}{g: G2}{fn: FN}{gn: GN}
theorem aF (h : XV da vv) : XE da (au vv) := fun m S te env F st => by
 have h1 := h m S te env F st.env
 unfold au
 cases hx : vv te with
 | none => trivial
 | some t =>
  rw [hx] at h1
  obtain ⟨w, G, e, q⟩ := h1
  simp only
  by_cases hh : hot t = true
  ·rw [if_pos hh]; trivial
  ·rw [if_neg hh, e]
   have hc := Rp.cold (by simpa using hh) q
   subst hc
   exact Out.done sT st.env q st.sub st.sep st.lt fun n => by rw [List.append_nil]; omega
def Aq (g : G2) (a b : VD) : VD := fun te => a9 (a te) fun x te1 => a9 (b te1) fun y te2 => kT (g x y) te2
def lX (g : G2) (a : VD) (b : VV) : VD := fun te => a9 (a te) fun x te1 => match b te1 with
 | some y => dj (g x y) te1
 | none => ζ
def OY (g : G2) (a b : VV) : VD := fun te => match a te, b te with
 | some x, ξ y => dj (g x y) te
 | _, _ => ζ
def oU (g : GN) (as : VA) : VD := fun te => a9 (as te) fun xs te1 => kT (g xs) te1
def vq (g : GN) (as : tO) : VD := fun te => match as te with
 | some xs => dj (g xs) te
 | none => ζ
theorem x_op (hf : lI f g) (ha : XE da va) (hb : XE db vb) : XE (cY f da db) (Aq g va vb) := fun m S te env F st => by
 refine XG.bind0 ha st fun x te1 w1 m1 S1 F1 G1 st1 q1 sp1 sb1 => ?_
 refine XG.bind hb st1 (hs := [x]) (us := [w1]) (Rps.one q1) sp1 (fun n h => sb1 n (by rw [List.count_append]; omega)) fun y te2 w2 m2 S2 F2 G2 st2 hh q2 sp2 sb2 => ?_
 obtain ⟨w1', ws', G3, G4, e, q1', h2, rfl⟩ := hh
 cases e
 obtain ⟨h21, rfl⟩ := h2
 rw [List.append_nil] at sp2 sb2 ⊢
 exact Out.pn (hf m2 S2 x w1 G3 y w2 G2 q1' q2) st2.env sb2 sp2 st2.lt fun n => by simp only [List.count_append]; omega
theorem Ci (hf : lI f g) (ha : XE da va) (hb : XV db vv) : XE (cY f da db) (lX g va vv) := fun m S te env F st => by
 refine XG.bind0 ha st fun x te1 w1 m1 S1 F1 G1 st1 q1 sp1 sb1 => ?_
 have h2 := hb m1 S1 te1 env F1 st1.env
 cases hy : vv te1 with
 | none => trivial
 | some y =>
  rw [hy] at h2
  obtain ⟨w2, G2, e2, q2⟩ := h2
  simp only [gq, e2]
  exact Out.pnc (hf m1 S1 x w1 G1 y w2 G2 q1 q2) st1.env sb1 sp1 st1.lt fun n => by simp only [List.count_append]; omega
theorem Ah (hf : xo fn gn) (ha : XA das vas) : XE (iI fn das) (oU gn vas) := fun m S te env F st => by
 refine XG.bind0 ha st fun x te1 w1 m1 S1 F1 G1 st1 q1 sp1 sb1 => ?_
 exact Out.pn (hf m1 S1 x w1 G1 q1) st1.env sb1 sp1 st1.lt fun n => by simp only [List.count_append]; omega
theorem OA (hf : xo fn gn) (ha : Oq das vvs) : XE (iI fn das) (vq gn vvs) := fun m S te env F st => by
 have h1 := ha m S te env F st.env
 unfold vq
 cases hx : vvs te with
 | none => trivial
 | some x =>
  rw [hx] at h1
  obtain ⟨w1, G1, e1, q1⟩ := h1
  simp only [z0, gq, e1]
  exact Out.pnc (hf m S x w1 G1 q1) st.env st.sub st.sep st.lt fun n => Nat.le_refl _
def ah : VA := fun te => ξ (.ok [] te)
def aa (a : VD) (as : VA) : VA := fun te => a9 (a te) fun x te1 => a9 (as te1) fun xs te2 => ξ (.ok (x :: xs) te2)
def lV (as : VA) : VD := fun te => a9 (as te) fun xs te1 => if xs.length ≤ sizeLine then ξ (.ok (.tup xs) te1) else ζ
def bx (as : VA) : VD := fun te => a9 (as te) fun xs te1 => if xs.length ≤ sizeLine then ξ (.ok (.nd true .lst xs) te1) else ζ
theorem aG : XA aJ ah := fun m S te env F st => Out.done ye st.env ⟨rfl, rfl⟩ st.sub st.sep st.lt fun n => by rw [List.append_nil]; omega
theorem ak (ha : XE da va) (hb : XA das vas) : XA (aq da das) (aa va vas) := fun m S te env F st => by
 refine XG.bind0 ha st fun x te1 w1 m1 S1 F1 G1 st1 q1 sp1 sb1 => ?_
 refine XG.bind hb st1 (hs := [x]) (us := [w1]) (Rps.one q1) sp1 (fun n h => sb1 n (by rw [List.count_append]; omega)) fun y te2 w2 m2 S2 F2 G2 st2 hh q2 sp2 sb2 => ?_
 exact Out.done (G := G1 ++ G2) ye st2.env (hh.app q2) sb2 sp2 st2.lt fun n => by simp only [List.count_append]; omega
theorem x_tup (ha : XA das vas) : XE (ri das) (lV vas) := fun m S te env F st => by
 refine XG.bind0 ha st fun x te1 w1 m1 S1 F1 G1 st1 q1 sp1 sb1 => ?_
 by_cases hl : x.length ≤ sizeLine
 ·rw [if_pos hl, if_pos (by rw [← Rps.len q1]; exact hl)]
  exact Out.done sT st1.env ⟨w1, rfl, q1⟩ sb1 sp1 st1.lt fun n => Nat.le_refl _
 ·rw [if_neg hl]
  trivial
theorem x_lst (ha : XA das vas) : XE (dM das) (bx vas) := fun m S te env F st => by
 refine XG.bind0 ha st fun x te1 w1 m1 S1 F1 G1 st1 q1 sp1 sb1 => ?_
 by_cases hl : x.length ≤ sizeLine
 ·rw [if_pos hl, if_pos (by rw [← Rps.len q1]; exact hl)]
  exact Out.alloc (k := .lst) st1.env q1 rfl sb1 sp1 st1.lt fun n => Nat.le_refl _
 ·rw [if_neg hl]
  trivial
def av (a : VD) : VD := fun te => a9 (a te) fun x te1 => ξ (.ok (frz x) te1)
theorem aW (ha : XE da va) : XE da (av va) := fun m S te env F st => by
 have h0 := ha m S te env F st
 unfold av
 cases hy : va te with
 | none => trivial
 | some y =>
  rw [hy] at h0
  cases y with
  | exc C d te1 => exact h0
  | ok a te1 =>
   obtain ⟨b, m1, S1, F1, G1, e, q, ev, r⟩ := h0
   have le : ∀ n, F1.count n ≤ (F1 ++ G1).count n := fun n => by rw [List.count_append]; omega
   have a1 := Aft.less q.sub q.sep q.dom' le
   have sh := cJ q.sub le
   refine ⟨b, m1, _, F1, [], e, by rw [List.append_nil]; exact q.trans a1, ev.sh sh, Rp.frz (G0 := G1) sh (fun n h z => ?_) (fun n h => h) r⟩
   have h1 := q.sep n
   rw [List.count_append] at h1
   rcases z with ⟨_, z⟩ | z
   ·rw [List.count_append] at z; omega
   ·omega
def Nc (x : T) (te : TE) : Option (VR Bool) := match x with
 | .bl b => ξ (.ok b te)
 | _ => ζ
def cK (a : VD) : VT := fun te => a9 (a te) Nc
def eR (a : VV) : VT := fun te => match a te with
 | some (.bl b) => ξ (.ok b te)
 | _ => ζ
def jW (a b : VT) : VT := fun te => a9 (a te) fun x te1 => if x = true then b te1 else ξ (.ok false te1)
def jV (a b : VT) : VT := fun te => a9 (a te) fun x te1 => if x = true then ξ (.ok true te1) else b te1
def cG (a : VT) : VT := fun te => a9 (a te) fun x te1 => ξ (.ok (!x) te1)
def Au (c : VT) (a b : VD) : VD := fun te => a9 (c te) fun x te1 => if x = true then a te1 else b te1
def t6 (a b : VD) : VD := fun te => a9 (a te) fun x te1 => match x with
 | .bl true => b te1
 | .bl false => ξ (.ok (.bl false) te1)
 | _ => ζ
def vOr (a b : VD) : VD := fun te => a9 (a te) fun x te1 => match x with
 | .bl true => ξ (.ok (.bl true) te1)
 | .bl false => b te1
 | _ => ζ
def O1 (a : VD) : VD := fun te => a9 (a te) fun x te1 => match x with
 | .bl k => ξ (.ok (.bl (!k)) te1)
 | _ => ζ
theorem Stt.out {α β : Type} {rel : Rl α β} {m : M} {S : Own} {te : TE} {env : Env} {F A : List Nat} {x : Option (R β)} {y : Option (VR α)} (st : Stt m S te env F) (h : Out rel m S env F x y) (e : ∀ n, A.count n = F.count n) : Out rel m S env A x y := Out.trans (B := F) (st.own.perm e fun n => rfl) h
theorem x_test (ha : XE da va) : XT (bJ da) (cK va) := fun m S te env F st => by
 refine XG.bind0 ha st fun x te1 w1 m1 S1 F1 G1 st1 q1 sp1 sb1 => ?_
 cases x <;> first | trivial | skip
 obtain ⟨rfl, rfl⟩ := q1
 exact Out.done nH st1.env ⟨rfl, rfl⟩ sb1 sp1 st1.lt fun n => Nat.le_refl _
theorem jS (h : XV da vv) : XT (bJ da) (eR vv) := fun m S te env F st => by
 have h1 := h m S te env F st.env
 unfold eR
 cases hx : vv te with
 | none => trivial
 | some t =>
  rw [hx] at h1
  cases t <;> first | trivial | skip
  obtain ⟨w, G, e, rfl, rfl⟩ := h1
  simp only [tx, e, gq, Nf]
  exact Out.done nH st.env ⟨rfl, rfl⟩ st.sub st.sep st.lt fun n => by rw [List.append_nil]; omega
theorem tQ (ha : XT ta ua) (hb : XT tb ub) : XT (pS ta tb) (jW ua ub) := fun m S te env F st => by
 refine XG.bind0 ha st fun x te1 w1 m1 S1 F1 G1 st1 q1 sp1 sb1 => ?_
 obtain ⟨rfl, rfl⟩ := q1
 cases x with
 | true => exact st1.out (hb m1 S1 te1 env F1 st1) fun n => by simp
 | false => exact Out.done nH st1.env ⟨rfl, rfl⟩ sb1 sp1 st1.lt fun n => Nat.le_refl _
theorem yK (ha : XT ta ua) (hb : XT tb ub) : XT (xJ ta tb) (jV ua ub) := fun m S te env F st => by
 refine XG.bind0 ha st fun x te1 w1 m1 S1 F1 G1 st1 q1 sp1 sb1 => ?_
 obtain ⟨rfl, rfl⟩ := q1
 cases x with
 | false => exact st1.out (hb m1 S1 te1 env F1 st1) fun n => by simp
 | true => exact Out.done nH st1.env ⟨rfl, rfl⟩ sb1 sp1 st1.lt fun n => Nat.le_refl _
theorem lg (ha : XT ta ua) : XT (i9 ta) (cG ua) := fun m S te env F st => by
 refine XG.bind0 ha st fun x te1 w1 m1 S1 F1 G1 st1 q1 sp1 sb1 => ?_
 obtain ⟨rfl, rfl⟩ := q1
 exact Out.done nH st1.env ⟨rfl, rfl⟩ sb1 sp1 st1.lt fun n => Nat.le_refl _
theorem K4 (hc : XT ta ua) (ha : XE da va) (hb : XE db vb) : XE (Fm ta da db) (Au ua va vb) := fun m S te env F st => by
 refine XG.bind0 hc st fun x te1 w1 m1 S1 F1 G1 st1 q1 sp1 sb1 => ?_
 obtain ⟨rfl, rfl⟩ := q1
 cases x with
 | true => exact st1.out (ha m1 S1 te1 env F1 st1) fun n => by simp
 | false => exact st1.out (hb m1 S1 te1 env F1 st1) fun n => by simp
theorem x_and (ha : XE da va) (hb : XE db vb) : XE (tF da db) (t6 va vb) := fun m S te env F st => by
 refine XG.bind0 ha st fun x te1 w1 m1 S1 F1 G1 st1 q1 sp1 sb1 => ?_
 cases x <;> first | trivial | skip
 rename_i b
 obtain ⟨rfl, rfl⟩ := q1
 cases b with
 | true => exact st1.out (hb m1 S1 te1 env F1 st1) fun n => by simp
 | false => exact Out.done sT st1.env ⟨rfl, rfl⟩ sb1 sp1 st1.lt fun n => Nat.le_refl _
theorem x_not (ha : XE da va) : XE (Fj da) (O1 va) := fun m S te env F st => by
 refine XG.bind0 ha st fun x te1 w1 m1 S1 F1 G1 st1 q1 sp1 sb1 => ?_
 cases x <;> first | trivial | skip
 rename_i b
 obtain ⟨rfl, rfl⟩ := q1
 exact Out.done sT st1.env ⟨rfl, rfl⟩ sb1 sp1 st1.lt fun n => Nat.le_refl _
end
inductive VF where
 | next | ret (t : T) | brk | cont
inductive VS where
 | fl (f : VF) (te : TE) | exc (C : Addr) (d : Option T) (te : TE)
abbrev bu := TE → Option VS
def RF (m : M) (S : Own) : VF → F → List Nat → Prop
 | .next, f, G => f = .next ∧ G = []
 | .brk, f, G => f = .brk ∧ G = []
 | .cont, f, G => f = .cont ∧ G = []
 | .ret t, f, G => ∃ w, f = .ret w ∧ Rp m S t w G
def Agr (L : List Nat) (env env' : Env) : Prop := env'.length = env.length ∧ ∀ i, L.contains i = false → env'[i]? = env[i]?
def OutS (m : M) (S : Own) (env : Env) (A L : List Nat) (x : Option RS) (y : Option VS) : Prop := match y with
 | none => True
 | some (.fl f te) => ∃ f' env' m' S' F G, x = ξ (.fl f' env' m') ∧ Aft m S A m' S' (F ++ G) ∧ EnvT m' S' te env' F ∧ RF m' S' f f' G ∧ Agr L env env'
 | some (.exc C d te) => ∃ dn env' m' S' F G, x = ξ (.exc C dn env' m') ∧ Aft m S A m' S' (F ++ G) ∧ EnvT m' S' te env' F ∧ RX m' S' d dn G ∧ Agr L env env'
def XS (L : List Nat) (ds : DS) (vs : bu) : Prop := ∀ m S te env F, Stt m S te env F → OutS m S env F L (ds env m) (vs te)
def pM {α : Type} (x : Option (VR α)) (k : α → TE → Option VS) : Option VS := match x with
 | none => ζ
 | some (.ok a te) => k a te
 | some (.exc C d te) => ξ (.exc C d te)
section
variable {m m' m1: M}{S S' S1: Own}{A B C F G L L': List Nat}{env env' env1: Env}{te: TE}
theorem Agr.refl : Agr L env env := ⟨rfl, fun _ _ => rfl⟩
theorem Agr.trans (a : Agr L env env1) (b : Agr L' env1 env') : Agr (L ++ L') env env' := ⟨b.1.trans a.1, fun i h => by
 have h1 : L.contains i = false ∧ L'.contains i = false := by
  simp only [List.contains_eq_mem, List.mem_append, decide_eq_false_iff_not, not_or] at h ⊢
  exact h
 rw [b.2 i h1.2, a.2 i h1.1]⟩
theorem Agr.mono (a : Agr L env env') (h : ∀ i, L'.contains i = false → L.contains i = false) : Agr L' env env' := ⟨a.1, fun i q => a.2 i (h i q)⟩
theorem Agr.l (a : Agr L env env') : Agr (L ++ L') env env' := a.mono fun i h => by
 simp only [List.contains_eq_mem, List.mem_append, decide_eq_false_iff_not, not_or] at h ⊢
 exact h.1
theorem Agr.r (a : Agr L' env env') : Agr (L ++ L') env env' := a.mono fun i h => by
 simp only [List.contains_eq_mem, List.mem_append, decide_eq_false_iff_not, not_or] at h ⊢
 exact h.2
theorem Agr.set {i : Nat} {x : Option W} : Agr [i] env (env.set i x) := ⟨by simp, fun j h => by
 have hj : i ≠ j := fun z => by simp [z] at h
 rw [List.getElem?_set_ne hj]⟩
theorem OutS.trans {x : Option RS} {y : Option VS} (a : Aft m S A m1 S1 B) (h : OutS m1 S1 env B L x y) : OutS m S env A L x y := by
 cases y with
 | none => trivial
 | some y =>
  cases y with
  | fl f te =>
   obtain ⟨f', env', m', S', F, G, e, q, r⟩ := h
   exact ⟨f', env', m', S', F, G, e, a.trans q, r⟩
  | exc C d te =>
   obtain ⟨f', env', m', S', F, G, e, q, r⟩ := h
   exact ⟨f', env', m', S', F, G, e, a.trans q, r⟩
theorem OutS.then {x : Option RS} {y : Option VS} (a : Agr L env env1) (h : OutS m S env1 A L' x y) : OutS m S env A (L ++ L') x y := by
 cases y with
 | none => trivial
 | some y =>
  cases y with
  | fl f te =>
   obtain ⟨f', env', m', S', F, G, e, q, r1, r2, r3⟩ := h
   exact ⟨f', env', m', S', F, G, e, q, r1, r2, a.trans r3⟩
  | exc C d te =>
   obtain ⟨f', env', m', S', F, G, e, q, r1, r2, r3⟩ := h
   exact ⟨f', env', m', S', F, G, e, q, r1, r2, a.trans r3⟩
theorem OutS.mono {x : Option RS} {y : Option VS} (h : OutS m S env A L x y) (l : ∀ i, L'.contains i = false → L.contains i = false) : OutS m S env A L' x y := by
 cases y with
 | none => trivial
 | some y =>
  cases y with
  | fl f te =>
   obtain ⟨f', env', m', S', F, G, e, q, r1, r2, r3⟩ := h
   exact ⟨f', env', m', S', F, G, e, q, r1, r2, r3.mono l⟩
  | exc C d te =>
   obtain ⟨f', env', m', S', F, G, e, q, r1, r2, r3⟩ := h
   exact ⟨f', env', m', S', F, G, e, q, r1, r2, r3.mono l⟩
theorem Qh {i : Nat} (h : (L ++ L').contains i = false) : L.contains i = false := by
 simp only [List.contains_eq_mem, List.mem_append, decide_eq_false_iff_not, not_or] at h ⊢
 exact h.1
theorem Qg {i : Nat} (h : (L ++ L').contains i = false) : L'.contains i = false := by
 simp only [List.contains_eq_mem, List.mem_append, decide_eq_false_iff_not, not_or] at h ⊢
 exact h.2
theorem Out.bindS {α β : Type} {rel1 : Rl α β} {x : Option (R β)} {y : Option (VR α)} {k : β → M → Option RS} {k' : α → TE → Option VS} (h0 : Out rel1 m S env F x y) (st : Stt m S te env F)
  (hk : ∀ a te1 b m1 S1 F1 G1, Stt m1 S1 te1 env F1 → rel1 m1 S1 a b G1 → Sep (F1 ++ G1) → (∀ n, (F1 ++ G1).count n ≠ 0 → S1 n) → OutS m1 S1 env (F1 ++ G1) L (k b m1) (k' a te1)) :
  OutS m S env F L (bS x env k) (pM y k') := by
 cases y with
 | none => exact trivial
 | some y =>
  cases y with
  | ok a te1 =>
   obtain ⟨b, m1, S1, F1, G1, e, q, ev, r⟩ := h0
   rw [e]
   refine OutS.trans q (hk a te1 b m1 S1 F1 G1 ⟨ev, fun n => ?_, fun n h => q.sub n ?_, q.dom'⟩ r q.sep q.sub)
   ·have := q.sep n
    rw [List.count_append] at this
    omega
   ·rw [List.count_append]
    omega
  | exc C d te1 =>
   obtain ⟨b, m1, S1, F1, G1, e, q, ev, r⟩ := h0
   rw [e]
   exact ⟨b, env, m1, S1, F1, G1, rfl, q, ev, r, .refl⟩
theorem OutS.next (ev : EnvT m S te env' F) (ag : Agr L env env') (sub : ∀ n, A.count n ≠ 0 → S n) (sep : Sep A) (dom : ∀ n, S n → n < m.length) (le : ∀ n, F.count n ≤ A.count n) : OutS m S env A L (ξ (.fl .next env' m)) (ξ (.fl .next te)) :=
 ⟨.next, env', m, less S A F, F, [], rfl, by rw [List.append_nil]; exact Aft.less sub sep dom le, ev.sh (cJ sub le), ⟨rfl, rfl⟩, ag⟩
end
def bf : bu := fun te => ξ (.fl .next te)
def vFl (f : VF) : bu := fun te => ξ (.fl f te)
def a5 (a b : bu) : bu := fun te => match a te with
 | some (.fl .next te') => b te'
 | x => x
def dH (a : VD) : bu := fun te => pM (a te) fun _ te1 => ξ (.fl .next te1)
def bA (a : VD) : bu := fun te => pM (a te) fun t te1 => ξ (.fl (.ret t) te1)
def dG (c : VT) (a b : bu) : bu := fun te => pM (c te) fun x te1 => if x = true then a te1 else b te1
section
variable {L L': List Nat}{da: DE}{va: VD}{ta: DT}{ua: VT}{ds du: DS}{vs vu: bu}
theorem dQ : XS [] fy bf := fun m S te env F st => OutS.next st.env .refl st.sub st.sep st.lt fun n => Nat.le_refl _
theorem DN {mz : M} {F : List Nat} (h0 : OutS m S env F L (ds env mz) (vs te)) (hb : XS L' du vu) : OutS m S env F (L ++ L') (cb ds du env mz) (a5 vs vu te) := by
 unfold a5 cb
 cases hy : vs te with
 | none => trivial
 | some y =>
  rw [hy] at h0
  cases y with
  | exc C d te1 =>
   obtain ⟨dn, env', m', S', F', G, e, q, r1, r2, r3⟩ := h0
   rw [e]
   exact ⟨dn, env', m', S', F', G, rfl, q, r1, r2, r3.l⟩
  | fl f te1 =>
   obtain ⟨f', env', m', S', F', G, e, q, r1, r2, r3⟩ := h0
   rw [e]
   cases f with
   | next =>
    obtain ⟨rfl, rfl⟩ := r2
    rw [List.append_nil] at q
    exact OutS.trans q (OutS.then r3 (hb m' S' te1 env' F' ⟨r1, q.sep, q.sub, q.dom'⟩))
   | brk => obtain ⟨rfl, rfl⟩ := r2; exact ⟨_, env', m', S', F', [], rfl, q, r1, ⟨rfl, rfl⟩, r3.l⟩
   | cont => obtain ⟨rfl, rfl⟩ := r2; exact ⟨_, env', m', S', F', [], rfl, q, r1, ⟨rfl, rfl⟩, r3.l⟩
   | ret t =>
    obtain ⟨w, rfl, r2⟩ := r2
    exact ⟨_, env', m', S', F', G, rfl, q, r1, ⟨w, rfl, r2⟩, r3.l⟩
theorem bD (ha : XS L ds vs) (hb : XS L' du vu) : XS (L ++ L') (cb ds du) (a5 vs vu) := fun m S te env F st => DN (ha m S te env F st) hb
theorem tR (ha : XE da va) : XS [] (fA da) (dH va) := fun m S te env F st => by
 refine Out.bindS (ha m S te env F st) st fun x te1 w1 m1 S1 F1 G1 st1 q1 sp1 sb1 => ?_
 exact OutS.next st1.env .refl sb1 sp1 st1.lt fun n => by rw [List.count_append]; omega
theorem fJ (ha : XE da va) : XS [] (iR da) (bA va) := fun m S te env F st => by
 refine Out.bindS (ha m S te env F st) st fun x te1 w1 m1 S1 F1 G1 st1 q1 sp1 sb1 => ?_
 exact ⟨.ret w1, env, m1, S1, F1, G1, rfl, Aft.refl sb1 sp1 st1.lt, st1.env, ⟨w1, rfl, q1⟩, .refl⟩
theorem iW (hc : XT ta ua) (ha : XS L ds vs) (hb : XS L' du vu) : XS (L ++ L') (rP ta ds du) (dG ua vs vu) := fun m S te env F st => by
 refine Out.bindS (hc m S te env F st) st fun x te1 w1 m1 S1 F1 G1 st1 q1 sp1 sb1 => ?_
 obtain ⟨rfl, rfl⟩ := q1
 rw [List.append_nil]
 cases x with
 | true => exact (ha m1 S1 te1 env F1 st1).mono fun i h => Qh h
 | false => exact (hb m1 S1 te1 env F1 st1).mono fun i h => Qg h
end
abbrev VG := T → TE → Option TE
abbrev Kw := List T → TE → Option TE
def JQ (L : List Nat) (g : DG) (v : VG) : Prop := ∀ m S te env F t w G, EnvT m S te env F → Rp m S t w G → match v t te with
 | none => True
 | some te' => ∃ env' F', g w env m = ξ (env', m) ∧ EnvT m S te' env' F' ∧ (∀ n, F'.count n ≤ F.count n + G.count n) ∧ Agr L env env'
def JP (L : List Nat) (g : Gi) (v : Kw) : Prop := ∀ m S te env F t w G, EnvT m S te env F → Rps m S t w G → match v t te with
 | none => True
 | some te' => ∃ env' F', g w env m = ξ (env', m) ∧ EnvT m S te' env' F' ∧ (∀ n, F'.count n ≤ F.count n + G.count n) ∧ Agr L env env'
def gName (i : Nat) : VG := fun t te => ξ (te.set i (ξ t))
def gQ : Kw := fun ts te => match ts with
 | [] => ξ te
 | _ => ζ
def bc (g : VG) (gs : Kw) : Kw := fun ts te => match ts with
 | t :: r => match g t te with
  | some te' => gs r te'
  | none => ζ
 | [] => ζ
def kb (n : Nat) (gs : Kw) : VG := fun t te => match t with
 | .tup ts => if ts.length = n then gs ts te else ζ
 | _ => ζ
def cx (a : VD) (g : VG) : bu := fun te => pM (a te) fun t te1 => match g t te1 with
 | some te2 => ξ (.fl .next te2)
 | none => ζ
section
variable {L L': List Nat}{da: DE}{va: VD}{g: DG}{v: VG}{gs: Gi}{vgs: Kw}
theorem bQ {i : Nat} : JQ [i] (cg i) (gName i) := fun m S te env F t w G ev q => by
 obtain ⟨F', ev', le⟩ := ev.put i q
 exact ⟨_, F', rfl, ev', le, .set⟩
theorem Gn : JP [] Fp gQ := fun m S te env F ts ws G ev q => by
 cases ts with
 | nil => obtain ⟨rfl, rfl⟩ := q; exact ⟨env, F, rfl, ev, fun n => by simp, .refl⟩
 | cons t ts => trivial
theorem u9 (h1 : JQ L g v) (h2 : JP L' gs vgs) : JP (L ++ L') (nS g gs) (bc v vgs) := fun m S te env F ts ws G ev q => by
 cases ts with
 | nil => trivial
 | cons t ts =>
  obtain ⟨w, ws', G1, G2, rfl, q1, q2, rfl⟩ := q
  unfold bc
  simp only
  have h3 := h1 m S te env F t w G1 ev q1
  cases hx : v t te with
  | none => trivial
  | some te' =>
   rw [hx] at h3
   obtain ⟨env1, F1, e1, ev1, le1, ag1⟩ := h3
   have h4 := h2 m S te' env1 F1 ts ws' G2 ev1 q2
   simp only
   cases hy : vgs ts te' with
   | none => trivial
   | some te2 =>
    rw [hy] at h4
    obtain ⟨env2, F2, e2, ev2, Eg, ag2⟩ := h4
    exact ⟨env2, F2, by simp [nS, e1, e2], ev2, fun n => by rw [List.count_append]; have := le1 n; have := Eg n; omega, ag1.trans ag2⟩
theorem KQ {n : Nat} (h : JP L gs vgs) : JQ L (Fu n gs) (kb n vgs) := fun m S te env F t w G ev q => by
 cases t <;> first | trivial | skip
 rename_i ts
 obtain ⟨ws, rfl, q⟩ := q
 unfold kb
 simp only
 by_cases hl : ts.length = n
 ·rw [if_pos hl]
  have := h m S te env F ts ws G ev q
  cases hx : vgs ts te with
  | none => trivial
  | some te' =>
   rw [hx] at this
   obtain ⟨env', F', e, r⟩ := this
   exact ⟨env', F', by simp only [Fu]; rw [if_pos (by rw [← q.len]; exact hl)]; exact e, r⟩
 ·rw [if_neg hl]
  trivial
theorem gB (ha : XE da va) (hg : JQ L g v) : XS L (jd da g) (cx va v) := fun m S te env F st => by
 refine Out.bindS (ha m S te env F st) st fun x te1 w1 m1 S1 F1 G1 st1 q1 sp1 sb1 => ?_
 have := hg m1 S1 te1 env F1 x w1 G1 st1.env q1
 cases hx : v x te1 with
 | none => trivial
 | some te2 =>
  rw [hx] at this
  obtain ⟨env', F', e, ev', le, ag⟩ := this
  rw [e]
  exact OutS.next ev' ag sb1 sp1 st1.lt fun n => by rw [List.count_append]; exact le n
def OW (i j : Nat) (as : VA) : bu := fun te => pM (as te) fun ts te1 => match ts with
 | [x, y] => ξ (.fl .next ((te1.set i (ξ x)).set j (ξ y)))
 | _ => ζ
def OV (i j l : Nat) (as : VA) : bu := fun te => pM (as te) fun ts te1 => match ts with
 | [x, y, z] => ξ (.fl .next (((te1.set i (ξ x)).set j (ξ y)).set l (ξ z)))
 | _ => ζ
end
abbrev VI := TE → Option (VR (List T))
def Chk (m : M) (S : Own) (chk : M → Bool) : Prop := ∀ m2 : M, (∀ (n : Nat) (o : O), m[n]? = ξ o → ¬ S n → Kx o m2[n]?) → chk m2 = true
def PU : Rl (List T) Wk := fun m S ts k G => G = [] ∧ Rps m S ts k.items [] ∧ Chk m S k.chk
abbrev XI (di : DI) (vi : VI) : Prop := XG PU di vi
section
variable {m m' m2: M}{S S': Own}{A B G: List Nat}{t: T}{ts hs: List T}{w: W}{ws: List W}
theorem Chk.sh {chk : M → Bool} (h : Chk m S chk) (hs : ∀ n, S' n → S n) : Chk m S' chk := fun m2 k => h m2 fun n o e q => k n o e fun z => q (hs n z)
theorem sU : FV PU := fun _ _ _ _ _ _ h q => ⟨q.1, q.2.1.sh h, q.2.2.sh h⟩
theorem Aft.chk {chk : M → Bool} (a : Aft m S A m' S' B) (sub : ∀ n, A.count n ≠ 0 → S n) (h : Chk m S chk) : Chk m' S' chk := fun m2 k => h m2 fun n o e q => by
 have hs : ¬ S' n := fun z => by
  rcases (a.up n).mp z with z | z
  ·exact q z.1
  ·exact q (sub n (a.new n (lG e) z))
 rcases (a.kx (G := []) sub (by simp) e).2 q with h1 | ⟨o', hl, h1⟩
 ·exact k n o h1 hs
 ·exact .inr ⟨o', hl, (k n o' h1 hs).plain (zI hl)⟩
theorem Chk.now {chk : M → Bool} (h : Chk m S chk) : chk m = true := h m fun _ _ e _ => .inl e
theorem Rps.cons_nil (h : Rps m S (t :: ts) ws []) : ∃ w ws', ws = w :: ws' ∧ Rp m S t w [] ∧ Rps m S ts ws' [] := by
 obtain ⟨w, ws', G1, G2, e, h1, h2, q⟩ := h
 obtain ⟨rfl, rfl⟩ := List.append_eq_nil_iff.mp q.symm
 exact ⟨w, ws', e, h1, h2⟩
end
def O6 (a : VD) : VI := fun te => a9 (a te) fun t te1 => match t with
 | .nd false .lst ts => ξ (.ok ts te1)
 | .scr ns => ξ (.ok (ns.map T.int) te1)
 | _ => ζ
def O4 (a : VD) : VI := fun te => a9 (a te) fun t te1 => match t with
 | .tup ts => if hots ts = true then ζ else ξ (.ok ts te1)
 | .im (.tpl _) ts => if hots ts = true then ζ else ξ (.ok ts te1)
 | _ => ζ
def ju (lo : Int) (n : Nat) : List T := (List.range n).map fun (i : Nat) => T.int (lo + i)
def kO (as : VA) : VI := fun te => a9 (as te) fun ts te1 => match ts with
 | [.int j] => if sm 1000000000000 j = true then ξ (.ok (ju 0 j.toNat) te1) else ζ
 | _ => ζ
def Cp (as : VA) : VI := fun te => a9 (as te) fun ts te1 => match ts with
 | [.int i, .int j] => if (sm 1000000000000 i && sm 1000000000000 j) = true then ξ (.ok (ju i (j - i).toNat) te1) else ζ
 | _ => ζ
section
variable {L L': List Nat}{da: DE}{va: VD}{das: DA}{vas: VA}{ta: DT}{ua: VT}{ds: DS}{vs: bu}{g: DG}{v: VG}{di: DI}{vi: VI}
theorem Rps.ints {m : M} {S : Own} : ∀ {ns : List Int}, Rps m S (ns.map T.int) (ns.map W.int) []
 | [] => ⟨rfl, rfl⟩
 | n :: ns => ⟨_, _, [], [], rfl, ⟨rfl, rfl⟩, Rps.ints, rfl⟩
theorem KP (ha : XE da va) : XI (ML da) (O6 va) := fun m S te env F st => by
 refine XG.bind0 ha st fun x te1 w1 m1 S1 F1 G1 st1 q1 sp1 sb1 => ?_
 cases x <;> first | trivial | skip
 ·rename_i ns
  obtain ⟨rfl, rfl⟩ := q1
  simp only [cI]
  exact Out.done sU (G := []) st1.env ⟨rfl, Rps.ints, fun m2 _ => by simp [cI]⟩ sb1 sp1 st1.lt fun n => Nat.le_refl _
 ·rename_i o k ts
  cases o <;> cases k <;> first | trivial | skip
  obtain ⟨n, ws, G', rfl, e1, ft, h, c⟩ := q1
  rcases c with ⟨c, _⟩ | ⟨_, hS, rfl, rfl⟩
  ·cases c
  ·have e2 : m1[n]? = ξ (.lst ws) := e1.lst
   simp only [cI, e2]
   refine Out.done sU (G := []) st1.env ⟨rfl, h, fun m2 k => ?_⟩ sb1 sp1 st1.lt fun n => Nat.le_refl _
   simp only [isLst_self, cI, (k n _ e2 hS).plain rfl]
theorem KN (ha : XE da va) : XI (EJ da) (O4 va) := fun m S te env F st => by
 refine XG.bind0 ha st fun x te1 w1 m1 S1 F1 G1 st1 q1 sp1 sb1 => ?_
 cases x <;> first | trivial | skip
 ·rename_i ts
  obtain ⟨ws, rfl, q⟩ := q1
  simp only
  by_cases hh : hots ts = true
  ·rw [if_pos hh]; trivial
  ·rw [if_neg hh]
   have hc := Rps.cold (by simpa using hh) q
   subst hc
   exact Out.done sU (G := []) st1.env ⟨rfl, q, fun m2 _ => rfl⟩ sb1 sp1 st1.lt fun n => Nat.le_refl _
 ·rename_i k ts
  cases k with
  | exc C fs => trivial
  | tpl nd =>
   obtain ⟨ws, rfl, q⟩ := q1
   simp only
   by_cases hh : hots ts = true
   ·rw [if_pos hh]; trivial
   ·rw [if_neg hh]
    have hc := Rps.cold (by simpa using hh) q
    subst hc
    exact Out.done sU (G := []) st1.env ⟨rfl, q, fun m2 _ => rfl⟩ sb1 sp1 st1.lt fun n => Nat.le_refl _
theorem Rps.rng {m : M} {S : Own} {lo : Int} {n : Nat} : Rps m S (ju lo n) (SB.rng lo n) [] := by
 unfold ju SB.rng
 generalize List.range n = l
 induction l with
 | nil => exact ⟨rfl, rfl⟩
 | cons a l ih => exact ⟨_, _, [], [], rfl, ⟨rfl, rfl⟩, ih, rfl⟩
theorem Rps.int1 {m : M} {S : Own} {i : Int} {ws : List W} {G : List Nat} (h : Rps m S [.int i] ws G) : ws = [.int i] ∧ G = [] := by
 obtain ⟨w, ws', G1, G2, rfl, ⟨rfl, rfl⟩, ⟨rfl, rfl⟩, rfl⟩ := h
 exact ⟨rfl, rfl⟩
theorem yM (ha : XA das vas) : XI (uM das) (kO vas) := fun m S te env F st => by
 refine XG.bind0 ha st fun x te1 w1 m1 S1 F1 G1 st1 q1 sp1 sb1 => ?_
 rcases x with _ | ⟨x, _ | ⟨y, x2⟩⟩
 ·trivial
 ·cases x <;> first | trivial | skip
  rename_i j
  obtain ⟨rfl, rfl⟩ := Rps.int1 q1
  simp only
  by_cases hh : sm 1000000000000 j = true
  ·rw [if_pos hh, if_pos hh]
   exact Out.done sU (G := []) st1.env ⟨rfl, Rps.rng, fun m2 _ => rfl⟩ sb1 sp1 st1.lt fun n => Nat.le_refl _
  ·rw [if_neg hh, if_neg hh]; trivial
 ·cases x <;> trivial
def b7 (g : VG) (body : bu) : List T → TE → Option VS
 | [], te => ξ (.fl .next te)
 | t :: ts, te => match g t te with
  | none => ζ
  | some te1 => match body te1 with
   | some (.fl .next te2) => b7 g body ts te2
   | some (.fl .cont te2) => b7 g body ts te2
   | some (.fl .brk te2) => ξ (.fl .next te2)
   | x => x
def gr (vi : VI) (g : VG) (body : bu) : bu := fun te => pM (vi te) fun ts te1 => b7 g body ts te1
theorem zY {chk : M → Bool} (hg : JQ L g v) (hb : XS L' ds vs) : ∀ (ts : List T) (ws : List W) (te : TE) (env : Env) (m : M) (S : Own) (F : List Nat), Stt m S te env F → Rps m S ts ws [] → Chk m S chk → OutS m S env F (L ++ L') (ia chk g ds ws env m) (b7 v vs ts te)
  | [], _, te, env, m, S, F, st, h, c => by
    obtain ⟨rfl, _⟩ := h
    unfold ia b7
    rw [if_pos c.now]
    exact OutS.next st.env .refl st.sub st.sep st.lt fun n => Nat.le_refl _
  | t :: ts, _, te, env, m, S, F, st, h, c => by
    obtain ⟨w, ws, rfl, h1, h2⟩ := h.cons_nil
    unfold ia b7
    rw [if_pos c.now]
    have hx := hg m S te env F t w [] st.env h1
    cases hv : v t te with
    | none => trivial
    | some te1 =>
      rw [hv] at hx
      obtain ⟨env1, F1, e1, ev1, le1, ag1⟩ := hx
      have le1' : ∀ n, F1.count n ≤ F.count n := fun n => by have := le1 n; simpa using this
      have a1 := Aft.less st.sub st.sep st.lt le1'
      have sh1 := cJ st.sub le1'
      have st1 : Stt m (less S F F1) te1 env1 F1 := ⟨ev1.sh sh1, a1.sep, a1.sub, a1.dom'⟩
      have hy := hb m _ te1 env1 F1 st1
      simp only [e1]
      cases hw : vs te1 with
      | none => trivial
      | some y =>
        rw [hw] at hy
        cases y with
        | exc C d te2 =>
          obtain ⟨dn, env2, m2, S2, F2, G2, e2, q2, r1, r2, r3⟩ := hy
          rw [e2]
          exact ⟨dn, env2, m2, S2, F2, G2, rfl, a1.trans q2, r1, r2, ag1.trans r3⟩
        | fl f te2 =>
          obtain ⟨f', env2, m2, S2, F2, G2, e2, q2, r1, r2, r3⟩ := hy
          rw [e2]
          have a2 := a1.trans q2
          have go : f' = .next ∨ f' = .cont → G2 = [] → OutS m S env F (L ++ L') (ia chk g ds ws env2 m2) (b7 v vs ts te2) := by
            intro _ z
            subst z
            rw [List.append_nil] at a2
            have ih := zY (chk := chk) hg hb ts ws te2 env2 m2 S2 F2 ⟨r1, a2.sep, a2.sub, a2.dom'⟩ (a2.rps st.sub (by simp) (by simp) h2) (a2.chk st.sub c)
            exact (OutS.trans a2 (OutS.then (ag1.trans r3) ih)).mono fun i h => by
              simp only [List.contains_eq_mem, List.mem_append, decide_eq_false_iff_not, not_or] at h ⊢
              exact ⟨h, h⟩
          cases f with
          | next => obtain ⟨rfl, rfl⟩ := r2; exact go (.inl rfl) rfl
          | cont => obtain ⟨rfl, rfl⟩ := r2; exact go (.inr rfl) rfl
          | brk =>
            obtain ⟨rfl, rfl⟩ := r2
            exact ⟨.next, env2, m2, S2, F2, [], rfl, a2, r1, ⟨rfl, rfl⟩, ag1.trans r3⟩
          | ret t =>
            obtain ⟨w, rfl, r2⟩ := r2
            exact ⟨.ret w, env2, m2, S2, F2, G2, rfl, a2, r1, ⟨w, rfl, r2⟩, ag1.trans r3⟩
theorem mY (hi : XI di vi) (hg : JQ L g v) (hb : XS L' ds vs) : XS (L ++ L') (uh di g ds) (gr vi v vs) := fun m S te env F st => by
 refine Out.bindS (hi m S te env F st) st fun x te1 k m1 S1 F1 G1 st1 q1 sp1 sb1 => ?_
 obtain ⟨rfl, q, c⟩ := q1
 rw [List.append_nil]
 exact zY hg hb x k.items te1 env m1 S1 F1 st1 q c
def aT (te : TE) : List Nat → TE
 | [] => te
 | v :: vs => (aT te vs).set v ζ
def dN (te : TE) : List Nat → Bool
 | [] => true
 | v :: vs => (match te[v]? with
  | some (ξ t) => !hot t
  | _ => true) && dN te vs
def cM (te te' : TE) : List Nat → TE
 | [] => te'
 | v :: vs => (cM te te' vs).set v (match te[v]? with
  | some x => x
  | none => ζ)
def jY (g : VG) (tt : VT) (elt : VD) (vs : List Nat) : List T → TE → Option (List T × TE)
  | [], te => ξ ([], te)
  | t :: ts, te => match g t te with
    | none => ζ
    | some te1 => match tt te1 with
      | some (.ok true te2) => (match elt te2 with
        | some (.ok y te3) => (match jY g tt elt vs ts (aT te3 vs) with
          | some (ys, te4) => ξ (y :: ys, te4)
          | none => ζ)
        | _ => ζ)
      | some (.ok false te2) => jY g tt elt vs ts (aT te2 vs)
      | _ => ζ
def vm (vi : VI) (g : VG) (tt : VT) (elt : VD) (vs : List Nat) : VD := fun te => a9 (vi te) fun ts te1 => if ts.length ≤ sizeLine then (if dN te1 vs = true then (match jY g tt elt vs ts (aT te1 vs) with
  | some (ys, te2) => ξ (.ok (.nd true .lst ys) (cM te1 te2 vs))
  | none => ζ) else ζ) else ζ
def fv : VT := fun te => ξ (.ok true te)
theorem Cb : XT lZ fv := fun m S te env F st => Out.done nH st.env ⟨rfl, rfl⟩ st.sub st.sep st.lt fun n => by rw [List.append_nil]; omega
theorem EnvT.other {m : M} {S : Own} : ∀ {te : TE} {env env' : Env} {F : List Nat}, EnvT m S te env F → env'.length = env.length → (∀ (i : Nat) (t : T), te[i]? = ξ (ξ t) → env'[i]? = env[i]?) → EnvT m S te env' F
 | [], _, env', _, h, l, _ => by
  rw [h.1] at l
  exact ⟨List.length_eq_zero_iff.mp l, h.2⟩
 | none :: te, _, env', _, h, l, e => by
  obtain ⟨x, env1, rfl, h⟩ := h
  cases env' with
  | nil => simp at l
  | cons y env' => exact ⟨y, env', rfl, EnvT.other h (by simpa using l) fun i t q => by simpa using e (i + 1) t (by simpa using q)⟩
 | some t :: te, _, env', _, h, l, e => by
  obtain ⟨w, env1, G, F', rfl, h1, h, rfl⟩ := h
  cases env' with
  | nil => simp at l
  | cons y env' =>
   have hy := e 0 t rfl
   simp at hy
   subst hy
   exact ⟨w, env', G, F', rfl, h1, EnvT.other h (by simpa using l) fun i t q => by simpa using e (i + 1) t (by simpa using q), rfl⟩
theorem sj {te : TE} : ∀ {vs : List Nat} {i : Nat} {t : T}, (aT te vs)[i]? = ξ (ξ t) → vs.contains i = false ∧ te[i]? = ξ (ξ t)
 | [], _, _, h => ⟨rfl, h⟩
 | v :: vs, i, t, h => by
  unfold aT at h
  rw [List.getElem?_set] at h
  split at h
  ·split at h <;> cases h
  ·rename_i hv
   obtain ⟨h1, h2⟩ := sj h
   refine ⟨?_, h2⟩
   rw [List.contains_cons, h1, Bool.or_false]
   simp only [beq_eq_false_iff_ne, ne_eq]
   exact fun z => hv z.symm
theorem EnvT.wipes {m : M} {S : Own} {te : TE} {env : Env} {F : List Nat} (h : EnvT m S te env F) : ∀ (vs : List Nat), ∃ F', EnvT m S (aT te vs) env F' ∧ ∀ n, F'.count n ≤ F.count n
 | [] => ⟨F, h, fun n => Nat.le_refl _⟩
 | v :: vs => by
  obtain ⟨F1, h1, l1⟩ := EnvT.wipes h vs
  obtain ⟨F2, h2, l2⟩ := h1.wipe v
  exact ⟨F2, h2, fun n => Nat.le_trans (l2 n) (l1 n)⟩
theorem EnvT.wipesO {m : M} {S : Own} {te : TE} {env env' : Env} {F : List Nat} {vs : List Nat} (h : EnvT m S te env F) (ag : Agr vs env env') : ∃ F', EnvT m S (aT te vs) env' F' ∧ ∀ n, F'.count n ≤ F.count n := by
 obtain ⟨F', h', l⟩ := h.wipes vs
 exact ⟨F', h'.other ag.1 fun i t e => ag.2 i (sj e).1, l⟩
theorem Agr.symm {L : List Nat} {env env' : Env} (a : Agr L env env') : Agr L env' env := ⟨a.1.symm, fun i h => (a.2 i h).symm⟩
theorem wipeE_agr {env : Env} : ∀ {vs : List Nat}, Agr vs env (fu env vs)
 | [] => .refl
 | v :: vs => by
  have := Agr.trans (wipeE_agr (env := env) (vs := vs)) (Agr.set (i := v) (x := ζ))
  exact this.mono fun i h => by
   simp only [List.contains_eq_mem, List.mem_append, List.mem_cons, List.not_mem_nil, or_false, decide_eq_false_iff_not, not_or] at h ⊢
   exact ⟨h.2, h.1⟩
theorem EnvT.rest {m : M} {S : Own} {te0 te : TE} {env env0 : Env} {F : List Nat} (h : EnvT m S te env F) : ∀ {vs : List Nat}, (∀ v ∈ vs, ∀ t, te0[v]? = ξ (ξ t) → ∃ w, env[v]? = ξ (ξ w) ∧ Rp m S t w []) → ∃ F', EnvT m S (cM te0 te vs) env F' ∧ ∀ n, F'.count n ≤ F.count n
 | [], _ => ⟨F, h, fun n => Nat.le_refl _⟩
 | v :: vs, hv => by
  obtain ⟨F1, h1, l1⟩ := EnvT.rest (te0 := te0) (env0 := env0) h (vs := vs) fun x hx => hv x (by simp [hx])
  unfold cM
  cases hx : te0[v]? with
  | none =>
   obtain ⟨F2, h2, l2⟩ := h1.wipe v
   exact ⟨F2, h2, fun n => Nat.le_trans (l2 n) (l1 n)⟩
  | some y =>
   cases y with
   | none =>
    obtain ⟨F2, h2, l2⟩ := h1.wipe v
    exact ⟨F2, h2, fun n => Nat.le_trans (l2 n) (l1 n)⟩
   | some t =>
    obtain ⟨w, e, q⟩ := hv v (by simp) t hx
    obtain ⟨F2, h2, l2⟩ := h1.back v e q
    exact ⟨F2, h2, fun n => by have := l1 n; have := l2 n; simp at this; omega⟩
theorem rq {te : TE} : ∀ {vs : List Nat}, dN te vs = true → ∀ v ∈ vs, ∀ t, te[v]? = ξ (ξ t) → hot t = false
 | v :: vs, h, x, hx, t, e => by
  unfold dN at h
  rw [Bool.and_eq_true] at h
  rcases List.mem_cons.mp hx with rfl | hx
  ·rw [e] at h
   simpa using h.1
  ·exact rq h.2 x hx t e
theorem yi {chk : M → Bool} {zs : List Nat} (hg : JQ L g v) (hl : ∀ i, zs.contains i = false → L.contains i = false) (ht : XT ta ua) (he : XE da va) : ∀ (ts : List T) (ws : List W) (te : TE) (env : Env) (m : M) (S : Own) (F : List Nat), Stt m S te env F → Rps m S ts ws [] → Chk m S chk → match jY v ua va zs ts te with
    | none => True
    | some (ys, te') => ∃ us m' S' F' G, eY chk g ta da env ws m = ξ (us, m') ∧ Aft m S F m' S' (F' ++ G) ∧ EnvT m' S' te' env F' ∧ Rps m' S' ys us G
  | [], _, te, env, m, S, F, st, h, c => by
    obtain ⟨rfl, _⟩ := h
    unfold eY jY
    rw [if_pos c.now]
    exact ⟨[], m, S, F, [], rfl, by rw [List.append_nil]; exact st.own, st.env, rfl, rfl⟩
  | t :: ts, _, te, env, m, S, F, st, h, c => by
    obtain ⟨w, ws, rfl, h1, h2⟩ := h.cons_nil
    unfold eY jY
    rw [if_pos c.now]
    have hx := hg m S te env F t w [] st.env h1
    cases hv : v t te with
    | none => trivial
    | some te1 =>
      rw [hv] at hx
      obtain ⟨env1, F1, e1, ev1, le1, ag1⟩ := hx
      have ag1' : Agr zs env1 env := (ag1.mono hl).symm
      have le1' : ∀ n, F1.count n ≤ F.count n := fun n => by have := le1 n; simpa using this
      have a1 := Aft.less st.sub st.sep st.lt le1'
      have sh1 := cJ st.sub le1'
      have st1 : Stt m (less S F F1) te1 env1 F1 := ⟨ev1.sh sh1, a1.sep, a1.sub, a1.dom'⟩
      have hy := ht m _ te1 env1 F1 st1
      simp only [e1]
      cases hw : ua te1 with
      | none => trivial
      | some y =>
        rw [hw] at hy
        cases y with
        | exc C d te2 => trivial
        | ok b te2 =>
          obtain ⟨b', m2, S2, F2, G2, e2, q2, r1, rfl, rfl⟩ := hy
          rw [e2]
          have a2 := a1.trans q2
          rw [List.append_nil] at a2
          have st2 : Stt m2 S2 te2 env1 F2 := ⟨r1, a2.sep, a2.sub, a2.dom'⟩
          cases b with
          | false =>
            simp only
            obtain ⟨F3, ev3, le3⟩ := r1.wipesO ag1'
            have a3 := Aft.less st2.sub st2.sep st2.lt le3
            have a4 := a2.trans a3
            have ih := yi (chk := chk) hg hl ht he ts ws (aT te2 zs) env m2 _ F3 ⟨ev3.sh (cJ st2.sub le3), a3.sep, a3.sub, a3.dom'⟩ (a4.rps st.sub (by simp) (by simp) h2) (a4.chk st.sub c)
            cases hz : jY v ua va zs ts (aT te2 zs) with
            | none => trivial
            | some z =>
              rw [hz] at ih
              obtain ⟨us, m', S', F', G, e, q, r⟩ := ih
              exact ⟨us, m', S', F', G, by rw [e], a4.trans q, r⟩
          | true =>
            simp only
            have hE := he m2 S2 te2 env1 F2 st2
            cases hu : va te2 with
            | none => trivial
            | some z =>
              rw [hu] at hE
              cases z with
              | exc C d te3 => trivial
              | ok y te3 =>
                obtain ⟨wy, m3, S3, F3, Gy, e3, q3, ev3, ry⟩ := hE
                simp only [e3]
                have a3 := a2.trans q3
                obtain ⟨F4, ev4, le4⟩ := ev3.wipesO ag1'
                have le5 : ∀ n, (F4 ++ Gy).count n ≤ (F3 ++ Gy).count n := fun n => by simp only [List.count_append]; have := le4 n; omega
                have a4 := a3.trans (Aft.less a3.sub a3.sep a3.dom' le5)
                have sh4 := cJ a3.sub le5
                have sp4 : Sep F4 := fun n => by have := a4.sep n; rw [List.count_append] at this; omega
                have st4 : Stt m3 (less S3 (F3 ++ Gy) (F4 ++ Gy)) (aT te3 zs) env F4 := ⟨ev4.sh sh4, sp4, fun n h => a4.sub n (by rw [List.count_append]; omega), a4.dom'⟩
                have ih := yi (chk := chk) hg hl ht he ts ws (aT te3 zs) env m3 _ F4 st4 (a4.rps st.sub (by simp) (by simp) h2) (a4.chk st.sub c)
                cases hz : jY v ua va zs ts (aT te3 zs) with
                | none => trivial
                | some z =>
                  rw [hz] at ih
                  obtain ⟨us, m', S', F', G, e, q, ev, r⟩ := ih
                  have qf := q.frame (G := Gy) (fun n h => a4.sub n (by rw [List.count_append]; omega)) a4.sep
                  have dis : ∀ n, Gy.count n ≠ 0 → F4.count n = 0 := fun n h => by have := a4.sep n; rw [List.count_append] at this; omega
                  refine ⟨wy :: us, m', S', F', Gy ++ G, by simp only [e], (a4.trans qf).perm (fun n => rfl) (fun n => by simp only [List.count_append]; omega), ev, wy, us, Gy, G, rfl, ?_, r, rfl⟩
                  exact q.rp st4.sub dis (fun n h => a4.sub n (by rw [List.count_append]; omega)) (ry.sh sh4)
theorem Mu {zs : List Nat} {m1 : M} {S1 : Own} {te1 : TE} {env : Env} {F1 : List Nat} {x : List T} {k : Wk} (hg : JQ L g v) (ht : XT ta ua) (he : XE da va) (hl : ∀ i ∈ L, zs.contains i = true) (st1 : Stt m1 S1 te1 env F1) (q : Rps m1 S1 x k.items []) (c : Chk m1 S1 k.chk) :
    Out uj m1 S1 env F1 (if k.items.length ≤ sizeLine then match eY k.chk g ta da (fu env zs) k.items m1 with
      | some (ys, m2) => ξ (.ok (.ref m2.length) (m2 ++ [.lst ys]))
      | none => ζ
    else ζ) (if x.length ≤ sizeLine then (if dN te1 zs = true then (match jY v ua va zs x (aT te1 zs) with
      | some (ys, te2) => ξ (.ok (.nd true .lst ys) (cM te1 te2 zs))
      | none => ζ) else ζ) else ζ) := by
  have hll : ∀ i, zs.contains i = false → L.contains i = false := fun i h => by
    cases hc : L.contains i with
    | false => rfl
    | true =>
      rw [hl i (by simpa using hc)] at h
      cases h
  by_cases hle : x.length ≤ sizeLine
  · rw [if_pos hle, if_pos (by rw [← Rps.len q]; exact hle)]
    by_cases hcold : dN te1 zs = true
    · rw [if_pos hcold]
      obtain ⟨F2, ev2, Eg⟩ := st1.env.wipesO (vs := zs) (wipeE_agr (env := env))
      have a2 := Aft.less st1.sub st1.sep st1.lt Eg
      have sh2 := cJ st1.sub Eg
      have hh := yi (chk := k.chk) (zs := zs) hg hll ht he x k.items (aT te1 zs) (fu env zs) m1 _ F2 ⟨ev2.sh sh2, a2.sep, a2.sub, a2.dom'⟩ (q.sh sh2) (c.sh sh2)
      cases hz : jY v ua va zs x (aT te1 zs) with
      | none => trivial
      | some z =>
        rw [hz] at hh
        obtain ⟨us, m', S', F', G, e, qa, ev, r⟩ := hh
        simp only [e]
        have a3 := a2.trans qa
        have ev4 := ev.other (env' := env) wipeE_agr.symm.1
        obtain ⟨F5, ev5, le5⟩ := ev.wipesO (vs := zs) (wipeE_agr (env := env)).symm
        obtain ⟨F6, ev6, le6⟩ := EnvT.rest (te0 := te1) (env0 := env) ev5 (vs := zs) fun y hy t e0 => by
          obtain ⟨w, G0, e1, q1⟩ := st1.env.get e0
          have hc := Rp.cold (rq hcold y hy t e0) q1
          subst hc
          exact ⟨w, e1, a3.rp st1.sub (by simp) (by simp) q1⟩
        have hrest : ∀ {vs : List Nat} {a : TE}, cM te1 (aT a vs) vs = cM te1 a vs := by
          intro vs a
          induction vs with
          | nil => rfl
          | cons v vs ih =>
            unfold cM aT
            have : ∀ {b : TE} {x y : Option T} {us : List Nat}, cM te1 (b.set v x) us = (cM te1 b us).set v x ∨ us.contains v = true := by
              intro b x y us
              induction us with
              | nil => exact .inl rfl
              | cons u us ih2 =>
                by_cases huv : u = v
                · right; simp [huv]
                · rcases ih2 with ih2 | ih2
                  · left
                    unfold cM
                    rw [ih2, List.set_comm _ _ (Ne.symm huv)]
                  · right
                    rw [List.contains_cons, ih2, Bool.or_true]
            rcases this (b := aT a vs) (x := ζ) (y := ζ) (us := vs) with h | h
            · rw [h, ih, List.set_set]
            · have hset : ∀ {b : TE} {x : Option T} {us : List Nat}, us.contains v = true → cM te1 (b.set v x) us = cM te1 b us := by
                intro b x us
                induction us with
                | nil => intro h; simp at h
                | cons u us ih2 =>
                  intro h
                  unfold cM
                  by_cases huv : u = v
                  · subst huv
                    by_cases hin : us.contains u = true
                    · rw [ih2 hin]
                    · rcases @this b x x us with h3 | h3
                      · rw [h3, List.set_set]
                      · exact absurd h3 hin
                  · rw [List.contains_cons] at h
                    have : (v == u) = false := by simp; exact Ne.symm huv
                    rw [this, Bool.false_or] at h
                    rw [ih2 h]
              rw [hset h, ih]
        rw [hrest] at ev6
        exact Out.trans a3 (Out.alloc (k := .lst) ev6 r rfl a3.sub a3.sep a3.dom' fun n => by simp only [List.count_append]; have := le5 n; have := le6 n; omega)
    · rw [if_neg hcold]; trivial
  · rw [if_neg hle]; trivial
theorem J0 {zs : List Nat} (hi : XI di vi) (hg : JQ L g v) (ht : XT ta ua) (he : XE da va) (hl : ∀ i ∈ L, zs.contains i = true := by decide) : XE (Gf di g ta da zs) (vm vi v ua va zs) := fun m S te env F st => by
 refine XG.bind0 hi st fun x te1 k m1 S1 F1 G1 st1 q1 sp1 sb1 => ?_
 obtain ⟨rfl, q, c⟩ := q1
 rw [List.append_nil] at sp1 sb1 ⊢
 exact Mu hg ht he hl st1 q c
end
inductive VC where
 | ok (t : T) (fs : List T) | exc (C : Addr) (d : Option T) (fs : List T)
abbrev cD := List T → Option VC
def gZ {α : Type} : List Bool → List α → List α
 | true :: bs, x :: xs => x :: gZ bs xs
 | false :: bs, _ :: xs => gZ bs xs
 | _, _ => []
def eP : List Bool → TE → Option (List T)
 | [], _ => ξ []
 | false :: bs, _ :: te => eP bs te
 | true :: bs, ξ t :: te => match eP bs te with
  | some ts => ξ (t :: ts)
  | none => ζ
 | _, _ => ζ
def bE (ms : List Bool) (n : Nat) (b : bu) : cD := fun ts => if ts.length = ms.length then (match b (ts.map ξ ++ List.replicate (n - ms.length) ζ) with
  | some (.fl .next te) => (match eP ms te with
   | some fs => ξ (.ok .non fs)
   | none => ζ)
  | some (.fl (.ret t) te) => (match eP ms te with
   | some fs => ξ (.ok t fs)
   | none => ζ)
  | some (.exc C d te) => (match eP ms te with
   | some fs => ξ (.exc C d fs)
   | none => ζ)
  | _ => ζ) else ζ
def XD (ms : List Bool) (D : DF) (V : cD) : Prop := ∀ m S ts ws G, Rps m S ts ws G → Sep G → (∀ n, G.count n ≠ 0 → S n) → (∀ n, S n → n < m.length) → match V ts with
 | none => True
 | some (.ok t fs) => ∃ w m' S' G1 G2, D ws m = ξ (.ok w m') ∧ Aft m S G m' S' (G1 ++ G2) ∧ Rp m' S' t w G1 ∧ Rps m' S' fs (gZ ms ws) G2
 | some (.exc C d fs) => ∃ dn m' S' G1 G2, D ws m = ξ (.exc C dn m') ∧ Aft m S G m' S' (G1 ++ G2) ∧ RX m' S' d dn G1 ∧ Rps m' S' fs (gZ ms ws) G2
section
variable {m m': M}{S S' S2: Own}{B' C F G L: List Nat}{t: T}{ts: List T}{w: W}{ws: List W}{env env': Env}{te: TE}
theorem uQ : ∀ {ms : List Bool} {te : TE} {env : Env} {ws : List W} {F : List Nat} {fs : List T}, EnvT m S te env F → eP ms te = ξ fs → ms.length = ws.length → (∀ i : Nat, ms[i]? = ξ true → env[i]? = (ws[i]?).map ξ) → ∃ G, Rps m S fs (gZ ms ws) G ∧ ∀ n, G.count n ≤ F.count n
 | [], te, env, ws, F, fs, _, h, _, _ => by
  have : fs = [] := by unfold eP at h; cases te <;> (cases h; rfl)
  subst this
  exact ⟨[], ⟨by cases ws <;> rfl, rfl⟩, fun n => by simp⟩
 | false :: ms, [], _, _, _, _, _, h, _, _ => by cases h
 | false :: ms, x :: te, env, [], _, _, _, _, hl, _ => by simp at hl
 | false :: ms, x :: te, env, w :: ws, F, fs, ev, h, hl, hw => by
  have key : ∃ y env' F', env = y :: env' ∧ EnvT m S te env' F' ∧ ∀ n, F'.count n ≤ F.count n := by
   cases x with
   | none => obtain ⟨y, env', rfl, h⟩ := ev; exact ⟨y, env', F, rfl, h, fun n => Nat.le_refl _⟩
   | some t => obtain ⟨y, env', G, F', rfl, _, h, rfl⟩ := ev; exact ⟨_, env', F', rfl, h, fun n => by rw [List.count_append]; omega⟩
  obtain ⟨y, env', F', rfl, ev', le⟩ := key
  obtain ⟨G, q, l⟩ := uQ (ms := ms) (ws := ws) ev' h (by simpa using hl) fun i e => by simpa using hw (i + 1) (by simpa using e)
  exact ⟨G, q, fun n => Nat.le_trans (l n) (le n)⟩
 | true :: ms, [], _, _, _, _, _, h, _, _ => by cases h
 | true :: ms, ζ :: te, _, _, _, _, _, h, _, _ => by cases h
 | true :: ms, ξ t :: te, env, [], _, _, _, _, hl, _ => by simp at hl
 | true :: ms, ξ t :: te, env, w :: ws, F, fs, ev, h, hl, hw => by
  obtain ⟨w', env', G1, F', rfl, q1, ev', rfl⟩ := ev
  have hz := hw 0 rfl
  simp at hz
  subst hz
  unfold eP at h
  split at h
  ·rename_i ts hts
   cases h
   obtain ⟨G, q, l⟩ := uQ (ms := ms) (ws := ws) ev' hts (by simpa using hl) fun i e => by simpa using hw (i + 1) (by simpa using e)
   exact ⟨G1 ++ G, ⟨_, _, G1, G, rfl, q1, q, rfl⟩, fun n => by simp only [List.count_append]; have := l n; omega⟩
  ·cases h
theorem EnvT.start : ∀ {ts : List T} {ws : List W} {G : List Nat} {k : Nat}, Rps m S ts ws G → EnvT m S (ts.map ξ ++ List.replicate k ζ) (ws.map ξ ++ List.replicate k ζ) G
 | [], _, _, k, h => by
  rw [h.1, h.2]
  induction k with
  | zero => exact ⟨rfl, rfl⟩
  | succ k ih => exact ⟨ζ, _, rfl, ih⟩
 | t :: ts, _, _, k, h => by
  obtain ⟨w, ws', G1, G2, rfl, h1, h2, rfl⟩ := h
  exact ⟨w, _, G1, G2, rfl, h1, EnvT.start h2, rfl⟩
theorem dY {ms : List Bool} {n : Nat} {b : DS} {vb : bu} (hb : XS L b vb) (hL : ∀ i : Nat, i < ms.length → ms[i]? = ξ true → L.contains i = false := by decide) : XD ms (cX ms.length n b) (bE ms n vb) := fun m S ts ws G q sep sub dom => by
 unfold bE
 by_cases hl : ts.length = ms.length
 case neg => rw [if_neg hl]; trivial
 rw [if_pos hl]
 have hlw : ws.length = ms.length := by rw [← q.len]; exact hl
 have h0 := hb m S _ _ G ⟨EnvT.start (k := n - ms.length) q, sep, sub, dom⟩
 have hr : cX ms.length n b ws m = yD (b (ws.map ξ ++ List.replicate (n - ms.length) ζ) m) := by unfold cX; rw [if_pos hlw]
 have ag : ∀ {env' : Env}, Agr L (ws.map ξ ++ List.replicate (n - ms.length) ζ) env' → ∀ i : Nat, ms[i]? = ξ true → env'[i]? = (ws[i]?).map ξ := fun a i e => by
  have hi : i < ms.length := (List.getElem?_eq_some_iff.mp e).1
  rw [a.2 i (hL i hi e), List.getElem?_append_left (by simp; omega), List.getElem?_map]
 cases hy : vb (ts.map ξ ++ List.replicate (n - ms.length) ζ) with
 | none => trivial
 | some y =>
  rw [hy] at h0
  have fin : ∀ {te' : TE} {env' : Env} {F' G' : List Nat} {m' : M} {S' : Own} {fs : List T}, Aft m S G m' S' (F' ++ G') → EnvT m' S' te' env' F' → Agr L (ws.map ξ ++ List.replicate (n - ms.length) ζ) env' → eP ms te' = ξ fs → ∃ S2 G2, Aft m S G m' S2 (G' ++ G2) ∧ (∀ n, S2 n → S' n) ∧ Rps m' S2 fs (gZ ms ws) G2 := by
   intro te' env' F' G' m' S' fs a ev g e
   obtain ⟨G2, q2, le⟩ := uQ ev e hlw.symm (ag g)
   obtain ⟨S2, a2, sh⟩ := a.drop (B' := G' ++ G2) fun n => by simp only [List.count_append]; have := le n; omega
   exact ⟨S2, G2, a2, sh, q2.sh sh⟩
  cases y with
  | exc C d te1 =>
   obtain ⟨dn, env', m', S', F', G', e, a, ev, r, g⟩ := h0
   simp only
   cases hf : eP ms te1 with
   | none => trivial
   | some fs =>
    obtain ⟨S2, G2, a2, sh, q2⟩ := fin a ev g hf
    exact ⟨dn, m', S2, G', G2, by rw [hr, e]; rfl, a2, r.sh sh, q2⟩
  | fl f te1 =>
   obtain ⟨f', env', m', S', F', G', e, a, ev, r, g⟩ := h0
   cases f with
   | brk => trivial
   | cont => trivial
   | next =>
    obtain ⟨rfl, rfl⟩ := r
    simp only
    cases hf : eP ms te1 with
    | none => trivial
    | some fs =>
     obtain ⟨S2, G2, a2, sh, q2⟩ := fin a ev g hf
     exact ⟨.non, m', S2, [], G2, by rw [hr, e]; rfl, a2, ⟨rfl, rfl⟩, q2⟩
   | ret t =>
    obtain ⟨w, rfl, r⟩ := r
    simp only
    cases hf : eP ms te1 with
    | none => trivial
    | some fs =>
     obtain ⟨S2, G2, a2, sh, q2⟩ := fin a ev g hf
     exact ⟨w, m', S2, G', G2, by rw [hr, e]; rfl, a2, r.sh sh, q2⟩
end
def si (das : DA) (ms : List Bool) (is : List Nat) : Prop := ∀ env m ws m', das env m = ξ (.ok ws m') → (gZ ms ws).map ξ = is.map fun i => (env[i]?).join
theorem cB : si aJ [] [] := fun env m ws m' h => by cases h; rfl
theorem bN {d : DE} {das : DA} {ms : List Bool} {is : List Nat} (h : si das ms is) : si (aq d das) (false :: ms) is := fun env m ws m' e => by
 simp only [fV, gq] at e
 split at e
 ·cases e
 ·rename_i w m1 hw
  split at e
  ·cases e
  ·rename_i xs m2 hx
   cases e
   exact h env m1 xs m' hx
  ·cases e
 ·cases e
theorem gy {i : Nat} {das : DA} {ms : List Bool} {is : List Nat} (h : si das ms is) : si (aq (ax i) das) (true :: ms) (i :: is) := fun env m ws m' e => by
 simp only [fV, gq, ke] at e
 cases hv : env[i]? with
 | none => rw [hv] at e; cases e
 | some y =>
  rw [hv] at e
  cases y with
  | none => cases e
  | some w =>
   simp only at e
   split at e
   ·cases e
   ·rename_i xs m2 hx
    cases e
    simp only [gZ, List.map_cons, hv, Option.join]
    rw [h env m xs m' hx]
    rfl
   ·cases e
def bZ (i : Nat) (as : VA) : VA := fun te => match te[i]? with
 | some (ξ _) => a9 (as te) fun xs te1 => (match te1[i]? with
  | some (ξ t) => ξ (.ok (t :: xs) (te1.set i ζ))
  | _ => ζ)
 | _ => ζ
def fC (te : TE) : List Nat → List T → TE
 | i :: is, t :: ts => fC (te.set i (ξ t)) is ts
 | _, _ => te
def rh (is : List Nat) (te : TE) (x : Option VC) : Option (VR T) := match x with
 | some (.ok t fs) => if fs.length = is.length then ξ (.ok t (fC te is fs)) else ζ
 | some (.exc C d fs) => if fs.length = is.length then ξ (.exc C d (fC te is fs)) else ζ
 | none => ζ
def bj (V : cD) (is : List Nat) (as : VA) : VD := fun te => a9 (as te) fun ts te1 => rh is te1 (V ts)
section
variable {da: DE}{vv: VV}{das: DA}{vas: VA}{ms: List Bool}{is: List Nat}{D: DF}{V: cD}
theorem jU {i : Nat} (hb : XA das vas) : XA (aq (ax i) das) (bZ i vas) := fun m S te env F st => by
 have h0 := hb m S te env F st
 unfold bZ
 split
 case h_2 => trivial
 rename_i t0 ht0
 obtain ⟨w0, G0, e0, _⟩ := st.env.get ht0
 cases hy : vas te with
 | none => trivial
 | some y =>
  rw [hy] at h0
  cases y with
  | exc C d te1 =>
   obtain ⟨dn, m', S', F', G, e, q, ev, r⟩ := h0
   simp only [fV, ke, e0, gq, e]
   exact ⟨dn, m', S', F', G, rfl, q, ev, r⟩
  | ok xs te1 =>
   obtain ⟨us, m', S', F', G, e, q, ev, r⟩ := h0
   simp only [a9]
   split
   ·rename_i t ht
    obtain ⟨w, G1, F2, e1, q1, ev2, c⟩ := ev.take ht
    simp only [fV, ke, e1, gq, e]
    refine ⟨_, m', S', F2, G1 ++ G, rfl, q.perm (fun n => rfl) fun n => by simp only [List.count_append]; have := c n; omega, ev2, w, us, G1, G, rfl, q1, r, rfl⟩
   ·trivial
theorem EnvT.puts {m : M} {S : Own} {env : Env} : ∀ {is : List Nat} {fs : List T} {ws : List W} {te : TE} {F G : List Nat}, EnvT m S te env F → Rps m S fs ws G → ws.map ξ = is.map (fun i => (env[i]?).join) → ∃ F', EnvT m S (fC te is fs) env F' ∧ ∀ n, F'.count n ≤ F.count n + G.count n
 | [], fs, ws, te, F, G, h, q, e => ⟨F, by unfold fC; cases fs <;> exact h, fun n => by omega⟩
 | i :: is, [], ws, te, F, G, h, q, e => by
  rw [q.1] at e
  cases e
 | i :: is, t :: fs, ws, te, F, G, h, q, e => by
  obtain ⟨w, ws', G1, G2, rfl, q1, q2, rfl⟩ := q
  simp only [List.map_cons, List.cons.injEq] at e
  have he : env[i]? = ξ (ξ w) := by
   cases hx : env[i]? with
   | none => rw [hx] at e; cases e.1
   | some y => rw [hx] at e; rw [e.1]; rfl
  obtain ⟨F1, h1, l1⟩ := h.back i he q1
  obtain ⟨F2, h2, l2⟩ := EnvT.puts h1 q2 e.2
  exact ⟨F2, h2, fun n => by rw [List.count_append]; have := l1 n; have := l2 n; omega⟩
theorem XD.fin (hd : XD ms D V) {m : M} {S : Own} {te : TE} {env : Env} {F G A : List Nat} {ts : List T} {ws : List W} (ev : EnvT m S te env F) (q : Rps m S ts ws G) (sep : Sep A) (sub : ∀ n, A.count n ≠ 0 → S n) (dom : ∀ n, S n → n < m.length) (eA : ∀ n, A.count n = F.count n + G.count n) (hw : (gZ ms ws).map ξ = is.map fun i => (env[i]?).join) : Out uj m S env A (D ws m) (rh is te (V ts)) := by
 have sepG : Sep G := fun n => by have := sep n; have := eA n; omega
 have subG : ∀ n, G.count n ≠ 0 → S n := fun n h => sub n (by have := eA n; omega)
 have subF : ∀ n, F.count n ≠ 0 → S n := fun n h => sub n (by have := eA n; omega)
 have dis : ∀ n, F.count n ≠ 0 → G.count n = 0 := fun n h => by have := sep n; have := eA n; omega
 have h0 := hd m S ts ws G q sepG subG dom
 cases hy : V ts with
 | none => trivial
 | some y =>
  rw [hy] at h0
  cases y with
  | ok t fs =>
   obtain ⟨w, m', S', G1, G2, e, a, r1, r2⟩ := h0
   unfold rh
   simp only
   split
   case isFalse => trivial
   have ev' := a.envT subG dis subF ev
   have af := a.frame (G := F) subF (fun n => by rw [List.count_append]; have := sep n; have := eA n; omega)
   obtain ⟨F', ev2, le⟩ := ev'.puts r2 hw
   obtain ⟨S2, a2, sh⟩ := af.drop (B' := F' ++ G1) fun n => by simp only [List.count_append]; have := le n; omega
   exact ⟨w, m', S2, F', G1, e, a2.perm (fun n => by rw [List.count_append]; have := eA n; omega) (fun n => rfl), ev2.sh sh, r1.sh sh⟩
  | exc C d fs =>
   obtain ⟨w, m', S', G1, G2, e, a, r1, r2⟩ := h0
   unfold rh
   simp only
   split
   case isFalse => trivial
   have ev' := a.envT subG dis subF ev
   have af := a.frame (G := F) subF (fun n => by rw [List.count_append]; have := sep n; have := eA n; omega)
   obtain ⟨F', ev2, le⟩ := ev'.puts r2 hw
   obtain ⟨S2, a2, sh⟩ := af.drop (B' := F' ++ G1) fun n => by simp only [List.count_append]; have := le n; omega
   exact ⟨w, m', S2, F', G1, e, a2.perm (fun n => by rw [List.count_append]; have := eA n; omega) (fun n => rfl), ev2.sh sh, r1.sh sh⟩
theorem XG.bindA {γ δ : Type} {rel : Rl γ δ} {k : List W → M → Option (R δ)} {k' : List T → TE → Option (VR γ)} {m : M} {S : Own} {te : TE} {env : Env} {F : List Nat} (h : XA das vas) (st : Stt m S te env F)
  (hk : ∀ a te1 b m1 S1 F1 G1, das env m = ξ (.ok b m1) → Stt m1 S1 te1 env F1 → Rps m1 S1 a b G1 → Sep (F1 ++ G1) → (∀ n, (F1 ++ G1).count n ≠ 0 → S1 n) → Out rel m1 S1 env (F1 ++ G1) (k b m1) (k' a te1)) :
  Out rel m S env F (bnd (das env m) k) (a9 (vas te) k') := by
 have h0 := h m S te env F st
 cases hy : vas te with
 | none => exact trivial
 | some y =>
  rw [hy] at h0
  cases y with
  | ok a te1 =>
   obtain ⟨b, m1, S1, F1, G1, e, q, ev, r⟩ := h0
   have hk' := hk a te1 b m1 S1 F1 G1 e ⟨ev, fun n => by have := q.sep n; rw [List.count_append] at this; omega, fun n h => q.sub n (by rw [List.count_append]; omega), q.dom'⟩ r q.sep q.sub
   rw [e]
   exact Out.trans q hk'
  | exc C d te1 =>
   obtain ⟨b, m1, S1, F1, G1, e, q, ev, r⟩ := h0
   rw [e]
   exact ⟨b, m1, S1, F1, G1, rfl, q, ev, r⟩
theorem gD (hd : XD ms D V) (ha : XA das vas) (hv : si das ms is) : XE (e7 [] D das) (bj V is vas) := fun m S te env F st => by
 have e : e7 [] D das env m = bnd (das env m) fun ws m1 => D ws m1 := BL
 rw [e]
 refine XG.bindA ha st fun ts te1 ws m1 S1 F1 G1 he st1 q1 sp1 sb1 => ?_
 exact hd.fin st1.env q1 sp1 sb1 st1.lt (fun n => by rw [List.count_append]) (hv env m ws m1 he)
def bF (C : Addr) (mn : Str) (V : cD) (is : List Nat) (o : VV) (as : VA) : VD := fun te => match o te with
 | some (.nd _ (.ins C' fs) _) => if C' = C ∧ fs.contains mn = false then a9 (as te) fun ts te1 => rh is te1 (V ts) else ζ
 | _ => ζ
theorem jL {fs : List Str} {f : Str} : ∀ {ws : List W}, fs.contains f = false → (fs.zip ws).lookup f = ζ := by
 induction fs with
 | nil => intro ws _; rfl
 | cons g fs ih =>
  intro ws h
  cases ws with
  | nil => rfl
  | cons w ws =>
   simp only [List.contains_cons, Bool.or_eq_false_iff] at h
   rw [List.zip_cons_cons]
   simp only [List.lookup, h.1]
   exact ih h.2
theorem xA {C : Addr} {mn : Str} (hd : XD ms D V) (ho : XV da vv) (ha : XA (aq da das) vas) (hv : si (aq da das) ms is) : XE (kg C mn [] D da das) (bF C mn V is vv vas) := fun m S te env F st => by
 have h1 := ho m S te env F st.env
 unfold bF
 split
 case h_2 => trivial
 rename_i o C' fs ts hx
 rw [hx] at h1
 obtain ⟨w, G, ew, q⟩ := h1
 split
 case isFalse => trivial
 rename_i hc
 obtain ⟨rfl, hn⟩ := hc
 obtain ⟨n, ws, G', rfl, e1, ft, h, c⟩ := q
 have e1' : m[n]? = ξ (.ins C' (fs.zip ws)) := e1.ins
 have e : kg C' mn [] D da das env m = bnd (aq da das env m) fun ws m1 => D ws m1 := by
  rw [BH]
  simp only [ew, gq, fV, gO, e1', if_true, jL hn]
  cases das env m with
  | none => rfl
  | some y => cases y <;> rfl
 rw [e]
 refine XG.bindA ha st fun ts te1 ws m1 S1 F1 G1 he st1 q1 sp1 sb1 => ?_
 exact hd.fin st1.env q1 sp1 sb1 st1.lt (fun n => by rw [List.count_append]) (hv env m ws m1 he)
def yX (C : Addr) (V : cD) (o : VV) : VD := fun te => match o te with
 | some (.nd b (.ins C' fs) ts) => if C' = C ∧ hot (.nd b (.ins C' fs) ts) = false then (match V [.nd b (.ins C' fs) ts] with
  | some (.ok t []) => ξ (.ok t te)
  | _ => ζ) else ζ
 | _ => ζ
def aP (C : Addr) (V : cD) (is : List Nat) (as : VA) : VD := fun te => a9 (as te) fun ts te1 => match V (.nd true (.ins C []) [] :: ts) with
 | some (.ok .non (t :: fs)) => if fs.length = is.length then ξ (.ok t (fC te1 is fs)) else ζ
 | some (.exc C d (_ :: fs)) => if fs.length = is.length then ξ (.exc C d (fC te1 is fs)) else ζ
 | _ => ζ
theorem cq {C : Addr} (hd : XD (true :: ms) D V) (ha : XA das vas) (hv : si das ms is) : XE (bR C [] D das) (aP C V is vas) := fun m S te env F st => by
  have e : bR C [] D das env m = bnd (das env m) fun ws m1 => Mf C D ws m1 := BI
  rw [e]
  refine XG.bindA ha st fun ts te1 ws m1 S1 F1 G1 he st1 q1 sp1 sb1 => ?_
  have hpw := hv env m ws m1 he
  have al := Out.alloc (k := .ins C []) (ts := []) (ws := []) (G := []) (A := []) (F := []) (S := fun _ => False) (te := []) (env := []) (m := m1) ⟨rfl, rfl⟩ ⟨rfl, rfl⟩ rfl (by simp) (fun n => by simp) (by simp) (fun n => by simp)
  clear al
  -- the new node
  have hlt : ∀ n, (F1 ++ G1).count n ≠ 0 → n < m1.length := fun n h => st1.lt n (sb1 n h)
  have hz : ∀ n, (F1 ++ G1).count n ≠ 0 → ¬ (m1.length == n) = true := fun n h => by have := hlt n h; simp; omega
  let m2 := m1 ++ [Kd.mk (.ins C []) []]
  have hk : ∀ (n : Nat) o, m1[n]? = ξ o → m2[n]? = ξ o := fun n o e => by show (m1 ++ _)[n]? = _; rw [List.getElem?_append_left (lG e)]; exact e
  let S2 : Own := fun n => S1 n ∨ n = m1.length
  have hs : ∀ n, n < m1.length → ¬ S1 n → ¬ S2 n := fun n l c q => by
    rcases q with q | q
    · exact c q
    · omega
  have ev2 : EnvT m2 S2 te1 env F1 := EnvT.stay (F := F1) (fun n o e _ => hk n o e) hs (fun n h => h) st1.env
  have q2 : Rps m2 S2 ts ws G1 := Rps.stay (G0 := G1) (fun n o e _ => hk n o e) hs (fun n h => h) q1
  have qn : Rp m2 S2 (.nd true (.ins C []) []) (.ref m1.length) [m1.length] := ⟨m1.length, [], [], rfl, .inl (by show (m1 ++ _)[m1.length]? = _; simp), rfl, ⟨rfl, rfl⟩, .inl ⟨rfl, rfl⟩⟩
  have sep2 : Sep (F1 ++ (m1.length :: G1)) := fun n => by
    rw [List.count_append, List.count_cons]
    have := sp1 n
    rw [List.count_append] at this
    by_cases z : m1.length = n
    · have h3 : (F1 ++ G1).count n = 0 := by
        by_cases z2 : (F1 ++ G1).count n = 0
        · exact z2
        · exact absurd (hlt n z2) (by omega)
      rw [List.count_append] at h3
      split <;> omega
    · have : ¬ (m1.length == n) = true := by simp; exact z
      rw [if_neg this]
      omega
  have sub2 : ∀ n, (F1 ++ (m1.length :: G1)).count n ≠ 0 → S2 n := fun n h => by
    by_cases z : m1.length = n
    · exact .inr z.symm
    · have : ¬ (m1.length == n) = true := by simp; exact z
      rw [List.count_append, List.count_cons, if_neg this] at h
      exact .inl (sb1 n (by rw [List.count_append]; omega))
  have dom2 : ∀ n, S2 n → n < m2.length := fun n h => by
    show n < (m1 ++ _).length
    rw [List.length_append]
    rcases h with h | h
    · have := st1.lt n h; simp; omega
    · simp; omega
  have a0 : Aft m1 S1 (F1 ++ G1) m2 S2 (F1 ++ (m1.length :: G1)) := by
    refine ⟨fun n => ?_, sep2, by show m1.length ≤ (m1 ++ _).length; simp, fun n h => dom2 n (sub2 n h), fun n o e _ => .inl (hk n o e), fun n l h => ?_, st1.lt⟩
    · constructor
      · rintro (h | h)
        · by_cases z : (F1 ++ G1).count n = 0
          · exact .inl ⟨h, z⟩
          · right
            rw [List.count_append] at z
            rw [List.count_append, List.count_cons]
            omega
        · subst h
          right
          rw [List.count_append, List.count_cons]
          simp
      · rintro (h | h)
        · exact .inl h.1
        · exact sub2 n h
    · have : ¬ (m1.length == n) = true := by simp; omega
      rw [List.count_append, List.count_cons, if_neg this] at h
      rw [List.count_append]
      omega
  have h0 := hd m2 S2 (.nd true (.ins C []) [] :: ts) (.ref m1.length :: ws) ([m1.length] ++ G1) ⟨_, _, _, _, rfl, qn, q2, rfl⟩ (fun n => by have := sep2 n; simp only [List.count_append, List.count_cons, List.count_nil] at this ⊢; omega) (fun n h => sub2 n (by simp only [List.count_append, List.count_cons, List.count_nil] at h ⊢; omega)) dom2
  refine Out.trans a0 ?_
  have subG : ∀ n, ([m1.length] ++ G1).count n ≠ 0 → S2 n := fun n h => sub2 n (by simp only [List.count_append, List.count_cons, List.count_nil] at h ⊢; omega)
  have subF : ∀ n, F1.count n ≠ 0 → S2 n := fun n h => sub2 n (by simp only [List.count_append]; omega)
  have dis : ∀ n, F1.count n ≠ 0 → ([m1.length] ++ G1).count n = 0 := fun n h => by have := sep2 n; simp only [List.count_append, List.count_cons, List.count_nil] at this ⊢; omega
  have em : Mf C D ws m1 = bnd (D (.ref m1.length :: ws) m2) fun w m2 => match w with
      | .non => ξ (.ok (.ref m1.length) m2)
      | _ => ζ := rfl
  rw [em]
  cases hy : V (.nd true (.ins C []) [] :: ts) with
  | none => trivial
  | some y =>
    rw [hy] at h0
    cases y with
    | ok t fs =>
      obtain ⟨w, m', S', G2, G3, e, a, r1, r2⟩ := h0
      cases t <;> first | trivial | skip
      cases fs with
      | nil => trivial
      | cons t fs =>
        simp only
        split
        case isFalse => trivial
        obtain ⟨rfl, rfl⟩ := r1
        have r2' : Rps m' S' (t :: fs) (.ref m1.length :: gZ ms ws) G3 := r2
        obtain ⟨w, ws', G4, G5, ee, r3, r4, rfl⟩ := r2'
        cases ee
        have ev' := a.envT subG dis subF ev2
        have af := a.frame (G := F1) subF (fun n => by have := sep2 n; simp only [List.count_append, List.count_cons, List.count_nil] at this ⊢; omega)
        obtain ⟨F', ev3, le⟩ := ev'.puts r4 hpw
        obtain ⟨S3, a2, sh⟩ := af.drop (B' := F' ++ G4) fun n => by simp only [List.count_append]; have := le n; omega
        exact ⟨.ref m1.length, m', S3, F', G4, by rw [e]; rfl, a2.perm (fun n => by simp only [List.count_append, List.count_cons, List.count_nil]; omega) (fun n => rfl), ev3.sh sh, r3.sh sh⟩
    | exc C' d fs =>
      obtain ⟨w, m', S', G2, G3, e, a, r1, r2⟩ := h0
      cases fs with
      | nil => trivial
      | cons t fs =>
        simp only
        split
        case isFalse => trivial
        have r2' : Rps m' S' (t :: fs) (.ref m1.length :: gZ ms ws) G3 := r2
        obtain ⟨w, ws', G4, G5, ee, r3, r4, rfl⟩ := r2'
        cases ee
        have ev' := a.envT subG dis subF ev2
        have af := a.frame (G := F1) subF (fun n => by have := sep2 n; simp only [List.count_append, List.count_cons, List.count_nil] at this ⊢; omega)
        obtain ⟨F', ev3, le⟩ := ev'.puts r4 hpw
        obtain ⟨S3, a2, sh⟩ := af.drop (B' := F' ++ G2) fun n => by simp only [List.count_append]; have := le n; omega
        exact ⟨_, m', S3, F', G2, by rw [e]; rfl, a2.perm (fun n => by simp only [List.count_append, List.count_cons, List.count_nil]; omega) (fun n => rfl), ev3.sh sh, r1.sh sh⟩
end
abbrev GM := Kd → List T → List T → Option (T × Kd × List T)
abbrev G3 := Kd → List T → T → T → Option (Kd × List T)
def XF3 (f : F3) (g : G3) : Prop := ∀ m S k ts ws G x u Gx y v Gy n, m[n]? = ξ (k.mk ws) → k.fit ts.length = true → Rps m S ts ws G → Rp m S x u Gx → Rp m S y v Gy → match g k ts x y with
 | none => True
 | some (k', ts') => ∃ ws' G2, f (.ref n) u v m = ξ (m.set n (k'.mk ws')) ∧ k'.fit ts'.length = true ∧ Rps m S ts' ws' G2 ∧ ∀ z, G2.count z ≤ G.count z + Gx.count z + Gy.count z
def Kd.ty : Kd → String
 | .lst => "list"
 | .dct _ => "dict"
 | .dtp _ => "dict"
 | _ => ""
section
variable {m: M}{S S': Own}{A B F G G0: List Nat}{ts: List T}{w: W}{ws: List W}{env: Env}{te: TE}{o: O}
theorem Aft.set {n : Nat} (sub : ∀ n, A.count n ≠ 0 → S n) (sep : Sep A) (dom : ∀ n, S n → n < m.length) (le : ∀ n, B.count n ≤ A.count n) (hn : A.count n ≠ 0) : Aft m S A (m.set n o) (BV.less S A B) B := by
 refine ⟨fun n => Iff.rfl, fun n => Nat.le_trans (le n) (sep n), by simp, fun x h => ?_, fun x o' h e => ?_, fun x _ h => ?_, dom⟩
 ·rw [List.length_set]
  exact dom x (sub x (by have := le x; omega))
 ·have hx : n ≠ x := fun z => by subst z; exact hn e
  rw [List.getElem?_set_ne hx]
  exact .inl h
 ·have := le x
  omega
theorem EnvT.mut {n : Nat} (h : EnvT m S te env F) (hn : S n) (hf : F.count n = 0) (sh : ∀ x, S' x → S x) : EnvT (m.set n o) S' te env F :=
 EnvT.stay (F := F) (fun x o' e c => by
  have hx : n ≠ x := fun z => by
   subst z
   rcases c with c | c
   ·exact c hn
   ·exact c hf
  rw [List.getElem?_set_ne hx]
  exact e) (fun x _ c q => c (sh x q)) (fun x h => h) h
theorem Rps.mut {n : Nat} (h : Rps m S ts ws G) (hn : S n) (hf : G.count n = 0) (sh : ∀ x, S' x → S x) : Rps (m.set n o) S' ts ws G :=
 Rps.stay (G0 := G) (fun x o' e c => by
  have hx : n ≠ x := fun z => by
   subst z
   rcases c with c | c
   ·exact c hn
   ·exact c hf
  rw [List.getElem?_set_ne hx]
  exact e) (fun x _ c q => c (sh x q)) (fun x h => h) h
theorem EnvT.owned {i : Nat} {k : Kd} (h : EnvT m S te env F) (e : te[i]? = ξ (ξ (.nd true k ts))) : ∃ n ws G F', env[i]? = ξ (ξ (.ref n)) ∧ m[n]? = ξ (k.mk ws) ∧ k.fit ts.length = true ∧ Rps m S ts ws G ∧ EnvT m S (te.set i ζ) env F' ∧ ∀ x, F.count x = F'.count x + (n :: G).count x := by
 obtain ⟨w, G, F', e1, q, ev, c⟩ := h.take e
 obtain ⟨n, ws, G', rfl, e2, ft, q2, q3⟩ := q
 rcases q3 with ⟨_, rfl⟩ | ⟨z, _⟩
 ·exact ⟨n, ws, G', F', e1, e2.hot, ft, q2, ev, c⟩
 ·cases z
theorem EnvT.chg {i n : Nat} {k' : Kd} {ts' : List T} {ws' : List W} {G2 : List Nat} (ev : EnvT m S (te.set i ζ) env F) (ei : env[i]? = ξ (ξ (.ref n))) (hl : n < m.length) (hn : S n) (hf : F.count n = 0) (hg : G2.count n = 0) (q : Rps m S ts' ws' G2) (ft : k'.fit ts'.length = true) (sh : ∀ x, S' x → S x) :
  ∃ F', EnvT (m.set n (k'.mk ws')) S' (te.set i (ξ (.nd true k' ts'))) env F' ∧ ∀ x, F'.count x ≤ F.count x + (n :: G2).count x := by
 have ev2 : EnvT (m.set n (k'.mk ws')) S' (te.set i ζ) env F := ev.mut hn hf sh
 have q2 : Rp (m.set n (k'.mk ws')) S' (.nd true k' ts') (.ref n) (n :: G2) := ⟨n, ws', G2, rfl, .inl (List.getElem?_set_self hl), ft, q.mut hn hg sh, .inl ⟨rfl, rfl⟩⟩
 obtain ⟨F', h, le⟩ := ev2.back i ei q2
 rw [List.set_set] at h
 exact ⟨F', h, le⟩
end
def oV (te : TE) (i : Nat) : Option (Kd × List T) := match te[i]? with
 | some (ξ (.nd true k ts)) => ξ (k, ts)
 | _ => ζ
theorem zM {te : TE} {i : Nat} {k : Kd} {ts : List T} (h : oV te i = ξ (k, ts)) : te[i]? = ξ (ξ (.nd true k ts)) := by
 unfold oV at h
 split at h
 ·rename_i e; cases h; exact e
 ·cases h
def oa (T : String) (g : GM) (i : Nat) (as : VA) : VD := fun te => match oV te i with
 | some (k0, _) => if k0.ty = T ∧ T ≠ "" then a9 (as te) fun xs te1 => (match oV te1 i with
  | some (k, ts) => (match g k ts xs with
   | some (t, k', ts') => ξ (.ok t (te1.set i (ξ (.nd true k' ts'))))
   | none => ζ)
  | none => ζ) else ζ
 | none => ζ
def yV (g : G3) (i : Nat) (idx val : VD) : bu := fun te => pM (val te) fun y te1 => match idx te1 with
 | some (.ok x te2) => (match oV te2 i with
  | some (k, ts) => (match g k ts x y with
   | some (k', ts') => ξ (.fl .next (te2.set i (ξ (.nd true k' ts'))))
   | none => ζ)
  | none => ζ)
 | _ => ζ
section
variable {da db: DE}{va vb: VD}
theorem yL {f : F3} {g : G3} {i : Nat} (hf : XF3 f g) (hv : XE da va) (hi : XE db vb) : XS [] (jd da (BO f (ax i) db)) (yV g i vb va) := fun m S te env F st => by
  refine Out.bindS (hv m S te env F st) st fun y te1 wy m1 S1 F1 G1 st1 q1 sp1 sb1 => ?_
  have hix : Out uj m1 S1 env F1 (db env m1) (vb te1) := hi m1 S1 te1 env F1 st1
  cases hb : vb te1 with
  | none => trivial
  | some z =>
    rw [hb] at hix
    cases z with
    | exc _ _ _ => trivial
    | ok x te2 =>
      obtain ⟨wx, m2, S2, F2, G2, e2, a2, ev2, q2⟩ := hix
      have af := a2.frame (G := G1) (fun n h => sb1 n (by rw [List.count_append]; omega)) sp1
      have dis : ∀ n, G1.count n ≠ 0 → F1.count n = 0 := fun n h => by have := sp1 n; rw [List.count_append] at this; omega
      have q1' := a2.rp st1.sub dis (fun n h => sb1 n (by rw [List.count_append]; omega)) q1
      simp only
      cases h1 : oV te2 i with
      | none => trivial
      | some p =>
        obtain ⟨k, ts⟩ := p
        simp only
        cases hg : g k ts x y with
        | none => trivial
        | some p =>
          obtain ⟨k', ts'⟩ := p
          obtain ⟨n, ws, G, F', ei, en, ft, q, ev, c⟩ := ev2.owned (zM h1)
          have h2 := hf m2 S2 k ts ws G x wx G2 y wy G1 n en ft q q2 q1'
          rw [hg] at h2
          obtain ⟨ws', Gb, ef, ft', r2, le⟩ := h2
          have hg0 : BO f (ax i) db wy env m1 = ξ (env, m2.set n (k'.mk ws')) := by
            simp only [Fw, ke, ei, HX, e2, ef, Option.map]
          rw [hg0]
          have cn := c n
          have spn := af.sep n
          rw [List.count_cons_self] at cn
          simp only [List.count_append] at spn
          have hgn := le n
          have hSn : S2 n := af.sub n (by simp only [List.count_append]; omega)
          have leA : ∀ x, (F' ++ (n :: Gb)).count x ≤ (F2 ++ G2 ++ G1).count x := fun x => by
            have := c x
            have := le x
            simp only [List.count_append, List.count_cons] at *
            omega
          have sh := cJ af.sub leA
          obtain ⟨F3, ev3, le3⟩ := EnvT.chg (S' := less S2 (F2 ++ G2 ++ G1) (F' ++ (n :: Gb))) ev ei (lG en) hSn (by omega) (by omega) r2 ft' sh
          have as := Aft.set (m := m2) (o := k'.mk ws') af.sub af.sep af.dom' leA (n := n) (by simp only [List.count_append]; omega)
          obtain ⟨S4, a4, sh4⟩ := as.drop (B' := F3) fun x => by have := le3 x; simp only [List.count_append] at *; omega
          exact ⟨.next, env, _, S4, F3, [], rfl, by rw [List.append_nil]; exact af.trans a4, ev3.sh sh4, ⟨rfl, rfl⟩, .refl⟩
def lA (f : Str) (v : T) : List Str → List T → List Str × List T
 | g :: gs, t :: ts => if g = f then (g :: gs, v :: ts) else (g :: (lA f v gs ts).1, t :: (lA f v gs ts).2)
 | _, _ => ([f], [v])
theorem zq {m : M} {S : Own} {f : Str} {v : T} {wv : W} {Gv : List Nat} (qv : Rp m S v wv Gv) : ∀ {fs : List Str} {ts : List T} {ws : List W} {G : List Nat}, Rps m S ts ws G → fs.length = ts.length → ∃ ws' G2, x7 f wv (fs.zip ws) = (lA f v fs ts).1.zip ws' ∧ Rps m S (lA f v fs ts).2 ws' G2 ∧ (lA f v fs ts).1.length = (lA f v fs ts).2.length ∧ ∀ z, G2.count z ≤ G.count z + Gv.count z
 | [], [], ws, G, q, _ => by
  rw [q.1]
  exact ⟨[wv], Gv, rfl, Rps.one qv, rfl, fun z => by omega⟩
 | [], _ :: _, _, _, _, h => by simp at h
 | _ :: _, [], _, _, _, h => by simp at h
 | g :: fs, t :: ts, _, _, q, h => by
  obtain ⟨w, ws, G1, G2, rfl, q1, q2, rfl⟩ := q
  unfold lA
  rw [List.zip_cons_cons]
  unfold x7
  by_cases hg : g = f
  ·rw [if_pos hg, if_pos hg]
   exact ⟨wv :: ws, Gv ++ G2, rfl, ⟨_, _, _, _, rfl, qv, q2, rfl⟩, by simpa using h, fun z => by simp only [List.count_append]; omega⟩
  ·rw [if_neg hg, if_neg hg]
   obtain ⟨ws', G3, e, r, l, le⟩ := zq qv (fs := fs) q2 (by simpa using h)
   exact ⟨w :: ws', G1 ++ G3, by rw [e]; rfl, ⟨_, _, _, _, rfl, q1, r, rfl⟩, by simpa using l, fun z => by simp only [List.count_append]; have := le z; omega⟩
def i5 (C : Addr) (f : Str) (i : Nat) (val : VD) : bu := fun te => pM (val te) fun y te1 => match oV te1 i with
 | some (.ins C' fs, ts) => if C' = C ∧ fs.length < 1000 then ξ (.fl .next (te1.set i (ξ (.nd true (.ins C (lA f y fs ts).1) (lA f y fs ts).2)))) else ζ
 | _ => ζ
theorem gS {C : Addr} {f : Str} {i : Nat} (hv : XE da va) : XS [] (j1 C f (ax i) da) (i5 C f i va) := fun m S te env F st => by
 refine Out.bindS (hv m S te env F st) st fun y te1 wy m1 S1 F1 G1 st1 q1 sp1 sb1 => ?_
 split
 case h_2 => trivial
 rename_i C' fs ts h1
 split
 case isFalse => trivial
 rename_i hc
 obtain ⟨rfl, hlen⟩ := hc
 obtain ⟨n, ws, G, F', ei, en, ft, q, ev, c⟩ := st1.env.owned (zM h1)
 have en' : m1[n]? = ξ (.ins C' (fs.zip ws)) := en
 have hfl : fs.length = ts.length := by simpa [Kd.fit] using ft
 obtain ⟨ws', Gb, ef, r2, hl2, le⟩ := zq (f := f) q1 q hfl
 have hl0 : (fs.zip ws).length < 1000 := by simp; omega
 simp only [ke, ei, Nb, gO, en', if_true, if_pos hl0, ef]
 have cn := c n
 have spn := sp1 n
 rw [List.count_cons_self] at cn
 rw [List.count_append] at spn
 have hgn := le n
 have hSn : S1 n := st1.sub n (by omega)
 have leA : ∀ x, (F' ++ (n :: Gb)).count x ≤ (F1 ++ G1).count x := fun x => by
  have := c x
  have := le x
  simp only [List.count_append, List.count_cons] at *
  omega
 have sh := cJ sb1 leA
 obtain ⟨F3, ev3, le3⟩ := EnvT.chg (k' := .ins C' (lA f y fs ts).1) (S' := less S1 (F1 ++ G1) (F' ++ (n :: Gb))) ev ei (lG en) hSn (by omega) (by omega) r2 (by simpa [Kd.fit] using hl2) sh
 have as := Aft.set (m := m1) (o := Kd.mk (.ins C' (lA f y fs ts).1) ws') sb1 sp1 st1.lt leA (n := n) (by rw [List.count_append]; omega)
 obtain ⟨S4, a4, sh4⟩ := as.drop (B' := F3) fun x => by have := le3 x; simp only [List.count_append] at *; omega
 exact ⟨.next, env, _, S4, F3, [], rfl, by rw [List.append_nil]; exact a4, ev3.sh sh4, ⟨rfl, rfl⟩, .refl⟩
end
section
variable {m: M}{S: Own}{G: List Nat}{t t1 t2: T}{ts xs: List T}{w w1 w2: W}{ws us: List W}
def qI (g : Int → Int → Option T) : G2 := fun a b => match a, b with
 | .int i, .int j => (match g i j with
  | some t => ξ (.pur t)
  | none => ζ)
 | _, _ => ζ
def FA (t : T) (w : W) : Prop := ∀ m S, Rp m S t w []
theorem Af {f : Int → Int → Option W} {g : Int → Int → Option T} (h : ∀ i j, match g i j with
  | none => True
  | some t => ∃ w, f i j = ξ w ∧ FA t w) : lI (fI f) (qI g) := fun m S t1 w1 G1 t2 w2 G2 q1 q2 => by
 unfold qI
 cases t1 <;> first | trivial | skip
 cases t2 <;> first | trivial | skip
 rename_i i j
 obtain ⟨rfl, rfl⟩ := q1
 obtain ⟨rfl, rfl⟩ := q2
 have := h i j
 simp only
 cases hg : g i j with
 | none => trivial
 | some t =>
  rw [hg] at this
  obtain ⟨w, e, q⟩ := this
  exact ⟨w, [], by simp [fI, e], q m S, fun n => by simp⟩
def LX : G2 := qI fun i j => ξ (.int (i + j))
def qSub : G2 := qI fun i j => ξ (.int (i - j))
def PZ : G2 := qI fun i j => if (sm 1000000000000000000 i || sm 1000000000000000000 j) = true then ξ (.int (i * j)) else ζ
def qg : G2 := qI fun i j => if decide (0 < j) = true then ξ (.int (i % j)) else ζ
def A7 : G2 := qI fun i j => if (decide (0 < j) && sm 1073741823 j) = true then ξ (.int (i / j)) else ζ
def x4 : G2 := qI fun i j => if (decide (0 ≤ j) && (sm 1000 j && sm (2 ^ 999) i)) = true then ξ (.int (i ^ j.toNat)) else ζ
def A3 : G2 := qI fun i j => ξ (.bl (decide (i < j)))
def zo : G2 := qI fun i j => ξ (.bl (decide (i ≤ j)))
def FY : G2 := qI fun i j => ξ (.bl (decide (j < i)))
def Rx : G2 := qI fun i j => ξ (.bl (decide (j ≤ i)))
theorem Kv {i : Int} : FA (.int i) (.int i) := fun _ _ => ⟨rfl, rfl⟩
theorem JG {i : Bool} : FA (.bl i) (.bl i) := fun _ _ => ⟨rfl, rfl⟩
theorem K0 : lI Mb LX := Af fun i j => ⟨_, rfl, Kv⟩
theorem vf : lI L9 A3 := Af fun i j => ⟨_, rfl, JG⟩
theorem JX : lI RA zo := Af fun i j => ⟨_, rfl, JG⟩
theorem vg : lI Ma FY := Af fun i j => ⟨_, rfl, JG⟩
theorem Ox : lI oGe Rx := Af fun i j => ⟨_, rfl, JG⟩
theorem yQ {c : Int → Int → Bool} {f : Int → Int → Int} : lI (fI fun i j => if c i j = true then ξ (.int (f i j)) else ζ) (qI fun i j => if c i j = true then ξ (.int (f i j)) else ζ) := Af fun i j => by
 by_cases h : c i j = true
 ·simp only [if_pos h]; exact ⟨_, rfl, Kv⟩
 ·simp only [if_neg h]
theorem KS : lI L8 PZ := yQ (c := fun i j => (sm 1000000000000000000 i || sm 1000000000000000000 j))
theorem lh : lI ur qg := yQ (c := fun i j => decide (0 < j))
theorem xt : lI DX A7 := yQ (c := fun i j => (decide (0 < j) && sm 1073741823 j))
theorem Ce : lI Ic x4 := yQ (c := fun i j => (decide (0 ≤ j) && (sm 1000 j && sm (2 ^ 999) i))) (f := fun i j => i ^ j.toNat)
def T.isNon : T → Bool
 | .non => true
 | _ => false
theorem wI (q : Rp m S t w G) : w.isNon = t.isNon := by
 cases t <;> first | (obtain ⟨rfl, _⟩ := q; rfl) | (obtain ⟨ws, rfl, _⟩ := q; rfl) | (obtain ⟨n, ws, G', rfl, _⟩ := q; rfl)
def iD : G2 := fun a b => match b with
 | .non => ξ (.pur (.bl a.isNon))
 | _ => ζ
def j4 : G2 := fun a b => match b with
 | .non => ξ (.pur (.bl (!a.isNon)))
 | _ => ζ
theorem Cg : lI DW iD := fun m S t1 w1 G1 t2 w2 G2 q1 q2 => by
 unfold iD
 cases t2 <;> first | trivial | skip
 obtain ⟨rfl, rfl⟩ := q2
 exact ⟨.bl t1.isNon, [], by simp [DW, wI q1], ⟨rfl, rfl⟩, fun n => by simp⟩
theorem ph : lI qD j4 := fun m S t1 w1 G1 t2 w2 G2 q1 q2 => by
 unfold j4
 cases t2 <;> first | trivial | skip
 obtain ⟨rfl, rfl⟩ := q2
 exact ⟨.bl (!t1.isNon), [], by simp [qD, wI q1], ⟨rfl, rfl⟩, fun n => by simp⟩
def seqT : T → Option (List T)
 | .tup ts => ξ ts
 | .im (.tpl _) ts => ξ ts
 | .nd _ .lst ts => ξ ts
 | .scr ns => ξ (ns.map T.int)
 | _ => ζ
def uC : T → Option (List T)
 | .nd _ .lst ts => ξ ts
 | .scr ns => ξ (ns.map T.int)
 | _ => ζ
theorem Kl {o : Bool} {n : Nat} {G G' : List Nat} (c : (o = true ∧ G = n :: G') ∨ (o = false ∧ ¬ S n ∧ G' = [] ∧ G = [])) : ∀ z, G'.count z ≤ G.count z := fun z => by
 rcases c with ⟨_, rfl⟩ | ⟨_, _, rfl, rfl⟩
 ·rw [List.count_cons]; omega
 ·omega
theorem uB (q : Rp m S t w G) (h : uC t = ξ ts) : ∃ ws G', cI m w = ξ ws ∧ Rps m S ts ws G' ∧ ∀ z, G'.count z ≤ G.count z := by
 unfold uC at h
 split at h
 ·cases h
  obtain ⟨n, ws, G', rfl, e1, ft, h, c⟩ := q
  have e2 : m[n]? = ξ (.lst ws) := e1.lst
  exact ⟨ws, G', by simp only [cI, e2], h, Kl c⟩
 ·cases h
  obtain ⟨rfl, rfl⟩ := q
  exact ⟨_, [], rfl, Rps.ints, fun z => by simp⟩
 ·cases h
theorem mm (q : Rp m S t w G) (h : seqT t = ξ ts) : ∃ ws G', jc m w = ξ ws ∧ Rps m S ts ws G' ∧ ∀ z, G'.count z ≤ G.count z := by
 by_cases ht : ∃ us, t = .tup us
 ·obtain ⟨us, rfl⟩ := ht
  cases h
  obtain ⟨ws, rfl, q⟩ := q
  exact ⟨ws, G, rfl, q, fun z => Nat.le_refl _⟩
 by_cases hm : ∃ nd us, t = .im (.tpl nd) us
 ·obtain ⟨nd, us, rfl⟩ := hm
  cases h
  obtain ⟨ws, rfl, q⟩ := q
  exact ⟨ws, G, rfl, q, fun z => Nat.le_refl _⟩
 ·have h' : uC t = ξ ts := by
   cases t <;> first | exact absurd ⟨_, rfl⟩ ht | exact h | skip
   ·rename_i o k cs
    cases k <;> exact h
   ·rename_i k cs
    cases k <;> first | exact absurd ⟨_, _, rfl⟩ hm | exact h
  obtain ⟨ws, G', e, r⟩ := uB q h'
  refine ⟨ws, G', ?_, r⟩
  cases w <;> first | exact e | cases e
def C0 : T → Option (List T)
 | .tup ts => ξ ts
 | t => uC t
theorem CZ (q : Rp m S t w G) (h : C0 t = ξ ts) : ∃ ws G', xW m w = ξ ws ∧ Rps m S ts ws G' ∧ ∀ z, G'.count z ≤ G.count z := by
 by_cases ht : ∃ us, t = .tup us
 ·obtain ⟨us, rfl⟩ := ht
  cases h
  obtain ⟨ws, rfl, q⟩ := q
  exact ⟨ws, G, rfl, q, fun z => Nat.le_refl _⟩
 ·have h' : uC t = ξ ts := by
   cases t <;> first | exact absurd ⟨_, rfl⟩ ht | exact h
  obtain ⟨ws, G', e, r⟩ := uB q h'
  refine ⟨ws, G', ?_, r⟩
  cases w <;> first | exact e | cases e
theorem Rps.one_of (q : Rps m S [t] ws G) : ∃ w, ws = [w] ∧ Rp m S t w G := by
 obtain ⟨w, ws', G1, G2, rfl, q1, ⟨rfl, rfl⟩, rfl⟩ := q
 exact ⟨w, rfl, by rw [List.append_nil]; exact q1⟩
theorem Rps.two_of (q : Rps m S [t1, t2] ws G) : ∃ w1 w2 G1 G2, ws = [w1, w2] ∧ Rp m S t1 w1 G1 ∧ Rp m S t2 w2 G2 ∧ G = G1 ++ G2 := by
 obtain ⟨w, ws', G1, G2, rfl, q1, ⟨w', ws'', G3, G4, rfl, q2, ⟨rfl, rfl⟩, rfl⟩, rfl⟩ := q
 exact ⟨w, w', G1, G3, rfl, q1, q2, by rw [List.append_nil]⟩
def g1 (g : T → Option PN) : GN := fun xs => match xs with
 | [t] => g t
 | _ => ζ
theorem xu {f : FN} {g : T → Option PN} (h : ∀ m S t w G, Rp m S t w G → match g t with
  | none => True
  | some (.pur t) => ∃ w' G', f [w] m = ξ (w', m) ∧ Rp m S t w' G' ∧ ∀ n, G'.count n ≤ G.count n
  | some (.new k cs) => ∃ us G', f [w] m = ξ (.ref m.length, m ++ [k.mk us]) ∧ Rps m S cs us G' ∧ k.fit cs.length = true ∧ ∀ n, G'.count n ≤ G.count n) : xo f (g1 g) := fun m S ts ws G q => by
 match ts, q with
 | [], _ => trivial
 | [t], q =>
  obtain ⟨w, rfl, q'⟩ := Rps.one_of q
  exact h m S t w G q'
 | _ :: _ :: _, _ => trivial
def cm : GN := g1 fun t => match t with
 | .str x => if x.length ≤ sizeLine then ξ (.pur (.int x.length)) else ζ
 | t => (match seqT t with
  | some ts => ξ (.pur (.int ts.length))
  | none => ζ)
theorem gC : xo jz cm := xu fun m S t w G q => by
 by_cases ht : ∃ x, t = .str x
 ·obtain ⟨x, rfl⟩ := ht
  obtain ⟨rfl, rfl⟩ := q
  simp only
  by_cases hl : x.length ≤ sizeLine
  ·rw [if_pos hl]
   exact ⟨.int x.length, [], by simp only [jz]; rw [if_pos hl], ⟨rfl, rfl⟩, fun n => by simp⟩
  ·rw [if_neg hl]; trivial
 ·have key : match (match seqT t with
    | some ts => ξ (PN.pur (.int ts.length))
    | none => ζ) with
   | none => True
   | some (.pur t) => ∃ w' G', jz [w] m = ξ (w', m) ∧ Rp m S t w' G' ∧ ∀ n, G'.count n ≤ G.count n
   | some (.new k cs) => ∃ us G', jz [w] m = ξ (.ref m.length, m ++ [k.mk us]) ∧ Rps m S cs us G' ∧ k.fit cs.length = true ∧ ∀ n, G'.count n ≤ G.count n := by
   cases hs : seqT t with
   | none => trivial
   | some ts =>
    obtain ⟨ws, G', e, q', le⟩ := mm q hs
    refine ⟨.int ts.length, [], ?_, ⟨rfl, rfl⟩, fun n => by simp⟩
    have hw : ∀ x, w ≠ .str x := fun x z => by
     subst z
     cases t <;> first | (obtain ⟨ws, e, _⟩ := q; cases e; done) | (obtain ⟨n, ws, G', e, _⟩ := q; cases e; done) | (obtain ⟨e, _⟩ := q; cases e; done) | exact absurd ⟨_, rfl⟩ ht
    cases w <;> first | exact absurd rfl (hw _) | skip
    all_goals simp only [jz, e, q'.len]
  cases t <;> first | exact key | exact absurd ⟨_, rfl⟩ ht
def Dw : GN := g1 fun t => match t with
 | .int i => ξ (.pur (.int (if i < 0 then -i else i)))
 | _ => ζ
theorem K1 : xo Ie Dw := xu fun m S t w G q => by
 cases t <;> first | trivial | skip
 obtain ⟨rfl, rfl⟩ := q
 exact ⟨_, [], rfl, ⟨rfl, rfl⟩, fun n => by simp⟩
def zp : GN := g1 fun t => match t with
 | .int i => ξ (.pur (.int i))
 | .bl k => ξ (.pur (.int (if k then 1 else 0)))
 | _ => ζ
theorem GA : xo zE zp := xu fun m S t w G q => by
 cases t <;> first | trivial | skip
 ·obtain ⟨rfl, rfl⟩ := q
  exact ⟨_, [], rfl, ⟨rfl, rfl⟩, fun n => by simp⟩
 ·obtain ⟨rfl, rfl⟩ := q
  exact ⟨_, [], rfl, ⟨rfl, rfl⟩, fun n => by simp⟩
def ot : GN := g1 fun t => match seqT t with
 | some ts => ξ (.new .lst ts)
 | none => ζ
theorem Gu : xo wh ot := xu fun m S t w G q => by
 cases hs : seqT t with
 | none => trivial
 | some ts =>
  obtain ⟨ws, G', e, q', le⟩ := mm q hs
  exact ⟨ws, G', by simp only [wh, e, Kd.mk], q', rfl, le⟩
def nz : GN := g1 fun t => match C0 t with
 | some ts => ξ (.pur (.tup ts))
 | none => ζ
theorem Cd : xo qC nz := xu fun m S t w G q => by
 cases hs : C0 t with
 | none => trivial
 | some ts =>
  obtain ⟨ws, G', e, q', le⟩ := CZ q hs
  exact ⟨.tup ws, G', by simp only [qC, e], ⟨ws, rfl, q'⟩, le⟩
def jG : List T → Option (List Bool)
 | [] => ξ []
 | .bl b :: ts => (match jG ts with
  | some bs => ξ (b :: bs)
  | none => ζ)
 | _ :: _ => ζ
theorem tM : ∀ {ts : List T} {ws : List W} {G : List Nat} {bs : List Bool}, Rps m S ts ws G → jG ts = ξ bs → jH ws = ξ bs
 | [], _, _, _, q, h => by cases h; rw [q.1]; rfl
 | t :: ts, _, _, _, q, h => by
  obtain ⟨w, ws', G1, G2, rfl, q1, q2, rfl⟩ := q
  cases t <;> first | (cases h; done) | skip
  obtain ⟨rfl, rfl⟩ := q1
  unfold jG at h
  cases hb : jG ts with
  | none => rw [hb] at h; cases h
  | some bs =>
   rw [hb] at h
   cases h
   unfold jH
   rw [tM q2 hb]
def mw : GN := g1 fun t => match uC t with
 | some ts => (match jG ts with
  | some bs => ξ (.pur (.bl (bs.all id)))
  | none => ζ)
 | none => ζ
theorem tU : xo nE mw := xu fun m S t w G q => by
 cases hs : uC t with
 | none => trivial
 | some ts =>
  obtain ⟨ws, G', e, q', le⟩ := uB q hs
  simp only
  cases hb : jG ts with
  | none => trivial
  | some bs => exact ⟨.bl _, [], by simp only [nE, e, tM q' hb], ⟨rfl, rfl⟩, fun n => by simp⟩
def g2i (g : Int → Int → Int) : GN := fun xs => match xs with
 | [.int i, .int j] => ξ (.pur (.int (g i j)))
 | _ => ζ
theorem JZ {f : FN} {g : Int → Int → Int} (h : ∀ i j m, f [.int i, .int j] m = ξ (.int (g i j), m)) : xo f (g2i g) := fun m S ts ws G q => by
 match ts, q with
 | [], _ => trivial
 | [t], _ => cases t <;> trivial
 | [t1, t2], q =>
  cases t1 <;> first | trivial | skip
  cases t2 <;> first | trivial | skip
  obtain ⟨w1, w2, G1, G2, rfl, ⟨rfl, rfl⟩, ⟨rfl, rfl⟩, rfl⟩ := q.two_of
  exact ⟨_, [], h _ _ m, ⟨rfl, rfl⟩, fun n => by simp⟩
 | t1 :: t2 :: _ :: _, _ => cases t1 <;> first | trivial | (cases t2 <;> trivial)
def zm : GN := g2i fun i j => if j > i then j else i
def zl : GN := g2i fun i j => if j < i then j else i
theorem Gq : xo zC zm := JZ fun _ _ _ => rfl
theorem Gp : xo zB zl := JZ fun _ _ _ => rfl
theorem Rps.atI {i : Int} (q : Rps m S ts ws G) (h : L2.atI ts i = ξ t) : ∃ w G1, L2.atI ws i = ξ w ∧ Rp m S t w G1 ∧ ∀ z, G1.count z ≤ G.count z := by
 unfold L2.atI at h ⊢
 rw [← q.len]
 cases hx : ixN ts.length i with
 | none => rw [hx] at h; cases h
 | some j =>
  rw [hx] at h
  exact q.get (show ts[j]? = ξ t from h)
def fB : G2 := fun a b => match b with
 | .int i => (match seqT a with
  | some ts => (match atI ts i with
   | some t => ξ (.pur t)
   | none => ζ)
  | none => ζ)
 | _ => ζ
theorem lP : lI zD fB := fun m S t1 w1 G1 t2 w2 G2 q1 q2 => by
 unfold fB
 cases t2 <;> first | trivial | skip
 rename_i i
 obtain ⟨rfl, rfl⟩ := q2
 simp only
 cases hs : seqT t1 with
 | none => trivial
 | some ts =>
  simp only
  cases ha : L2.atI ts i with
  | none => trivial
  | some t =>
   obtain ⟨ws, G', e, q', le⟩ := mm q1 hs
   obtain ⟨w, G3, e2, q3, Eg⟩ := q'.atI ha
   refine ⟨w, G3, ?_, q3, fun n => by rw [List.append_nil]; exact Nat.le_trans (Eg n) (le n)⟩
   unfold jc at e
   unfold zD
   cases w1 <;> first | (simp only at e ⊢; first | (cases e; simp only [e2]; done) | (rw [e]; simp only [e2]; done)) | (rename_i k us; cases k <;> simp only at e ⊢ <;> first | (cases e; simp only [e2]; done) | (rw [e]; simp only [e2]))
def vZ : G3 := fun k ts x y => match k, x with
 | .lst, .int i => (match ixN ts.length i with
  | some j => ξ (.lst, ts.set j y)
  | none => ζ)
 | _, _ => ζ
theorem Rps.setT {G' : List Nat} : ∀ {ts : List T} {ws : List W} {G : List Nat} (j : Nat), Rps m S ts ws G → Rp m S t w G' → ∃ G2, Rps m S (ts.set j t) (ws.set j w) G2 ∧ ∀ z, G2.count z ≤ G.count z + G'.count z
 | [], _, _, j, q, _ => ⟨[], by rw [q.1]; exact ⟨rfl, rfl⟩, fun z => by simp⟩
 | u :: ts, _, _, 0, q, h => by
  obtain ⟨w', ws', G1, G2, rfl, q1, q2, rfl⟩ := q
  exact ⟨_, ⟨_, _, _, _, rfl, h, q2, rfl⟩, fun z => by simp only [List.count_append]; omega⟩
 | u :: ts, _, _, j + 1, q, h => by
  obtain ⟨w', ws', G1, G2, rfl, q1, q2, rfl⟩ := q
  obtain ⟨G3, q3, le⟩ := Rps.setT j q2 h
  exact ⟨_, ⟨_, _, _, _, rfl, q1, q3, rfl⟩, fun z => by simp only [List.count_append]; have := le z; omega⟩
theorem yN : XF3 sR vZ := fun m S k ts ws G x u Gx y v Gy n en ft q qx qy => by
 unfold vZ
 cases k <;> first | trivial | skip
 cases x <;> first | trivial | skip
 rename_i i
 simp only
 cases hx : ixN ts.length i with
 | none => trivial
 | some j =>
  obtain ⟨rfl, rfl⟩ := qx
  obtain ⟨G2, r, le⟩ := q.setT j qy
  have en' : m[n]? = ξ (.lst ws) := en
  refine ⟨ws.set j v, G2, ?_, rfl, r, fun z => by have := le z; simp; omega⟩
  rw [q.len] at hx
  simp only [sR, en', hx, Kd.mk]
def dT : Nat → T → Option PyData
 | 0, _ => ζ
 | _ + 1, .non => ξ .none
 | _ + 1, .bl b => ξ (.bool b)
 | _ + 1, .int i => ξ (.int i)
 | _ + 1, .str x => if PyData.strOk x = true then ξ (.str x) else ζ
 | k + 1, .tup ts => match dE (dT k) ts with
  | some ds => ξ (.tuple ds)
  | none => ζ
 | k + 1, .nd _ .lst ts => match dE (dT k) ts with
  | some ds => ξ (.list ds)
  | none => ζ
 | _ + 1, _ => ζ
theorem uV {f : T → Option PyData} {g : W → Option PyData} (h : ∀ t w G d, Rp m S t w G → f t = ξ d → g w = ξ d) : ∀ {ts : List T} {ws : List W} {G : List Nat} {ds : List PyData}, Rps m S ts ws G → dE f ts = ξ ds → dE g ws = ξ ds
 | [], _, _, _, q, e => by rw [q.1]; cases e; rfl
 | t :: ts, _, _, _, q, e => by
  obtain ⟨w, ws', G1, G2, rfl, q1, q2, rfl⟩ := q
  unfold dE at e
  cases h1 : f t with
  | none => rw [h1] at e; cases e
  | some d =>
   cases h2 : dE f ts with
   | none => rw [h1, h2] at e; cases e
   | some ds =>
    rw [h1, h2] at e
    cases e
    unfold dE
    rw [h _ _ _ _ q1 h1, uV h q2 h2]
theorem Fv : ∀ {k : Nat} (t : T) (w : W) (G : List Nat) (d : PyData), Rp m S t w G → dT k t = ξ d → pQ m k w = ξ d := by
 intro k
 induction k with
 | zero => intro t w G d _ h; cases h
 | succ k ih =>
  intro t w G d q h
  cases t with
  | non => cases h; obtain ⟨rfl, _⟩ := q; rfl
  | bl b => cases h; obtain ⟨rfl, _⟩ := q; rfl
  | int b => cases h; obtain ⟨rfl, _⟩ := q; rfl
  | str x => obtain ⟨rfl, _⟩ := q; exact h
  | ob a => cases h
  | ty a => cases h
  | scr a => cases h
  | tup ts =>
   obtain ⟨ws, rfl, q⟩ := q
   simp only [dT] at h
   cases hd : dE (dT k) ts with
   | none => rw [hd] at h; cases h
   | some ds =>
    rw [hd] at h
    cases h
    simp only [pQ, uV ih q hd]
  | im j ts => cases h
  | nd o kd ts =>
   cases kd <;> first | (cases h; done) | skip
   obtain ⟨n, ws, G', rfl, e1, ft, q, c⟩ := q
   have e2 : m[n]? = ξ (.lst ws) := e1.lst
   simp only [dT] at h
   cases hd : dE (dT k) ts with
   | none => rw [hd] at h; cases h
   | some ds =>
    rw [hd] at h
    cases h
    simp only [pQ, e2, uV ih q hd]
def x6 : G2 := fun a b => match dT 60 a, dT 60 b with
 | some d, ξ e => ξ (.pur (.bl (PyData.eqv d e)))
 | _, _ => ζ
def Ki : G2 := fun a b => match dT 60 a, dT 60 b with
 | some d, ξ e => ξ (.pur (.bl (!PyData.eqv d e)))
 | _, _ => ζ
theorem JY : lI N8 x6 := fun m S t1 w1 G1 t2 w2 G2 q1 q2 => by
 unfold x6
 cases h1 : dT 60 t1 with
 | none => trivial
 | some d =>
  cases h2 : dT 60 t2 with
  | none => trivial
  | some e => exact ⟨.bl _, [], by simp only [N8, Fv _ _ _ _ q1 h1, Fv _ _ _ _ q2 h2], ⟨rfl, rfl⟩, fun n => by simp⟩
def qRepD : GN := g1 fun t => match dT 60 t with
 | some d => if kQ d = true then ξ (.pur (.str d.shown)) else ζ
 | none => ζ
theorem yO : xo sS qRepD := xu fun m S t w G q => by
 cases h1 : dT 60 t with
 | none => trivial
 | some d =>
  simp only
  by_cases hk : kQ d = true
  ·rw [if_pos hk]
   exact ⟨.str _, [], by simp only [sS, Fv _ _ _ _ q h1]; rw [if_pos hk], ⟨rfl, rfl⟩, fun n => by simp⟩
  ·rw [if_neg hk]; trivial
def G7 (K : PySem.W.Frag) : T → Option Value
 | .non => ξ (.type "NoneType")
 | .bl _ => ξ (.type "bool")
 | .int _ => ξ (.type "int")
 | .str _ => ξ (.type "str")
 | .tup _ => ξ (.type "tuple")
 | .im (.tpl _) _ => ξ (.type "tuple")
 | .nd _ .lst _ => ξ (.type "list")
 | .nd _ (.ins C _) _ => if Ew K C = true then ξ (.ref C) else ζ
 | _ => ζ
theorem K9 {K : PySem.W.Frag} {v : Value} (q : Rp m S t w G) (h : G7 K t = ξ v) : NP K m w = ξ v := by
 cases t <;> first | (obtain ⟨rfl, _⟩ := q; exact h) | (obtain ⟨ws, rfl, _⟩ := q; exact h) | (rename_i k ts; obtain ⟨ws, rfl, _⟩ := q; cases k <;> exact h) | skip
 rename_i o k ts
 obtain ⟨n, ws, G', rfl, e1, ft, q, c⟩ := q
 cases k <;> simp only [G7] at h <;> first | (cases h; done) | skip
 ·have e2 := e1.lst
  simp only [NP, e2]
  exact h
 ·have e2 := e1.ins
  simp only [NP, e2]
  exact h
def Ku : T → Option Value
 | .ty n => ξ (.type n)
 | .ob C => ξ (.ref C)
 | _ => ζ
theorem M' {v : Value} (q : Rp m S t w G) (h : Ku t = ξ v) : clW w = ξ v := by
 cases t <;> first | (cases h; done) | (obtain ⟨rfl, _⟩ := q; exact h)
def HE (K : PySem.W.Frag) : GN := fun ts => match ts with
 | [x, c] => (match G7 K x, Ku c with
  | some t, ξ u => (match PySem.W.kitOne K t u with
   | some b => ξ (.pur (.bl b))
   | none => ζ)
  | _, _ => ζ)
 | _ => ζ
theorem KW {K : PySem.W.Frag} : xo (Bf K) (HE K) := fun m S ts ws G q => by
 match ts, q with
 | [], _ => trivial
 | [t], _ => trivial
 | [t1, t2], q =>
  obtain ⟨w1, w2, G1, G2, rfl, q1, q2, rfl⟩ := q.two_of
  unfold HE
  simp only
  cases h1 : G7 K t1 with
  | none => trivial
  | some t =>
   cases h2 : Ku t2 with
   | none => trivial
   | some u =>
    simp only
    cases h3 : PySem.W.kitOne K t u with
    | none => trivial
    | some b => exact ⟨.bl b, [], by simp only [Bf, K9 q1 h1, M' q2 h2, h3], ⟨rfl, rfl⟩, fun n => by simp⟩
 | _ :: _ :: _ :: _, _ => trivial
def jD : GM := fun k ts xs => match k, xs with
 | .lst, [y] => if ts.length < sizeLine then ξ (.non, .lst, ts ++ [y]) else ζ
 | _, _ => ζ
def uF : T → Option (List T)
 | .nd _ .lst ts => ξ ts
 | _ => ζ
theorem uE (q : Rp m S t w G) (h : uF t = ξ ts) : ∃ n ws G', w = .ref n ∧ m[n]? = ξ (.lst ws) ∧ Rps m S ts ws G' ∧ ∀ z, G'.count z ≤ G.count z := by
 unfold uF at h
 split at h
 ·cases h
  obtain ⟨n, ws, G', rfl, e1, ft, h, c⟩ := q
  exact ⟨n, ws, G', rfl, e1.lst, h, Kl c⟩
 ·cases h
def LW : G2 := fun a b => match uF a, uF b with
 | some xs, ξ ys => if xs.length + ys.length ≤ sizeLine then ξ (.new .lst (xs ++ ys)) else ζ
 | _, _ => ζ
theorem KZ : lI DY LW := fun m S t1 w1 G1 t2 w2 G2 q1 q2 => by
 unfold LW
 cases h1 : uF t1 with
 | none => trivial
 | some xs =>
  cases h2 : uF t2 with
  | none => trivial
  | some ys =>
   simp only
   obtain ⟨n, ws, G3, rfl, e1, r1, l1⟩ := uE q1 h1
   obtain ⟨k, us, G4, rfl, e2, r2, l2⟩ := uE q2 h2
   by_cases hl : xs.length + ys.length ≤ sizeLine
   ·rw [if_pos hl]
    rw [r1.len, r2.len] at hl
    exact ⟨ws ++ us, G3 ++ G4, by simp only [DY, e1, e2, Kd.mk]; rw [if_pos hl], r1.app r2, rfl, fun z => by simp only [List.count_append]; have := l1 z; have := l2 z; omega⟩
   ·rw [if_neg hl]; trivial
def Du : G2 := fun a b => match a, b with
 | .str x, .str y => if x.length + y.length ≤ sizeLine then ξ (.pur (.str (x ++ y))) else ζ
 | _, _ => ζ
theorem GD : lI wk Du := fun m S t1 w1 G1 t2 w2 G2 q1 q2 => by
 unfold Du
 cases t1 <;> first | trivial | skip
 cases t2 <;> first | trivial | skip
 rename_i x y
 obtain ⟨rfl, rfl⟩ := q1
 obtain ⟨rfl, rfl⟩ := q2
 simp only
 by_cases hl : x.length + y.length ≤ sizeLine
 ·rw [if_pos hl]
  exact ⟨_, [], by simp only [wk]; rw [if_pos hl], ⟨rfl, rfl⟩, fun n => by simp⟩
 ·rw [if_neg hl]; trivial
def LU : G2 := fun a b => match uF a, b with
 | some xs, .int k => if (-(2 ^ 63) ≤ k ∧ k < 2 ^ 63 ∧ xs.length * k.toNat ≤ sizeLine) ∧ hots xs = false then ξ (.new .lst (List.replicate k.toNat xs).flatten) else ζ
 | _, _ => ζ
theorem Rps.repT (q : Rps m S ts ws []) : ∀ k : Nat, Rps m S (List.replicate k ts).flatten (List.replicate k ws).flatten []
 | 0 => ⟨rfl, rfl⟩
 | k + 1 => by
  rw [List.replicate_succ, List.replicate_succ, List.flatten_cons, List.flatten_cons]
  exact q.app (Rps.repT q k)
theorem KR : lI DU LU := fun m S t1 w1 G1 t2 w2 G2 q1 q2 => by
 unfold LU
 cases h1 : uF t1 with
 | none => trivial
 | some xs =>
  cases t2 <;> first | trivial | skip
  rename_i k
  obtain ⟨rfl, rfl⟩ := q2
  simp only
  obtain ⟨n, ws, G3, rfl, e1, r1, l1⟩ := uE q1 h1
  by_cases hl : (-(2 ^ 63) ≤ k ∧ k < 2 ^ 63 ∧ xs.length * k.toNat ≤ sizeLine) ∧ hots xs = false
  case neg => rw [if_neg hl]; trivial
  rw [if_pos hl]
  obtain rfl := Rps.cold hl.2 r1
  have hl1 := hl.1
  rw [r1.len] at hl1
  exact ⟨_, [], by simp only [DU, e1, Kd.mk]; rw [if_pos hl1], r1.repT k.toNat, rfl, fun z => by simp⟩
end
def vQ : List T → Option (List (List T))
 | [] => ξ []
 | t :: ts => match seqT t, vQ ts with
  | some x, ξ xs => ξ (x :: xs)
  | _, _ => ζ
def BU (xs : List (List T)) (i : Nat) : List T := xs.map fun x => x.getD i .non
def rL (xs : List (List T)) (n : Nat) : List T := (List.range n).map fun i => T.tup (BU xs i)
def GX (n : Nat) (as : VA) : VI := fun te => a9 (as te) fun ts te1 => match ts with
 | [] => ζ
 | t0 :: _ => if ts.length = n ∧ hots ts = false then (match vQ ts, seqT t0 with
  | some xs, ξ x0 => if xs.all (fun x => x.length == x0.length) = true then ξ (.ok (rL xs x0.length) te1) else ζ
  | _, _ => ζ) else ζ
section
end
structure Cn where
 cl : Str → Addr
 isi : T → T → Option Bool
 nf : Addr → T → Bool
 exm : Addr → T → Option Bool
 xis : Addr → T → Option Bool
def cn (K : PySem.W.Frag) : Cn where
 cl := He.ga K
 isi := fun x c => match G7 K x, Ku c with
  | some t, ξ u => PySem.W.kitOne K t u
  | _, _ => ζ
 nf := fun C y => match G7 K y with
  | some tb => PySem.W.notFirst K C tb
  | none => false
 exm := fun C c => match Ku c with
  | some u => PySem.W.exmOne K (.ref C) u
  | none => ζ
 xis := fun C c => match Ku c with
  | some u => PySem.W.kitOne K (.ref C) u
  | none => ζ
def gM (c : Cn) : GN := fun ts => match ts with
 | [x, y] => (match c.isi x y with
  | some b => ξ (.pur (.bl b))
  | none => ζ)
 | _ => ζ
theorem Gz {K : PySem.W.Frag} : xo (Bf K) (gM (cn K)) := by
 have e : gM (cn K) = HE K := by
  funext ts
  unfold gM HE
  match ts with
  | [] => rfl
  | [_] => rfl
  | [x, y] =>
   simp only [cn]
   cases G7 K x <;> cases Ku y <;> rfl
  | _ :: _ :: _ :: _ => rfl
 rw [e]
 exact KW
section
variable {m: M}{S: Own}{F G: List Nat}{t t1 t2: T}{ts xs: List T}{w w1 w2: W}{ws us: List W}
def tI : T → Bool
 | .int _ => true
 | _ => false
def tS : T → Bool
 | .str _ => true
 | _ => false
def tT : T → Bool
 | .tup _ => true
 | _ => false
theorem J7 (q : Rp m S t w G) : Qv w = tI t := by
 cases t <;> first | (obtain ⟨rfl, _⟩ := q; rfl) | (obtain ⟨ws, rfl, _⟩ := q; rfl) | (obtain ⟨n, ws, G', rfl, _⟩ := q; rfl)
theorem Pk (q : Rp m S t w G) : isS w = tS t := by
 cases t <;> first | (obtain ⟨rfl, _⟩ := q; rfl) | (obtain ⟨ws, rfl, _⟩ := q; rfl) | (obtain ⟨n, ws, G', rfl, _⟩ := q; rfl)
theorem Pj (q : Rp m S t w G) : isT w = tT t := by
 cases t <;> first | (obtain ⟨rfl, _⟩ := q; rfl) | (obtain ⟨ws, rfl, _⟩ := q; rfl) | (obtain ⟨n, ws, G', rfl, _⟩ := q; rfl)
theorem yP {c : W → Bool} {d : T → Bool} {f1 f2 : F2} {g1 g2 : G2} (hc : ∀ m S t w G, Rp m S t w G → c w = d t) (h1 : lI f1 g1) (h2 : lI f2 g2) : lI (fun a b m => if c a = true then f1 a b m else f2 a b m) (fun a b => if d a = true then g1 a b else g2 a b) := fun m S t1 w1 G1 t2 w2 G2 q1 q2 => by
 have e := hc m S t1 w1 G1 q1
 by_cases hd : d t1 = true
 ·simp only [if_pos hd]
  rw [← e] at hd
  simp only [if_pos hd]
  exact h1 m S t1 w1 G1 t2 w2 G2 q1 q2
 ·simp only [if_neg hd]
  rw [← e] at hd
  simp only [if_neg hd]
  exact h2 m S t1 w1 G1 t2 w2 G2 q1 q2
def Dt : G2 := fun a b => match a, b with
 | .tup xs, .tup ys => if xs.length + ys.length ≤ sizeLine then ξ (.pur (.tup (xs ++ ys))) else ζ
 | _, _ => ζ
theorem GB : lI wj Dt := fun m S t1 w1 G1 t2 w2 G2 q1 q2 => by
 unfold Dt
 cases t1 <;> first | trivial | skip
 cases t2 <;> first | trivial | skip
 rename_i xs ys
 obtain ⟨ws, rfl, r1⟩ := q1
 obtain ⟨us, rfl, r2⟩ := q2
 simp only
 by_cases hl : xs.length + ys.length ≤ sizeLine
 ·rw [if_pos hl]
  rw [r1.len, r2.len] at hl
  exact ⟨.tup (ws ++ us), G1 ++ G2, by simp only [wj]; rw [if_pos hl], ⟨_, rfl, r1.app r2⟩, fun n => Nat.le_refl _⟩
 ·rw [if_neg hl]; trivial
def dJ : G2 := fun a b => if tI a = true then LX a b else if tS a = true then Du a b else if tT a = true then Dt a b else LW a b
theorem gh : lI jO dJ := yP (fun _ _ _ _ _ q => J7 q) K0 (yP (fun _ _ _ _ _ q => Pk q) GD (yP (fun _ _ _ _ _ q => Pj q) GB KZ))
def eV : G2 := fun a b => if tI a = true then PZ a b else LU a b
theorem gT : lI j7 eV := yP (fun _ _ _ _ _ q => J7 q) KS KR
abbrev G1 := T → Option PN
def Hz : G1 := fun a => match a with
 | .int i => ξ (.pur (.int (-i)))
 | _ => ζ
def GP (g : G1) (a : VV) : VV := fun te => match a te with
 | some x => (match g x with
  | some (.pur t) => ξ t
  | _ => ζ)
 | none => ζ
def qInD (neg : Bool) : G2 := fun a b => match dT 60 a, dT 60 b with
 | some d, ξ (.list ds) => ξ (.pur (.bl ((ds.any fun z => PyData.eqv z d) != neg)))
 | _, _ => ζ
abbrev VO := TE → Option (Option Int)
def voN : VO := fun _ => ξ ζ
def voS (a : VV) : VO := fun te => match a te with
 | some (.int i) => ξ (ξ i)
 | _ => ζ
def NS (t : T) (lo hi : Option Int) : Option PN := match t with
 | .tup ts => ξ (.pur (.tup (Fx ts lo hi)))
 | .im (.tpl _) ts => ξ (.pur (.im (.tpl false) (Fx ts lo hi)))
 | t => (match uC t with
  | some ts => ξ (.new .lst (Fx ts lo hi))
  | none => ζ)
def OM (a : VV) (lo hi : VO) : VD := fun te => match a te, lo te, hi te with
 | some t, ξ l, ξ h => dj (NS t l h) te
 | _, _, _ => ζ
def vvSl (a : VV) (lo hi : VO) : VV := fun te => match a te, lo te, hi te with
 | some t, ξ l, ξ h => (match NS t l h with
  | some (.pur t) => ξ t
  | _ => ζ)
 | _, _, _ => ζ
variable {da: DE}{va: VD}
def i6 (a : VD) : VI := fun te => a9 (a te) fun t te1 => match t with
 | .nd false .lst ts => ξ (.ok ts te1)
 | .scr ns => ξ (.ok (ns.map T.int) te1)
 | .tup ts => if hots ts = true then ζ else ξ (.ok ts te1)
 | .im (.tpl _) ts => if hots ts = true then ζ else ξ (.ok ts te1)
 | _ => ζ
theorem pJ (ha : XE da va) : XI (oH da) (i6 va) := fun m S te env F st => by
 have hL := KP ha m S te env F st
 have hT := KN ha m S te env F st
 have h0 := ha m S te env F st
 unfold i6
 unfold O6 at hL
 unfold O4 at hT
 unfold oH
 cases hy : va te with
 | none => trivial
 | some y =>
  rw [hy] at hL hT h0
  cases y with
  | exc C d te1 =>
   obtain ⟨b, m1, S1, F1, G1, e, q⟩ := h0
   have : Bn (da env m) = false := by rw [e]; rfl
   simp only [this, Bool.false_eq_true, if_false]
   exact hL
  | ok t te1 =>
   obtain ⟨b, m1, S1, F1, G1, e, q, ev, r⟩ := h0
   by_cases ht : ∃ ts, t = .tup ts
   ·obtain ⟨ts, rfl⟩ := ht
    obtain ⟨ws, rfl, _⟩ := r
    have : Bn (da env m) = true := by rw [e]; rfl
    simp only [this, if_true]
    exact hT
   by_cases hm : ∃ nd ts, t = .im (.tpl nd) ts
   ·obtain ⟨nd, ts, rfl⟩ := hm
    obtain ⟨ws, rfl, _⟩ := r
    have : Bn (da env m) = true := by rw [e]; rfl
    simp only [this, if_true]
    exact hT
   ·have hb : Bn (da env m) = false := by
     rw [e]
     cases t <;> first | (obtain ⟨rfl, _⟩ := r; rfl) | (obtain ⟨n, ws, G', rfl, _⟩ := r; rfl) | exact absurd ⟨_, rfl⟩ ht | skip
     rename_i k ts
     obtain ⟨ws, rfl, _⟩ := r
     cases k
     ·exact absurd ⟨_, _, rfl⟩ hm
     ·rfl
    simp only [hb, Bool.false_eq_true, if_false]
    cases t <;> first | exact hL | exact absurd ⟨_, rfl⟩ ht | (rename_i o k cs; cases o <;> cases k <;> exact hL) | (rename_i k cs; cases k <;> first | exact absurd ⟨_, _, rfl⟩ hm | exact hL)
def aA (zs : List Nat) (b : bu) : bu := fun te => match b te with
 | some (.fl (.ret t) te1) => ξ (.fl (.ret t) te1)
 | some (.fl f te1) => ξ (.fl f (aT te1 zs))
 | x => x
theorem aO {L zs : List Nat} {ds : DS} {vs : bu} (h : XS L ds vs) : XS L ds (aA zs vs) := fun m S te env F st => by
 have h0 := h m S te env F st
 unfold aA
 cases hy : vs te with
 | none => trivial
 | some y =>
  rw [hy] at h0
  cases y with
  | exc C d te1 => exact h0
  | fl f te1 =>
   obtain ⟨f', env', m', S', F', G, e, a, ev, r, g⟩ := h0
   obtain ⟨F2, ev2, le⟩ := ev.wipes zs
   obtain ⟨S2, a2, sh⟩ := a.drop (B' := F2 ++ G) fun n => by simp only [List.count_append]; have := le n; omega
   cases f with
   | ret t => exact ⟨f', env', m', S', F', G, e, a, ev, r, g⟩
   | next => exact ⟨f', env', m', S2, F2, G, e, a2, ev2.sh sh, r, g⟩
   | brk => exact ⟨f', env', m', S2, F2, G, e, a2, ev2.sh sh, r, g⟩
   | cont => exact ⟨f', env', m', S2, F2, G, e, a2, ev2.sh sh, r, g⟩
def Rv (t : T) : Option PN := match uC t with
 | some ts => ξ (.new .lst ts.reverse)
 | none => ζ
def OQ (a : VV) : VD := fun te => match a te with
 | some t => dj (Rv t) te
 | none => ζ
def zW : GM := fun k ts xs => match k, xs with
 | .lst, [y] => (match uF y with
  | some ys => if ts.length + ys.length ≤ sizeLine then ξ (.non, .lst, ts ++ ys) else ζ
  | none => ζ)
 | _, _ => ζ
def t4 : bu := fun _ => ζ
theorem law_of {D : DF} {V : cD} {ns : List Int} (h : XD [false] D V) (e : V [.scr ns] = ξ (.ok (.bl true) [])) : ∃ m, D [.scr ns] [] = ξ (.ok (.bl true) m) := by
 have h0 := h [] (fun _ => False) [.scr ns] [.scr ns] [] ⟨_, _, [], [], rfl, ⟨rfl, rfl⟩, ⟨rfl, rfl⟩, rfl⟩ (fun n => by simp) (by simp) (by simp)
 rw [e] at h0
 obtain ⟨w, m', S', G1, G2, e1, _, ⟨rfl, _⟩, _⟩ := h0
 exact ⟨m', e1⟩
end
end BV
end
section
namespace BV
open PySem hiding Env
open L2 hiding TE gName
open SB
section
variable {t: T}
def PF (t : T) : Option PN := match t with
 | .tup ts => ξ (.pur (.tup ts.reverse))
 | t => Rv t
end
end BV
end
section
namespace BV
open PySem hiding Env
open L2 hiding TE gName VV
open SB
section
variable {κ: Type}[DecidableEq κ]{t: T}{ts: List T}
def CB (k : κ) : List κ → List T → Option T
 | g :: gs, t :: ts => if g = k then ξ t else CB k gs ts
 | _, _ => ζ
def tPut (k : κ) (y : T) (ks : List κ) (ts : List T) : Option (List κ × List T) :=
 if ks.count k = 0 then ξ (ks ++ [k], ts ++ [y]) else if ks.count k = 1 then ξ (ks, ts.set (ks.idxOf k) y) else ζ
end
section
variable {m: M}{t: T}{ts: List T}{ws: List W}
def Qn : T → Option Key
 | .int i => ξ (.inl i)
 | .str x => ξ (.inr x)
 | _ => ζ
def Ko : List T → Option (List Key)
 | [] => ξ []
 | t :: ts => match Qn t, Ko ts with
  | some k, ξ ks => ξ (k :: ks)
  | _, _ => ζ
def J5 : T → Option (List Key)
 | .tup ts => Ko ts
 | _ => ζ
def Ks (d y : T) : Option (Option T) := match d with
 | .nd _ (.dct ks) ts => (Qn y).map fun k => CB k ks ts
 | .nd _ (.dtp ks) ts => (J5 y).map fun k => CB k ks ts
 | _ => ζ
def Qw (d : T) : Bool := match d with
 | .nd _ (.dct _) _ => true
 | .nd _ (.dtp _) _ => true
 | _ => false
def x5 : G2 := fun d y => if Qw d = true then (match Ks d y with
 | some (ξ t) => ξ (.pur t)
 | _ => ζ) else fB d y
def HF (neg : Bool) : G2 := fun y d => if Qw d = true then (match Ks d y with
 | some o => ξ (.pur (.bl (o.isSome != neg)))
 | none => ζ) else qInD neg y d
inductive Lq : O → O → Prop
 | lk (kvs) : Lq (.dct kvs) (.lcd kvs)
 | un (kvs) : Lq (.lcd kvs) (.dct kvs)
 | lkT (kvs) : Lq (.dtp kvs) (.lct kvs)
 | unT (kvs) : Lq (.lct kvs) (.dtp kvs)
theorem Lq.nd {ob ob' : O} {n : Nat} {k : Kd} (q : Lq ob ob') (hm : m[n]? = ξ ob) (h : Nd m n false k ws) : Nd (m.set n ob') n false k ws := by
 have hl : n < m.length := lG hm
 have e : (m.set n ob')[n]? = ξ ob' := List.getElem?_set_self hl
 rcases h with h | ⟨_, u, hk, h⟩
 ·rw [hm] at h
  have h := Option.some.inj h
  subst h
  cases k with
  | lst => cases q
  | dct ks =>
   generalize hz : ks.zip ws = z at *
   have : Kd.mk (.dct ks) ws = .dct z := by simp [Kd.mk, hz]
   rw [this] at q
   cases q
   exact .inr ⟨rfl, _, by simp [Kd.lk, hz], e⟩
  | dtp ks =>
   generalize hz : ks.zip ws = z at *
   have : Kd.mk (.dtp ks) ws = .dtp z := by simp [Kd.mk, hz]
   rw [this] at q
   cases q
   exact .inr ⟨rfl, _, by simp [Kd.lk, hz], e⟩
  | ins C fs => cases q
  | xd fs => cases q
 ·rw [hm] at h
  have h := Option.some.inj h
  subst h
  cases k with
  | lst => cases hk
  | dct ks =>
   simp only [Kd.lk, Option.some.injEq] at hk
   subst hk
   cases q
   exact .inl e
  | dtp ks =>
   simp only [Kd.lk, Option.some.injEq] at hk
   subst hk
   cases q
   exact .inl e
  | ins C fs => cases hk
  | xd fs => cases hk
def qZ : T → Option (List T)
 | .nd _ (.dct _) ts => ξ ts
 | _ => ζ
end
section
def Ar (fT : T → Option (List T)) (a : VD) : VI := fun te => a9 (a te) fun t te1 => if hot t = true then ζ else match fT t with
 | some ts => ξ (.ok ts te1)
 | none => ζ
end
section
end
section
variable {κ: Type}[DecidableEq κ]
def Cz : List κ → List T → List κ → List T → Option (List κ × List T)
 | k :: ls, u :: us, ks, ts => match tPut k u ks ts with
  | some (ks', ts') => Cz ls us ks' ts'
  | none => ζ
 | _, _, ks, ts => ξ (ks, ts)
end
section
end
section
end
section
end
section
def Eu : List T → Option (List Int)
 | [] => ξ []
 | .int i :: ts => (match Eu ts with
  | some is => ξ (i :: is)
  | none => ζ)
 | _ :: _ => ζ
def td : List Key → Option (List Int)
 | [] => ξ []
 | .inl i :: ks => (match td ks with
  | some is => ξ (i :: is)
  | none => ζ)
 | _ :: _ => ζ
def lsT : T → Option (List T)
 | .nd _ .lst ts => ξ ts
 | .scr ns => ξ (ns.map T.int)
 | _ => ζ
end
section
end
section
end
def ra : Nat → List T → List T
 | _, [] => []
 | i, t :: ts => .tup [.int (i : Nat), t] :: ra (i + 1) ts
def vEn (as : VA) : VI := fun te => a9 (as te) fun ts te1 => match ts with
 | [t] => if hot t = true then ζ else (match t with
  | .tup us => ξ (.ok (ra 0 us) te1)
  | .im (.tpl _) us => ξ (.ok (ra 0 us) te1)
  | t => (match lsT t with
   | some us => ξ (.ok (ra 0 us) te1)
   | none => ζ))
 | _ => ζ
section
end
section
end
section
def PL : List T → Option (List (List Int))
 | [] => ξ []
 | .tup ts :: r => (match Eu ts, PL r with
  | some k, ξ ks => ξ (k :: ks)
  | _, _ => ζ)
 | _ :: _ => ζ
def rowsT (ks : List (List Int)) : List T := ks.map fun k => .tup (k.map T.int)
def PQ : List (List Key) → Option (List (List Int))
 | [] => ξ []
 | k :: r => (match td k, PQ r with
  | some i, ξ is => ξ (i :: is)
  | _, _ => ζ)
def vJ (ks : Option (List (List Int))) : Option PN := match ks with
 | some ks => if LC ks = true then ξ (.new .lst (rowsT (Et ks))) else ζ
 | none => ζ
def qe : GN := g1 fun t => match t with
 | .nd _ (.dtp ks) _ => vJ (PQ ks)
 | .nd _ .lst (.tup u :: us) => vJ (PL (.tup u :: us))
 | .nd _ (.dct ks) _ => (match td ks with
  | some is => if is.length < 64 then ξ (.new .lst ((j' is).map T.int)) else ζ
  | none => ζ)
 | t => (match lsT t with
  | some ts => (match Eu ts with
   | some is => ξ (.new .lst ((j' is).map T.int))
   | none => ζ)
  | none => ζ)
end
def eS (C : Addr) (fs : List Str) (vas : VA) : bu := fun te => pM (vas te) fun ts te1 => if ts.length = fs.length ∧ ts.length ≤ 1000 then ξ (.exc C (ξ (.nd true (.xd fs.reverse) ts.reverse)) te1) else ζ
def iF (C : Addr) : bu := fun te => ξ (.exc C ζ te)
theorem Rps.rev {m : M} {S : Own} : ∀ {ts : List T} {ws : List W} {G : List Nat}, Rps m S ts ws G → ∃ G', Rps m S ts.reverse ws.reverse G' ∧ ∀ n, G'.count n = G.count n
 | [], _, _, h => by
  obtain ⟨rfl, rfl⟩ := h
  exact ⟨[], ⟨rfl, rfl⟩, fun n => rfl⟩
 | t :: ts, _, _, h => by
  obtain ⟨w, ws', G1, G2, rfl, q1, q2, rfl⟩ := h
  obtain ⟨G', h', c⟩ := Rps.rev q2
  rw [List.reverse_cons, List.reverse_cons]
  exact ⟨G' ++ G1, h'.app (Rps.one q1), fun n => by rw [List.count_append, List.count_append, c n]; omega⟩
theorem yJ : ∀ {fs : List Str} {ws : List W}, fs.length = ws.length → (fs.zip ws).reverse = fs.reverse.zip ws.reverse
 | [], [], _ => rfl
 | [], _ :: _, h => by cases h
 | _ :: _, [], h => by cases h
 | f :: fs, w :: ws, h => by
  have h' : fs.length = ws.length := by simpa using h
  rw [List.zip_cons_cons, List.reverse_cons, List.reverse_cons, List.reverse_cons, yJ h', List.zip_append (by simp [h'])]
  rfl
section
variable {L: List Nat}{de: DE}{vd: VD}{das: DA}{vas: VA}{db: DS}{vb: bu}{C: Addr}{fs: List Str}{i: Nat}
theorem lO (ha : XA das vas) : XS [] (lu C fs das) (eS C fs vas) := fun m S te env F st => by
 refine Out.bindS (ha m S te env F st) st fun ts te1 ws m1 S1 F1 G1 st1 q1 sp1 sb1 => ?_
 have hl : ts.length = ws.length := Rps.len q1
 by_cases h : ts.length = fs.length ∧ ts.length ≤ 1000
 ·rw [if_pos h, if_pos (by omega)]
  obtain ⟨G', q2, c⟩ := Rps.rev q1
  rw [yJ (by omega)]
  obtain ⟨b, m', S', F', G2, e, af, ev, r⟩ := Out.alloc (A := F1 ++ G1) (k := .xd fs.reverse) st1.env q2 (by simp [Kd.fit]; omega) sb1 sp1 st1.lt (fun n => by rw [List.count_append, List.count_append, c n]; exact Nat.le_refl _)
  injection e with e
  injection e with e1 e2
  subst e1 e2
  exact ⟨_, env, _, S', F', G2, rfl, af, ev, ⟨_, rfl, r⟩, .refl⟩
 ·rw [if_neg h]; trivial
theorem km : XS [] (jw C) (iF C) := fun m S te env F st => ⟨ζ, env, m, S, F, [], rfl, by rw [List.append_nil]; exact st.own, st.env, ⟨rfl, rfl⟩, .refl⟩
def lY (i : Nat) (f : Str) : VV := fun te => match te[i]? with
 | some (ξ (.nd _ (.xd fs) ts)) => (fs.zip ts).lookup f
 | _ => ζ
theorem wC {m : M} {S : Own} {f : Str} {t : T} : ∀ {fs : List Str} {ts : List T} {ws : List W} {G : List Nat}, Rps m S ts ws G → (fs.zip ts).lookup f = ξ t → ∃ w G', (fs.zip ws).lookup f = ξ w ∧ Rp m S t w G'
 | [], _, _, _, _, h => by cases h
 | _ :: _, [], _, _, _, h => by cases h
 | g :: fs, t :: ts, _, _, q, h => by
  obtain ⟨w, ws', G1, G2, rfl, q1, q2, rfl⟩ := q
  rw [List.zip_cons_cons, List.lookup_cons] at h ⊢
  cases hb : f == g with
  | true =>
   rw [hb] at h
   cases h
   exact ⟨w, G1, by simp, q1⟩
  | false =>
   rw [hb] at h
   obtain ⟨w', G', e, q'⟩ := wC q2 h
   exact ⟨w', G', by simpa using e, q'⟩
theorem Gk {f : Str} : XV (tD i f) (lY i f) := fun m S te env F ev => by
 cases hv : lY i f te with
 | none => trivial
 | some t =>
  unfold lY at hv
  split at hv
  case h_2 => cases hv
  rename_i o fs ts h
  obtain ⟨w, G, e, q⟩ := ev.get h
  obtain ⟨n, ws, G', rfl, e1, ft, q, c⟩ := q
  have em : m[n]? = ξ (.xd (fs.zip ws)) := e1.plain rfl
  obtain ⟨w', G2, e2, q2⟩ := wC q hv
  exact ⟨w', G2, by simp only [tD, e, em, e2], q2⟩
def As (i : Nat) (b : Option Bool) : VV := fun te => match te[i]? with
 | some (ξ (.nd _ (.xd _) _)) => b.map T.bl
 | _ => ζ
theorem KH {K : PySem.W.Frag} {cv : Value} : XV (oX i K C cv) (As i (PySem.W.kitOne K (.ref C) cv)) := fun m S te env F ev => by
 cases hv : As i (PySem.W.kitOne K (.ref C) cv) te with
 | none => trivial
 | some t =>
  unfold As at hv
  split at hv
  case h_2 => cases hv
  rename_i o fs ts h
  obtain ⟨w, G, e, q⟩ := ev.get h
  obtain ⟨n, ws, G', rfl, e1, ft, q, c⟩ := q
  have em : m[n]? = ξ (.xd (fs.zip ws)) := e1.plain rfl
  cases hb : PySem.W.kitOne K (.ref C) cv with
  | none => rw [hb] at hv; cases hv
  | some b =>
   rw [hb] at hv
   cases hv
   exact ⟨.bl b, [], by simp [oX, IH, e, em, hb], rfl, rfl⟩
def lW (exm : Addr → Option Bool) (C : Addr) (i : Nat) (vb : bu) (vd : VD) : bu := fun te => match vb te with
 | some (.exc C' d te') => (match exm C' with
  | some true => if C' = C ∧ i < te'.length then (match vd (te'.set i d) with
   | some (.ok t te2) => ξ (.fl (.ret t) te2)
   | _ => ζ) else ζ
  | some false => ξ (.exc C' d te')
  | none => ζ)
 | x => x
theorem EnvT.gone {m : M} {S : Own} : ∀ {te : TE} {env : Env} {F : List Nat} (i : Nat), EnvT m S te env F → ∃ F', EnvT m S (te.set i ζ) (env.set i ζ) F' ∧ ∀ n, F'.count n ≤ F.count n
 | [], _, F, _, h => by
  obtain ⟨rfl, rfl⟩ := h
  exact ⟨[], ⟨rfl, rfl⟩, fun n => Nat.le_refl _⟩
 | none :: te, _, _, 0, h => by
  obtain ⟨x, env', rfl, h⟩ := h
  exact ⟨_, ⟨_, _, rfl, h⟩, fun n => Nat.le_refl _⟩
 | some t :: te, _, _, 0, h => by
  obtain ⟨w, env', G, F', rfl, h1, h2, rfl⟩ := h
  exact ⟨F', ⟨_, _, rfl, h2⟩, fun n => by rw [List.count_append]; omega⟩
 | none :: te, _, _, i + 1, h => by
  obtain ⟨x, env', rfl, h⟩ := h
  obtain ⟨F', h2, c⟩ := EnvT.gone i h
  exact ⟨F', ⟨_, _, rfl, h2⟩, c⟩
 | some t :: te, _, _, i + 1, h => by
  obtain ⟨w0, env', G0, F0, rfl, h0, h, rfl⟩ := h
  obtain ⟨F', h2, c⟩ := EnvT.gone i h
  exact ⟨G0 ++ F', ⟨_, _, _, _, rfl, h0, h2, rfl⟩, fun n => by rw [List.count_append, List.count_append]; have := c n; omega⟩
theorem EnvT.exc {m : M} {S : Own} {te : TE} {env : Env} {F G : List Nat} {d : Option T} {dn : Option Nat} (i : Nat) (h : EnvT m S te env F) (x : RX m S d dn G) : ∃ F', EnvT m S (te.set i d) (env.set i (xn dn)) F' ∧ ∀ n, F'.count n ≤ F.count n + G.count n := by
 cases d with
 | none =>
  obtain ⟨rfl, rfl⟩ := x
  obtain ⟨F', h', c⟩ := EnvT.gone i h
  exact ⟨F', h', fun n => by have := c n; omega⟩
 | some t =>
  obtain ⟨n, rfl, q⟩ := x
  exact h.put i q
theorem HR {exm : Addr → Option Bool} {mz m : M} {S : Own} {te : TE} {F : List Nat} (h0 : OutS m S env F L (db env mz) (vb te)) (hd : XE de vd) : OutS m S env F (L ++ [i]) (hZ exm C i db de env mz) (lW exm C i vb vd te) := by
  unfold lW hZ
  cases hy : vb te with
  | none => trivial
  | some y =>
    rw [hy] at h0
    cases y with
    | fl f te1 =>
      obtain ⟨f', env', m', S', F', G, e, r⟩ := h0
      rw [e]
      refine OutS.mono (L := L) ⟨f', env', m', S', F', G, rfl, r⟩ fun j hj => ?_
      simp only [List.contains_eq_mem, List.mem_append, decide_eq_false_iff_not, not_or] at hj ⊢
      exact hj.1
    | exc C' d te1 =>
      obtain ⟨dn, env', m', S', F', G, e, af, ev, rx, ag⟩ := h0
      rw [e]
      simp only
      cases hm : exm C' with
      | none => trivial
      | some b =>
        cases b with
        | false =>
          refine OutS.mono (L := L) ⟨dn, env', m', S', F', G, rfl, af, ev, rx, ag⟩ fun j hj => ?_
          simp only [List.contains_eq_mem, List.mem_append, decide_eq_false_iff_not, not_or] at hj ⊢
          exact hj.1
        | true =>
          simp only
          have hlen := ev.len
          by_cases hc : C' = C ∧ i < te1.length
          · rw [if_pos hc, if_pos ⟨hc.1, by omega⟩]
            obtain ⟨F2, ev2, c2⟩ := EnvT.exc i ev rx
            obtain ⟨S2, af2, Eg⟩ := af.drop (B' := F2) fun n => by rw [List.count_append]; exact c2 n
            have st2 : Stt m' S2 (te1.set i d) (env'.set i (xn dn)) F2 := ⟨ev2.sh Eg, af2.sep, af2.sub, af2.dom'⟩
            have h1 := hd m' S2 (te1.set i d) (env'.set i (xn dn)) F2 st2
            cases hv : vd (te1.set i d) with
            | none => trivial
            | some z =>
              rw [hv] at h1
              cases z with
              | exc C2 d2 te2 => trivial
              | ok t te2 =>
                obtain ⟨w, m3, S3, F3, G3, e3, af3, ev3, r3⟩ := h1
                rw [e3]
                refine ⟨.ret w, _, m3, S3, F3, G3, rfl, af2.trans af3, ev3, ⟨w, rfl, r3⟩, ?_⟩
                refine ⟨by rw [List.length_set]; exact ag.1, fun j hj => ?_⟩
                simp only [List.contains_eq_mem, List.mem_append, List.mem_singleton, decide_eq_false_iff_not, not_or] at hj
                rw [List.getElem?_set_ne (fun z => hj.2 z.symm)]
                exact ag.2 j (by simp [hj.1])
          · rw [if_neg hc]; trivial
end
section
def DL : List T → Option (List (List Key) × List T)
 | [] => ξ ([], [])
 | .tup [k, v] :: r => (match J5 k, DL r with
  | some k, ξ (ks, vs) => ξ (k :: ks, v :: vs)
  | _, _ => ζ)
 | _ :: _ => ζ
def LV : GN := g1 fun t => match lsT t with
 | some ts => (match DL ts with
  | some (ks, us) => (match Cz ks us [] [] with
   | some (ks', us') => ξ (.new (.dtp ks') us')
   | none => ζ)
  | none => ζ)
 | none => ζ
end
section
variable {t: T}
def OS (a : VD) : VD := fun te => a9 (a te) fun t te1 => kT (PF t) te1
end
theorem KI {i : Nat} {K : PySem.W.Frag} {C : Addr} {cv : Value} {o : Option Bool} (h : o = PySem.W.kitOne K (.ref C) cv := by rfl) : XV (oX i K C cv) (As i o) := h ▸ KH
section
end
end BV
end
section
namespace BV
open PySem hiding Env
open L2 SB
section
variable {m m' m1 m2: M}{S S' S1 S2: Own}{C F G Gh: List Nat}{t: T}{ts hs: List T}{w: W}{ws us: List W}{env: Env}{te: TE}
variable {da: DE}{va: VD}{das: DA}{vas: VA}{ms: List Bool}{is: List Nat}{D: DF}{V: cD}
def lj (a : VD) (as : VA) : VA := fun te => a9 (a te) fun t te1 => if hot t = true then ζ else match seqT t with
 | some ts => a9 (as te1) fun us te2 => ξ (.ok (ts ++ us) te2)
 | none => ζ
theorem nilG {G G' : List Nat} (h : ∀ z, G'.count z ≤ G.count z) (e : G = []) : G' = [] := by
 subst e
 cases G' with
 | nil => rfl
 | cons x xs => have := h x; simp at this
theorem yR (ha : XE da va) (hb : XA das vas) : XA (xj da das) (lj va vas) := fun m S te env F st => by
 refine XG.bind0 ha st fun t te1 w1 m1 S1 F1 G1 st1 q1 sp1 sb1 => ?_
 by_cases hh : hot t = true
 ·rw [if_pos hh]; trivial
 rw [if_neg hh]
 have hG : G1 = [] := Rp.cold (by simpa using hh) q1
 cases hs : seqT t with
 | none => trivial
 | some ts =>
  obtain ⟨ws, G', e1, q2, le⟩ := mm q1 hs
  have hG' := nilG le hG
  subst hG hG'
  simp only [e1]
  refine XG.bind hb st1 (hs := ts) (us := ws) (Gh := []) q2 (by rw [List.append_nil]; exact st1.sep) (by simp) fun y te2 w2 m2 S2 F2 G2 st2 hh2 q3 sp2 sb2 => ?_
  exact Out.done (G := [] ++ G2) ye st2.env (hh2.app q3) sb2 sp2 st2.lt fun n => by simp only [List.count_append]; simp
def ay (n : Nat) (V : cD) : cD := fun ts => if n ≤ ts.length ∧ (ts.drop n).length ≤ sizeLine then V (ts.take n ++ [.tup (ts.drop n)]) else ζ
theorem Rps.cut : ∀ {ts : List T} {ws : List W} {G : List Nat} (n : Nat), Rps m S ts ws G → ∃ G1 G2, Rps m S (ts.take n) (ws.take n) G1 ∧ Rps m S (ts.drop n) (ws.drop n) G2 ∧ G = G1 ++ G2
 | ts, ws, G, 0, h => ⟨[], G, by simp [Rps], by simpa using h, rfl⟩
 | [], ws, G, n + 1, h => ⟨[], [], by rw [h.1]; simp [Rps], by rw [h.1]; simp [Rps], h.2⟩
 | t :: ts, ws, G, n + 1, h => by
  obtain ⟨w, ws', Ga, Gb, rfl, q1, q2, rfl⟩ := h
  obtain ⟨G1, G2, a, b, rfl⟩ := Rps.cut n q2
  exact ⟨Ga ++ G1, G2, ⟨w, _, Ga, G1, rfl, q1, a, rfl⟩, by simpa using b, by simp⟩
theorem jy : ∀ {α : Type} {ms : List Bool} {l : List α}, (∀ b ∈ ms, b = false) → gZ ms l = []
 | _, [], _, _ => by unfold gZ; rfl
 | _, true :: ms, _, h => by have := h true (by simp); cases this
 | _, false :: ms, [], _ => by unfold gZ; rfl
 | _, false :: ms, x :: xs, h => by
  unfold gZ
  exact jy fun b hb => h b (by simp [hb])
theorem GF {n : Nat} (hd : XD ms D V) (hm : ∀ b ∈ ms, b = false := by decide) : XD [] (bI n D) (ay n V) := fun m S ts ws G q sp sb dom => by
 unfold ay
 by_cases hc : n ≤ ts.length ∧ (ts.drop n).length ≤ sizeLine
 case neg => rw [if_neg hc]; trivial
 rw [if_pos hc]
 have hl := Rps.len q
 obtain ⟨G1, G2, q1, q2, rfl⟩ := q.cut n
 have hc2 : n ≤ ws.length ∧ (ws.drop n).length ≤ sizeLine := ⟨by rw [← hl]; exact hc.1, by have := Rps.len q2; rw [← this]; exact hc.2⟩
 have q3 : Rps m S (ts.take n ++ [.tup (ts.drop n)]) (ws.take n ++ [.tup (ws.drop n)]) (G1 ++ G2) := q1.app (Rps.one ⟨_, rfl, q2⟩)
 have h0 := hd m S _ _ _ q3 sp sb dom
 have e : bI n D ws m = D (ws.take n ++ [.tup (ws.drop n)]) m := by
  unfold bI
  rw [if_pos hc2]
 cases hy : V (ts.take n ++ [.tup (ts.drop n)]) with
 | none => trivial
 | some y =>
  rw [hy] at h0
  cases y with
  | ok t fs =>
   obtain ⟨w, m', S', H1, H2, e1, a, r1, r2⟩ := h0
   rw [jy hm] at r2
   exact ⟨w, m', S', H1, H2, e.trans e1, a, r1, by unfold gZ; exact r2⟩
  | exc C d fs =>
   obtain ⟨w, m', S', H1, H2, e1, a, r1, r2⟩ := h0
   rw [jy hm] at r2
   exact ⟨w, m', S', H1, H2, e.trans e1, a, r1, by unfold gZ; exact r2⟩
theorem a7 : si das [] [] := fun env m ws m' h => by unfold gZ; rfl
theorem FE {C : Addr} : rn C D (eC (.ob C)) das = e7 [] D (aq (eC (.ob C)) das) := by
 funext env m
 show (if C = C then bnd (das env m) (fun ws m2 => D (.ob C :: ws) m2) else ζ) = bnd (bnd (das env m) fun xs m2 => ξ (.ok (.ob C :: xs) m2)) fun ws m1 => D (ws ++ []) m1
 rw [if_pos rfl]
 cases das env m with
 | none => rfl
 | some y =>
  cases y with
  | exc c d m1 => rfl
  | ok w m1 =>
   show D (.ob C :: w) m1 = D ((.ob C :: w) ++ []) m1
   rw [List.append_nil]
theorem Cj {C : Addr} (hd : XD [] D V) (ha : XA das vas) : XE (rn C D (eC (.ob C)) das) (bj V [] (aa (au (aI (.ob C))) vas)) := by
 rw [FE]
 exact gD hd (ak (aF Ow) ha) a7
def pO (i : Nat) (C : Addr) (V : cD) (is : List Nat) (as : VA) : VD := fun te => match te[i]? with
 | some (ξ (.ob a)) => if a = C then aP C V is as te else ζ
 | _ => ζ
theorem GJ {i : Nat} {C : Addr} (hd : XD (true :: ms) D V) (ha : XA das vas) (hv : si das ms is) : XE (nQ i C D das) (pO i C V is vas) := fun m S te env F st => by
 unfold pO
 split
 case h_2 => trivial
 rename_i a ht
 by_cases hC : a = C
 case neg => rw [if_neg hC]; trivial
 subst hC
 rw [if_pos rfl]
 obtain ⟨w, G, e, q⟩ := st.env.get ht
 obtain ⟨rfl, rfl⟩ := (show w = .ob a ∧ G = [] from q)
 have e2 : nQ i a D das env m = bR a [] D das env m := by
  unfold nQ
  rw [e]
  simp
 rw [e2]
 exact cq hd ha hv m S te env F st
end
end BV
end
section
namespace KV
open PySem hiding Env
open L2 SB BV
def kZ (c : Cn) : bu :=
  (bA (au (yT (bt (gM c) (aw (ae 0) (aw (aI (.ty "int")) aK))) (Cm (bt (gM c) (aw (ae 0) (aw (aI (.ty "bool")) aK)))))))
def jI (c : Cn) : cD := bE [false] 1 (kZ c)
def iM (c : Cn) : bu :=
  (bA (t6 (bj (jI c) [] (aa (au (ae 0)) ah)) (au (gi zo A3 (aI (.int 0)) (ae 0) (ae 1)))))
def fW (c : Cn) : cD := bE [false, false] 2 (iM c)
def mM (c : Cn) : bu :=
  (bA (au (bt cm (aw (aZ (c.cl "Kind") "entries" (ae 0)) aK))))
def gz (c : Cn) : cD := bE [false] 1 (mM c)
def kI (c : Cn) : bu :=
  (a5 (dG (jV (cG (eR (bt (gM c) (aw (ae 1) (aw (aI (.ty "tuple")) aK))))) (eR (aD Ki (bt cm (aw (ae 1) aK)) (bt cm (aw (ae 0) aK))))) (bA (au (aI (.bl false)))) bf)
  (bA (oU mw (aa (av (vm (GX 2 (aa (au (ae 1)) (aa (au (ae 0)) ah))) (kb 2 (bc (gName 2) (bc (gName 3) gQ))) fv (bj (fW c) [] (aa (au (ae 2)) (aa (yX (c.cl "Kind") (gz c) (ae 3)) ah))) [2, 3])) ah))))
def e8 (c : Cn) : cD := bE [false, false] 4 (kI c)
def k6 (c : Cn) : bu :=
  (bA (au (aD fB (aD fB (aD fB (aZ (c.cl "Kind") "entries" (ae 0)) (ae 1)) (ae 2)) (ae 3))))
def jJ (c : Cn) : cD := bE [false, false, false, false] 4 (k6 c)
def rG (c : Cn) : bu :=
  (a5 (cx (bx ah) (gName 4))
  (a5 (aA [0, 1, 2, 3, 5, 6, 7, 8] (gr (GX 4 (aa (au (ae 0)) (aa (au (ae 1)) (aa (au (ae 2)) (aa (au (ae 3)) ah))))) (kb 4 (bc (gName 5) (bc (gName 6) (bc (gName 7) (bc (gName 8) gQ))))) (aA [5, 6, 7, 8] (aA [5, 6, 7, 8] (dH (oa "list" jD 4 (aa (bF (c.cl "Kind") "apply" (jJ c) [] (ae 5) (aa (au (ae 5)) (aa (au (ae 6)) (aa (au (ae 7)) (aa (au (ae 8)) ah))))) ah)))))))
  (bA (au (bt nz (aw (ae 4) aK))))))
def nV (c : Cn) : cD := bE [false, false, false, false] 9 (rG c)
def jQ (c : Cn) : bu :=
  (bA (au (aD x5 (aD fB (aZ (c.cl "Forks") "by_value" (ae 0)) (ae 2)) (aD fB (ae 1) (ae 2)))))
def bH (c : Cn) : cD := bE [false, false, false] 3 (jQ c)
def rH (c : Cn) : bu :=
  (a5 (cx (bF (c.cl "Forks") "lot_of" (bH c) [] (ae 0) (aa (au (ae 0)) (aa (au (ae 1)) (aa (au (ae 2)) ah)))) (gName 4))
  (bA (bj (nV c) [] (aa (au (aZ (c.cl "Forks") "row_kinds" (ae 0))) (aa (au (ae 1)) (aa (au (aD x5 (ae 4) (aD fB (ae 1) (ae 2)))) (aa (au (aD x5 (ae 4) (ae 3))) ah)))))))
def dg (c : Cn) : cD := bE [false, false, false, false] 5 (rH c)
def oZ (c : Cn) : bu :=
  (a5 (aA [0, 2, 3, 4, 5] (gr (Cp (aa (au (ae 2)) (aa (au (bt cm (aw (aZ (c.cl "Forks") "row_kinds" (ae 0)) aK))) ah))) (gName 4) (aA [4, 5] (a5 (cx (av (oU qe (aa (bF (c.cl "Forks") "lot_of" (bH c) [] (ae 0) (aa (au (ae 0)) (aa (au (ae 1)) (aa (au (ae 4)) ah)))) ah))) (gName 5))
  (aA [4, 5] (cx (bF (c.cl "Forks") "moved" (dg c) [] (ae 0) (aa (au (ae 0)) (aa (au (ae 1)) (aa (au (ae 4)) (aa (Au (eR (ae 3)) (au (aD fB (ae 5) (GP Hz (aI (.int 1))))) (au (aD fB (ae 5) (aI (.int 0))))) ah))))) (gName 1)))))))
  (bA (au (ae 1))))
def iq (c : Cn) : cD := bE [false, false, false, false] 6 (oZ c)
def oS (c : Cn) : bu :=
  (bA (au (yT (bt (gM c) (aw (ae 0) (aw (aI (.ty "int")) aK))) (yT (Cm (bt (gM c) (aw (ae 0) (aw (aI (.ty "bool")) aK)))) (gi zo A3 (aI (.int 0)) (ae 0) (ae 1))))))
def lJ (c : Cn) : cD := bE [false, false] 2 (oS c)
def mO (c : Cn) : bu :=
  (a5 (aA [0, 1, 2] (gr (i6 (au (aZ (c.cl "Forks") "lots" (ae 0)))) (gName 1) (aA [1, 2] (aA [1, 2] (gr (Ar qZ (au (aD fB (ae 1) (aI (.int 0))))) (gName 2) (aA [2] (bA (au (ae 2)))))))))
  (bA (au (hM aK))))
def fX (c : Cn) : cD := bE [false] 3 (mO c)
def uX (c : Cn) : bu :=
  (bA (Au (eR (aD iD (ae 0) (aI .non))) (au (aI .non)) (bF (c.cl "Forks") "driven" (iq c) [] (ae 0) (aa (au (ae 0)) (aa (bF (c.cl "Forks") "some_row" (fX c) [] (ae 0) (aa (au (ae 0)) ah)) (aa (au (aI (.int 0))) (aa (au (ae 1)) ah)))))))
def xl (c : Cn) : cD := bE [false, false] 2 (uX c)
def lM (c : Cn) : bu :=
  (bA (bj (xl c) [] (aa (au (aZ (c.cl "ClosedSet") "forks" (ae 0))) (aa (au (aI (.bl false))) ah))))
def mK (c : Cn) : cD := bE [false] 1 (lM c)
def mP (c : Cn) : bu :=
  (a5 (dG (cG (cK (bj (e8 c) [] (aa (au (aZ (c.cl "ClosedSet") "set_kinds" (ae 0))) (aa (au (ae 1)) ah))))) t4 bf)
  (a5 (dG (eR (aD iD (aZ (c.cl "ClosedSet") "forks" (ae 0)) (aI .non))) t4 bf)
  (a5 (cx (bF (c.cl "Forks") "driven" (iq c) [] (aZ (c.cl "ClosedSet") "forks" (ae 0)) (aa (au (aZ (c.cl "ClosedSet") "forks" (ae 0))) (aa (bF (c.cl "Forks") "some_row" (fX c) [] (aZ (c.cl "ClosedSet") "forks" (ae 0)) (aa (au (aZ (c.cl "ClosedSet") "forks" (ae 0))) ah)) (aa (au (aI (.int 0))) (aa (au (aI (.bl false))) ah))))) (gName 2))
  (a5 (cx (bx ah) (gName 3))
  (a5 (aA [0, 1, 4, 5] (gr (vEn (aa (au (ae 1)) ah)) (kb 2 (bc (gName 4) (bc (gName 5) gQ))) (aA [4, 5] (a5 (dG (cK (Aq (HF true) (au (ae 5)) (bF (c.cl "Forks") "lot_of" (bH c) [] (aZ (c.cl "ClosedSet") "forks" (ae 0)) (aa (au (aZ (c.cl "ClosedSet") "forks" (ae 0))) (aa (au (ae 2)) (aa (au (ae 4)) ah)))))) (bA (lV (aa (Av 3) (aa (au (ae 4)) (aa (au (ae 2)) ah))))) bf)
  (aA [4, 5] (dG (eR (aD Ki (ae 5) (aD fB (ae 2) (ae 4)))) (a5 (cx (bF (c.cl "Forks") "moved" (dg c) [] (aZ (c.cl "ClosedSet") "forks" (ae 0)) (aa (au (aZ (c.cl "ClosedSet") "forks" (ae 0))) (aa (au (ae 2)) (aa (au (ae 4)) (aa (au (ae 5)) ah))))) (gName 2))
  (aA [4, 5] (dH (oa "list" jD 3 (aa (au (hM (aw (ae 4) (aw (ae 5) aK)))) ah))))) bf))))))
  (bA (lV (aa (Av 3) (aa (au (aI .non)) (aa (au (ae 2)) ah))))))))))
def dW (c : Cn) : cD := bE [false, false] 6 (mP c)
def nX (c : Cn) : bu :=
  (a5 (dG (jV (eR (aD iD (aZ (c.cl "ClosedSet") "forks" (ae 0)) (aI .non))) (cG (cK (bj (e8 c) [] (aa (au (aZ (c.cl "ClosedSet") "set_kinds" (ae 0))) (aa (au (ae 1)) ah)))))) (bA (au (aI (.bl false)))) bf)
  (a5 (aA [0, 1, 2, 4] (cx (bF (c.cl "ClosedSet") "walk" (dW c) [] (ae 0) (aa (au (ae 0)) (aa (au (ae 1)) ah))) (kb 3 (bc (gName 2) (bc (gName 3) (bc (gName 4) gQ))))))
  (bA (au (aD iD (ae 3) (aI .non))))))
def V_ClosedSet_has (c : Cn) : cD := bE [false, false] 5 (nX c)
end KV
end
section
namespace BV
open PySem hiding Env
open L2 SB
section
end
section
end
end BV
end
section
namespace KV
open PySem hiding Env
open L2 SB BV
end KV
end
section
namespace BV
open PySem hiding Env
open L2 SB
end BV
end
section
namespace BV
open PySem hiding Env
open L2 hiding TE gName VV
open SB
def OZ (g : G2) (i : Nat) (b : VD) : VD := fun te => match te[i]? with
 | some (ξ _) => a9 (b te) fun y te1 => (match te1[i]? with
  | some (ξ x) => dj (g x y) te1
  | _ => ζ)
 | _ => ζ
section
variable {g: G2}
@[simp] theorem ND {i : Nat} {b : VD} {te : TE} : OZ g i b te = match te[i]? with
  | some (ξ _) => a9 (b te) fun y te1 => (match te1[i]? with
    | some (ξ x) => dj (g x y) te1
    | _ => ζ)
  | _ => ζ := rfl
end
end BV
end
section
namespace KV
open PySem hiding Env
open L2 SB BV
def iN (c : Cn) : bu :=
  (a5 (cx (au (aI (.int 0))) (gName 2))
  (a5 (aA [0] (dG (eR (aD A3 (ae 1) (bt cm (aw (ae 0) aK)))) (aA [0] (cx (au (aD fB (ae 0) (ae 1))) (gName 2))) bf))
  (a5 (cx (au (bt Dw (aw (ae 2) aK))) (gName 3))
  (bA (bx (aa (au (aD eV (ae 3) (bt zp (aw (aD Rx (ae 3) (aD x4 (aI (.int 10)) (aI (.int 18)))) aK)))) (aa (au (aD dJ (aD dJ (aD dJ (aD qg (ae 2) (aI (.int 1000000000000000009))) (aD eV (aD eV (aI (.int 9973)) (ae 1)) (ae 1))) (aD eV (aI (.int 71)) (ae 1))) (aI (.int 7)))) (aa (au (aI (.int 0))) ah))))))))
def dS (c : Cn) : cD := bE [false, false] 4 (iN c)
def eB (c : Cn) : bu :=
  (a5 (aA [6] (dG (eR (aD FY (aD fB (ae 0) (aI (.int 0))) (aI (.int 0)))) (a5 (cx (au (aD qg (aD fB (ae 0) (aI (.int 0))) (ae 1))) (gName 6))
  (a5 (aA [1] (yV vZ 0 (au (aI (.int 0))) (au (aD A7 (aD fB (ae 0) (aI (.int 0))) (ae 1)))))
  (bA (au (ae 6))))) bf))
  (a5 (cx (au (hM (aw (aI (.int 2147483647)) (aw (aI (.int 2147483629)) (aw (aI (.int 2147483587)) (aw (aI (.int 2147483579)) (aw (aI (.int 2147483563)) (aw (aI (.int 2147483549)) (aw (aI (.int 2147483543)) (aw (aI (.int 2147483497)) aK)))))))))) (gName 2))
  (a5 (yV vZ 0 (au (aI (.int 2))) (au (aD dJ (aD fB (ae 0) (aI (.int 2))) (aI (.int 1)))))
  (a5 (cx (au (aD fB (ae 0) (aI (.int 2)))) (gName 3))
  (a5 (cx (au (aD dJ (aD dJ (aD eV (aD fB (ae 0) (aI (.int 1))) (aD dJ (aD eV (aI (.int 2)) (ae 3)) (aI (.int 5)))) (aD eV (aD eV (aI (.int 6217)) (ae 3)) (ae 3))) (aI (.int 83)))) (gName 4))
  (a5 (aA [4] (cx (au (aD qg (aD x4 (ae 4) (aI (.int 3))) (aD fB (ae 2) (aD qg (ae 3) (aI (.int 8)))))) (gName 5)))
  (bA (au (aD qg (aD A7 (aD qg (aD eV (ae 5) (aD dJ (aD A7 (ae 5) (aI (.int 4093))) (aI (.int 29)))) (aD fB (ae 2) (aD qg (aD dJ (ae 3) (aI (.int 3))) (aI (.int 8))))) (aI (.int 16))) (ae 1))))))))))
def bT (c : Cn) : cD := bE [true, false] 7 (eB c)
end KV
end
section
namespace BV
open PySem hiding Env
open L2 hiding TE gName VV
open SB
end BV
end
section
namespace KV
open PySem hiding Env
open L2 SB BV
end KV
end
section
namespace BV
open PySem hiding Env
open L2 hiding TE gName VV
open SB
section
end
section
end
section
end
end BV
end
section
namespace KV
open PySem hiding Env
open L2 SB BV
end KV
end
section
namespace BV
open PySem hiding Env
open L2 SB
def VP {α : Type} (x : Option (VR α)) (Q : α → TE → Prop) : Prop := ∃ a te, x = ξ (.ok a te) ∧ Q a te
def VSP (x : Option VS) (Q : VF → TE → Prop) : Prop := ∃ f te, x = ξ (.fl f te) ∧ Q f te
def VCP (x : Option VC) (Q : T → List T → Prop) : Prop := ∃ t fs, x = ξ (.ok t fs) ∧ Q t fs
section
variable {α β: Type}{te te1: TE}{Q: VF → TE → Prop}
theorem VSP.mk {f : VF} {x : Option VS} (e : x = ξ (.fl f te)) (h : Q f te) : VSP x Q := ⟨f, te, e, h⟩
theorem VSP.imp {x : Option VS} {Q' : VF → TE → Prop} (h : VSP x Q) (i : ∀ f te, Q f te → Q' f te) : VSP x Q' := by
 obtain ⟨f, te, e, q⟩ := h
 exact ⟨f, te, e, i f te q⟩
abbrev Thn (P : TE → Prop) (Q : VF → TE → Prop) : VF → TE → Prop := fun f te => match f with
 | .next => P te
 | f => Q f te
theorem Ac {a b : bu} (h : VSP (a te) (Thn (fun te' => VSP (b te') Q) Q)) : VSP (a5 a b te) Q := by
 obtain ⟨f, te1, e, q⟩ := h
 unfold a5
 rw [e]
 cases f with
 | next => exact q
 | ret t => exact ⟨_, _, rfl, q⟩
 | brk => exact ⟨_, _, rfl, q⟩
 | cont => exact ⟨_, _, rfl, q⟩
theorem FU {a b : bu} (e : a te = ξ (.fl .next te1)) (h : VSP (b te1) Q) : VSP (a5 a b te) Q := Ac ⟨.next, te1, e, h⟩
theorem FT {zs : List Nat} {a : bu} (h : VSP (a te) fun f te' => match f with
  | .ret t => Q (.ret t) te'
  | f => Q f (aT te' zs)) : VSP (aA zs a te) Q := by
 obtain ⟨f, te1, e, q⟩ := h
 unfold aA
 rw [e]
 cases f with
 | next => exact ⟨_, _, rfl, q⟩
 | ret t => exact ⟨_, _, rfl, q⟩
 | brk => exact ⟨_, _, rfl, q⟩
 | cont => exact ⟨_, _, rfl, q⟩
theorem JS {a : VD} {t : T} (e : a te = ξ (.ok t te1)) (h : Q (.ret t) te1) : VSP (bA a te) Q := ⟨.ret t, te1, by simp only [bA, e, pM], h⟩
def EndV (ms : List Bool) (Q : T → List T → Prop) : VF → TE → Prop := fun f te => match f with
 | .next => ∃ fs, eP ms te = ξ fs ∧ Q .non fs
 | .ret t => ∃ fs, eP ms te = ξ fs ∧ Q t fs
 | _ => False
theorem JU {ms : List Bool} {n : Nat} {b : bu} {ts : List T} {Q : T → List T → Prop} (hl : ts.length = ms.length) (h : VSP (b (ts.map ξ ++ List.replicate (n - ms.length) ζ)) (EndV ms Q)) : VCP (bE ms n b ts) Q := by
 obtain ⟨f, te, e, q⟩ := h
 unfold bE
 rw [if_pos hl, e]
 cases f with
 | next => obtain ⟨fs, e2, q⟩ := q; exact ⟨_, _, by simp only [e2], q⟩
 | ret t => obtain ⟨fs, e2, q⟩ := q; exact ⟨_, _, by simp only [e2], q⟩
 | brk => exact q.elim
 | cont => exact q.elim
theorem vfor {g : VG} {body : bu} {ts : List T} (I : Nat → TE → Prop)
  (step : ∀ (i : Nat) t te, ts[i]? = ξ t → I i te → ∃ te1, g t te = ξ te1 ∧ VSP (body te1) fun f te2 => match f with
   | .next => I (i + 1) te2
   | .cont => I (i + 1) te2
   | .brk => Q .next te2
   | .ret r => Q (.ret r) te2)
  (fin : ∀ te, I ts.length te → Q .next te) (h0 : I 0 te) : VSP (b7 g body ts te) Q := by
 have key : ∀ (us : List T) (i : Nat) (te : TE), ts.drop i = us → i ≤ ts.length → I i te → VSP (b7 g body us te) Q := by
  intro us
  induction us with
  | nil =>
   intro i te hd hi h
   have hl : ts.length ≤ i := List.drop_eq_nil_iff.mp hd
   have e : i = ts.length := by omega
   subst e
   exact ⟨_, _, rfl, fin te h⟩
  | cons t us ih =>
   intro i te hd hi h
   have hw : ts[i]? = ξ t := by
    have := congrArg List.head? hd
    rw [List.head?_drop] at this
    exact this
   have hlt : i < ts.length := (List.getElem?_eq_some_iff.mp hw).1
   have hws : ts.drop (i + 1) = us := by
    rw [← List.tail_drop, hd]
    rfl
   obtain ⟨te1, e1, f, te2, eb, q⟩ := step i t te hw h
   unfold b7
   simp only [e1, eb]
   cases f with
   | next => exact ih (i + 1) te2 hws hlt q
   | cont => exact ih (i + 1) te2 hws hlt q
   | brk => exact ⟨_, _, rfl, q⟩
   | ret r => exact ⟨_, _, rfl, q⟩
 exact key ts 0 te (by simp) (Nat.zero_le _) h0
theorem JT {vi : VI} {g : VG} {body : bu} {ts : List T} (e : vi te = ξ (.ok ts te1)) (h : VSP (b7 g body ts te1) Q) : VSP (gr vi g body te) Q := by
 unfold gr
 rw [e]
 exact h
theorem vlc {g : VG} {tt : VT} {elt : VD} {zs : List Nat} {ts : List T} (I : Nat → List T → TE → Prop)
  (step : ∀ (i : Nat) t ys te, ts[i]? = ξ t → I i ys te → ∃ te1, g t te = ξ te1 ∧ VP (tt te1) fun b te2 => if b = true then VP (elt te2) fun y te3 => I (i + 1) (ys ++ [y]) (aT te3 zs) else I (i + 1) ys (aT te2 zs)) (h0 : I 0 [] te) :
  ∃ ys te', jY g tt elt zs ts te = ξ (ys, te') ∧ I ts.length ys te' := by
 have key : ∀ (us : List T) (i : Nat) (ys : List T) (te : TE), ts.drop i = us → i ≤ ts.length → I i ys te → ∃ zz te', jY g tt elt zs us te = ξ (zz, te') ∧ I ts.length (ys ++ zz) te' := by
  intro us
  induction us with
  | nil =>
   intro i ys te hd hi h
   have hl : ts.length ≤ i := List.drop_eq_nil_iff.mp hd
   have e : i = ts.length := by omega
   subst e
   exact ⟨[], te, rfl, by rw [List.append_nil]; exact h⟩
  | cons t us ih =>
   intro i ys te hd hi h
   have hw : ts[i]? = ξ t := by
    have := congrArg List.head? hd
    rw [List.head?_drop] at this
    exact this
   have hlt : i < ts.length := (List.getElem?_eq_some_iff.mp hw).1
   have hws : ts.drop (i + 1) = us := by
    rw [← List.tail_drop, hd]
    rfl
   obtain ⟨te1, e1, b, te2, eb, q⟩ := step i t ys te hw h
   unfold jY
   simp only [e1, eb]
   cases b with
   | false =>
    obtain ⟨zz, te', e, q'⟩ := ih (i + 1) ys _ hws hlt q
    exact ⟨zz, te', e, q'⟩
   | true =>
    rw [if_pos rfl] at q
    obtain ⟨y, te3, ey, q⟩ := q
    obtain ⟨zz, te', e, q'⟩ := ih (i + 1) (ys ++ [y]) _ hws hlt q
    exact ⟨y :: zz, te', by simp only [ey, e], by rw [List.append_assoc] at q'; exact q'⟩
 obtain ⟨zz, te', e, q⟩ := key ts 0 [] te (by simp) (Nat.zero_le _) h0
 exact ⟨zz, te', e, q⟩
theorem GW {g : VG} {elt : VD} {zs : List Nat} {ts : List T} (f : Nat → T → T) (step : ∀ (i : Nat) t, ts[i]? = ξ t → ∃ te1 te3, g t te = ξ te1 ∧ elt te1 = ξ (.ok (f i t) te3) ∧ aT te3 zs = te) :
  jY g fv elt zs ts te = ξ (ts.mapIdx f, te) := by
 obtain ⟨ys, te', e, hl, h, ht⟩ := vlc (g := g) (tt := fv) (elt := elt) (zs := zs) (ts := ts) (te := te) (fun i ys te' => ys.length = i ∧ (∀ (j : Nat) t, j < i → ts[j]? = ξ t → ys[j]? = ξ (f j t)) ∧ te' = te) (fun i t ys te' ht hI => by
  obtain ⟨h1, h2, rfl⟩ := hI
  obtain ⟨te1, te3, e1, e2, e3⟩ := step i t ht
  refine ⟨te1, e1, true, te1, rfl, f i t, te3, e2, by simp [h1], fun j u hj hu => ?_, e3⟩
  by_cases z : j = i
  ·subst z
   rw [ht] at hu
   cases hu
   rw [List.getElem?_append_right (by omega), h1]
   simp
  ·rw [List.getElem?_append_left (by omega)]
   exact h2 j u (by omega) hu) ⟨rfl, fun j t h => absurd h (by omega), rfl⟩
 subst ht
 rw [e]
 congr 2
 apply List.ext_getElem?
 intro j
 rw [List.getElem?_mapIdx]
 cases hj : ts[j]? with
 | none =>
  rw [List.getElem?_eq_none (by rw [hl]; exact List.getElem?_eq_none_iff.mp hj)]
  rfl
 | some t => rw [h j t (List.getElem?_eq_some_iff.mp hj).1 hj]; rfl
@[simp ↓] theorem bM {x : Option (VR α)} {k : α → TE → Option (VR β)} : a9 x k = match x with
  | none => ζ
  | some (.ok a te) => k a te
  | some (.exc C d te) => ξ (.exc C d te) := rfl
@[simp ↓] theorem tZ {x : Option (VR α)} {k : α → TE → Option VS} : pM x k = match x with
  | none => ζ
  | some (.ok a te) => k a te
  | some (.exc C d te) => ξ (.exc C d te) := rfl
@[simp ↓] theorem OO {a b : bu} : a5 a b te = match a te with
  | some (.fl .next te') => b te'
  | x => x := rfl
@[simp] theorem Ak {i : Nat} : ae i te = match te[i]? with
  | some (ξ t) => ξ t
  | _ => ζ := rfl
@[simp] theorem Q8 {t : T} : aI t te = ξ t := rfl
@[simp] theorem OH {g : G2} {a b : VV} : aD g a b te = match a te, b te with
  | some x, ξ y => (match g x y with
    | some (.pur t) => ξ t
    | _ => ζ)
  | _, _ => ζ := rfl
@[simp] theorem OC {g : G1} {a : VV} : GP g a te = match a te with
  | some x => (match g x with
    | some (.pur t) => ξ t
    | _ => ζ)
  | none => ζ := rfl
@[simp] theorem su : aK te = ξ [] := rfl
@[simp] theorem pK {a : VV} {as : tO} : aw a as te = match a te, as te with
  | some x, ξ xs => ξ (x :: xs)
  | _, _ => ζ := rfl
@[simp] theorem lU {g : GN} {as : tO} : bt g as te = match as te with
  | some xs => (match g xs with
    | some (.pur t) => ξ t
    | _ => ζ)
  | none => ζ := rfl
@[simp] theorem Nq {as : tO} : hM as te = match as te with
  | some xs => if xs.length ≤ sizeLine then ξ (.tup xs) else ζ
  | none => ζ := rfl
@[simp] theorem Nt {C : Addr} {f : Str} {a : VV} : aZ C f a te = match a te with
  | some t => ib C f t
  | none => ζ := rfl
@[simp] theorem Nr {a : VV} : Cm a te = match a te with
  | some (.bl b) => ξ (.bl (!b))
  | _ => ζ := rfl
@[simp] theorem Nu {a b : VV} : yT a b te = match a te with
  | some (.bl true) => b te
  | some (.bl false) => ξ (.bl false)
  | _ => ζ := rfl
@[simp] theorem OG {a b : VV} : vvOr a b te = match a te with
  | some (.bl true) => ξ (.bl true)
  | some (.bl false) => b te
  | _ => ζ := rfl
@[simp] theorem J4 {f g : G2} {a b c : VV} : gi f g a b c te = match a te, b te with
  | some x, ξ y => (match f x y with
    | some (.pur (.bl true)) => (match c te with
      | some z => (match g y z with
        | some (.pur t) => ξ t
        | _ => ζ)
      | none => ζ)
    | some (.pur (.bl false)) => ξ (.bl false)
    | _ => ζ)
  | _, _ => ζ := rfl
@[simp] theorem OD {a : VV} {lo hi : VO} : vvSl a lo hi te = match a te, lo te, hi te with
  | some t, ξ l, ξ h => (match NS t l h with
    | some (.pur t) => ξ t
    | _ => ζ)
  | _, _, _ => ζ := rfl
@[simp] theorem Ra : voN te = ξ ζ := rfl
@[simp] theorem Q9 {a : VV} : voS a te = match a te with
  | some (.int i) => ξ (ξ i)
  | _ => ζ := rfl
@[simp] theorem G6 {a : VV} : au a te = match a te with
  | some t => if hot t = true then ζ else ξ (.ok t te)
  | none => ζ := rfl
@[simp] theorem O8 {i : Nat} : Av i te = match te[i]? with
  | some (ξ t) => ξ (.ok (frz t) (te.set i (ξ (frz t))))
  | _ => ζ := rfl
@[simp] theorem O2 {i : Nat} : K7 i te = match te[i]? with
  | some (ξ t) => ξ (.ok t (te.set i ζ))
  | _ => ζ := rfl
@[simp] theorem GZ {g : G2} {a b : VD} : Aq g a b te = a9 (a te) fun x te1 => a9 (b te1) fun y te2 => kT (g x y) te2 := rfl
@[simp] theorem NI {g : G2} {a : VD} {b : VV} : lX g a b te = a9 (a te) fun x te1 => match b te1 with
  | some y => dj (g x y) te1
  | none => ζ := rfl
@[simp] theorem NC {g : G2} {a b : VV} : OY g a b te = match a te, b te with
  | some x, ξ y => dj (g x y) te
  | _, _ => ζ := rfl
@[simp] theorem Rh {g : GN} {as : VA} : oU g as te = a9 (as te) fun xs te1 => kT (g xs) te1 := rfl
@[simp] theorem O9 {g : GN} {as : tO} : vq g as te = match as te with
  | some xs => dj (g xs) te
  | none => ζ := rfl
@[simp] theorem Bc {t : T} : kT (ξ (.pur t)) te = ξ (.ok t te) := rfl
@[simp] theorem N6 {k : Kd} {ts : List T} : kT (ξ (.new k ts)) te = ξ (.ok (.nd true k ts) te) := rfl
@[simp] theorem L4 {t : T} : dj (ξ (.pur t)) te = if hot t = true then ζ else ξ (.ok t te) := rfl
@[simp] theorem L5 {k : Kd} {ts : List T} : dj (ξ (.new k ts)) te = if hots ts = true then ζ else ξ (.ok (.nd true k ts) te) := rfl
@[simp] theorem sx : ah te = ξ (.ok [] te) := rfl
@[simp] theorem pN {a : VD} {as : VA} : aa a as te = a9 (a te) fun x te1 => a9 (as te1) fun xs te2 => ξ (.ok (x :: xs) te2) := rfl
@[simp] theorem Nw {i : Nat} {as : VA} : bZ i as te = match te[i]? with
  | some (ξ _) => a9 (as te) fun xs te1 => (match te1[i]? with
    | some (ξ t) => ξ (.ok (t :: xs) (te1.set i ζ))
    | _ => ζ)
  | _ => ζ := rfl
@[simp] theorem OJ {as : VA} : lV as te = a9 (as te) fun xs te1 => if xs.length ≤ sizeLine then ξ (.ok (.tup xs) te1) else ζ := rfl
@[simp] theorem O3 {as : VA} : bx as te = a9 (as te) fun xs te1 => if xs.length ≤ sizeLine then ξ (.ok (.nd true .lst xs) te1) else ζ := rfl
@[simp] theorem NN {a : VD} : av a te = a9 (a te) fun x te1 => ξ (.ok (frz x) te1) := rfl
@[simp] theorem ko {a : VD} : cK a te = a9 (a te) Nc := rfl
@[simp] theorem JK {b : Bool} : Nc (.bl b) te = ξ (.ok b te) := rfl
@[simp] theorem GU {a : VV} : eR a te = match a te with
  | some (.bl b) => ξ (.ok b te)
  | _ => ζ := rfl
@[simp] theorem sv {a b : VT} : jW a b te = a9 (a te) fun x te1 => if x = true then b te1 else ξ (.ok false te1) := rfl
@[simp] theorem vj {a b : VT} : jV a b te = a9 (a te) fun x te1 => if x = true then ξ (.ok true te1) else b te1 := rfl
@[simp] theorem ng {a : VT} : cG a te = a9 (a te) fun x te1 => ξ (.ok (!x) te1) := rfl
@[simp] theorem Nv : fv te = ξ (.ok true te) := rfl
@[simp] theorem Rc {c : VT} {a b : VD} : Au c a b te = a9 (c te) fun x te1 => if x = true then a te1 else b te1 := rfl
@[simp] theorem Pa {a b : VD} : t6 a b te = a9 (a te) fun x te1 => match x with
  | .bl true => b te1
  | .bl false => ξ (.ok (.bl false) te1)
  | _ => ζ := rfl
@[simp] theorem Rb {a b : VD} : vOr a b te = a9 (a te) fun x te1 => match x with
  | .bl true => ξ (.ok (.bl true) te1)
  | .bl false => b te1
  | _ => ζ := rfl
@[simp] theorem O0 {a : VD} : O1 a te = a9 (a te) fun x te1 => match x with
  | .bl k => ξ (.ok (.bl (!k)) te1)
  | _ => ζ := rfl
@[simp] theorem NK : bf te = ξ (.fl .next te) := rfl
@[simp] theorem Rg {f : VF} : vFl f te = ξ (.fl f te) := rfl
@[simp] theorem i7 {a : VD} : dH a te = pM (a te) fun _ te1 => ξ (.fl .next te1) := rfl
@[simp] theorem OT {a : VD} : bA a te = pM (a te) fun t te1 => ξ (.fl (.ret t) te1) := rfl
@[simp] theorem O7 {c : VT} {a b : bu} : dG c a b te = pM (c te) fun x te1 => if x = true then a te1 else b te1 := rfl
@[simp] theorem nO {i : Nat} {t : T} : gName i t te = ξ (te.set i (ξ t)) := rfl
@[simp] theorem QC {n : Nat} {gs : Kw} {ts : List T} : kb n gs (.tup ts) te = if ts.length = n then gs ts te else ζ := rfl
@[simp] theorem Oh : gQ [] te = ξ te := rfl
@[simp] theorem MQ {g : VG} {gs : Kw} {t : T} {ts : List T} : bc g gs (t :: ts) te = match g t te with
  | some te' => gs ts te'
  | none => ζ := rfl
@[simp] theorem O' {a : VD} {g : VG} : cx a g te = pM (a te) fun t te1 => match g t te1 with
  | some te2 => ξ (.fl .next te2)
  | none => ζ := rfl
@[simp] theorem OU {i j : Nat} {as : VA} : OW i j as te = pM (as te) fun ts te1 => match ts with
  | [x, y] => ξ (.fl .next ((te1.set i (ξ x)).set j (ξ y)))
  | _ => ζ := rfl
@[simp] theorem NB {i j l : Nat} {as : VA} : OV i j l as te = pM (as te) fun ts te1 => match ts with
  | [x, y, z] => ξ (.fl .next (((te1.set i (ξ x)).set j (ξ y)).set l (ξ z)))
  | _ => ζ := rfl
@[simp] theorem An {zs : List Nat} {b : bu} : aA zs b te = match b te with
  | some (.fl (.ret t) te1) => ξ (.fl (.ret t) te1)
  | some (.fl f te1) => ξ (.fl f (aT te1 zs))
  | x => x := rfl
@[simp] theorem Aj : aT te [] = te := rfl
@[simp] theorem xC {v : Nat} {vs : List Nat} : aT te (v :: vs) = (aT te vs).set v ζ := rfl
@[simp] theorem Aw {V : cD} {is : List Nat} {as : VA} : bj V is as te = a9 (as te) fun ts te1 => rh is te1 (V ts) := rfl
@[simp] theorem uR {is : List Nat} {t : T} {fs : List T} : rh is te (ξ (.ok t fs)) = if fs.length = is.length then ξ (.ok t (fC te is fs)) else ζ := rfl
@[simp] theorem nA {fs : List T} : fC te [] fs = te := by unfold fC; rfl
@[simp] theorem LY {i : Nat} {is : List Nat} {t : T} {fs : List T} : fC te (i :: is) (t :: fs) = fC (te.set i (ξ t)) is fs := rfl
@[simp] theorem nh {C : Addr} {mn : Str} {V : cD} {is : List Nat} {o : VV} {as : VA} : bF C mn V is o as te = match o te with
  | some (.nd _ (.ins C' fs) _) => if C' = C ∧ fs.contains mn = false then a9 (as te) fun ts te1 => rh is te1 (V ts) else ζ
  | _ => ζ := rfl
@[simp] theorem NM {C : Addr} {V : cD} {is : List Nat} {as : VA} : aP C V is as te = a9 (as te) fun ts te1 => match V (.nd true (.ins C []) [] :: ts) with
  | some (.ok .non (t :: fs)) => if fs.length = is.length then ξ (.ok t (fC te1 is fs)) else ζ
  | some (.exc C d (_ :: fs)) => if fs.length = is.length then ξ (.exc C d (fC te1 is fs)) else ζ
  | _ => ζ := rfl
@[simp] theorem sA {ty : String} {g : GM} {i : Nat} {as : VA} : oa ty g i as te = match oV te i with
  | some (k0, _) => if k0.ty = ty ∧ ty ≠ "" then a9 (as te) fun xs te1 => (match oV te1 i with
    | some (k, ts) => (match g k ts xs with
      | some (t, k', ts') => ξ (.ok t (te1.set i (ξ (.nd true k' ts'))))
      | none => ζ)
    | none => ζ) else ζ
  | none => ζ := rfl
@[simp] theorem qM {i : Nat} : oV te i = match te[i]? with
  | some (ξ (.nd true k ts)) => ξ (k, ts)
  | _ => ζ := rfl
@[simp] theorem Ny {g : G3} {i : Nat} {idx val : VD} : yV g i idx val te = pM (val te) fun y te1 => match idx te1 with
  | some (.ok x te2) => (match oV te2 i with
    | some (k, ts) => (match g k ts x y with
      | some (k', ts') => ξ (.fl .next (te2.set i (ξ (.nd true k' ts'))))
      | none => ζ)
    | none => ζ)
  | _ => ζ := rfl
@[simp] theorem Ao {C : Addr} {f : Str} {i : Nat} {val : VD} : i5 C f i val te = pM (val te) fun y te1 => match oV te1 i with
  | some (.ins C' fs, ts) => if C' = C ∧ fs.length < 1000 then ξ (.fl .next (te1.set i (ξ (.nd true (.ins C (lA f y fs ts).1) (lA f y fs ts).2)))) else ζ
  | _ => ζ := rfl
@[simp] theorem Ap {as : VA} : kO as te = a9 (as te) fun ts te1 => match ts with
  | [.int j] => if sm 1000000000000 j = true then ξ (.ok (ju 0 j.toNat) te1) else ζ
  | _ => ζ := rfl
@[simp] theorem O5 {a : VD} : i6 a te = a9 (a te) fun t te1 => match t with
  | .nd false .lst ts => ξ (.ok ts te1)
  | .scr ns => ξ (.ok (ns.map T.int) te1)
  | .tup ts => if hots ts = true then ζ else ξ (.ok ts te1)
  | .im (.tpl _) ts => if hots ts = true then ζ else ξ (.ok ts te1)
  | _ => ζ := rfl
@[simp] theorem pq {vi : VI} {g : VG} {tt : VT} {elt : VD} {vs : List Nat} : vm vi g tt elt vs te = a9 (vi te) fun ts te1 => if ts.length ≤ sizeLine then (if dN te1 vs = true then (match jY g tt elt vs ts (aT te1 vs) with
  | some (ys, te2) => ξ (.ok (.nd true .lst ys) (cM te1 te2 vs))
  | none => ζ) else ζ) else ζ := rfl
@[simp] theorem M7 : dN te [] = true := rfl
@[simp] theorem Kt {v : Nat} {vs : List Nat} : dN te (v :: vs) = ((match te[v]? with
  | some (ξ t) => !hot t
  | _ => true) && dN te vs) := rfl
@[simp] theorem NW : cM te te1 [] = te1 := rfl
@[simp] theorem LJ {v : Nat} {vs : List Nat} : cM te te1 (v :: vs) = (cM te te1 vs).set v (match te[v]? with
  | some x => x
  | none => ζ) := rfl
@[simp] theorem RG : hot .non = false := rfl
@[simp] theorem hot_bl {b : Bool} : hot (.bl b) = false := rfl
@[simp] theorem Jc {b : Int} : hot (.int b) = false := rfl
@[simp] theorem RD {b : Str} : hot (.str b) = false := rfl
@[simp] theorem hot_ob {b : Addr} : hot (.ob b) = false := rfl
@[simp] theorem hot_ty {b : String} : hot (.ty b) = false := rfl
@[simp] theorem RE {b : List Int} : hot (.scr b) = false := rfl
@[simp] theorem iH {ts : List T} : hot (.tup ts) = hots ts := by simp only [hot]
@[simp] theorem ka {o : Bool} {k : Kd} {ts : List T} : hot (.nd o k ts) = (o || hots ts) := by simp only [hot]
@[simp] theorem qV : hots [] = false := by simp only [hots]
@[simp] theorem g8 {t : T} {ts : List T} : hots (t :: ts) = (hot t || hots ts) := by simp only [hots]
theorem hots_iff {ts : List T} : hots ts = false ↔ ∀ t ∈ ts, hot t = false := by
 induction ts with
 | nil => simp
 | cons t ts ih => simp [ih]
@[simp] theorem wN {ts us : List T} : hots (ts ++ us) = (hots ts || hots us) := by
  induction ts with
  | nil => simp
  | cons t ts ih => simp [ih, Bool.or_assoc]
theorem aU {α : Type} {l : List α} {f : α → T} (h : ∀ x ∈ l, hot (f x) = false) : hots (l.map f) = false := by
 rw [hots_iff]
 intro t ht
 obtain ⟨x, hx, rfl⟩ := List.mem_map.mp ht
 exact h x hx
@[simp] theorem RL : frz .non = .non := by simp only [frz]
@[simp] theorem frz_bl {b : Bool} : frz (.bl b) = .bl b := by simp only [frz]
@[simp] theorem RM {b : Int} : frz (.int b) = .int b := by simp only [frz]
@[simp] theorem RK {b : Str} : frz (.str b) = .str b := by simp only [frz]
@[simp] theorem frz_ob {b : Addr} : frz (.ob b) = .ob b := by simp only [frz]
@[simp] theorem Jg {ts : List T} : frz (.tup ts) = .tup (frzs ts) := by simp only [frz]
@[simp] theorem qW {o : Bool} {k : Kd} {ts : List T} : frz (.nd o k ts) = .nd false k (frzs ts) := by simp only [frz]
@[simp] theorem QE : frzs [] = [] := by simp only [frzs]
@[simp] theorem Bz {t : T} {ts : List T} : frzs (t :: ts) = frz t :: frzs ts := by simp only [frzs]
mutual
theorem E6 : ∀ {t : T}, hot t = false → frz t = t
 | .non, _ => by simp
 | .bl _, _ => by simp
 | .int _, _ => by simp
 | .str _, _ => by simp
 | .ob _, _ => by simp
 | .ty _, _ => by simp only [frz]
 | .scr _, _ => by simp only [frz]
 | .tup ts, h => by
  rw [iH] at h
  rw [Jg, frzs_of h]
 | .im k ts, h => by
  simp only [hot] at h
  simp only [frz]
  rw [frzs_of h]
 | .nd o k ts, h => by
  rw [ka, Bool.or_eq_false_iff] at h
  rw [qW, frzs_of h.2, h.1]
theorem frzs_of : ∀ {ts : List T}, hots ts = false → frzs ts = ts
 | [], _ => by simp
 | t :: ts, h => by
  rw [g8, Bool.or_eq_false_iff] at h
  rw [Bz, E6 h.1, frzs_of h.2]
end
@[simp] theorem qI_int {g : Int → Int → Option T} {i j : Int} : qI g (.int i) (.int j) = match g i j with
  | some t => ξ (.pur t)
  | none => ζ := rfl
@[simp] theorem P5 {i j : Int} : LX (.int i) (.int j) = ξ (.pur (.int (i + j))) := rfl
@[simp] theorem N5 {i j : Int} : dJ (.int i) (.int j) = ξ (.pur (.int (i + j))) := rfl
@[simp] theorem N3 {xs ys : List T} : dJ (.tup xs) (.tup ys) = if xs.length + ys.length ≤ sizeLine then ξ (.pur (.tup (xs ++ ys))) else ζ := rfl
@[simp] theorem N4 {o o' : Bool} {xs ys : List T} : dJ (.nd o .lst xs) (.nd o' .lst ys) = if xs.length + ys.length ≤ sizeLine then ξ (.new .lst (xs ++ ys)) else ζ := rfl
@[simp] theorem PV {i j : Int} : qSub (.int i) (.int j) = ξ (.pur (.int (i - j))) := rfl
@[simp] theorem je {i j : Int} : eV (.int i) (.int j) = if (sm 1000000000000000000 i || sm 1000000000000000000 j) = true then ξ (.pur (.int (i * j))) else ζ := by
  show (match (if (sm 1000000000000000000 i || sm 1000000000000000000 j) = true then ξ (T.int (i * j)) else ζ) with
    | some t => ξ (PN.pur t)
    | none => ζ) = _
  by_cases h : (sm 1000000000000000000 i || sm 1000000000000000000 j) = true
  · rw [if_pos h, if_pos h]
  · rw [if_neg h, if_neg h]
@[simp] theorem mv {i j : Int} : qg (.int i) (.int j) = if 0 < j then ξ (.pur (.int (i % j))) else ζ := by
  show (match (if decide (0 < j) = true then ξ (T.int (i % j)) else ζ) with
    | some t => ξ (PN.pur t)
    | none => ζ) = _
  by_cases h : 0 < j <;> simp [h]
@[simp] theorem HB {i j : Int} : A3 (.int i) (.int j) = ξ (.pur (.bl (decide (i < j)))) := rfl
@[simp] theorem pD {i j : Int} : zo (.int i) (.int j) = ξ (.pur (.bl (decide (i ≤ j)))) := rfl
@[simp] theorem HG {i j : Int} : FY (.int i) (.int j) = ξ (.pur (.bl (decide (j < i)))) := rfl
@[simp] theorem Rw {i j : Int} : Rx (.int i) (.int j) = ξ (.pur (.bl (decide (j ≤ i)))) := rfl
@[simp] theorem PY {i : Int} : Hz (.int i) = ξ (.pur (.int (-i))) := rfl
@[simp] theorem Ry {i j : Int} : x6 (.int i) (.int j) = ξ (.pur (.bl (decide (i = j)))) := by
  show ξ (PN.pur (.bl (PyData.eqv (.int i) (.int j)))) = _
  by_cases h : i = j <;> simp [PyData.eqv, h]
@[simp] theorem HA {i j : Int} : Ki (.int i) (.int j) = ξ (.pur (.bl (!decide (i = j)))) := by
  show ξ (PN.pur (.bl (!PyData.eqv (.int i) (.int j)))) = _
  by_cases h : i = j <;> simp [PyData.eqv, h]
@[simp] theorem P2 {t : T} : iD t .non = ξ (.pur (.bl t.isNon)) := rfl
@[simp] theorem AZ {t : T} : j4 t .non = ξ (.pur (.bl (!t.isNon))) := rfl
@[simp] theorem Dm {ts : List T} : cm [.tup ts] = ξ (.pur (.int ts.length)) := rfl
@[simp] theorem P1 {o : Bool} {ts : List T} : cm [.nd o .lst ts] = ξ (.pur (.int ts.length)) := rfl
@[simp] theorem P0 {ns : List Int} : cm [.scr ns] = ξ (.pur (.int ns.length)) := by
  show ξ (PN.pur (.int (ns.map T.int).length)) = _
  rw [List.length_map]
@[simp] theorem LR {o : Bool} {ts : List T} : nz [.nd o .lst ts] = ξ (.pur (.tup ts)) := rfl
@[simp] theorem LQ {ts : List T} : nz [.tup ts] = ξ (.pur (.tup ts)) := rfl
@[simp] theorem N2 {o : Bool} {ts : List T} : ot [.nd o .lst ts] = ξ (.new .lst ts) := rfl
@[simp] theorem N0 {ts : List T} : ot [.tup ts] = ξ (.new .lst ts) := rfl
@[simp] theorem qj {i : Int} : Dw [.int i] = ξ (.pur (.int (if i < 0 then -i else i))) := rfl
@[simp] theorem P4 {k : Bool} : zp [.bl k] = ξ (.pur (.int (if k then 1 else 0))) := rfl
@[simp] theorem NZ {i j : Int} : zm [.int i, .int j] = ξ (.pur (.int (if j > i then j else i))) := rfl
@[simp] theorem NY {i j : Int} : zl [.int i, .int j] = ξ (.pur (.int (if j < i then j else i))) := rfl
@[simp] theorem oJ {ts : List T} {y : T} : jD .lst ts [y] = if ts.length < sizeLine then ξ (.non, .lst, ts ++ [y]) else ζ := rfl
@[simp] theorem Kq {ts ys : List T} {o : Bool} : zW .lst ts [.nd o .lst ys] = if ts.length + ys.length ≤ sizeLine then ξ (.non, .lst, ts ++ ys) else ζ := rfl
@[simp] theorem tP : Kd.ty .lst = "list" := rfl
theorem JI {α : Type} {l : List α} {i : Nat} {x : α} (h : l[i]? = ξ x) : atI l (i : Int) = ξ x := by
 have hi := (List.getElem?_eq_some_iff.mp h).1
 unfold atI ixN
 simp [hi, (List.getElem?_eq_some_iff.mp h).2]
theorem gk {a t : T} {ts : List T} {i : Nat} (hs : seqT a = ξ ts) (h : ts[i]? = ξ t) : fB a (.int (i : Int)) = ξ (.pur t) := by
 unfold fB
 simp only [hs, JI h]
@[simp] theorem Pt {ts : List T} : seqT (.tup ts) = ξ ts := rfl
@[simp] theorem Pu {o : Bool} {ts : List T} : seqT (.nd o .lst ts) = ξ ts := rfl
theorem Cy {n i : Nat} {t : T} (h : (ju 0 n)[i]? = ξ t) : i < n ∧ t = .int (i : Int) := by
 unfold ju at h
 have hi : i < n := by
  have := (List.getElem?_eq_some_iff.mp h).1
  simpa using this
 rw [List.getElem?_map, List.getElem?_range hi] at h
 refine ⟨hi, ?_⟩
 have := (Option.some.inj h).symm
 rw [this]
 simp
@[simp] theorem vt {lo : Int} {n : Nat} : (ju lo n).length = n := by unfold ju; simp
theorem FO : 1000000 ≤ sizeLine := by
 unfold sizeLine
 decide
theorem szl {n : Nat} (h : n < 1000000) : n < sizeLine := Nat.lt_of_lt_of_le h FO
theorem eO {n : Nat} (h : n ≤ 1000000) : n ≤ sizeLine := Nat.le_trans h FO
end
section
end
end BV
end
section
namespace BV
open PySem hiding Env
open L2 hiding TE gName VV
open SB
section
end
end BV
end
section
namespace KV
open PySem hiding Env
open L2 SB BV KD
section
end
end KV
end
section
namespace KV
open PySem hiding Env
open L2 SB BV
end KV
namespace KV
open PySem hiding Env
open L2 hiding TE gName VV
open SB BV KD
end KV
end
section
namespace KV
open PySem hiding Env
open L2 SB BV
end KV
end
section
namespace BV
open PySem hiding Env
open L2 hiding TE gName VV
open SB
section
end
section
end
section
variable {m m': M}{S S': Own}
theorem Aft.lstR {w : W} {l : List Nat} (a : Aft m S [] m' S' []) (h : SB.lstR m w = ξ l) : SB.lstR m' w = ξ l := by
 have e := uD h
 have e2 : cI m' w = cI m w := by
  rw [e]
  cases w <;> first | exact e | skip
  rename_i n
  unfold cI at e ⊢
  simp only at e ⊢
  cases hm : m[n]? with
  | none => rw [hm] at e; cases e
  | some o =>
   rw [hm] at e
   cases o <;> first | (cases e; done) | skip
   rename_i ws
   have k : m'[n]? = ξ (.lst ws) := by
    rcases a.keep n _ hm (by simp) with k | ⟨_, k⟩
    ·exact k
    ·exact k.plain rfl
   rw [k]
   exact e
 unfold SB.lstR at h ⊢
 rw [e2]
 exact h
end
end BV
end
section
namespace KV
open PySem hiding Env
open L2 SB BV
end KV
end
section
namespace BV
open PySem hiding Env
open L2 hiding TE gName VV
open SB
section
end
end BV
end
section
namespace KV
open PySem hiding Env
open L2 SB BV
end KV
end
section
namespace BV
open PySem hiding Env
open L2 hiding TE gName VV
open SB
section
end
section
variable {κ: Type}[DecidableEq κ]
end
section
end
section
end
section
end
section
variable {m: M}{S S': Own}{F G0: List Nat}{te: TE}{env: Env}
theorem EnvT.frzs (hs : ∀ n, S' n → S n) (hg : ∀ n, G0.count n ≠ 0 → ¬ S' n) : ∀ {te : TE} {env : Env} {F : List Nat}, (∀ n, F.count n ≠ 0 → G0.count n ≠ 0) → EnvT m S te env F → EnvT m S' (te.map (Option.map frz)) env []
 | [], _, _, _, h => ⟨h.1, rfl⟩
 | none :: te, _, _, c, h => by
  obtain ⟨x, env', rfl, h⟩ := h
  exact ⟨x, env', rfl, EnvT.frzs hs hg c h⟩
 | some t :: te, _, _, c, h => by
  obtain ⟨w, env', G, F', rfl, h1, h2, rfl⟩ := h
  exact ⟨w, env', [], [], rfl, Rp.frz hs hg (fun n h => c n (by rw [List.count_append]; omega)) h1, EnvT.frzs hs hg (fun n h => c n (by rw [List.count_append]; omega)) h2, rfl⟩
end
end BV
end
section
namespace KV
open PySem hiding Env
open L2 SB BV
def sd (c : Cn) : bu :=
  (a5 (dG (cG (cK (bF (c.cl "ClosedSet") "has" (V_ClosedSet_has c) [] (ae 0) (aa (au (ae 0)) (aa (au (ae 1)) ah))))) (eS (c.cl "BadRow") ["row"] (aa (au (ae 1)) ah)) bf)
  (a5 (cx (bF (c.cl "ClosedSet") "least" (mK c) [] (ae 0) (aa (au (ae 0)) ah)) (gName 2))
  (a5 (cx (bx (aa (au (ae 2)) ah)) (gName 3))
  (a5 (aA [1, 5, 6] (cx (bF (c.cl "ClosedSet") "walk" (dW c) [] (ae 0) (aa (au (ae 0)) (aa (au (ae 1)) ah))) (kb 3 (bc (gName 4) (bc (gName 5) (bc (gName 6) gQ))))))
  (a5 (aA [0, 2, 7, 8, 12] (gr (i6 (au (ae 4))) (kb 2 (bc (gName 7) (bc (gName 8) gQ))) (aA [7, 8, 12] (a5 (cx (bF (c.cl "Forks") "lot_of" (bH c) [] (aZ (c.cl "ClosedSet") "forks" (ae 0)) (aa (au (aZ (c.cl "ClosedSet") "forks" (ae 0))) (aa (au (ae 2)) (aa (au (ae 7)) ah)))) (gName 12))
  (a5 (aA [12] (dH (oa "list" zW 3 (aa (av (bx (aa (au (aD x5 (ae 12) (aD fB (ae 2) (ae 7)))) (aa (au (aD x5 (ae 12) (ae 8))) ah)))) ah))))
  (aA [7, 8] (cx (bF (c.cl "Forks") "moved" (dg c) [] (aZ (c.cl "ClosedSet") "forks" (ae 0)) (aa (au (aZ (c.cl "ClosedSet") "forks" (ae 0))) (aa (au (ae 2)) (aa (au (ae 7)) (aa (au (ae 8)) ah))))) (gName 2))))))))
  (a5 (OW 9 10 (aa (bx ah) (aa (au (aI (.int 0))) ah)))
  (a5 (aA [4, 10, 11] (gr (kO (aa (au (bt cm (aw (ae 4) aK))) ah)) (gName 11) (aA [11] (a5 (aA [10] (dH (oa "list" jD 9 (aa (au (hM (aw (ae 10) (aw (aD dJ (aD eV (aI (.int 2)) (ae 11)) (aI (.int 1))) (aw (aD dJ (aD eV (aI (.int 2)) (ae 11)) (aI (.int 2))) aK))))) ah))))
  (aA [11] (cx (au (aD dJ (bt cm (aw (ae 3) aK)) (ae 11))) (gName 10)))))))
  (bA (lV (aa (K7 3) (aa (K7 9) ah)))))))))))
def e9 (c : Cn) : cD := bE [false, false] 13 (sd c)
def lL (c : Cn) : bu :=
  (a5 (aA [0, 1, 2] (lW (fun C' => c.exm C' (.ob (c.cl "BadRow"))) (c.cl "BadRow") 2 (aA [0] (dH (bj (e9 c) [] (aa (au (ae 0)) (aa (au (ae 1)) ah))))) (au (aD x6 (bt qRepD (aw (lY 2 "row") aK)) (bt qRepD (aw (ae 1) aK))))))
  (bA (au (aI (.bl false)))))
def iL (c : Cn) : cD := bE [false, false] 3 (lL c)
end KV
end
section
namespace BV
open PySem hiding Env
open L2 hiding TE gName VV
open SB
section
variable {K: PySem.W.Frag}{C: Addr}{cv: Value}{i: Nat}{env: Env}{m: M}{L: List Nat}{db: DS}{vb: bu}{de de': DE}{vd: VD}
def BK (K : PySem.W.Frag) (C : Addr) (cv : Value) : DE := fun env m => match PySem.W.kitOne K (.ref C) cv with
 | some b => ξ (.ok (.bl b) m)
 | none => ζ
theorem BJ (h : env[i]? = ξ ζ) : oX i K C cv env m = BK K C cv env m := by
 unfold oX BK IH
 rw [h]
 rfl
def Cq (b : Option Bool) : VV := fun _ => b.map T.bl
theorem KJ : XV (BK K C cv) (Cq (PySem.W.kitOne K (.ref C) cv)) := fun m S te env F ev => by
 unfold Cq BK
 cases PySem.W.kitOne K (.ref C) cv with
 | none => trivial
 | some b => exact ⟨.bl b, [], rfl, rfl, rfl⟩
theorem Gj {o : Option Bool} (h : o = PySem.W.kitOne K (.ref C) cv := by rfl) : XV (BK K C cv) (Cq o) := h ▸ KJ
def jX (exm : Addr → Option Bool) (C : Addr) (i : Nat) (vb : bu) (vd : VD) : bu := fun te => match vb te with
 | some (.exc C' d te') => (match exm C' with
  | some true => if (C' = C ∧ i < te'.length) ∧ d.isNone = true then (match vd (te'.set i ζ) with
   | some (.ok t te2) => ξ (.fl (.ret t) te2)
   | _ => ζ) else ζ
  | some false => ξ (.exc C' d te')
  | none => ζ)
 | x => x
theorem DM {exm : Addr → Option Bool} {mz m : M} {S : Own} {te : TE} {F : List Nat} (h0 : OutS m S env F L (db env mz) (vb te)) (heq : ∀ (env : Env) (m : M), env[i]? = ξ ζ → de env m = de' env m) (hd : XE de' vd) : OutS m S env F (L ++ [i]) (hZ exm C i db de env mz) (jX exm C i vb vd te) := by
  unfold jX hZ
  have mono : ∀ j : Nat, (L ++ [i]).contains j = false → L.contains j = false := fun j hj => by
    simp only [List.contains_eq_mem, List.mem_append, decide_eq_false_iff_not, not_or] at hj ⊢
    exact hj.1
  cases hy : vb te with
  | none => trivial
  | some y =>
    rw [hy] at h0
    cases y with
    | fl f te1 =>
      obtain ⟨f', env', m', S', F', G, e, r⟩ := h0
      rw [e]
      exact OutS.mono (L := L) ⟨f', env', m', S', F', G, rfl, r⟩ mono
    | exc C' d te1 =>
      obtain ⟨dn, env', m', S', F', G, e, af, ev, rx, ag⟩ := h0
      rw [e]
      simp only
      cases hm : exm C' with
      | none => trivial
      | some b =>
        cases b with
        | false => exact OutS.mono (L := L) ⟨dn, env', m', S', F', G, rfl, af, ev, rx, ag⟩ mono
        | true =>
          simp only
          have hlen := ev.len
          by_cases hc : (C' = C ∧ i < te1.length) ∧ d.isNone = true
          case neg => rw [if_neg hc]; trivial
          rw [if_pos hc]
          obtain ⟨⟨hcc, hil⟩, hdn⟩ := hc
          cases d with
          | some _ => cases hdn
          | none =>
            obtain ⟨rfl, rfl⟩ : dn = ζ ∧ G = [] := rx
            rw [if_pos ⟨hcc, by omega⟩]
            obtain ⟨F2, ev2, c2⟩ := EnvT.gone i ev
            obtain ⟨S2, af2, Eg⟩ := af.drop (B' := F2) fun n => by rw [List.append_nil]; exact c2 n
            have hE : (env'.set i (xn ζ))[i]? = ξ ζ := by
              show (env'.set i ζ)[i]? = ξ ζ
              rw [List.getElem?_set_self (by omega)]
            rw [heq _ _ hE]
            have h1 := hd m' S2 (te1.set i ζ) (env'.set i (xn ζ)) F2 ⟨ev2.sh Eg, af2.sep, af2.sub, af2.dom'⟩
            cases hv : vd (te1.set i ζ) with
            | none => trivial
            | some z =>
              rw [hv] at h1
              cases z with
              | exc C2 d2 te2 => trivial
              | ok t te2 =>
                obtain ⟨w, m3, S3, F3, G3, e3, af3, ev3, r3⟩ := h1
                rw [e3]
                refine ⟨.ret w, _, m3, S3, F3, G3, rfl, af2.trans af3, ev3, ⟨w, rfl, r3⟩, ?_⟩
                refine ⟨by rw [List.length_set]; exact ag.1, fun j hj => ?_⟩
                have hji : j ≠ i := fun z => by
                  subst z
                  simp at hj
                rw [List.getElem?_set_ne (fun z => hji z.symm)]
                exact ag.2 j (mono j hj)
end
end BV
end
section
namespace KV
open PySem hiding Env
open L2 SB BV
end KV
end
section
namespace BV
open PySem hiding Env
open L2 hiding TE gName VV
open SB
def vp (x : Option VC) : VD := fun te => match x with
 | some (.ok t _) => ξ (.ok t te)
 | some (.exc C d _) => ξ (.exc C d te)
 | none => ζ
def R1 (y : Option (R W)) (x : Option VC) (m : M) (S : Own) (G : List Nat) : Prop := (Sep G ∧ (∀ n, G.count n ≠ 0 → S n) ∧ ∀ n, S n → n < m.length) ∧ match x with
 | none => True
 | some (.ok t _) => ∃ w, y = ξ (.ok w m) ∧ Rp m S t w G
 | some (.exc C d _) => ∃ dn, y = ξ (.exc C dn m) ∧ RX m S d dn G
def XL (F : Addr → (M → Option (R W)) → M → Option (R W)) (VF : Option VC → Option VC) : Prop := ∀ f D m0 x m S G, R1 (D m0) x m S G → match VF x with
 | none => True
 | some (.ok t _) => ∃ w m' S' G', F f D m0 = ξ (.ok w m') ∧ Aft m S G m' S' G' ∧ Rp m' S' t w G'
 | some (.exc C d _) => ∃ dn m' S' G', F f D m0 = ξ (.exc C dn m') ∧ Aft m S G m' S' G' ∧ RX m' S' d dn G'
def yW (n : Nat) (vb : Option VC → bu) : Option VC → Option VC := fun x => match vb x (List.replicate n ζ) with
 | some (.fl .next _) => ξ (.ok .non [])
 | some (.fl (.ret t) _) => ξ (.ok t [])
 | some (.exc C d _) => ξ (.exc C d [])
 | _ => ζ
section
variable {m m0: M}{S: Own}{te: TE}{l: List (Option W)}{G L: List Nat}{f: Addr}{D: M → Option (R W)}{x: Option VC}
theorem HS (h : R1 (D m0) x m S G) (ev : EnvT m S te (ξ (.ob f) :: l) []) : OutS m S (ξ (.ob f) :: l) G [] (fA (kX 0 f D) (ξ (.ob f) :: l) m0) (dH (vp x) te) := by
 obtain ⟨⟨sep, sub, dom⟩, h⟩ := h
 have e0 : kX 0 f D (ξ (.ob f) :: l) m0 = D m0 := by simp [kX]
 cases x with
 | none => trivial
 | some x =>
  cases x with
  | ok t fs =>
   obtain ⟨w, e, q⟩ := h
   refine ⟨.next, _, m, less S G [], [], [], by unfold fA; rw [e0, e]; rfl, Aft.less sub sep dom (fun n => by simp), ev.sh (cJ sub fun n => by simp), ⟨rfl, rfl⟩, .refl⟩
  | exc C d fs =>
   obtain ⟨dn, e, q⟩ := h
   exact ⟨dn, _, m, S, [], G, by unfold fA; rw [e0, e]; rfl, Aft.refl sub sep dom, ev, q, .refl⟩
theorem tv : ∀ n : Nat, EnvT m S (List.replicate n ζ) (List.replicate n ζ) []
 | 0 => ⟨rfl, rfl⟩
 | n + 1 => ⟨_, _, rfl, tv n⟩
theorem KL {n : Nat} {b : Addr → (M → Option (R W)) → DS} {vb : Option VC → bu} (h : ∀ f D m0 x m S G, R1 (D m0) x m S G → EnvT m S (List.replicate (n + 1) ζ) (ξ (.ob f) :: List.replicate n ζ) [] → ∃ L, OutS m S (ξ (.ob f) :: List.replicate n ζ) G L (b f D (ξ (.ob f) :: List.replicate n ζ) m0) (vb x (List.replicate (n + 1) ζ))) :
  XL (AV (n + 1) b) (yW (n + 1) vb) := fun f D m0 x m S G hd => by
 have ev : EnvT m S (List.replicate (n + 1) ζ) (ξ (.ob f) :: List.replicate n ζ) [] := ⟨_, _, rfl, tv n⟩
 obtain ⟨L, o⟩ := h f D m0 x m S G hd ev
 unfold yW AV
 rw [Nat.add_sub_cancel]
 generalize vb x (List.replicate (n + 1) ζ) = y at o ⊢
 cases y with
 | none => trivial
 | some y =>
  cases y with
  | exc C d te1 =>
   obtain ⟨dn, env', m', S', F', G', e, af, ev', rx, ag⟩ := o
   rw [e]
   obtain ⟨S2, a2, sh⟩ := af.drop (B' := G') fun n => by rw [List.count_append]; omega
   exact ⟨dn, m', S2, G', rfl, a2, rx.sh sh⟩
  | fl fl te1 =>
   obtain ⟨f', env', m', S', F', G', e, af, ev', rf, ag⟩ := o
   rw [e]
   cases fl with
   | next =>
    obtain ⟨rfl, rfl⟩ := rf
    obtain ⟨S2, a2, sh⟩ := af.drop (B' := []) fun n => by simp
    exact ⟨.non, m', S2, [], rfl, a2, rfl, rfl⟩
   | ret t =>
    obtain ⟨w, rfl, q⟩ := rf
    obtain ⟨S2, a2, sh⟩ := af.drop (B' := G') fun n => by rw [List.count_append]; omega
    exact ⟨w, m', S2, G', rfl, a2, q.sh sh⟩
   | brk => trivial
   | cont => trivial
end
def ni (VF : Option VC → Option VC) (vd : VD) : VD := fun te => match vd te with
 | some (.ok t te') => (match VF (ξ (.ok t [])) with
  | some (.ok t2 _) => ξ (.ok t2 te')
  | some (.exc C d _) => ξ (.exc C d te')
  | none => ζ)
 | some (.exc C d te') => (match VF (ξ (.exc C d [])) with
  | some (.ok t2 _) => ξ (.ok t2 te')
  | some (.exc C d _) => ξ (.exc C d te')
  | none => ζ)
 | none => ζ
theorem Oy {F : Addr → (M → Option (R W)) → M → Option (R W)} {VF : Option VC → Option VC} {d : DE} {vd : VD} (hF : XL F VF) (hd : XE d vd) : XE (lH F d) (ni VF vd) := fun m S te env A st => by
 have h0 := hd m S te env A st
 unfold ni lH
 have fin : ∀ (x : Option VC) (te1 : TE) (m1 : M) (S1 : Own) (F1 G1 : List Nat), Aft m S A m1 S1 (F1 ++ G1) → EnvT m1 S1 te1 env F1 → R1 (d env m) x m1 S1 G1 → Out uj m S env A (F 0 (fun m1 => d env m1) m) (match VF x with
   | some (.ok t2 _) => ξ (.ok t2 te1)
   | some (.exc C d _) => ξ (.exc C d te1)
   | none => ζ) := fun x te1 m1 S1 F1 G1 af ev di => by
  have h1 := hF 0 (fun m1 => d env m1) m x m1 S1 G1 di
  have dis : ∀ n, F1.count n ≠ 0 → G1.count n = 0 := fun n h => by have := af.sep n; rw [List.count_append] at this; omega
  have subF : ∀ n, F1.count n ≠ 0 → S1 n := fun n h => af.sub n (by rw [List.count_append]; omega)
  have subG : ∀ n, G1.count n ≠ 0 → S1 n := fun n h => af.sub n (by rw [List.count_append]; omega)
  generalize VF x = z at h1 ⊢
  cases z with
  | none => trivial
  | some z =>
   cases z with
   | ok t2 fs =>
    obtain ⟨w, m2, S2, G2, e, a2, q⟩ := h1
    have ev2 := a2.envT subG dis subF ev
    have a3 := a2.frame (G := F1) subF (fun n => by rw [List.count_append]; have := af.sep n; rw [List.count_append] at this; omega)
    exact ⟨w, m2, S2, F1, G2, e, af.trans (a3.perm (fun n => by simp only [List.count_append]; omega) fun n => by simp only [List.count_append]; omega), ev2, q⟩
   | exc C2 d2 fs =>
    obtain ⟨w, m2, S2, G2, e, a2, q⟩ := h1
    have ev2 := a2.envT subG dis subF ev
    have a3 := a2.frame (G := F1) subF (fun n => by rw [List.count_append]; have := af.sep n; rw [List.count_append] at this; omega)
    exact ⟨w, m2, S2, F1, G2, e, af.trans (a3.perm (fun n => by simp only [List.count_append]; omega) fun n => by simp only [List.count_append]; omega), ev2, q⟩
 cases hy : vd te with
 | none => trivial
 | some y =>
  rw [hy] at h0
  cases y with
  | ok t te1 =>
   obtain ⟨w, m1, S1, F1, G1, e, af, ev, q⟩ := h0
   exact fin _ te1 m1 S1 F1 G1 af ev ⟨⟨fun n => by have := af.sep n; rw [List.count_append] at this; omega, fun n h => af.sub n (by rw [List.count_append]; omega), af.dom'⟩, w, e, q⟩
  | exc C d1 te1 =>
   obtain ⟨dn, m1, S1, F1, G1, e, af, ev, q⟩ := h0
   exact fin _ te1 m1 S1 F1 G1 af ev ⟨⟨fun n => by have := af.sep n; rw [List.count_append] at this; omega, fun n h => af.sub n (by rw [List.count_append]; omega), af.dom'⟩, dn, e, q⟩
end BV
end
section
namespace KV
open PySem hiding Env
open L2 SB BV
end KV
end
section
namespace BV
open PySem hiding Env
open L2 hiding TE gName VV
open SB
section
end
end BV
end
section
namespace KV
open PySem hiding Env
open L2 SB BV
end KV
end
section
namespace BV
open PySem hiding Env
open L2 hiding TE gName
open SB
end BV
end
section
namespace KV
open PySem hiding Env
open L2 SB BV
end KV
end
section
namespace BV
open PySem hiding Env
open L2 hiding TE gName VV
open SB
section
end
section
end
section
end
end BV
end
section
namespace KV
open PySem hiding Env
open L2 SB BV
end KV
end
section
namespace BV
open PySem hiding Env
open L2 hiding TE gName VV
open SB
section
end
end BV
end
section
namespace KV
open PySem hiding Env
open L2 SB BV
end KV
end
section
namespace BV
open PySem hiding Env
open L2 hiding TE gName VV
open SB
section
end
end BV
end
section
namespace KV
open PySem hiding Env
open L2 SB BV
end KV
end
section
namespace BV
open PySem hiding Env
open L2 hiding TE gName VV
open SB
section
variable {C: List Nat}{t: T}{te: TE}
def xF (C : Addr) (V : cD) (i : Nat) : VD := fun te => match te[i]? with
 | some (ξ (.nd _ (.ins C' _) _)) => if C' = C then (match bj V [i] (bZ i ah) te with
  | some (.ok t te') => ξ (.ok t te')
  | _ => ζ) else ζ
 | _ => ζ
end
section
end
section
end
section
end
section
variable {D: DF}{V: cD}{ms: List Bool}
theorem bq {n : Nat} (hd : XD (true :: ms) D V) (hn : 0 < n := by decide) (hm : ∀ b ∈ ms, b = false := by decide) : XD [true] (bI n D) (ay n V) := fun m S ts ws G q sp sb dom => by
 unfold ay
 by_cases hc : n ≤ ts.length ∧ (ts.drop n).length ≤ sizeLine
 case neg => rw [if_neg hc]; trivial
 rw [if_pos hc]
 have hl := Rps.len q
 obtain ⟨G1, G2, q1, q2, rfl⟩ := q.cut n
 have hc2 : n ≤ ws.length ∧ (ws.drop n).length ≤ sizeLine := ⟨by rw [← hl]; exact hc.1, by have := Rps.len q2; rw [← this]; exact hc.2⟩
 have q3 : Rps m S (ts.take n ++ [.tup (ts.drop n)]) (ws.take n ++ [.tup (ws.drop n)]) (G1 ++ G2) := q1.app (Rps.one ⟨_, rfl, q2⟩)
 have h0 := hd m S _ _ _ q3 sp sb dom
 have e : bI n D ws m = D (ws.take n ++ [.tup (ws.drop n)]) m := by
  unfold bI
  rw [if_pos hc2]
 have ep : gZ (true :: ms) (ws.take n ++ [.tup (ws.drop n)]) = gZ [true] ws := by
  cases ws with
  | nil => exact absurd hc2.1 (by simp; omega)
  | cons w0 ws =>
   cases n with
   | zero => exact absurd hn (by decide)
   | succ n =>
    show w0 :: gZ ms _ = w0 :: gZ [] _
    rw [jy hm]
    rfl
 rw [ep] at h0
 cases hy : V (ts.take n ++ [.tup (ts.drop n)]) with
 | none => trivial
 | some y =>
  rw [hy] at h0
  cases y with
  | ok t fs =>
   obtain ⟨w, m', S', H1, H2, e1, a, r1, r2⟩ := h0
   exact ⟨w, m', S', H1, H2, e.trans e1, a, r1, r2⟩
  | exc C d fs =>
   obtain ⟨w, m', S', H1, H2, e1, a, r1, r2⟩ := h0
   exact ⟨w, m', S', H1, H2, e.trans e1, a, r1, r2⟩
end
end BV
end
section
namespace KV
open PySem hiding Env
open L2 SB BV
def oY (c : Cn) : bu :=
  (bA (au (aZ (c.cl "Learner") "rows_told" (ae 0))))
def il (c : Cn) : cD := bE [true] 1 (oY c)
end KV
end
section
namespace BV
open PySem hiding Env
open L2 hiding TE gName VV
open SB
section
end
end BV
end
section
namespace KV
open PySem hiding Env
open L2 SB BV
def nW (c : Cn) : bu :=
  (bA (au (aZ (c.cl "Learner") "first_row" (ae 0))))
def gH (c : Cn) : cD := bE [true] 1 (nW c)
end KV
end
section
namespace BV
open PySem hiding Env
open L2 hiding TE gName VV
open SB
section
end
end BV
end
section
namespace KV
open PySem hiding Env
open L2 SB BV
def kM (c : Cn) : bu :=
  (a5 (dG (cG (cK (bj (lJ c) [] (aa (au (ae 1)) (aa (au (bt cm (aw (aZ (c.cl "Learner") "row_kinds" (ae 0)) aK))) ah))))) (eS (c.cl "BadPlace") ["place"] (aa (au (ae 1)) ah)) bf)
  (bA (av (vq ot (aw (aD fB (aZ (c.cl "Learner") "forest" (ae 0)) (ae 1)) aK)))))
def cR (c : Cn) : cD := bE [true, false] 2 (kM c)
def se (c : Cn) : bu :=
  (bA (oU qRepD (aa (av (bx (aa (xF (c.cl "Learner") (il c) 0) (aa (bF (c.cl "Learner") "start" (gH c) [0] (ae 0) (bZ 0 ah)) (aa (av (vm (kO (aa (au (ae 1)) ah)) (gName 2) fv (bF (c.cl "Learner") "links" (cR c) [0] (ae 0) (bZ 0 (aa (au (ae 2)) ah))) [2])) ah))))) ah)))
def uW (c : Cn) : cD := bE [true, false] 3 (se c)
end KV
end
section
namespace BV
open PySem hiding Env
open L2 SB
def bB (p : List Nat) (n : Nat) (V : cD) : cD := fun ts => if ts.length = n then V (pickL p ts) else ζ
section
variable {m: M}{S: Own}
theorem zg : ∀ {ts : List T} {ws : List W} {G : List Nat}, Rps m S ts ws G → ∃ gs : List (List Nat), gs.length = ts.length ∧ ws.length = ts.length ∧ G = gs.flatten ∧ ∀ (i : Nat) (t : T) (w : W) (g : List Nat), ts[i]? = ξ t → ws[i]? = ξ w → gs[i]? = ξ g → Rp m S t w g
 | [], _, _, h => by
  obtain ⟨rfl, rfl⟩ := h
  exact ⟨[], rfl, rfl, rfl, fun i t w g h => by simp at h⟩
 | t :: ts, _, _, h => by
  obtain ⟨w, ws', G1, G2, rfl, h1, h2, rfl⟩ := h
  obtain ⟨gs, e1, e2, rfl, h3⟩ := zg h2
  refine ⟨G1 :: gs, by simp [e1], by simp [e2], by simp, fun i t' w' g h4 h5 h6 => ?_⟩
  cases i with
  | zero =>
   simp at h4 h5 h6
   subst h4 h5 h6
   exact h1
  | succ i =>
   simp at h4 h5 h6
   exact h3 i t' w' g h4 h5 h6
theorem Dd : ∀ (p : List Nat) {ts : List T} {ws : List W} {gs : List (List Nat)}, gs.length = ts.length → ws.length = ts.length → (∀ (i : Nat) (t : T) (w : W) (g : List Nat), ts[i]? = ξ t → ws[i]? = ξ w → gs[i]? = ξ g → Rp m S t w g) → Rps m S (pickL p ts) (pickL p ws) (pickL p gs).flatten
 | [], _, _, _, _, _, _ => ⟨rfl, rfl⟩
 | i :: p, ts, ws, gs, e1, e2, h => by
  have ih := Dd p e1 e2 h
  unfold pickL at ih ⊢
  by_cases hi : i < ts.length
  ·have h1 : ts[i]? = ξ ts[i] := List.getElem?_eq_getElem hi
   have h2 : ws[i]? = ξ (ws[i]'(by omega)) := List.getElem?_eq_getElem (by omega)
   have h3 : gs[i]? = ξ (gs[i]'(by omega)) := List.getElem?_eq_getElem (by omega)
   rw [List.filterMap_cons_some h1, List.filterMap_cons_some h2, List.filterMap_cons_some h3]
   exact ⟨_, _, _, _, rfl, h i _ _ _ h1 h2 h3, ih, by simp⟩
  ·have h1 : ts[i]? = ζ := List.getElem?_eq_none_iff.mpr (by omega)
   have h2 : ws[i]? = ζ := List.getElem?_eq_none_iff.mpr (by omega)
   have h3 : gs[i]? = ζ := List.getElem?_eq_none_iff.mpr (by omega)
   rw [List.filterMap_cons_none h1, List.filterMap_cons_none h2, List.filterMap_cons_none h3]
   exact ih
end
theorem wa {α : Type} : ∀ (gs : List α), (List.range gs.length).filterMap (fun i => gs[i]?) = gs
 | [] => rfl
 | g :: gs => by
  rw [List.length_cons, List.range_succ_eq_map, List.filterMap_cons_some (b := g) (by simp), List.filterMap_map]
  congr 1
  exact wa gs
theorem ya {p : List Nat} {gs : List (List Nat)} (hp : p.Perm (List.range gs.length)) (n : Nat) : (pickL p gs).flatten.count n = gs.flatten.count n := by
 have h : (pickL p gs).Perm gs := by
  have := hp.filterMap (fun i => gs[i]?)
  rw [wa] at this
  exact this
 exact h.flatten.count_eq n
theorem eg {ms ms' : List Bool} {D : DF} {V : cD} {p : List Nat} {n : Nat} (hd : XD ms D V) (hp : p.Perm (List.range n)) (hm : ∀ ws : List W, ws.length = n → gZ ms (pickL p ws) = gZ ms' ws) : XD ms' (gN p n D) (bB p n V) := fun m S ts ws G hr sp hs hl => by
 obtain ⟨gs, e1, e2, eG, h3⟩ := zg hr
 unfold bB gN
 by_cases hn : ts.length = n
 ·have hw : ws.length = n := e2.trans hn
  rw [if_pos hn, if_pos hw]
  have hc : ∀ z, (pickL p gs).flatten.count z = G.count z := fun z => by
   rw [eG]
   exact ya (by rw [e1, hn]; exact hp) z
  have z := hd m S _ _ _ (Dd p e1 e2 h3) (fun z => by rw [hc]; exact sp z) (fun z hz => hs z (by rw [← hc]; exact hz)) hl
  have aft : ∀ {m' : M} {S' : Own} {B : List Nat}, Aft m S (pickL p gs).flatten m' S' B → Aft m S G m' S' B := fun a =>
   ⟨fun y => by rw [← hc]; exact a.up y, a.sep, a.len, a.lt, fun y o h1 h2 => a.keep y o h1 (by rw [hc]; exact h2), fun y h1 h2 => by rw [← hc]; exact a.new y h1 h2, a.dom⟩
  cases hv : V (pickL p ts) with
  | none => trivial
  | some r =>
   rw [hv] at z
   cases r with
   | ok t fs =>
    obtain ⟨w, m1, S1, G1, G2, q1, q2, q3, q4⟩ := z
    exact ⟨w, m1, S1, G1, G2, q1, aft q2, q3, by rw [← hm ws hw]; exact q4⟩
   | exc C d fs =>
    obtain ⟨dn, m1, S1, G1, G2, q1, q2, q3, q4⟩ := z
    exact ⟨dn, m1, S1, G1, G2, q1, aft q2, q3, by rw [← hm ws hw]; exact q4⟩
 ·rw [if_neg hn]
  trivial
section
end
end BV
end
section
namespace KV
open PySem hiding Env
open L2 SB BV
end KV
end
section
namespace BV
open PySem hiding Env
open L2 hiding TE gName VV
open SB
section
def putF : List Bool → Nat → T → List T → List T
 | true :: ms, j + 1, t, f :: fs => f :: putF ms j t fs
 | false :: ms, j + 1, t, fs => putF ms j t fs
 | _, 0, t, fs => t :: fs
 | _, _, _, fs => fs
end
section
end
end BV
end
section
namespace KV
open PySem hiding Env
open L2 SB BV KD
section
variable {K: PySem.W.Frag}
theorem lQ : XD [false, false] (fZ K) (dS (cn K)) := dY (n := 4) (b := f7 K) (vb := iN (cn K))
  (bD (gB (aF aR) bQ)
  (bD (aO (iW (jS (aY vf ao (fq gC (aQ ao bP)))) (aO (gB (aF (aY lP ao ao)) bQ)) dQ))
  (bD (gB (aF (fq K1 (aQ ao bP))) bQ)
  (fJ (x_lst (ak (aF (aY gT ao (fq GA (aQ (aY Ox ao (aY Ce aR aR)) bP)))) (ak (aF (aY gh (aY gh (aY gh (aY lh ao aR) (aY gT (aY gT aR ao) ao)) (aY gT aR ao)) aR)) (ak (aF aR) aG))))))))
theorem jM : XD [true, false] (fm K) (bT (cn K)) := dY (n := 7) (b := iB K) (vb := eB (cn K))
  (bD (aO (iW (jS (aY vg (aY lP ao aR) aR)) (bD (gB (aF (aY lh (aY lP ao aR) ao)) bQ)
  (bD (aO (yL yN (aF (aY xt (aY lP ao aR) ao)) (aF aR)))
  (fJ (aF ao)))) dQ))
  (bD (gB (aF (B7 (aQ aR (aQ aR (aQ aR (aQ aR (aQ aR (aQ aR (aQ aR (aQ aR bP)))))))))) bQ)
  (bD (yL yN (aF (aY gh (aY lP ao aR) aR)) (aF aR))
  (bD (gB (aF (aY lP ao aR)) bQ)
  (bD (gB (aF (aY gh (aY gh (aY gT (aY lP ao aR) (aY gh (aY gT aR ao) aR)) (aY gT (aY gT aR ao) ao)) aR)) bQ)
  (bD (aO (gB (aF (aY lh (aY Ce ao aR) (aY lP ao (aY lh ao aR)))) bQ))
  (fJ (aF (aY lh (aY xt (aY lh (aY gT ao (aY gh (aY xt ao aR) aR)) (aY lP ao (aY lh (aY gh ao aR) aR))) aR) ao)))))))))
end
end KV
end
section
namespace KV
open PySem hiding Env
open _root_.SB hiding x_and x_lst x_not x_op x_test x_tup
open L2 BV KD
section
end
end KV
end
section
namespace KV
open PySem hiding Env
open L2 SB BV
end KV
namespace KV
open PySem hiding Env
open L2 hiding TE gName VV
open SB BV KD
end KV
end
section
namespace KV
open PySem hiding Env
open L2 SB BV
end KV
end
section
namespace BV
open PySem hiding Env
open L2 SB
end BV
end
section
namespace BV
open PySem hiding Env
open L2 hiding TE gName VV
open SB
section
end
section
def vOrL (a b : VD) : VD := fun te => a9 (a te) fun x te1 => match x with
 | .non => b te1
 | .nd false .lst ts => if ts.isEmpty = true then b te1 else ξ (.ok (.nd false .lst ts) te1)
 | _ => ζ
@[simp] theorem OX {a b : VD} {te : TE} : vOrL a b te = a9 (a te) fun x te1 => match x with
  | .non => b te1
  | .nd false .lst ts => if ts.isEmpty = true then b te1 else ξ (.ok (.nd false .lst ts) te1)
  | _ => ζ := rfl
end
end BV
end
section
namespace KV
open PySem hiding Env
open L2 SB BV
end KV
end
section
namespace BV
open PySem hiding Env
open L2 hiding TE gName VV
open SB
section
variable {m: M}{S: Own}{t: T}
theorem EnvT.join : ∀ {a b : TE} {ea eb : Env} {Fa Fb : List Nat}, EnvT m S a ea Fa → EnvT m S b eb Fb → EnvT m S (a ++ b) (ea ++ eb) (Fa ++ Fb)
 | [], b, _, _, _, _, h, k => by
  rw [h.1, h.2]
  exact k
 | none :: a, b, _, _, _, _, h, k => by
  obtain ⟨x, env', rfl, h⟩ := h
  exact ⟨_, _, rfl, EnvT.join h k⟩
 | some t :: a, b, _, _, _, _, h, k => by
  obtain ⟨w0, env', G0, F0, rfl, h0, h, rfl⟩ := h
  exact ⟨_, _, _, _, rfl, h0, EnvT.join h k, by rw [List.append_assoc]⟩
end
section
end
end BV
end
section
namespace KV
open PySem hiding Env
open L2 SB BV
end KV
end
section
namespace BV
open PySem hiding Env
open L2 hiding TE gName VV
open SB
def HD : G2 := fun a b => match a, b with
 | .str x, .int i => if x.length ≤ sizeLine then (match atI x.cps.toList i with
  | some c => ξ (.pur (.str ⟨#[c]⟩))
  | none => ζ) else ζ
 | _, _ => ζ
theorem KU : lI DV HD := fun m S t1 w1 G1 t2 w2 G2 q1 q2 => by
 cases t1 <;> first | trivial | skip
 cases t2 <;> first | trivial | skip
 rename_i x i
 obtain ⟨rfl, rfl⟩ := q1
 obtain ⟨rfl, rfl⟩ := q2
 unfold HD
 simp only [DV]
 by_cases hl : x.length ≤ sizeLine
 case neg => rw [if_neg hl]; trivial
 rw [if_pos hl, if_pos hl]
 cases hc : atI x.cps.toList i with
 | none => trivial
 | some c => exact ⟨_, [], rfl, ⟨rfl, rfl⟩, fun n => by simp⟩
def jt (a : VD) : VI := fun te => a9 (a te) fun t te1 => match t with
 | .str x => ξ (.ok ((iG x).map T.str) te1)
 | _ => ζ
theorem Rps.strs {m : M} {S : Own} : ∀ {xs : List Str}, Rps m S (xs.map T.str) (xs.map W.str) []
 | [] => ⟨rfl, rfl⟩
 | x :: xs => ⟨_, _, [], [], rfl, ⟨rfl, rfl⟩, Rps.strs, rfl⟩
def rQ (neg : Bool) : G2 := fun a b => match a, b with
 | .str x, .str z => (match x.cps.toList with
  | [c] => ξ (.pur (.bl (decide (c ∈ z.cps.toList) != neg)))
  | _ => ζ)
 | _, _ => ζ
theorem KY {neg : Bool} : lI (Bg neg) (rQ neg) := fun m S t1 w1 G1 t2 w2 G2 q1 q2 => by
 cases t1 <;> first | trivial | skip
 cases t2 <;> first | trivial | skip
 rename_i x z
 obtain ⟨rfl, rfl⟩ := q1
 obtain ⟨rfl, rfl⟩ := q2
 unfold rQ
 simp only [Bg]
 match hx : x.cps.toList with
 | [] => trivial
 | _ :: _ :: _ => trivial
 | [c] => exact ⟨_, [], rfl, ⟨rfl, rfl⟩, fun n => by simp⟩
abbrev R0 := T → List T → Option PN
def QV (f : FM) (g : R0) : Prop := ∀ m S t w G ts ws Gs, Rp m S t w G → Rps m S ts ws Gs → match g t ts with
 | none => True
 | some (.pur u) => ∃ w' G', f w ws m = ξ (w', m) ∧ Rp m S u w' G' ∧ ∀ n, G'.count n ≤ (G ++ Gs).count n
 | some (.new k cs) => ∃ us G', f w ws m = ξ (.ref m.length, m ++ [k.mk us]) ∧ Rps m S cs us G' ∧ k.fit cs.length = true ∧ ∀ n, G'.count n ≤ (G ++ Gs).count n
def yU (g : R0) (va : VD) (vas : VA) : VD := fun te => a9 (va te) fun x te1 => match x with
 | .str y => a9 (vas te1) fun xs te2 => kT (g (.str y) xs) te2
 | _ => ζ
def oj : List T → Option (List Str)
 | [] => ξ []
 | .str x :: ts => (match oj ts with
  | some xs => ξ (x :: xs)
  | none => ζ)
 | _ :: _ => ζ
section
variable {m: M}{S: Own}{da: DE}{va: VD}{das: DA}{vas: VA}{f: FM}{g: R0}
theorem K2 (hf : QV f g) (ha : XE da va) (hb : XA das vas) : XE (RR "str" f da das) (yU g va vas) := fun m S te env F st => by
 refine XG.bind0 ha st fun x te1 w1 m1 S1 F1 G1 st1 q1 sp1 sb1 => ?_
 cases x <;> first | trivial | skip
 rename_i y
 obtain ⟨rfl, rfl⟩ := q1
 rw [List.append_nil] at sp1 sb1
 have ey : Bm "str" m1 (.str y) = true := rfl
 simp only [ey, if_true]
 refine st1.out (A := F1 ++ []) ?_ fun n => by simp
 refine XG.bind0 hb st1 fun xs te2 w2 m2 S2 F2 G2 st2 q2 sp2 sb2 => ?_
 exact Out.pn (hf m2 S2 (.str y) (.str y) [] xs w2 G2 ⟨rfl, rfl⟩ q2) st2.env sb2 sp2 st2.lt fun n => by simp only [List.count_append, List.nil_append]; omega
theorem vC : ∀ {ts : List T} {ws : List W} {G : List Nat} {xs : List Str}, Rps m S ts ws G → oj ts = ξ xs → ws = xs.map W.str
 | [], _, _, _, q, h => by cases h; exact q.1
 | t :: ts, _, _, xs, q, h => by
  cases t <;> first | (cases h; done) | skip
  rename_i x
  obtain ⟨w, ws', G1, G2, rfl, ⟨rfl, rfl⟩, q2, rfl⟩ := q
  unfold oj at h
  cases hs : oj ts with
  | none => rw [hs] at h; cases h
  | some ys =>
   rw [hs] at h
   cases h
   rw [vC q2 hs]
   rfl
theorem sC : ∀ {xs : List Str}, oi (xs.map W.str) = ξ xs
 | [] => rfl
 | x :: xs => by
  show (match oi (xs.map W.str) with
  | some xs => ξ (x :: xs)
  | none => ζ) = _
  rw [sC]
def sN : R0 := fun t ts => match t, ts with
 | .str a, [y] => (match seqT y with
  | some us => (match oj us with
   | some ys => if ow a ys = true then ξ (.pur (.str (Txt.join a ys))) else ζ
   | none => ζ)
  | none => ζ)
 | _, _ => ζ
theorem Gm : QV wz sN := fun m S t w G ts ws Gs q1 q2 => by
 cases t <;> first | trivial | skip
 rename_i a
 obtain ⟨rfl, rfl⟩ := q1
 match ts, q2 with
 | [], _ => trivial
 | _ :: _ :: _, _ => trivial
 | [y], q2 =>
  unfold sN
  simp only
  obtain ⟨w', ws', G1, G2, rfl, q3, ⟨rfl, rfl⟩, rfl⟩ := q2
  cases hs : seqT y with
  | none => trivial
  | some us =>
   simp only
   cases hz : oj us with
   | none => trivial
   | some ys =>
    simp only
    by_cases hj : ow a ys = true
    case neg => rw [if_neg hj]; trivial
    rw [if_pos hj]
    obtain ⟨zs, G', e, q4, _⟩ := mm q3 hs
    obtain rfl := vC q4 hz
    exact ⟨_, [], by simp only [wz, e, sC, if_pos hj], ⟨rfl, rfl⟩, fun n => by simp⟩
theorem KO (ha : XE da va) : XI (EK da) (jt va) := fun m S te env F st => by
 refine XG.bind0 ha st fun x te1 w1 m1 S1 F1 G1 st1 q1 sp1 sb1 => ?_
 cases x <;> first | trivial | skip
 obtain ⟨rfl, rfl⟩ := q1
 exact Out.done sU (G := []) st1.env ⟨rfl, Rps.strs, fun m2 _ => rfl⟩ sb1 sp1 st1.lt fun n => Nat.le_refl _
end
def xE : VD := fun _ => ζ
theorem GH : XE yE xE := fun _ _ _ _ _ _ => trivial
def cF (C : Addr) (f : Str) (t0 : T) (a : VV) : VV := fun te => match a te with
 | some (.nd _ (.ins C' fs) _) => if C' = C ∧ fs.contains f = false then ξ t0 else ζ
 | _ => ζ
section
variable {da: DE}{va: VV}{C: Addr}{f: Str}
theorem B9 {w0 : W} {t0 : T} (h0 : ∀ m S, Rp m S t0 w0 []) (ha : XV da va) : XV (jE C f w0 da) (cF C f t0 va) := fun m S te env F h => by
 have h1 := ha m S te env F h
 unfold cF
 cases hx : va te with
 | none => trivial
 | some x =>
  rw [hx] at h1
  obtain ⟨w1, G1, e1, q1⟩ := h1
  cases x <;> first | trivial | skip
  rename_i o k ts
  cases k <;> first | trivial | skip
  rename_i C' fs
  simp only
  by_cases hc : C' = C ∧ fs.contains f = false
  case neg => rw [if_neg hc]; trivial
  rw [if_pos hc]
  obtain ⟨rfl, hn⟩ := hc
  obtain ⟨n, ws, G', rfl, e2, ft, q, c⟩ := q1
  have e3 := e2.ins
  refine ⟨w0, [], ?_, h0 m S⟩
  simp only [jE, e1, dZ, gO, e3, if_true, jL hn]
theorem iE {i : Int} (ha : XV da va) : XV (jE C f (.int i) da) (cF C f (.int i) va) := B9 (fun _ _ => ⟨rfl, rfl⟩) ha
theorem pf (ha : XV da va) : XV (jE C f .non da) (cF C f .non va) := B9 (fun _ _ => ⟨rfl, rfl⟩) ha
end
end BV
end
section
namespace KV
open PySem hiding Env
open L2 SB BV
def iO (c : Cn) : bu :=
  (bA (Aq HD (au (ae 1)) (bj (bT c) [0] (bZ 0 (aa (au (bt cm (aw (ae 1) aK))) ah)))))
def dU (c : Cn) : cD := bE [true, false] 2 (iO c)
def mL (c : Cn) : bu :=
  (bA (yU sN (au (aI (.str ""))) (aa (av (vm (kO (aa (av (Aq dJ (au (aI (.int 1))) (bj (bT c) [0] (bZ 0 (aa (au (aI (.int 3))) ah))))) ah)) (gName 1) fv (bj (dU c) [0] (bZ 0 (aa (au (aI (.str "abcxyz"))) ah))) [1])) ah)))
def cN (c : Cn) : cD := bE [true] 2 (mL c)
def rF (c : Cn) : bu :=
  (bA (t6 (au (bt (gM c) (aw (ae 0) (aw (aI (.ty "str")) aK)))) (t6 (au (gi zo zo (aI (.int 1)) (bt cm (aw (ae 0) aK)) (aI (.int 3)))) (oU mw (aa (av (vm (jt (au (ae 0))) (gName 1) fv (au (aD (rQ false) (ae 1) (aI (.str "abcdefghijklmnopqrstuvwxyz")))) [1])) ah)))))
def cz (c : Cn) : cD := bE [false] 2 (rF c)
def gA (c : Cn) : bu :=
  (a5 (aA [1] (i5 (c.cl "ClosedSet") "set_kinds" 0 (au (bt nz (aw (ae 1) aK)))))
  (aA [2] (i5 (c.cl "ClosedSet") "forks" 0 (Au (eR (aD iD (ae 2) (aI .non))) (au (aI .non)) xE))))
def bW (c : Cn) : cD := bE [true, false, false] 3 (gA c)
def fF (c : Cn) : bu :=
  (bA (av (pO 0 (c.cl "ClosedSet") (bW c) [] (aa (au (ae 1)) (aa (au (aI .non)) ah)))))
def bU (c : Cn) : cD := bE [false, false] 2 (fF c)
end KV
end
section
namespace BV
open PySem hiding Env
open L2 SB
end BV
end
section
namespace KV
open PySem hiding Env
open L2 SB BV
end KV
end
section
namespace BV
open PySem hiding Env
open L2 hiding TE gName VV
open SB
section
end
end BV
end
section
namespace KV
open PySem hiding Env
open L2 SB BV
end KV
end
section
namespace BV
open PySem hiding Env
open L2 hiding TE gName VV
open SB
section
end
section
end
section
end
end BV
end
section
namespace KV
open PySem hiding Env
open L2 SB BV
end KV
end
section
namespace BV
open PySem hiding Env
open L2 hiding TE gName VV
open SB
section
end
end BV
end
section
namespace KV
open PySem hiding Env
open L2 SB BV
end KV
end
section
namespace BV
open PySem hiding Env
open L2 hiding TE gName VV
open SB
section
end
end BV
end
section
namespace BV
open SB
end BV
end
section
namespace KV
open PySem hiding Env
open L2 SB BV
end KV
end
section
namespace BV
open PySem hiding Env
open L2 hiding TE gName VV
open SB
section
end
end BV
end
section
namespace KV
open PySem hiding Env
open L2 SB BV
end KV
end
section
namespace BV
open PySem hiding Env
open L2 hiding TE
open SB
def FX (v : VD) : VD := fun te => match v te with
 | some (.ok t te1) => ξ (.ok t te1)
 | _ => ζ
def xG (i : Nat) (v : bu) : bu := fun te => v (te.set i ζ)
section
variable {m: M}{S: Own}{te: TE}{env: Env}{L: List Nat}{i: Nat}{d: DS}{v: bu}
theorem K3 {d : DE} {v : VD} (h : XE d v) : XE (Ge d) (FX v) := fun m S te env F st => by
 have h0 := h m S te env F st
 unfold FX
 cases hy : v te with
 | none => trivial
 | some y =>
  rw [hy] at h0
  cases y with
  | exc C d1 te1 => trivial
  | ok t te1 =>
   obtain ⟨w, m1, S1, F1, G, e, r⟩ := h0
   exact ⟨w, m1, S1, F1, G, by unfold Ge; rw [e]; rfl, r⟩
theorem xr (h : XS L d v) : XS (i :: L) (vT i d) (xG i v) := fun m S te env F st => by
 unfold xG vT
 have ag : Agr [i] env (env.set i ζ) := ⟨by simp, fun n hn => by
  have : i ≠ n := fun z => by subst z; simp at hn
  exact List.getElem?_set_ne this⟩
 obtain ⟨F2, ev2, l2⟩ := st.env.wipesO (vs := [i]) ag
 obtain ⟨S2, a2, sh2⟩ := st.own.drop fun n => l2 n
 have st2 : Stt m S2 (te.set i ζ) (env.set i ζ) F2 := ⟨ev2.sh sh2, a2.sep, a2.sub, a2.dom'⟩
 have h2 := h m S2 (te.set i ζ) (env.set i ζ) F2 st2
 have := OutS.then ag (OutS.trans a2 h2)
 simpa using this
def kN (VB : VD → VD) (VF : Option VC → Option VC) : List VD → VA
 | [] => ah
 | v :: vs => aa (VB (ni VF v)) (kN VB VF vs)
inductive XEs : List DE → List VD → Prop where
 | nil : XEs [] []
 | cons {d : DE} {v : VD} {ds : List DE} {vs : List VD} (h : XE d v) (r : XEs ds vs) : XEs (d :: ds) (v :: vs)
theorem pj {B : DE → DE} {VB : VD → VD} {F : PySem.Addr → (M → Option (R W)) → M → Option (R W)} {VF : Option VC → Option VC} (hF : XL F VF) (hB : ∀ h v, XE h v → XE (B h) (VB v)) : ∀ {Es : List DE} {vs : List VD}, XEs Es vs → XA (yI B F Es) (kN VB VF vs)
 | _, _, .nil => aG
 | _, _, .cons h r => ak (hB _ _ (Oy hF h)) (pj hF hB r)
end
end BV
end
section
namespace KV
open PySem hiding Env
open L2 SB BV
def fh (c : Cn) : bu :=
  (a5 (aA [2] (gr (i6 (au (ae 1))) (gName 2) (aA [2] (aA [2] (dG (cG (cK (bj (cz c) [] (aa (au (ae 2)) ah)))) (eS (c.cl "BadName") ["name"] (aa (au (ae 2)) ah)) bf)))))
  (a5 (dG (jV (eR (aD A3 (bt cm (aw (ae 1) aK)) (cF (c.cl "Table") "FEWEST" (.int 1) (ae 0)))) (jW (eR (aD j4 (cF (c.cl "Table") "MOST" (.int 3) (ae 0)) (aI .non))) (eR (aD FY (bt cm (aw (ae 1) aK)) (cF (c.cl "Table") "MOST" (.int 3) (ae 0)))))) (iF (c.cl "BadConstraint")) bf)
  (aA [1] (i5 (c.cl "Table") "variables" 0 (au (ae 1))))))
def fD (c : Cn) : cD := bE [true, false] 3 (fh c)
def jj (c : Cn) : bu :=
  (a5 (aA [2] (dH (bF (c.cl "Table") "__init__" (ay 1 (fD c)) [0] (ae 0) (bZ 0 (lj (au (ae 2)) ah)))))
  (aA [1] (i5 (c.cl "Table") "table_rows" 0 (vq ot (aw (ae 1) aK)))))
def az (c : Cn) : cD := bE [true, false, false] 4 (jj c)
def jl (c : Cn) : bu :=
  (a5 (aA [2] (gr (i6 (au (ae 1))) (gName 2) (aA [2] (aA [2] (dG (cG (cK (bj (cz c) [] (aa (au (ae 2)) ah)))) (eS (c.cl "BadName") ["name"] (aa (au (ae 2)) ah)) bf)))))
  (a5 (dG (jV (eR (aD A3 (bt cm (aw (ae 1) aK)) (cF (c.cl "Equal") "FEWEST" (.int 2) (ae 0)))) (jW (eR (aD j4 (cF (c.cl "Equal") "MOST" .non (ae 0)) (aI .non))) (eR (aD FY (bt cm (aw (ae 1) aK)) (cF (c.cl "Equal") "MOST" .non (ae 0)))))) (iF (c.cl "BadConstraint")) bf)
  (aA [1] (i5 (c.cl "Equal") "variables" 0 (au (ae 1))))))
def aE (c : Cn) : cD := bE [true, false] 3 (jl c)
def eN (c : Cn) : bu :=
  (a5 (aA [2] (gr (i6 (au (ae 1))) (gName 2) (aA [2] (aA [2] (dG (cG (cK (bj (cz c) [] (aa (au (ae 2)) ah)))) (eS (c.cl "BadName") ["name"] (aa (au (ae 2)) ah)) bf)))))
  (a5 (dG (jV (eR (aD A3 (bt cm (aw (ae 1) aK)) (cF (c.cl "Member") "FEWEST" (.int 1) (ae 0)))) (jW (eR (aD j4 (cF (c.cl "Member") "MOST" .non (ae 0)) (aI .non))) (eR (aD FY (bt cm (aw (ae 1) aK)) (cF (c.cl "Member") "MOST" .non (ae 0)))))) (iF (c.cl "BadConstraint")) bf)
  (aA [1] (i5 (c.cl "Member") "variables" 0 (au (ae 1))))))
def fg (c : Cn) : cD := bE [true, false] 3 (eN c)
def iP (c : Cn) : bu :=
  (a5 (aA [2] (dH (bF (c.cl "Member") "__init__" (ay 1 (fg c)) [0] (ae 0) (bZ 0 (lj (au (ae 2)) ah)))))
  (aA [1] (i5 (c.cl "Member") "closed_rows" 0 (au (ae 1)))))
def aL (c : Cn) : cD := bE [true, false, false] 4 (iP c)
def fj (c : Cn) : bu :=
  (a5 (aA [2] (gr (i6 (au (ae 1))) (gName 2) (aA [2] (aA [2] (dG (cG (cK (bj (cz c) [] (aa (au (ae 2)) ah)))) (eS (c.cl "BadName") ["name"] (aa (au (ae 2)) ah)) bf)))))
  (a5 (dG (jV (eR (aD A3 (bt cm (aw (ae 1) aK)) (cF (c.cl "Fixed") "FEWEST" (.int 1) (ae 0)))) (jW (eR (aD j4 (cF (c.cl "Fixed") "MOST" (.int 1) (ae 0)) (aI .non))) (eR (aD FY (bt cm (aw (ae 1) aK)) (cF (c.cl "Fixed") "MOST" (.int 1) (ae 0)))))) (iF (c.cl "BadConstraint")) bf)
  (aA [1] (i5 (c.cl "Fixed") "variables" 0 (au (ae 1))))))
def fE (c : Cn) : cD := bE [true, false] 3 (fj c)
def jk (c : Cn) : bu :=
  (a5 (aA [1] (dH (bF (c.cl "Fixed") "__init__" (ay 1 (fE c)) [0] (ae 0) (bZ 0 (aa (au (ae 1)) ah)))))
  (aA [2] (i5 (c.cl "Fixed") "only_value" 0 (au (ae 2)))))
def bK (c : Cn) : cD := bE [true, false, false] 4 (jk c)
def fY (c : Cn) (x : Option VC) : bu :=
  (a5 (jX (fun C' => c.exm C' (.ob (c.cl "BadConstraint"))) (c.cl "BadConstraint") 1 (lW (fun C' => c.exm C' (.ob (c.cl "BadName"))) (c.cl "BadName") 1 (dH (vp x)) (Au (eR (As 1 (c.xis (c.cl "BadName") (.ty "ValueError")))) (av (bx (aa (au (aI (.str "BadName"))) (aa (au (lY 1 "name")) ah)))) (au (aI .non)))) (Au (eR (Cq (c.xis (c.cl "BadConstraint") (.ty "ValueError")))) (av (bx (aa (au (aI (.str "BadConstraint"))) ah))) (au (aI .non))))
  (bA (au (aI .non))))
def aM (c : Cn) : Option VC → Option VC := yW 2 (fY c)
def eM (c : Cn) : bu :=
  (xG 3 (bA (oU mw (aa (av (FX (bx (kN (fun v => (Aq x6 (oU qRepD (aa (av v) ah)) (oU qRepD (aa (av (bx (aa (au (aI (.str "BadName"))) (aa (au (ae 1)) ah)))) ah)))) (aM c) [(av (aP (c.cl "Table") (bB [0, 2, 1] 3 (ay 2 (az c))) [] (aa (au (ae 1)) (aa (av (bx ah)) ah)))), (av (aP (c.cl "Table") (bB [0, 3, 1, 2] 4 (ay 2 (az c))) [] (aa (au (ae 0)) (aa (au (ae 1)) (aa (av (bx ah)) ah))))), (av (aP (c.cl "Table") (bB [0, 4, 1, 2, 3] 5 (ay 2 (az c))) [] (aa (au (ae 0)) (aa (au (ae 0)) (aa (au (ae 1)) (aa (av (bx ah)) ah)))))), (av (aP (c.cl "Table") (bB [0, 5, 1, 2, 3, 4] 6 (ay 2 (az c))) [] (aa (au (ae 0)) (aa (au (ae 0)) (aa (au (ae 0)) (aa (au (ae 1)) (aa (av (bx ah)) ah))))))), (av (aP (c.cl "Table") (bB [0, 6, 1, 2, 3, 4, 5] 7 (ay 2 (az c))) [] (aa (au (ae 1)) (aa (au (aI .non)) (aa (au (ae 0)) (aa (au (ae 0)) (aa (au (ae 0)) (aa (av (bx ah)) ah)))))))), (av (aP (c.cl "Fixed") (bK c) [] (aa (au (ae 1)) (aa (au (aI (.int 0))) ah)))), (av (aP (c.cl "Equal") (ay 1 (aE c)) [] (aa (au (ae 1)) ah))), (av (aP (c.cl "Equal") (ay 1 (aE c)) [] (aa (au (ae 0)) (aa (au (ae 1)) ah)))), (av (aP (c.cl "Equal") (ay 1 (aE c)) [] (aa (au (ae 1)) (aa (au (ae 0)) (aa (au (aI (.int 3))) ah))))), (av (aP (c.cl "Member") (bB [0, 2, 1] 3 (ay 2 (aL c))) [] (aa (au (ae 1)) (aa (au (ae 2)) ah)))), (av (aP (c.cl "Member") (bB [0, 5, 1, 2, 3, 4] 6 (ay 2 (aL c))) [] (aa (au (ae 0)) (aa (au (ae 0)) (aa (au (ae 1)) (aa (au (ae 0)) (aa (au (ae 2)) ah)))))))])))) ah))))
def bG (c : Cn) : cD := bE [false, false, false] 5 (eM c)
def lK (c : Cn) : bu :=
  (a5 (cx (bj (ay 1 (bU c)) [] (aa (au (aI (.ob (c.cl "ClosedSet")))) ah)) (gName 1))
  (a5 (aA [0, 1, 2, 3, 4, 5, 6, 7, 8] (gr (kO (aa (au (bt zm (aw (aI (.int 1)) (aw (bt zl (aw (aI (.int 3)) (aw (bt cm (aw (ae 0) aK)) aK))) aK)))) ah)) (gName 2) (aA [2, 3, 4, 5, 6, 7, 8] (a5 (aA [2] (cx (bj (dS c) [] (aa (au (ae 0)) (aa (au (ae 2)) ah))) (gName 3)))
  (a5 (aA [3] (cx (lV (aa (bj (cN c) [3] (bZ 3 ah)) (aa (bj (cN c) [3] (bZ 3 ah)) ah))) (kb 2 (bc (gName 4) (bc (gName 5) gQ)))))
  (a5 (aA [6] (gr (i6 (av (bx (aa (au (aI (.str ""))) (aa (au (aI (.str "abcd"))) (aa (au (aI (.str "A"))) (aa (au (aI (.str "a1"))) (aa (au (aI (.str "a b"))) (aa (au (aI (.str " a"))) (aa (au (aI .non)) (aa (au (aI (.int 0))) (aa (au (aI (.bl true))) (aa (au (hM (aw (aI (.str "a")) aK))) (aa (av (bx (aa (au (aI (.str "a"))) ah))) (aa (au (aI (.str "aB"))) (aa (au (aI (.str "abcdefgh"))) (aa (au (aI (.str "1"))) (aa (au (aI (.str "-"))) (aa (au (aI (.str "_"))) ah))))))))))))))))))) (gName 6) (aA [6] (aA [6] (dG (cG (cK (bj (bG c) [] (aa (au (ae 4)) (aa (au (ae 6)) (aa (au (ae 1)) ah)))))) (bA (au (aI (.bl false)))) bf)))))
  (a5 (cx (av (bx (aa (au (aI (.str "BadConstraint"))) ah))) (gName 7))
  (a5 (aA [7, 8, 9] (xG 8 (dG (cG (cK (oU mw (aa (av (FX (bx (kN (fun v => (lX x6 (av v) (ae 7))) (aM c) [(av (aP (c.cl "Table") (bB [0, 1] 2 (ay 2 (az c))) [] (aa (av (bx ah)) ah))), (av (aP (c.cl "Table") (bB [0, 5, 1, 2, 3, 4] 6 (ay 2 (az c))) [] (aa (au (ae 4)) (aa (au (ae 5)) (aa (au (ae 4)) (aa (au (ae 5)) (aa (av (bx ah)) ah))))))), (av (aP (c.cl "Equal") (ay 1 (aE c)) [] ah)), (av (aP (c.cl "Equal") (ay 1 (aE c)) [] (aa (au (ae 4)) ah))), (av (aP (c.cl "Member") (bB [0, 1] 2 (ay 2 (aL c))) [] (aa (au (ae 1)) ah)))])))) ah)))) (bA (au (aI (.bl false)))) bf)))
  (aA [4, 5, 8, 9] (xG 8 (dG (cG (cK (oU mw (aa (av (FX (bx (kN (fun v => (lX iD (av v) (aI .non))) (aM c) [(av (aP (c.cl "Table") (bB [0, 4, 1, 2, 3] 5 (ay 2 (az c))) [] (aa (au (ae 4)) (aa (au (ae 5)) (aa (au (ae 4)) (aa (av (bx ah)) ah)))))), (av (aP (c.cl "Equal") (ay 1 (aE c)) [] (aa (au (ae 4)) (aa (au (ae 4)) ah)))), (av (aP (c.cl "Fixed") (bK c) [] (aa (au (ae 5)) (aa (au (aI (.int 0))) ah)))), (av (aP (c.cl "Equal") (ay 1 (aE c)) [] (aa (au (ae 4)) (aa (au (ae 5)) (aa (au (ae 4)) (aa (au (ae 5)) (aa (au (ae 4)) ah))))))), (av (aP (c.cl "Member") (bB [0, 6, 1, 2, 3, 4, 5] 7 (ay 2 (aL c))) [] (aa (au (ae 4)) (aa (au (ae 4)) (aa (au (ae 5)) (aa (au (ae 4)) (aa (au (ae 5)) (aa (au (ae 1)) ah))))))))])))) ah)))) (bA (au (aI (.bl false)))) bf)))))))))))
  (bA (au (aI (.bl true))))))
def nU (c : Cn) : cD := bE [false] 10 (lK c)
end KV
end
section
namespace KV
open PySem hiding Env
open _root_.SB hiding x_and x_lst x_not x_op x_test x_tup
open L2 BV KD
section
variable {K: PySem.W.Frag}
theorem lS : XD [true, false] (f6 K) (dU (cn K)) := dY (n := 2) (b := f9 K) (vb := iO (cn K))
  (fJ (x_op KU (aF ao) (gD jM (jU (ak (aF (fq gC (aQ ao bP))) aG)) (gy (bN cB)))))
theorem lR : XD [true] (iQ K) (cN (cn K)) := dY (n := 2) (b := kl K) (vb := mL (cn K))
  (fJ (K2 Gm (aF cE) (ak (aW (J0 (yM (ak (aW (x_op gh (aF aR) (gD jM (jU (ak (aF aR) aG)) (gy (bN cB))))) aG)) bQ Cb (gD lS (jU (ak (aF cE) aG)) (gy (bN cB))))) aG)))
theorem jo : XD [false] (g9 K) (cz (cn K)) := dY (n := 2) (b := nZ K) (vb := rF (cn K))
  (fJ (x_and (aF (fq Gz (aQ ao (aQ Ov bP)))) (x_and (aF (Ca JX JX aR (fq gC (aQ ao bP)) aR)) (Ah tU (ak (aW (J0 (KO (aF ao)) bQ Cb (aF (aY KY ao cE)))) aG)))))
theorem jT : XD [true, false, false] (d4 K) (bW (cn K)) := dY (n := 3) (b := d5 K) (vb := gA (cn K))
  (bD (aO (gS (aF (fq Cd (aQ ao bP)))))
  (aO (gS (K4 (jS (aY Cg ao fH)) (aF fH) GH))))
theorem jR : XD [false, false] (dO K) (bU (cn K)) := dY (n := 2) (b := dP K) (vb := fF (cn K))
  (fJ (aW (GJ jT (ak (aF ao) (ak (aF fH) aG)) (bN (bN cB)))))
theorem jq : XD [true, false] (dq K) (fD (cn K)) := dY (n := 3) (b := dy K) (vb := fh (cn K))
  (bD (aO (mY (pJ (aF ao)) bQ (aO (aO (iW (lg (x_test (gD jo (ak (aF ao) aG) (bN cB)))) (lO (ak (aF ao) aG)) dQ)))))
  (bD (iW (yK (jS (aY vf (fq gC (aQ ao bP)) (iE ao))) (tQ (jS (aY ph (iE ao) fH)) (jS (aY vg (fq gC (aQ ao bP)) (iE ao))))) km dQ)
  (aO (gS (aF ao)))))
theorem bz : XD [true, false, false] (bh K) (az (cn K)) := dY (n := 4) (b := gI K) (vb := jj (cn K))
  (bD (aO (tR (xA (bq jq) ao (jU (yR (aF ao) aG)) (gy a7))))
  (aO (gS (OA Gu (aQ ao bP)))))
theorem bO : XD [true, false] (bw K) (aE (cn K)) := dY (n := 3) (b := gK K) (vb := jl (cn K))
  (bD (aO (mY (pJ (aF ao)) bQ (aO (aO (iW (lg (x_test (gD jo (ak (aF ao) aG) (bN cB)))) (lO (ak (aF ao) aG)) dQ)))))
  (bD (iW (yK (jS (aY vf (fq gC (aQ ao bP)) (iE ao))) (tQ (jS (aY ph (pf ao) fH)) (jS (aY vg (fq gC (aQ ao bP)) (pf ao))))) km dQ)
  (aO (gS (aF ao)))))
theorem iY : XD [true, false] (cU K) (fg (cn K)) := dY (n := 3) (b := cW K) (vb := eN (cn K))
  (bD (aO (mY (pJ (aF ao)) bQ (aO (aO (iW (lg (x_test (gD jo (ak (aF ao) aG) (bN cB)))) (lO (ak (aF ao) aG)) dQ)))))
  (bD (iW (yK (jS (aY vf (fq gC (aQ ao bP)) (iE ao))) (tQ (jS (aY ph (pf ao) fH)) (jS (aY vg (fq gC (aQ ao bP)) (pf ao))))) km dQ)
  (aO (gS (aF ao)))))
theorem dC : XD [true, false, false] (b8 K) (aL (cn K)) := dY (n := 4) (b := gb K) (vb := iP (cn K))
  (bD (aO (tR (xA (bq iY) ao (jU (yR (aF ao) aG)) (gy a7))))
  (aO (gS (aF ao))))
theorem jr : XD [true, false] (dw K) (fE (cn K)) := dY (n := 3) (b := dB K) (vb := fj (cn K))
  (bD (aO (mY (pJ (aF ao)) bQ (aO (aO (iW (lg (x_test (gD jo (ak (aF ao) aG) (bN cB)))) (lO (ak (aF ao) aG)) dQ)))))
  (bD (iW (yK (jS (aY vf (fq gC (aQ ao bP)) (iE ao))) (tQ (jS (aY ph (iE ao) fH)) (jS (aY vg (fq gC (aQ ao bP)) (iE ao))))) km dQ)
  (aO (gS (aF ao)))))
theorem iZ : XD [true, false, false] (eD K) (bK (cn K)) := dY (n := 4) (b := gJ K) (vb := jk (cn K))
  (bD (aO (tR (xA (bq jr) ao (jU (ak (aF ao) aG)) (gy a7))))
  (aO (gS (aF ao))))
theorem fK : XL (bL K) (aM (cn K)) := KL (n := 1) (b := eE K) (vb := fY (cn K)) fun f D m0 x m S G h ev => ⟨_, (DN (DM (de' := (Fm (bJ (BK K (He.ga K "BadConstraint") (.type "ValueError"))) (dM (aq (eC (.str "BadConstraint")) aJ)) (eC .non))) (HR (HS h ev) (K4 (jS KI) (aW (BV.x_lst (ak (aF cE) (ak (aF Gk) aG)))) (aF fH))) (fun env m h => by simp only [Jw, z0, fV, FQ, Fl, w8, M0, BG, BM, gq, BJ h, Jx, tx]) (K4 (jS Gj) (aW (BV.x_lst (ak (aF cE) aG))) (aF fH)))
  (fJ (aF fH)))⟩
theorem iX : XD [false, false, false] (cS K) (bG (cn K)) := dY (n := 5) (b := cV K) (vb := eM (cn K))
  (xr (fJ (Ah tU (ak (aW (K3 (x_lst (pj fK (fun _ _ hv => (x_op JY (Ah yO (ak (aW hv) aG)) (Ah yO (ak (aW (x_lst (ak (aF cE) (ak (aF ao) aG)))) aG)))) (XEs.cons (aW (cq (eg (ms := [true]) (ms' := [true]) (p := [0, 2, 1]) (n := 3) (bq bz) (by decide) (fun ws h => match ws, h with | [_, _, _], _ => rfl)) (ak (aF ao) (ak (aW (x_lst aG)) aG)) a7)) (XEs.cons (aW (cq (eg (ms := [true]) (ms' := [true]) (p := [0, 3, 1, 2]) (n := 4) (bq bz) (by decide) (fun ws h => match ws, h with | [_, _, _, _], _ => rfl)) (ak (aF ao) (ak (aF ao) (ak (aW (x_lst aG)) aG))) a7)) (XEs.cons (aW (cq (eg (ms := [true]) (ms' := [true]) (p := [0, 4, 1, 2, 3]) (n := 5) (bq bz) (by decide) (fun ws h => match ws, h with | [_, _, _, _, _], _ => rfl)) (ak (aF ao) (ak (aF ao) (ak (aF ao) (ak (aW (x_lst aG)) aG)))) a7)) (XEs.cons (aW (cq (eg (ms := [true]) (ms' := [true]) (p := [0, 5, 1, 2, 3, 4]) (n := 6) (bq bz) (by decide) (fun ws h => match ws, h with | [_, _, _, _, _, _], _ => rfl)) (ak (aF ao) (ak (aF ao) (ak (aF ao) (ak (aF ao) (ak (aW (x_lst aG)) aG))))) a7)) (XEs.cons (aW (cq (eg (ms := [true]) (ms' := [true]) (p := [0, 6, 1, 2, 3, 4, 5]) (n := 7) (bq bz) (by decide) (fun ws h => match ws, h with | [_, _, _, _, _, _, _], _ => rfl)) (ak (aF ao) (ak (aF fH) (ak (aF ao) (ak (aF ao) (ak (aF ao) (ak (aW (x_lst aG)) aG)))))) a7)) (XEs.cons (aW (cq iZ (ak (aF ao) (ak (aF aR) aG)) (bN (bN cB)))) (XEs.cons (aW (cq (bq bO) (ak (aF ao) aG) a7)) (XEs.cons (aW (cq (bq bO) (ak (aF ao) (ak (aF ao) aG)) a7)) (XEs.cons (aW (cq (bq bO) (ak (aF ao) (ak (aF ao) (ak (aF aR) aG))) a7)) (XEs.cons (aW (cq (eg (ms := [true]) (ms' := [true]) (p := [0, 2, 1]) (n := 3) (bq dC) (by decide) (fun ws h => match ws, h with | [_, _, _], _ => rfl)) (ak (aF ao) (ak (aF ao) aG)) a7)) (XEs.cons (aW (cq (eg (ms := [true]) (ms' := [true]) (p := [0, 5, 1, 2, 3, 4]) (n := 6) (bq dC) (by decide) (fun ws h => match ws, h with | [_, _, _, _, _, _], _ => rfl)) (ak (aF ao) (ak (aF ao) (ak (aF ao) (ak (aF ao) (ak (aF ao) aG))))) a7)) XEs.nil))))))))))))))) aG))))
theorem xd_law_k62 : XD [false] (D_law_k62 K) (nU (cn K)) := dY (n := 10) (b := nY K) (vb := lK (cn K))
  (bD (gB (Cj (GF jR) aG) bQ)
  (bD (aO (mY (yM (ak (aF (fq Gq (aQ aR (aQ (fq Gp (aQ aR (aQ (fq gC (aQ ao bP)) bP))) bP)))) aG)) bQ (aO (bD (aO (gB (gD lQ (ak (aF ao) (ak (aF ao) aG)) (bN (bN cB))) bQ))
  (bD (aO (gB (x_tup (ak (gD lR (jU aG) (gy cB)) (ak (gD lR (jU aG) (gy cB)) aG))) (KQ (u9 bQ (u9 bQ Gn)))))
  (bD (aO (mY (pJ (aW (x_lst (ak (aF cE) (ak (aF cE) (ak (aF cE) (ak (aF cE) (ak (aF cE) (ak (aF cE) (ak (aF fH) (ak (aF aR) (ak (aF u6) (ak (aF (B7 (aQ cE bP))) (ak (aW (x_lst (ak (aF cE) aG))) (ak (aF cE) (ak (aF cE) (ak (aF cE) (ak (aF cE) (ak (aF cE) aG))))))))))))))))))) bQ (aO (aO (iW (lg (x_test (gD iX (ak (aF ao) (ak (aF ao) (ak (aF ao) aG))) (bN (bN (bN cB)))))) (fJ (aF u6)) dQ)))))
  (bD (gB (aW (x_lst (ak (aF cE) aG))) bQ)
  (bD (aO (xr (iW (lg (x_test (Ah tU (ak (aW (K3 (x_lst (pj fK (fun _ _ hv => (Ci JY (aW hv) ao)) (XEs.cons (aW (cq (eg (ms := [true]) (ms' := [true]) (p := [0, 1]) (n := 2) (bq bz) (by decide) (fun ws h => match ws, h with | [_, _], _ => rfl)) (ak (aW (x_lst aG)) aG) a7)) (XEs.cons (aW (cq (eg (ms := [true]) (ms' := [true]) (p := [0, 5, 1, 2, 3, 4]) (n := 6) (bq bz) (by decide) (fun ws h => match ws, h with | [_, _, _, _, _, _], _ => rfl)) (ak (aF ao) (ak (aF ao) (ak (aF ao) (ak (aF ao) (ak (aW (x_lst aG)) aG))))) a7)) (XEs.cons (aW (cq (bq bO) aG a7)) (XEs.cons (aW (cq (bq bO) (ak (aF ao) aG) a7)) (XEs.cons (aW (cq (eg (ms := [true]) (ms' := [true]) (p := [0, 1]) (n := 2) (bq dC) (by decide) (fun ws h => match ws, h with | [_, _], _ => rfl)) (ak (aF ao) aG) a7)) XEs.nil))))))))) aG)))) (fJ (aF u6)) dQ)))
  (aO (xr (iW (lg (x_test (Ah tU (ak (aW (K3 (x_lst (pj fK (fun _ _ hv => (Ci Cg (aW hv) fH)) (XEs.cons (aW (cq (eg (ms := [true]) (ms' := [true]) (p := [0, 4, 1, 2, 3]) (n := 5) (bq bz) (by decide) (fun ws h => match ws, h with | [_, _, _, _, _], _ => rfl)) (ak (aF ao) (ak (aF ao) (ak (aF ao) (ak (aW (x_lst aG)) aG)))) a7)) (XEs.cons (aW (cq (bq bO) (ak (aF ao) (ak (aF ao) aG)) a7)) (XEs.cons (aW (cq iZ (ak (aF ao) (ak (aF aR) aG)) (bN (bN cB)))) (XEs.cons (aW (cq (bq bO) (ak (aF ao) (ak (aF ao) (ak (aF ao) (ak (aF ao) (ak (aF ao) aG))))) a7)) (XEs.cons (aW (cq (eg (ms := [true]) (ms' := [true]) (p := [0, 6, 1, 2, 3, 4, 5]) (n := 7) (bq dC) (by decide) (fun ws h => match ws, h with | [_, _, _, _, _, _, _], _ => rfl)) (ak (aF ao) (ak (aF ao) (ak (aF ao) (ak (aF ao) (ak (aF ao) (ak (aF ao) aG)))))) a7)) XEs.nil))))))))) aG)))) (fJ (aF u6)) dQ)))))))))))
  (fJ (aF u6))))
end
end KV
end
section
set_option exponentiation.threshold 2000
namespace QP
open PySem hiding Env
open L2 hiding TE gName
open SB BV KV
def tyN : T → Option String
 | .non => ξ "NoneType"
 | .bl _ => ξ "bool"
 | .int _ => ξ "int"
 | .str _ => ξ "str"
 | .tup _ => ξ "tuple"
 | .nd _ .lst _ => ξ "list"
 | _ => ζ
def isaB (a n : String) : Bool := a == n || (a == "bool" && n == "int")
structure CnOk (c : Cn) : Prop where
 base : ∀ x a n, tyN x = ξ a → n = "int" ∨ n = "bool" ∨ n = "str" ∨ n = "tuple" ∨ n = "list" → c.isi x (.ty n) = ξ (isaB a n)
theorem QO (K : PySem.W.Frag) : CnOk (cn K) := ⟨fun x a n h hn => by
 have key : G7 K x = ξ (.type a) := by
  cases x <;> simp only [tyN] at h <;> first | (cases h; rfl) | (cases h; done) | skip
  rename_i o k ts
  cases k <;> simp only [tyN] at h <;> first | (cases h; done) | (cases h; rfl)
 have ha : a = "NoneType" ∨ a = "bool" ∨ a = "int" ∨ a = "str" ∨ a = "tuple" ∨ a = "list" := by
  cases x <;> simp only [tyN] at h <;> first | (cases h; done) | (cases h; simp; done) | skip
  rename_i o k ts
  cases k <;> simp only [tyN] at h <;> first | (cases h; done) | (cases h; simp)
 show (match G7 K x, Ku (.ty n) with
  | some t, ξ u => PySem.W.kitOne K t u
  | _, _ => ζ) = _
 rw [key]
 show PySem.W.kitOne K (.type a) (.type n) = _
 rcases ha with rfl | rfl | rfl | rfl | rfl | rfl <;> rcases hn with rfl | rfl | rfl | rfl | rfl <;> exact kit_ty (by decide +kernel)⟩
section
variable {c: Cn}
@[simp] theorem sO {x y : T} : gM c [x, y] = match c.isi x y with
  | some b => ξ (.pur (.bl b))
  | none => ζ := rfl
def uf (a b d : Int) : T := .nd true .lst [.int a, .int b, .int d]
theorem Bh {i : Int} {n : Nat} (h0 : 0 ≤ i) (h : i < (n : Int)) : i.natAbs < n := by omega
@[simp] theorem NX {ts : List T} {i : Int} {y : T} : vZ .lst ts (.int i) y = match ixN ts.length i with
  | some j => ξ (.lst, ts.set j y)
  | none => ζ := rfl
@[simp] theorem qh {i j : Int} : A7 (.int i) (.int j) = if (decide (0 < j) && sm 1073741823 j) = true then ξ (.pur (.int (i / j))) else ζ := by
  show (match (if (decide (0 < j) && sm 1073741823 j) = true then ξ (T.int (i / j)) else ζ) with
    | some t => ξ (PN.pur t)
    | none => ζ) = _
  by_cases h : (decide (0 < j) && sm 1073741823 j) = true
  · rw [if_pos h, if_pos h]
  · rw [if_neg h, if_neg h]
@[simp] theorem j3 {i j : Int} : x4 (.int i) (.int j) = if (decide (0 ≤ j) && (sm 1000 j && sm (2 ^ 999) i)) = true then ξ (.pur (.int (i ^ j.toNat))) else ζ := by
  show (match (if (decide (0 ≤ j) && (sm 1000 j && sm (2 ^ 999) i)) = true then ξ (T.int (i ^ j.toNat)) else ζ) with
    | some t => ξ (PN.pur t)
    | none => ζ) = _
  by_cases h : (decide (0 ≤ j) && (sm 1000 j && sm (2 ^ 999) i)) = true
  · rw [if_pos h, if_pos h]
  · rw [if_neg h, if_neg h]
theorem ix3 {a b d : T} : fB (.nd true .lst [a, b, d]) (.int 0) = ξ (.pur a) ∧ fB (.nd true .lst [a, b, d]) (.int 1) = ξ (.pur b) ∧ fB (.nd true .lst [a, b, d]) (.int 2) = ξ (.pur d) := ⟨rfl, rfl, rfl⟩
end
end QP
end
section
set_option exponentiation.threshold 2000
namespace QP
open PySem hiding Env
open L2 hiding TE gName
open SB BV KV
def sY (s : Nat) (f : Nat → Nat) : T := .tup ((List.range s).map fun z => .int (f z))
def nB (s : Nat) (f : Nat → Nat → Nat) : T := .tup ((List.range s).map fun y => sY s (f y))
abbrev Tab := Nat × (Nat → Nat → Nat → Nat)
def pR (t : Tab) : T := .tup ((List.range t.1).map fun x => nB t.1 (t.2 x))
def LineOK (s x y : Nat) (f : Nat → Nat) : Prop := ∀ z, z < s → f z < s ∧ (z = y → f z = x) ∧ (x = y → f z = z)
structure GoodT (t : Tab) : Prop where
 pos : 1 ≤ t.1
 le4 : t.1 ≤ 4
 line : ∀ x y, x < t.1 → y < t.1 → LineOK t.1 x y (t.2 x y)
theorem cC {α : Type} {n i : Nat} {f : Nat → α} (h : i < n) : ((List.range n).map f)[i]? = ξ (f i) := by
 rw [List.getElem?_map, List.getElem?_range h]
 rfl
theorem Bt {n : Nat} {f : Nat → Nat} : hots ((List.range n).map fun z => T.int (f z)) = false := aU fun x _ => rfl
@[simp] theorem EZ {s : Nat} {f : Nat → Nat} : hot (sY s f) = false := by
  unfold sY
  rw [iH]
  exact Bt
@[simp] theorem Bw {s : Nat} {f : Nat → Nat → Nat} : hot (nB s f) = false := by
  unfold nB
  rw [iH]
  exact aU fun x _ => EZ
@[simp] theorem zU {t : Tab} : hot (pR t) = false := by
  unfold pR
  rw [iH]
  exact aU fun x _ => Bw
section
end
end QP
end
section
namespace QP
open PySem hiding Env
open L2 hiding TE gName
open SB BV KV
section
variable {te te1: TE}
theorem lc_v {vi : VI} {g : VG} {tt : VT} {elt : VD} {zs : List Nat} {ts : List T} (I : Nat → List T → TE → Prop) (hi : vi te = ξ (.ok ts te1)) (hl : ts.length ≤ 1000000) (hc : dN te1 zs = true) (h0 : I 0 [] (aT te1 zs))
  (step : ∀ (i : Nat) t ys te, ts[i]? = ξ t → I i ys te → ∃ te1, g t te = ξ te1 ∧ VP (tt te1) fun b te2 => if b = true then VP (elt te2) fun y te3 => I (i + 1) (ys ++ [y]) (aT te3 zs) else I (i + 1) ys (aT te2 zs)) :
  ∃ ys te2, vm vi g tt elt zs te = ξ (.ok (.nd true .lst ys) (cM te1 te2 zs)) ∧ I ts.length ys te2 := by
 obtain ⟨ys, te2, e, h⟩ := vlc (g := g) (tt := tt) (elt := elt) (zs := zs) (ts := ts) I step h0
 refine ⟨ys, te2, ?_, h⟩
 rw [pq]
 simp only [hi, bM, if_pos (eO hl), if_pos hc, e]
theorem LD {e : VD} {v n : Nat} {elt : VD} {zs : List Nat} (I : Nat → List T → TE → Prop) (he : e te = ξ (.ok (.int (n : Nat)) te1)) (hn : n ≤ 1000000) (hc : dN te1 zs = true) (h0 : I 0 [] (aT te1 zs))
  (step : ∀ i ys te, i < n → I i ys te → VP (elt (te.set v (ξ (.int (i : Nat))))) fun y te3 => I (i + 1) (ys ++ [y]) (aT te3 zs)) :
  ∃ ys te2, vm (kO (aa e ah)) (gName v) fv elt zs te = ξ (.ok (.nd true .lst ys) (cM te1 te2 zs)) ∧ I n ys te2 := by
 have hs : sm 1000000000000 (n : Int) = true := om (by omega)
 obtain ⟨ys, te2, e1, h⟩ := lc_v (vi := kO (aa e ah)) (g := gName v) (tt := fv) (elt := elt) (zs := zs) (te := te) (te1 := te1) (ts := ju 0 n) I (by simp [he, hs]) (by rw [vt]; exact hn) hc h0 (fun i t ys te ht hI => by
  obtain ⟨hi, rfl⟩ := Cy ht
  exact ⟨_, rfl, true, _, rfl, step i ys te hi hI⟩)
 rw [vt] at h
 exact ⟨ys, te2, e1, h⟩
end
section
end
end QP
end
section
set_option exponentiation.threshold 2000
namespace QP
open PySem hiding Env
open L2 hiding TE gName
open SB BV KV
section
theorem p10 : sm (2 ^ 999) 10 = true := om (Nat.le_trans (by decide : 10 ≤ 2 ^ 4) (Nat.pow_le_pow_right (by decide) (by decide)))
def Cv (ts : List Tab) : T := .nd false .lst (ts.map pR)
theorem Bq {ts : List Tab} : hots (ts.map pR) = false := aU fun x _ => zU
end
end QP
end
section
namespace QP
open PySem hiding Env
open L2 hiding TE gName
open SB BV KV
structure Vl (d n : Nat) (x : T) : Prop where
 cold : hot x = false
 dat : ∃ D, dT d x = ξ D ∧ D.showable = true ∧ D.shown.length ≤ n ∧ D.canLay0 = true ∧ D.depth ≤ d ∧ PyData.strOk D.shown = true
theorem fL {a b : Str} : PyData.strOk (a ++ b) = (PyData.strOk a && PyData.strOk b) := by
 unfold PyData.strOk
 rw [Str.cps_append, Array.all_append]
theorem og : ∀ (ts : List Str) (k : Nat) (acc : Str), PyData.strOk acc = true → (∀ t ∈ ts, PyData.strOk t = true) → PyData.strOk (textFrom k acc ts) = true
 | [], k, acc, ha, _ => ha
 | t :: r, k, acc, ha, h => by
  have e0 : PyData.strOk (((if k > 0 then ", " else "" : String)) : Str) = true := by
   split <;> decide +kernel
  refine og r (k + 1) (acc ++ (if k > 0 then ", " else "" : String) ++ t) ?_ fun x hx => h x (by simp [hx])
  rw [fL, fL, ha, e0, h t (by simp)]
  rfl
theorem wD {ts : List Str} (h : ∀ t ∈ ts, PyData.strOk t = true) : PyData.strOk (listText ts) = true := by
 unfold listText
 rw [fL, og ts 0 "[" (by decide +kernel) h]
 decide +kernel
theorem zN : ∀ {ts : List Str}, (∀ t ∈ ts, PyData.strOk t = true) → PyData.strOk (Str.join ", " ts) = true
 | [], _ => by decide +kernel
 | [x], h => h x (by simp)
 | x :: y :: r, h => by
  show PyData.strOk (x ++ ((", " : String) : Str) ++ Str.join ", " (y :: r)) = true
  rw [fL, fL, h x (by simp), zN (ts := y :: r) fun t ht => h t (by simp at ht ⊢; exact .inr ht)]
  decide +kernel
theorem t7 {ts : List Str} (h : ∀ t ∈ ts, PyData.strOk t = true) : PyData.strOk (tupleText ts) = true := by
 unfold tupleText
 rw [fL, fL, zN h]
 split <;> decide +kernel
theorem oh {n : Nat} : ∀ (ts : List Str) (k : Nat) (acc : Str), (∀ t ∈ ts, t.length ≤ n) → (textFrom k acc ts).length ≤ acc.length + ts.length * (n + 2)
 | [], k, acc, _ => by show acc.length ≤ _; omega
 | t :: r, k, acc, h => by
  have e0 : (((if k > 0 then ", " else "" : String)) : Str).length ≤ 2 := by
   split
   ·exact (by decide : (2 : Nat) ≤ 2)
   ·exact (by decide : (0 : Nat) ≤ 2)
  have e : (acc ++ (if k > 0 then ", " else "" : String) ++ t).length ≤ acc.length + 2 + t.length := by
   rw [Str.length_append, Str.length_append]
   omega
  have ih := oh (n := n) r (k + 1) (acc ++ (if k > 0 then ", " else "" : String) ++ t) fun x hx => h x (by simp [hx])
  have ht := h t (by simp)
  show (textFrom (k + 1) (acc ++ (if k > 0 then ", " else "" : String) ++ t) r).length ≤ _
  rw [List.length_cons, Nat.succ_mul]
  omega
theorem wF {n : Nat} {ts : List Str} (h : ∀ t ∈ ts, t.length ≤ n) : (listText ts).length ≤ ts.length * (n + 2) + 2 := by
 unfold listText
 rw [Str.length_append]
 have := oh ts 0 "[" h
 have e1 : (("[" : String) : Str).length = 1 := rfl
 have e2 : (("]" : String) : Str).length = 1 := rfl
 omega
theorem v9 {n : Nat} : ∀ (ts : List Str), (∀ t ∈ ts, t.length ≤ n) → piled ts ≤ ts.length * (n + 2)
 | [], _ => by simp [piled]
 | t :: r, h => by
  have ih := v9 r fun x hx => h x (by simp [hx])
  have ht := h t (by simp)
  simp only [piled, List.map_cons, List.sum_cons, List.length_cons, Nat.succ_mul] at ih ⊢
  omega
theorem t8 {n : Nat} {ts : List Str} (h : ∀ t ∈ ts, t.length ≤ n) : (tupleText ts).length ≤ ts.length * (n + 2) + 3 := by
 unfold tupleText
 rw [Str.length_append, Str.length_append]
 have e1 : ((",)" : String) : Str).length = 2 := rfl
 have e2 : ((")" : String) : Str).length = 1 := rfl
 have e3 : (("(" : String) : Str).length = 1 := rfl
 have hj : (Str.join ", " ts).length ≤ ts.length * (n + 2) := by
  cases ts with
  | nil => show (0 : Nat) ≤ _; omega
  | cons x r =>
   have := join_length_add (x :: r) (by simp)
   have := v9 (x :: r) h
   omega
 split <;> omega
theorem bX : ∀ {ds : List PyData}, PyData.shownAll ds = ds.map PyData.shown
 | [] => rfl
 | d :: ds => by simp only [PyData.shownAll, List.map_cons, bX]
theorem gF : ∀ {ds : List PyData}, (∀ d ∈ ds, d.showable = true) → PyData.showableAll ds = true
 | [], _ => rfl
 | d :: ds, h => by
  simp only [PyData.showableAll, Bool.and_eq_true]
  exact ⟨h d (by simp), gF fun e he => h e (by simp [he])⟩
theorem Vl.all {d n : Nat} : ∀ {xs : List T}, (∀ x ∈ xs, Vl d n x) → ∃ ds, dE (dT d) xs = ξ ds ∧ ds.length = xs.length ∧ ∀ D ∈ ds, D.showable = true ∧ D.shown.length ≤ n ∧ D.canLay0 = true ∧ D.depth ≤ d ∧ PyData.strOk D.shown = true
 | [], _ => ⟨[], rfl, rfl, by simp⟩
 | x :: xs, h => by
  obtain ⟨D, e, hD⟩ := (h x (by simp)).dat
  obtain ⟨ds, e2, hl, hds⟩ := Vl.all (xs := xs) fun y hy => h y (by simp [hy])
  refine ⟨D :: ds, by simp only [dE, e, e2], by simp [hl], fun E hE => ?_⟩
  rcases List.mem_cons.mp hE with rfl | hE
  ·exact hD
  ·exact hds E hE
theorem Vl.hots {d n : Nat} {xs : List T} (h : ∀ x ∈ xs, Vl d n x) : hots xs = false := hots_iff.mpr fun x hx => (h x hx).cold
theorem Vl.tup {d n k : Nat} {xs : List T} (h : ∀ x ∈ xs, Vl d n x) (hl : xs.length ≤ k) : Vl (d + 1) (k * (n + 2) + 3) (.tup xs) := by
 obtain ⟨ds, e, hdl, hds⟩ := Vl.all h
 refine ⟨by simp [Vl.hots h], .tuple ds, by simp only [dT, e], ?_, ?_, ?_, ?_, ?_⟩
 ·simp only [PyData.showable]
  exact gF fun D hD => (hds D hD).1
 ·simp only [PyData.shown]
  have := t8 (n := n) (ts := PyData.shownAll ds) (by
   rw [bX]
   intro t ht
   obtain ⟨D, hD, rfl⟩ := List.mem_map.mp ht
   exact (hds D hD).2.1)
  rw [bX, List.length_map, hdl] at this
  rw [bX]
  exact Nat.le_trans this (Nat.add_le_add_right (Nat.mul_le_mul_right _ hl) _)
 ·simp only [PyData.canLay0]
  exact cZ fun D hD => (hds D hD).2.2.1
 ·simp only [PyData.depth]
  exact Nat.succ_le_succ (eK fun D hD => (hds D hD).2.2.2.1)
 ·simp only [PyData.shown]
  rw [bX]
  refine t7 fun t ht => ?_
  obtain ⟨D, hD, rfl⟩ := List.mem_map.mp ht
  exact (hds D hD).2.2.2.2
theorem Vl.lst {d n k : Nat} {xs : List T} (h : ∀ x ∈ xs, Vl d n x) (hl : xs.length ≤ k) : Vl (d + 1) (k * (n + 2) + 3) (.nd false .lst xs) := by
 obtain ⟨ds, e, hdl, hds⟩ := Vl.all h
 refine ⟨by simp [Vl.hots h], .list ds, by simp only [dT, e], ?_, ?_, ?_, ?_, ?_⟩
 ·simp only [PyData.showable]
  exact gF fun D hD => (hds D hD).1
 ·simp only [PyData.shown]
  have := wF (n := n) (ts := PyData.shownAll ds) (by
   rw [bX]
   intro t ht
   obtain ⟨D, hD, rfl⟩ := List.mem_map.mp ht
   exact (hds D hD).2.1)
  rw [bX, List.length_map, hdl] at this
  rw [bX]
  have := Nat.mul_le_mul_right (n + 2) hl
  omega
 ·simp only [PyData.canLay0]
  exact cZ fun D hD => (hds D hD).2.2.1
 ·simp only [PyData.depth]
  exact Nat.succ_le_succ (eK fun D hD => (hds D hD).2.2.2.1)
 ·simp only [PyData.shown]
  rw [bX]
  refine wD fun t ht => ?_
  obtain ⟨D, hD, rfl⟩ := List.mem_map.mp ht
  exact (hds D hD).2.2.2.2
theorem mH : ∀ {d e : Nat} {x : T} {D : PyData}, dT d x = ξ D → d ≤ e → dT e x = ξ D := by
 intro d
 induction d with
 | zero => intro e x D h; cases h
 | succ d ih =>
  intro e x D h hle
  obtain ⟨e, rfl⟩ : ∃ k, e = k + 1 := ⟨e - 1, by omega⟩
  have key : ∀ {xs : List T} {ds : List PyData}, dE (dT d) xs = ξ ds → dE (dT e) xs = ξ ds := by
   intro xs
   induction xs with
   | nil => intro ds h; exact h
   | cons y ys ih2 =>
    intro ds h
    unfold dE at h ⊢
    cases h1 : dT d y with
    | none => rw [h1] at h; cases h
    | some a =>
     cases h2 : dE (dT d) ys with
     | none => rw [h1, h2] at h; cases h
     | some b =>
      rw [h1, h2] at h
      rw [ih h1 (by omega), ih2 h2]
      exact h
  cases x with
  | tup xs =>
   simp only [dT] at h ⊢
   cases h1 : dE (dT d) xs with
   | none => rw [h1] at h; cases h
   | some ds => rw [h1] at h; rw [key h1]; exact h
  | nd o k xs =>
   cases k <;> first | (cases h; done) | skip
   simp only [dT] at h ⊢
   cases h1 : dE (dT d) xs with
   | none => rw [h1] at h; cases h
   | some ds => rw [h1] at h; rw [key h1]; exact h
  | im k xs => cases h
  | non => exact h
  | bl b => exact h
  | int i => exact h
  | str x => exact h
  | ob a => cases h
  | ty a => cases h
  | scr a => cases h
theorem Vl.mono {d e n m : Nat} {x : T} (h : Vl d n x) (hd : d ≤ e) (hn : n ≤ m) : Vl e m x := by
 obtain ⟨hc, D, h1, h2, h3, h4, h5⟩ := h
 exact ⟨hc, D, mH h1 hd, h2, Nat.le_trans h3 hn, h4, Nat.le_trans h5.1 hd, h5.2⟩
theorem Vl.non : Vl 1 10 .non := ⟨rfl, .none, rfl, rfl, by decide +kernel, rfl, by decide, by decide +kernel⟩
theorem Vl.bl {b : Bool} : Vl 1 10 (.bl b) := ⟨rfl, .bool b, rfl, rfl, by cases b <;> decide +kernel, rfl, by simp [PyData.depth], by cases b <;> decide +kernel⟩
theorem x3 {d n : Nat} {x : T} (h : Vl d n x) (hd : d ≤ 60) (hn : n ≤ 1000000) : ∃ D, dT 60 x = ξ D ∧ qRepD [x] = ξ (.pur (.str D.shown)) ∧ PyData.strOk D.shown = true := by
 obtain ⟨hc, D, h1, h2, h3, h4, h5⟩ := h
 refine ⟨D, mH h1 hd, ?_, h5.2⟩
 have hok : kQ D = true := by
  unfold kQ
  rw [h2, PyData.hasDict_of_canLay D h4]
  simp only [Bool.true_and, Bool.not_false, Bool.and_eq_true]
  exact ⟨Nat.ble_eq_true_of_le (Nat.le_trans h5.1 hd), Nat.ble_eq_true_of_le (Nat.le_trans h3 (eO hn))⟩
 show (match dT 60 x with
  | some d => if kQ d = true then ξ (PN.pur (.str d.shown)) else ζ
  | none => ζ) = _
 rw [mH h1 hd]
 simp only [hok, if_true]
theorem v5 {d n : Nat} {x : T} (h : Vl d n x) (hd : d ≤ 60) : x6 x x = ξ (.pur (.bl true)) := by
 obtain ⟨hc, D, h1, h2, h3, h4, h5⟩ := h
 unfold x6
 rw [mH h1 hd]
 simp only [SeqAt.eqv_refl D h4]
theorem Vl.ty {d n : Nat} {x : T} (h : Vl d n x) : ∃ a, tyN x = ξ a := by
 obtain ⟨hc, D, h1, _⟩ := h
 cases d with
 | zero => cases h1
 | succ d =>
  cases x <;> first | exact ⟨_, rfl⟩ | (cases h1; done) | skip
  rename_i o k xs
  cases k <;> first | exact ⟨_, rfl⟩ | (cases h1; done)
section
variable {c: Cn}
def qP : T → Bool
 | .int _ => true
 | _ => false
def ik (x : T) (n : Nat) : Bool := match x with
 | .int i => decide (0 ≤ i ∧ i < n)
 | _ => false
theorem IG {x : T} {a : String} (h : tyN x = ξ a) : (isaB a "int" && !isaB a "bool") = qP x := by
 cases x <;> simp only [tyN] at h <;> first | (cases h; rfl) | (cases h; done) | skip
 rename_i o k ts
 cases k <;> simp only [tyN] at h <;> first | (cases h; done) | (cases h; rfl)
theorem uJ (ok : CnOk c) {x : T} {a : String} (h : tyN x = ξ a) : jI c [x] = ξ (.ok (.bl (qP x)) []) := by
 have h1 := ok.base x a "int" h (by simp)
 have h2 := ok.base x a "bool" h (by simp)
 rw [← IG h]
 cases hb : isaB a "int" <;> rw [hb] at h1 <;> simp [jI, bE, kZ, h1, h2, eP]
theorem ym (ok : CnOk c) {x : T} {n : Nat} {a : String} (h : tyN x = ξ a) (hc : hot x = false) : fW c [x, .int n] = ξ (.ok (.bl (ik x n)) []) := by
 have e := uJ ok h
 cases hx : qP x with
 | false =>
  rw [hx] at e
  have hb : ik x n = false := by cases x <;> first | rfl | (simp [qP] at hx)
  rw [hb]
  simp [fW, bE, iM, hc, e, eP]
 | true =>
  rw [hx] at e
  cases x <;> first | (simp [qP] at hx; done) | skip
  rename_i i
  simp only [ik]
  by_cases h0 : 0 ≤ i
  ·simp [fW, bE, iM, e, eP, h0]
  ·simp [fW, bE, iM, e, eP, h0]
theorem rB {α : Type} {f : α → Bool} : ∀ {l : List α}, jG (l.map fun x => T.bl (f x)) = ξ (l.map f)
 | [] => rfl
 | x :: l => by simp only [List.map_cons, jG, rB]
theorem jx {o : Bool} {bs : List Bool} : mw [.nd o .lst (bs.map T.bl)] = ξ (.pur (.bl (bs.all id))) := by
 show (match jG (bs.map T.bl) with
  | some bs => ξ (PN.pur (.bl (bs.all id)))
  | none => ζ) = _
 have := rB (f := id) (l := bs)
 rw [List.map_id] at this
 rw [show bs.map T.bl = bs.map fun x => T.bl (id x) from rfl, this]
def kindT (c : Cn) (t : Tab) : T := .nd false (.ins (c.cl "Kind") ["entries"]) [pR t]
@[simp] theorem E2 {t : Tab} : hot (kindT c t) = false := by simp [kindT]
theorem fR {ts : List Tab} : hots (ts.map (kindT c)) = false := aU fun x _ => E2
theorem Dq {t : Tab} : cm [pR t] = ξ (.pur (.int t.1)) := by simp [pR]
theorem HC {t : Tab} {x : Nat} (h : x < t.1) : fB (pR t) (.int x) = ξ (.pur (nB t.1 (t.2 x))) := gk (ts := (List.range t.1).map fun x => nB t.1 (t.2 x)) rfl (cC h)
theorem A6 {s : Nat} {f : Nat → Nat → Nat} {y : Nat} (h : y < s) : fB (nB s f) (.int y) = ξ (.pur (sY s (f y))) := gk (ts := (List.range s).map fun y => sY s (f y)) rfl (cC h)
theorem Ds {s : Nat} {f : Nat → Nat} {z : Nat} (h : z < s) : fB (sY s f) (.int z) = ξ (.pur (.int (f z : Nat))) := gk (ts := (List.range s).map fun z => T.int (f z : Nat)) rfl (cC h)
theorem wY {t : Tab} : ib (c.cl "Kind") "entries" (kindT c t) = ξ (pR t) := by
 simp [ib, kindT, y0]
theorem Ln {t : Tab} : gz c [kindT c t] = ξ (.ok (.int t.1) []) := by
 simp [gz, bE, mM, wY, Dq, eP]
theorem JL {t : Tab} {x y z : Nat} (hx : x < t.1) (hy : y < t.1) (hz : z < t.1) : jJ c [kindT c t, .int x, .int y, .int z] = ξ (.ok (.int (t.2 x y z : Nat)) []) := by
 simp [jJ, bE, k6, wY, HC hx, A6 hy, Ds hz, eP]
theorem Eh {vi : VI} {g : VG} {elt : VD} {zs : List Nat} {te : TE} {ts : List T} (f : Nat → T → T) (hi : vi te = ξ (.ok ts te)) (hl : ts.length ≤ 1000000) (hc : dN te zs = true) (hw : aT te zs = te) (hr : cM te te zs = te)
  (step : ∀ (i : Nat) t, ts[i]? = ξ t → ∃ te1 te3, g t te = ξ te1 ∧ elt te1 = ξ (.ok (f i t) te3) ∧ aT te3 zs = te) : vm vi g fv elt zs te = ξ (.ok (.nd true .lst (ts.mapIdx f)) te) := by
 have h := GW (g := g) (elt := elt) (zs := zs) (ts := ts) (te := te) f step
 rw [pq]
 simp only [hi, bM, if_pos (eO hl), if_pos hc, hw, h, hr]
theorem sV {ts : List T} {f : Nat → T → Bool} : (ts.mapIdx fun i t => T.bl (f i t)) = (ts.mapIdx f).map T.bl := by
 apply List.ext_getElem?
 intro i
 rw [List.getElem?_mapIdx, List.getElem?_map, List.getElem?_mapIdx]
 cases ts[i]? <;> rfl
end
abbrev Row := List Nat
def rowT (r : Row) : T := .tup (r.map fun v => T.int (v : Nat))
def RowOK (ts : List Tab) (r : Row) : Prop := r.length = ts.length ∧ ∀ (i : Nat) (t : Tab) (v : Nat), ts[i]? = ξ t → r[i]? = ξ v → v < t.1
def comb (ts : List Tab) (x y z : Row) : Row := (List.range ts.length).map fun i => match ts[i]?, x[i]?, y[i]?, z[i]? with
 | some t, ξ a, ξ b, ξ c => t.2 a b c
 | _, _, _, _ => 0
@[simp] theorem ck {r : Row} : hot (rowT r) = false := by
  unfold rowT
  rw [iH]
  exact aU fun _ _ => rfl
theorem ig {ts : List Tab} {x y z : Row} : (comb ts x y z).length = ts.length := by simp [comb]
theorem RowOK.at_ {ts : List Tab} {r : Row} (h : RowOK ts r) {i : Nat} {t : Tab} (e : ts[i]? = ξ t) : ∃ v, r[i]? = ξ v ∧ v < t.1 := by
 have hi := (List.getElem?_eq_some_iff.mp e).1
 have hr : i < r.length := by rw [h.1]; exact hi
 exact ⟨r[i], List.getElem?_eq_getElem hr, h.2 i t _ e (List.getElem?_eq_getElem hr)⟩
theorem mI {ts : List Tab} {x y z : Row} {i : Nat} {t : Tab} {a b c : Nat} (e : ts[i]? = ξ t) (h1 : x[i]? = ξ a) (h2 : y[i]? = ξ b) (h3 : z[i]? = ξ c) : (comb ts x y z)[i]? = ξ (t.2 a b c) := by
 have hi := (List.getElem?_eq_some_iff.mp e).1
 unfold comb
 rw [cC hi, e, h1, h2, h3]
theorem JA {ts : List Tab} {x y z : Row} (good : ∀ t ∈ ts, GoodT t) (hx : RowOK ts x) (hy : RowOK ts y) (hz : RowOK ts z) : RowOK ts (comb ts x y z) := by
 refine ⟨ig, fun i t v e h => ?_⟩
 obtain ⟨a, h1, h1'⟩ := hx.at_ e
 obtain ⟨b, h2, h2'⟩ := hy.at_ e
 obtain ⟨c, h3, h3'⟩ := hz.at_ e
 rw [mI e h1 h2 h3] at h
 cases h
 exact ((good t (List.mem_of_getElem? e)).line a b h1' h2' c h3').1
theorem pC {r : Row} {i v : Nat} (h : r[i]? = ξ v) : (r.map fun v => T.int (v : Nat))[i]? = ξ (.int v) := by
 rw [List.getElem?_map, h]
 rfl
@[simp] theorem Qy {ts : List Tab} : hot (Cv ts) = false := by simp [Cv, Bq]
section
variable {c: Cn}
structure KindsAt (c : Cn) (ts : List Tab) (ks : T) : Prop where
 cold : hot ks = false
 seq : seqT ks = ξ (ts.map (kindT c))
theorem nK {ts : List Tab} : KindsAt c ts (.tup (ts.map (kindT c))) := ⟨by simp [fR], rfl⟩
theorem KindsAt.len {ts : List Tab} {ks : T} (h : KindsAt c ts ks) : cm [ks] = ξ (.pur (.int ts.length)) := by
 have hs := h.seq
 cases ks <;> first | (cases hs; done) | skip
 ·simp only [seqT] at hs
  rename_i ns
  have := Option.some.inj hs
  cases ns with
  | nil =>
   have h0 : ts = [] := by cases ts with | nil => rfl | cons a l => simp at this
   subst h0
   rfl
  | cons a l =>
   cases ts with
   | nil => simp at this
   | cons b l' => simp [kindT] at this
 ·cases hs
  simp
 ·rename_i o k xs
  cases k <;> first | (cases hs; done) | skip
  cases hs
  simp
 ·rename_i k xs
  cases k <;> first | (cases hs; done) | skip
  cases hs
  show ξ (PN.pur (.int (((ts.map (kindT c)).length : Nat) : Int))) = _
  rw [List.length_map]
theorem uZ {xs : List (List T)} {n i : Nat} {t : T} (h : (rL xs n)[i]? = ξ t) : i < n ∧ t = .tup (BU xs i) := by
 unfold rL at h
 have hi : i < n := by
  have := (List.getElem?_eq_some_iff.mp h).1
  simpa using this
 rw [cC hi] at h
 exact ⟨hi, (Option.some.inj h).symm⟩
theorem pI {xs : List (List T)} {n : Nat} : (rL xs n).length = n := by simp [rL]
@[simp] theorem OI {n : Nat} {as : VA} {te : TE} : GX n as te = a9 (as te) fun ts te1 => match ts with
  | [] => ζ
  | t0 :: _ => if ts.length = n ∧ hots ts = false then (match vQ ts, seqT t0 with
    | some xs, ξ x0 => if xs.all (fun x => x.length == x0.length) = true then ξ (.ok (rL xs x0.length) te1) else ζ
    | _, _ => ζ) else ζ := rfl
theorem cy {α : Type} {l : List α} {i : Nat} {a d : α} (h : l[i]? = ξ a) : l.getD i d = a := by simp [List.getD, h]
theorem BQ {ts : List Tab} {ks : T} {x y z : Row} (hk : KindsAt c ts ks) (hl : ts.length ≤ 1000) (hx : RowOK ts x) (hy : RowOK ts y) (hz : RowOK ts z) : nV c [ks, rowT x, rowT y, rowT z] = ξ (.ok (rowT (comb ts x y z)) []) := by
 have key : VCP (nV c [ks, rowT x, rowT y, rowT z]) fun r fs => r = rowT (comb ts x y z) ∧ fs = [] := by
  refine JU rfl ?_
  unfold rG
  refine FU (te1 := [ξ ks, ξ (rowT x), ξ (rowT y), ξ (rowT z), ξ (.nd true .lst []), ζ, ζ, ζ, ζ]) (by simp) ?_
  refine Ac (FT ?_)
  have hsx : ∀ r, seqT (rowT r) = ξ (r.map fun v => T.int (v : Nat)) := fun r => rfl
  refine JT (ts := rL [ts.map (kindT c), x.map fun v => T.int (v : Nat), y.map fun v => T.int (v : Nat), z.map fun v => T.int (v : Nat)] ts.length) (te1 := [ξ ks, ξ (rowT x), ξ (rowT y), ξ (rowT z), ξ (.nd true .lst []), ζ, ζ, ζ, ζ]) ?_ ?_
  ·simp [hk.cold, hk.seq, hsx, vQ, hx.1, hy.1, hz.1]
  ·refine vfor (fun i te => te = [ξ ks, ξ (rowT x), ξ (rowT y), ξ (rowT z), ξ (.nd true .lst (((comb ts x y z).take i).map fun v => T.int (v : Nat))), ζ, ζ, ζ, ζ]) ?_ ?_ (by simp)
   ·rintro i t te ht rfl
    obtain ⟨hi, rfl⟩ := uZ ht
    have eT := List.getElem?_eq_getElem hi
    obtain ⟨u, hu, hu'⟩ := hx.at_ eT
    obtain ⟨v, hv, hv'⟩ := hy.at_ eT
    obtain ⟨w, hw, hw'⟩ := hz.at_ eT
    have hcol : BU [ts.map (kindT c), x.map fun v => T.int (v : Nat), y.map fun v => T.int (v : Nat), z.map fun v => T.int (v : Nat)] i = [kindT c ts[i], .int u, .int v, .int w] := by
     simp only [BU, List.map_cons, List.map_nil, cy (pC hu), cy (pC hv), cy (pC hw)]
     rw [cy (show (ts.map (kindT c))[i]? = ξ (kindT c ts[i]) by rw [List.getElem?_map, eT]; rfl)]
    rw [hcol]
    have htake : (comb ts x y z).take (i + 1) = (comb ts x y z).take i ++ [(ts[i]).2 u v w] := by
     rw [List.take_add_one, mI eT hu hv hw]
     rfl
    have hsz : (((comb ts x y z).take i).map fun v => T.int (v : Nat)).length < sizeLine := szl (by simp; omega)
    have hap := JL (c := c) hu' hv' hw'
    refine ⟨_, rfl, .next, [ξ ks, ξ (rowT x), ξ (rowT y), ξ (rowT z), ξ (.nd true .lst (((comb ts x y z).take (i + 1)).map fun v => T.int (v : Nat))), ζ, ζ, ζ, ζ], ?_, rfl⟩
    have hk0 : kindT c ts[i] = .nd false (.ins (c.cl "Kind") ["entries"]) [pR ts[i]] := rfl
    have hct : (["entries"] : List Str).contains "apply" = false := by decide
    simp only [An, i7, sA, tZ, bM, qM, List.set_cons_zero, List.set_cons_succ, List.getElem?_cons_zero, List.getElem?_cons_succ, tP, pN, sx, nh, Ak, hk0, hct, and_self, if_true, G6, ka, g8, qV, zU, Bool.or_self, Bool.false_eq_true, if_false, Jc, uR, List.length_nil, nA, oJ, if_pos hsz, xC, Aj, htake, List.map_append, List.map_cons, List.map_nil]
    rw [← hk0, hap]
    have hsz2 : min i (List.length (comb ts x y z)) < sizeLine := szl (by omega)
    simp [hsz2]
   ·rintro te rfl
    rw [pI, List.take_of_length_le (by rw [ig]; exact Nat.le_refl _)]
    have hh : hots ((comb ts x y z).map fun v => T.int (v : Nat)) = false := aU fun _ _ => rfl
    exact JS (t := rowT (comb ts x y z)) (te1 := [ζ, ζ, ζ, ζ, ξ (.nd true .lst ((comb ts x y z).map fun v => T.int (v : Nat))), ζ, ζ, ζ, ζ]) (by simp [hh, rowT]) ⟨[], rfl, rfl, rfl⟩
 obtain ⟨r, fs, e, rfl, rfl⟩ := key
 exact e
end
structure Elt (x : T) : Prop where
 cold : hot x = false
 ty : ∃ a, tyN x = ξ a
theorem Vl.elt {d n : Nat} {x : T} (h : Vl d n x) : Elt x := ⟨h.cold, h.ty⟩
theorem QN {d : Nat} {x : T} {D : PyData} (h : dT d x = ξ D) : ∃ a, tyN x = ξ a := by
 cases d with
 | zero => cases h
 | succ d =>
  cases x <;> first | exact ⟨_, rfl⟩ | (cases h; done) | skip
  rename_i o k xs
  cases k <;> first | exact ⟨_, rfl⟩ | (cases h; done)
theorem tN {α β : Type} {f : α → Option β} : ∀ {xs : List α} {ds : List β}, dE f xs = ξ ds → ∀ x ∈ xs, ∃ d, f x = ξ d
 | [], _, _, x, hx => by cases hx
 | y :: ys, _, h, x, hx => by
  unfold dE at h
  cases h1 : f y with
  | none => rw [h1] at h; cases h
  | some a =>
   cases h2 : dE f ys with
   | none => rw [h1, h2] at h; cases h
   | some b =>
    rcases List.mem_cons.mp hx with rfl | hx
    ·exact ⟨a, h1⟩
    ·exact tN h2 x hx
theorem Elt.is {c : Cn} (ok : CnOk c) {x : T} (h : Elt x) (n : String) (hn : n = "int" ∨ n = "bool" ∨ n = "str" ∨ n = "tuple" ∨ n = "list") : ∃ a, tyN x = ξ a ∧ c.isi x (.ty n) = ξ (isaB a n) := by
 obtain ⟨a, ha⟩ := h.ty
 exact ⟨a, ha, ok.base x a n ha hn⟩
def isTup : T → Bool
 | .tup _ => true
 | _ => false
def isLst : T → Bool
 | .nd _ .lst _ => true
 | _ => false
theorem Elt.isTup {c : Cn} (ok : CnOk c) {x : T} (h : Elt x) : c.isi x (.ty "tuple") = ξ (QP.isTup x) := by
 obtain ⟨a, ha, e⟩ := h.is ok "tuple" (by simp)
 rw [e]
 congr 1
 cases x <;> simp only [tyN] at ha <;> first | (cases ha; rfl) | (cases ha; done) | skip
 rename_i o k ts
 cases k <;> simp only [tyN] at ha <;> first | (cases ha; done) | (cases ha; rfl)
theorem Elt.isLst {c : Cn} (ok : CnOk c) {x : T} (h : Elt x) : c.isi x (.ty "list") = ξ (QP.isLst x) := by
 obtain ⟨a, ha, e⟩ := h.is ok "list" (by simp)
 rw [e]
 congr 1
 cases x <;> simp only [tyN] at ha <;> first | (cases ha; rfl) | (cases ha; done) | skip
 rename_i o k ts
 cases k <;> simp only [tyN] at ha <;> first | (cases ha; done) | (cases ha; rfl)
def nj (ts : List Tab) (i : Nat) : Nat := (ts.getD i (1, fun _ _ _ => 0)).1
def vX (ts : List Tab) (xs : List T) : Bool := xs.length == ts.length && (List.range ts.length).all fun i => ik (xs.getD i .non) (nj ts i)
def isRowB (ts : List Tab) (x : T) : Bool := match x with
 | .tup xs => vX ts xs
 | _ => false
theorem Od {ts : List Tab} {x : T} (h : isRowB ts x = true) : ∃ r, x = rowT r ∧ RowOK ts r := by
 cases x <;> first | (cases h; done) | skip
 rename_i xs
 simp only [isRowB, vX, Bool.and_eq_true, beq_iff_eq, List.all_eq_true, List.mem_range] at h
 obtain ⟨hl, hb⟩ := h
 have key : ∀ i, i < ts.length → ∃ v : Nat, xs[i]? = ξ (.int v) ∧ v < nj ts i := by
  intro i hi
  have hx : i < xs.length := by omega
  have := hb i hi
  rw [cy (List.getElem?_eq_getElem hx)] at this
  cases hxi : xs[i] <;> rw [hxi] at this <;> first | (cases this; done) | skip
  rename_i j
  simp only [ik, decide_eq_true_eq] at this
  exact ⟨j.toNat, by rw [List.getElem?_eq_getElem hx, hxi]; congr 2; omega, by omega⟩
 refine ⟨(List.range ts.length).map fun (i : Nat) => (match xs[i]? with
  | some (T.int j) => j.toNat
  | _ => 0), ?_, by simp, fun i t v e hv => ?_⟩
 ·unfold rowT
  congr 1
  apply List.ext_getElem?
  intro i
  rw [List.getElem?_map]
  by_cases hi : i < ts.length
  ·obtain ⟨v, e, _⟩ := key i hi
   rw [cC hi, e]
   simp
  ·rw [List.getElem?_eq_none (by omega), List.getElem?_eq_none (by simpa using hi)]
   rfl
 ·have hi := (List.getElem?_eq_some_iff.mp e).1
  obtain ⟨u, eu, hu⟩ := key i hi
  rw [cC hi, eu] at hv
  have hs : nj ts i = t.1 := by
   unfold nj
   rw [cy e]
  simp at hv
  omega
theorem sL {ts : List Tab} {r : Row} (h : RowOK ts r) : isRowB ts (rowT r) = true := by
 simp only [isRowB, rowT, vX, Bool.and_eq_true, beq_iff_eq, List.length_map, List.all_eq_true, List.mem_range]
 refine ⟨h.1, fun i hi => ?_⟩
 have e := List.getElem?_eq_getElem hi
 obtain ⟨v, hv, hv'⟩ := h.at_ e
 rw [cy (pC hv)]
 have hs : nj ts i = (ts[i]).1 := by
  unfold nj
  rw [cy e]
 simp [ik, hs, hv']
theorem uA {f : Nat → Bool} {xs : List T} {n : Nat} (h : xs.length = n) : (xs.mapIdx fun i _ => f i).all id = (List.range n).all f := by
 rw [Bool.eq_iff_iff, List.all_eq_true, List.all_eq_true]
 constructor
 ·intro hh i hi
  have hi' : i < xs.length := by rw [h]; exact List.mem_range.mp hi
  exact hh (f i) (List.mem_iff_getElem?.mpr ⟨i, by rw [List.getElem?_mapIdx, List.getElem?_eq_getElem hi']; rfl⟩)
 ·intro hh b hb
  obtain ⟨i, hi⟩ := List.mem_iff_getElem?.mp hb
  rw [List.getElem?_mapIdx] at hi
  cases hx : xs[i]? with
  | none => rw [hx] at hi; cases hi
  | some t =>
   rw [hx] at hi
   cases hi
   exact hh i (List.mem_range.mpr (by rw [← h]; exact (List.getElem?_eq_some_iff.mp hx).1))
section
variable {c: Cn}
theorem yt {bs : List Bool} : hots (bs.map T.bl) = false := aU fun _ _ => rfl
theorem wH (ok : CnOk c) {ts : List Tab} {ks x : T} (hk : KindsAt c ts ks) (hl : ts.length ≤ 1000) (hx : Elt x) (hxs : ∀ xs, x = .tup xs → ∀ y ∈ xs, Elt y) : e8 c [ks, x] = ξ (.ok (.bl (isRowB ts x)) []) := by
 have hT := hx.isTup ok
 cases ht : QP.isTup x with
 | false =>
  rw [ht] at hT
  have hb : isRowB ts x = false := by cases x <;> first | rfl | (simp [QP.isTup] at ht)
  rw [hb]
  simp [e8, bE, kI, hT, eP]
 | true =>
  rw [ht] at hT
  cases x <;> first | (simp [QP.isTup] at ht; done) | skip
  rename_i xs
  by_cases hlen : xs.length = ts.length
  ·have hcold : hots xs = false := by simpa using hx.cold
   have hlc := Eh (vi := GX 2 (aa (au (ae 1)) (aa (au (ae 0)) ah))) (g := kb 2 (bc (gName 2) (bc (gName 3) gQ))) (elt := bj (fW c) [] (aa (au (ae 2)) (aa (yX (c.cl "Kind") (gz c) (ae 3)) ah))) (zs := [2, 3]) (te := [ξ ks, ξ (.tup xs), ζ, ζ]) (ts := rL [xs, ts.map (kindT c)] xs.length) (fun i _ => .bl (ik (xs.getD i .non) (nj ts i))) (by simp [hk.cold, hk.seq, hcold, vQ, hlen]) (by rw [pI]; omega) (by simp) (by simp) (by simp) (fun i t hi0 => by
    obtain ⟨hi, rfl⟩ := uZ hi0
    have eX := List.getElem?_eq_getElem hi
    have hit : i < ts.length := by omega
    have eT := List.getElem?_eq_getElem hit
    have hcol : BU [xs, ts.map (kindT c)] i = [xs[i], kindT c ts[i]] := by
     simp only [BU, List.map_cons, List.map_nil, cy eX]
     rw [cy (show (ts.map (kindT c))[i]? = ξ (kindT c ts[i]) by rw [List.getElem?_map, eT]; rfl)]
    rw [hcol, cy eX]
    have hs : nj ts i = (ts[i]).1 := by
     unfold nj
     rw [cy eT]
    rw [hs]
    obtain ⟨a, ha⟩ := (hxs xs rfl _ (List.getElem_mem hi)).ty
    have hcx := (hxs xs rfl _ (List.getElem_mem hi)).cold
    have hb := ym ok (n := (ts[i]).1) ha hcx
    have hsz : yX (c.cl "Kind") (gz c) (ae 3) [ξ ks, ξ (.tup xs), ξ xs[i], ξ (kindT c ts[i])] = ξ (.ok (.int (ts[i]).1) [ξ ks, ξ (.tup xs), ξ xs[i], ξ (kindT c ts[i])]) := by
     have h0 : kindT c ts[i] = .nd false (.ins (c.cl "Kind") ["entries"]) [pR ts[i]] := rfl
     have hv := Ln (c := c) (t := ts[i])
     rw [h0] at hv
     simp [yX, h0, hv]
    exact ⟨_, [ξ ks, ξ (.tup xs), ξ xs[i], ξ (kindT c ts[i])], rfl, by simp [hcx, hsz, hb], by simp⟩)
   rw [sV (f := fun i _ => ik (xs.getD i .non) (nj ts i))] at hlc
   have hqa : mw [.nd false .lst (((rL [xs, ts.map (kindT c)] xs.length).mapIdx fun i _ => ik (xs.getD i .non) (nj ts i)).map T.bl)] = ξ (.pur (.bl (vX ts xs))) := by
    rw [jx, uA (f := fun i => ik (xs.getD i .non) (nj ts i)) (n := ts.length) (by rw [pI]; exact hlen)]
    simp [vX, hlen]
   generalize ((rL [xs, ts.map (kindT c)] xs.length).mapIdx fun i _ => ik (xs.getD i .non) (nj ts i)) = bs at hlc hqa
   simp [e8, bE, kI, hT, hk.len, hlen, eP, -pq, hlc, frzs_of yt, hqa, isRowB]
  ·have hb : isRowB ts (.tup xs) = false := by simp [isRowB, vX, hlen]
   have hl' : ¬ (xs.length : Int) = ts.length := by omega
   rw [hb]
   simp [e8, bE, kI, hT, hk.len, hl', eP]
end
structure Dat (x : T) : Prop where
 cold : hot x = false
 dat : ∃ D, dT 60 x = ξ D
theorem Dat.elt {x : T} (h : Dat x) : Elt x := ⟨h.cold, QN h.dat.choose_spec⟩
theorem Dat.tup {xs : List T} (h : Dat (.tup xs)) : ∀ x ∈ xs, Dat x := by
 obtain ⟨hc, D, h1⟩ := h
 rw [iH, hots_iff] at hc
 simp only [dT] at h1
 cases h2 : dE (dT 59) xs with
 | none => rw [h2] at h1; cases h1
 | some ds =>
  intro x hx
  obtain ⟨D', e⟩ := tN h2 x hx
  exact ⟨hc x hx, D', mH e (by decide)⟩
theorem Dat.kids {x : T} (h : Dat x) : ∀ xs, x = .tup xs → ∀ y ∈ xs, Elt y := fun xs e y hy => by subst e; exact (h.tup y hy).elt
section
theorem FP {vi : VI} {g : VG} {elt : VD} {zs : List Nat} {te : TE} {ts : List T} (f : T → Bool) (hi : vi te = ξ (.ok ts te)) (hl : ts.length ≤ 1000000) (hc : dN te zs = true) (hw : aT te zs = te) (hr : cM te te zs = te)
  (step : ∀ t ∈ ts, ∃ te1 te3, g t te = ξ te1 ∧ elt te1 = ξ (.ok (.bl (f t)) te3) ∧ aT te3 zs = te) : vm vi g fv elt zs te = ξ (.ok (.nd true .lst ((ts.map f).map T.bl)) te) := by
 have h := Eh (g := g) (elt := elt) (zs := zs) (ts := ts) (te := te) (fun _ t => .bl (f t)) hi hl hc hw hr (fun i t ht => step t (List.mem_of_getElem? ht))
 rw [h, sV (f := fun _ t => f t)]
 congr 4
 apply List.ext_getElem?
 intro i
 rw [List.getElem?_mapIdx, List.getElem?_map]
theorem all_map {α : Type} {l : List α} {f : α → Bool} : (l.map f).all id = l.all f := by
 rw [List.all_map]
 rfl
theorem nN {k : List Row} : hots (k.map rowT) = false := aU fun _ _ => ck
theorem Dat.row {r : Row} : Dat (rowT r) := by
 refine ⟨ck, .tuple (r.map fun v => .int (v : Nat)), ?_⟩
 have : ∀ r : Row, dE (dT 59) (r.map fun v => T.int (v : Nat)) = ξ (r.map fun v => .int (v : Nat)) := by
  intro r
  induction r with
  | nil => rfl
  | cons a r ih =>
   simp only [List.map_cons, dE, ih, dT]
 simp only [rowT, dT, this]
def ShortL (x : T) : Prop := ∀ o xs, x = .nd o .lst xs → xs.length ≤ 1000
end
theorem Lh : ∀ n : Fin 50, (PyData.showable (.int ((n : Int) - 5)) && (Nat.ble (PyData.shown (.int ((n : Int) - 5))).length 10 && PyData.strOk (PyData.shown (.int ((n : Int) - 5))))) = true := by decide +kernel
theorem Vl.int {i : Int} (h : -5 ≤ i) (h' : i < 45) : Vl 1 10 (.int i) := by
 have := Lh ⟨(i + 5).toNat, by omega⟩
 have e : (((⟨(i + 5).toNat, by omega⟩ : Fin 50) : Nat) : Int) - 5 = i := by show ((i + 5).toNat : Int) - 5 = i; omega
 rw [e, Bool.and_eq_true, Bool.and_eq_true] at this
 exact ⟨rfl, .int i, rfl, this.1, Nat.le_of_ble_eq_true this.2.1, rfl, by simp [PyData.depth], this.2.2⟩
abbrev El (x : T) : Prop := Vl 4 1000 x
structure GV (x : T) : Prop where
 vl : Vl 5 100000 x
 short : ShortL x
theorem El.int {i : Int} (h : -5 ≤ i) (h' : i < 45) : El (.int i) := (Vl.int h h').mono (by decide) (by decide)
theorem CU {xs : List T} : ShortL (.tup xs) := fun _ _ e => by cases e
theorem GV.tup {xs : List T} (h : ∀ x ∈ xs, El x) (hl : xs.length ≤ 50) : GV (.tup xs) := ⟨(Vl.tup h hl).mono (by decide) (by decide), CU⟩
theorem Vl.row {ts : List Tab} {r : Row} (good : ∀ t ∈ ts, GoodT t) (hr : RowOK ts r) (hl : ts.length ≤ 20) : El (rowT r) := by
 refine (Vl.tup (d := 1) (n := 10) (k := 20) (xs := r.map fun v => T.int (v : Nat)) (fun x hx => ?_) (by rw [List.length_map, hr.1]; exact hl)).mono (by decide) (by decide)
 obtain ⟨v, hv, rfl⟩ := List.mem_map.mp hx
 obtain ⟨i, hi⟩ := List.mem_iff_getElem?.mp hv
 have hit : i < ts.length := by
  have := (List.getElem?_eq_some_iff.mp hi).1
  rw [hr.1] at this
  exact this
 have := hr.2 i _ v (List.getElem?_eq_getElem hit) hi
 have g := (good _ (List.getElem_mem hit)).le4
 exact Vl.int (by omega) (by omega)
def Case (x : T) : Prop := ∃ a b d, x = .tup [a, b, d] ∧ GV a ∧ GV b ∧ GV d
theorem Case.mk {a b d : T} (ha : GV a) (hb : GV b) (hd : GV d) : Case (.tup [a, b, d]) := ⟨a, b, d, rfl, ha, hb, hd⟩
theorem Case.cold {x : T} (h : Case x) : hot x = false := by
 obtain ⟨a, b, d, rfl, ha, hb, hd⟩ := h
 simp [ha.vl.cold, hb.vl.cold, hd.vl.cold]
@[simp] theorem OL {a : VV} {lo hi : VO} {te : TE} : OM a lo hi te = match a te, lo te, hi te with
  | some t, ξ l, ξ h => dj (NS t l h) te
  | _, _, _ => ζ := rfl
@[simp] theorem Nz {a : VV} {te : TE} : OQ a te = match a te with
  | some t => dj (Rv t) te
  | none => ζ := rfl
@[simp] theorem Rn {o : Bool} {xs : List T} {lo hi : Option Int} : NS (.nd o .lst xs) lo hi = ξ (.new .lst (Fx xs lo hi)) := rfl
@[simp] theorem Rm {xs : List T} {lo hi : Option Int} : NS (.tup xs) lo hi = ξ (.pur (.tup (Fx xs lo hi))) := rfl
@[simp] theorem Ru {o : Bool} {xs : List T} : Rv (.nd o .lst xs) = ξ (.new .lst xs.reverse) := rfl
section
structure Alt (rs ss ws : List T) : Prop where
 r : ∀ x ∈ rs, El x ∧ ShortL x
 s : ∀ x ∈ ss, El x
 w : ∀ x ∈ ws, ∃ v : Nat, x = .int v ∧ v ≤ 40
 r0 : 0 < rs.length
 rl : rs.length ≤ 20
 sl : ss.length ≤ 20
 wl : ws.length ≤ 20
variable {rs ss ws: List T}
namespace Alt
variable (A: Alt rs ss ws)
include A
theorem rE : ∀ x ∈ rs, El x := fun x hx => (A.r x hx).1
theorem wE : ∀ x ∈ ws, El x := fun x hx => by
 obtain ⟨v, rfl, h⟩ := A.w x hx
 exact El.int (by omega) (by omega)
theorem hr : hots rs = false := Vl.hots A.rE
theorem hs : hots ss = false := Vl.hots A.s
theorem hw : hots ws = false := Vl.hots A.wE
end Alt
theorem El.tup {xs : List T} (h : ∀ x ∈ xs, Vl 3 100 x) (hl : xs.length ≤ 5) : El (.tup xs) := (Vl.tup h hl).mono (by decide) (by decide)
end
end QP
end
section
namespace QP
open PySem hiding Env
open L2 hiding TE gName
open SB BV KV
open Builtin Builtin.Str
theorem JE (c : Char) : c.toNat < 0x110000 := by
 have h := c.valid
 rcases h with h | h
 ·exact Nat.lt_trans h (by decide)
 ·exact h.2
theorem vD {x : Str} (h : ∀ c ∈ x.cps.toList, c < 0x110000) : PyData.strOk x = true := by
 unfold PyData.strOk
 rw [Array.all_eq_true_iff_forall_mem]
 intro c hc
 exact decide_eq_true (h c (by simpa using hc))
theorem wg {x : Str} (h : PyData.strOk x = true) : ∀ c ∈ x.cps.toList, c < 0x110000 := by
 unfold PyData.strOk at h
 rw [Array.all_eq_true_iff_forall_mem] at h
 intro c hc
 exact of_decide_eq_true (h c (by simpa using hc))
theorem vY (q c : Nat) (hq : q < 128) (hc : c < 0x110000) : ∀ d ∈ reprChar q c, d < 0x110000 := by
 have hd : ∀ d ∈ (Nat.toDigits 16 c).map Char.toNat, d < 0x110000 := fun d hd => by
  obtain ⟨k, _, rfl⟩ := List.mem_map.mp hd
  exact JE k
 have hh : ∀ w, ∀ d ∈ List.replicate (w - ((Nat.toDigits 16 c).map Char.toNat).length) 48 ++ (Nat.toDigits 16 c).map Char.toNat, d < 0x110000 := fun w d h => by
  rcases List.mem_append.mp h with h | h
  ·rw [(List.mem_replicate.mp h).2]; decide
  ·exact hd d h
 intro d
 unfold reprChar
 dsimp only
 repeat' split
 all_goals (intro h; simp only [List.mem_append, List.mem_cons, List.not_mem_nil, or_false] at h)
 all_goals (rcases h with h | h)
 all_goals first | omega | skip
 all_goals first | (rcases h with rfl | rfl <;> decide) | exact hh _ d (by simp only [List.mem_append]; exact h)
theorem wX (q : Nat) (hq : q < 128) : ∀ (l : List Nat) (acc : Array Nat), (∀ c ∈ l, c < 0x110000) → (∀ c ∈ acc.toList, c < 0x110000) → ∀ c ∈ (l.foldl (fun out c => out ++ (reprChar q c).toArray) acc).toList, c < 0x110000
 | [], acc, _, ha => ha
 | c :: r, acc, h, ha => by
  refine wX q hq r (acc ++ (reprChar q c).toArray) (fun d hd => h d (List.mem_cons_of_mem _ hd)) fun d hd => ?_
  rw [Array.toList_append] at hd
  rcases List.mem_append.mp hd with hd | hd
  ·exact ha d hd
  ·exact vY q c hq (h c (List.mem_cons_self ..)) d hd
theorem qd (x : Str) : reprQuote x < 128 := by
 unfold reprQuote
 split <;> decide
theorem xO {x : Str} (h : PyData.strOk x = true) : PyData.strOk (reprText x) = true := by
 refine vD fun c hc => ?_
 unfold reprText at hc
 simp only [Array.toList_push, ← Array.foldl_toList] at hc
 rcases List.mem_append.mp hc with hc | hc
 ·exact wX (reprQuote x) (qd x) x.cps.toList #[reprQuote x] (wg h) (fun c hc => by
   have : c = reprQuote x := by simpa using hc
   rw [this]
   exact Nat.lt_trans (qd x) (by decide)) c hc
 ·have : c = reprQuote x := by simpa using hc
  rw [this]
  exact Nat.lt_trans (qd x) (by decide)
theorem Vl.str {x : Str} {n : Nat} (h : PyData.strOk x = true) (hl : x.length ≤ n) : Vl 1 (10 * n + 2) (.str x) := by
 refine ⟨rfl, .str x, by (simp only [dT]; rw [if_pos h]), rfl, ?_, h, by simp [PyData.depth], ?_⟩
 ·show (reprText x).length ≤ _
  have := StrLaws.reprText_len x fun c hc => Nat.lt_trans (wg h c hc) (by decide)
  omega
 ·exact xO h
end QP
end
section
set_option exponentiation.threshold 2000
namespace QP
open PySem hiding Env
open L2 hiding TE gName
open SB BV KV
section
end
end QP
end
section
namespace QP
open PySem hiding Env
open L2 hiding TE gName
open SB BV KV
section
end
section
variable {te: BV.TE}
@[simp] theorem K6 {C : Addr} {fs : List Str} {vas : VA} : eS C fs vas te = pM (vas te) fun ts te1 => if ts.length = fs.length ∧ ts.length ≤ 1000 then ξ (.exc C (ξ (.nd true (.xd fs.reverse) ts.reverse)) te1) else ζ := rfl
theorem aH {zs : List Nat} {b : bu} {te te1 : BV.TE} (h : b te = ξ (.fl .next te1)) : aA zs b te = ξ (.fl .next (aT te1 zs)) := by
 unfold aA
 rw [h]
theorem hJ {zs : List Nat} {b : bu} {te te1 : BV.TE} {t : T} (h : b te = ξ (.fl (.ret t) te1)) : aA zs b te = ξ (.fl (.ret t) te1) := by
 unfold aA
 rw [h]
theorem d6 {zs : List Nat} {b : bu} {te te1 : BV.TE} {C : Addr} {d : Option T} (h : b te = ξ (.exc C d te1)) : aA zs b te = ξ (.exc C d te1) := by
 unfold aA
 rw [h]
theorem vR {a b : bu} {te te1 : BV.TE} (h : a te = ξ (.fl .next te1)) : a5 a b te = b te1 := by
 unfold a5
 rw [h]
theorem kE {a b : bu} {te te1 : BV.TE} {t : T} (h : a te = ξ (.fl (.ret t) te1)) : a5 a b te = ξ (.fl (.ret t) te1) := by
 unfold a5
 rw [h]
theorem gV {a b : bu} {te te1 : BV.TE} {C : Addr} {d : Option T} (h : a te = ξ (.exc C d te1)) : a5 a b te = ξ (.exc C d te1) := by
 unfold a5
 rw [h]
theorem iS {vi : VI} {g : VG} {body : bu} {ts : List T} {te te1 : BV.TE} (h : vi te = ξ (.ok ts te1)) : gr vi g body te = b7 g body ts te1 := by
 unfold gr
 rw [h]
 rfl
def vW (rs : List Row) : T := .nd false .lst (rs.map rowT)
@[simp] theorem Of {rs : List Row} : hot (vW rs) = false := by simp [vW, nN]
end
def keyR (r : Row) : List Key := r.map fun v : Nat => (Sum.inl ((v : Nat) : Int) : Key)
def zh (o : Bool) (rs : List Row) : T := .nd o (.dtp (rs.map keyR)) (rs.map fun _ => T.bl true)
def LZ (rs : List Row) (r : Row) : List Row := if r ∈ rs then rs else rs ++ [r]
theorem Dy {r q : Row} {rs : List Row} : q ∈ LZ rs r ↔ q ∈ rs ∨ q = r := by
 unfold LZ
 split
 ·rename_i h
  exact ⟨.inl, fun z => z.elim id fun e => e ▸ h⟩
 ·simp
section
end
def g (r : Row) (i : Nat) : Nat := r.getD i 0
theorem jP {r : Row} {i : Nat} (h : i < r.length) : r[i]? = ξ (g r i) := by
 unfold g
 rw [List.getD_eq_getElem?_getD, List.getElem?_eq_getElem h]
 rfl
theorem ui {x y : Row} (hl : x.length = y.length) (h : ∀ i, i < x.length → g x i = g y i) : x = y := by
 refine List.ext_getElem? fun i => ?_
 by_cases hi : i < x.length
 ·rw [jP hi, jP (by omega), h i hi]
 ·rw [List.getElem?_eq_none (by omega), List.getElem?_eq_none (by omega)]
def Ag (P : Nat → Prop) (x y : Row) : Prop := ∀ i, P i → g x i = g y i
theorem Ag.refl {P : Nat → Prop} {x : Row} : Ag P x x := fun _ _ => rfl
theorem Ag.symm {P : Nat → Prop} {x y : Row} (h : Ag P x y) : Ag P y x := fun i hi => (h i hi).symm
theorem Ag.trans {P : Nat → Prop} {x y z : Row} (h : Ag P x y) (k : Ag P y z) : Ag P x z := fun i hi => (h i hi).trans (k i hi)
theorem Ag.mono {P Q : Nat → Prop} {x y : Row} (h : Ag P x y) (k : ∀ i, Q i → P i) : Ag Q x y := fun i hi => h i (k i hi)
structure Cl (ts : List Tab) (S : Row → Prop) : Prop where
 good : ∀ t ∈ ts, GoodT t
 ok : ∀ r, S r → RowOK ts r
 clo : ∀ x y z, S x → S y → S z → S (comb ts x y z)
section
variable {ts: List Tab}{S: Row → Prop}{x y z r: Row}{i q: Nat}
theorem Cl.len (C : Cl ts S) (h : S r) : r.length = ts.length := (C.ok r h).1
theorem yu (hx : RowOK ts x) (hy : RowOK ts y) (hz : RowOK ts z) (hi : i < ts.length) : g (comb ts x y z) i = (ts[i]'hi).2 (g x i) (g y i) (g z i) := by
 have e := mI (List.getElem?_eq_getElem hi) (jP (r := x) (i := i) (by rw [hx.1]; exact hi)) (jP (r := y) (i := i) (by rw [hy.1]; exact hi)) (jP (r := z) (i := i) (by rw [hz.1]; exact hi))
 unfold g
 rw [List.getD_eq_getElem?_getD, e]
 rfl
theorem RowOK.lt (h : RowOK ts r) (hi : i < ts.length) : g r i < (ts[i]'hi).1 := h.2 i _ _ (List.getElem?_eq_getElem hi) (jP (by rw [h.1]; exact hi))
theorem Fz (C : Cl ts S) (hx : S x) (hy : S y) (hz : S z) (hi : i < ts.length) (h : g y i = g z i) : g (comb ts x y z) i = g x i := by
 have G := C.good _ (List.getElem_mem hi)
 rw [yu (C.ok x hx) (C.ok y hy) (C.ok z hz) hi, ← h]
 exact (G.line _ _ ((C.ok x hx).lt hi) ((C.ok y hy).lt hi) _ ((C.ok y hy).lt hi)).2.1 rfl
theorem Fy (C : Cl ts S) (hx : S x) (hy : S y) (hz : S z) (hi : i < ts.length) (h : g x i = g y i) : g (comb ts x y z) i = g z i := by
 have G := C.good _ (List.getElem_mem hi)
 rw [yu (C.ok x hx) (C.ok y hy) (C.ok z hz) hi, ← h]
 exact (G.line _ _ ((C.ok x hx).lt hi) ((C.ok x hx).lt hi) _ ((C.ok z hz).lt hi)).2.2 rfl
def Rel (S : Row → Prop) (P : Nat → Prop) (q a b : Nat) : Prop := ∃ x y, S x ∧ S y ∧ Ag P x y ∧ g x q = a ∧ g y q = b
variable {P: Nat → Prop}{a b d: Nat}
theorem Rel.ext (C : Cl ts S) (hP : ∀ i, P i → i < ts.length) (hq : q < ts.length) (h : Rel S P q a b) (hr : S r) (e : g r q = a) : ∃ r', S r' ∧ Ag P r r' ∧ g r' q = b := by
 obtain ⟨x, y, hx, hy, ag, rfl, rfl⟩ := h
 exact ⟨comb ts r x y, C.clo _ _ _ hr hx hy, fun i hi => (Fz C hr hx hy (hP i hi) (ag i hi)).symm, Fy C hr hx hy hq e⟩
theorem Rel.symm (h : Rel S P q a b) : Rel S P q b a := by
 obtain ⟨x, y, hx, hy, ag, e1, e2⟩ := h
 exact ⟨y, x, hy, hx, ag.symm, e2, e1⟩
theorem Rel.trans (C : Cl ts S) (hP : ∀ i, P i → i < ts.length) (hq : q < ts.length) (h : Rel S P q a b) (k : Rel S P q b d) : Rel S P q a d := by
 obtain ⟨x, y, hx, hy, ag, rfl, rfl⟩ := h
 obtain ⟨r', h1, h2, h3⟩ := k.ext C hP hq hy rfl
 exact ⟨x, r', hx, h1, ag.trans h2, rfl, h3⟩
end
abbrev Lot := List (Nat × Row)
abbrev Fk := List (List Lot)
def keys (l : Lot) : List Nat := l.map (·.1)
structure LotOK (S : Row → Prop) (p : Nat) (l : Lot) : Prop where
 mem : ∀ e ∈ l, S e.2 ∧ g e.2 p = e.1
 ag : ∀ e ∈ l, ∀ e' ∈ l, Ag (· < p) e.2 e'.2
 ne : l ≠ []
structure PlOK (S : Row → Prop) (p : Nat) (here : List Lot) : Prop where
 lot : ∀ l ∈ here, LotOK S p l
 nd : (here.flatMap keys).Nodup
 cov : ∀ r r', S r → S r' → Ag (· < p) r r' → ∃ l ∈ here, g r p ∈ keys l ∧ g r' p ∈ keys l
structure FkOf (ts : List Tab) (S : Row → Prop) (f : Fk) : Prop where
 cl : Cl ts S
 one : ∃ r, S r
 len : f.length = ts.length
 pl : ∀ p here, f[p]? = ξ here → PlOK S p here
def dX (here : List Lot) (v : Nat) : Lot := (here.find? fun l => (keys l).contains v).getD []
def cA (l : Lot) (v : Nat) : Row := (l.lookup v).getD []
def a6 (f : Fk) (r : Row) (p : Nat) : Lot := dX (f.getD p []) (g r p)
def cf (ts : List Tab) (f : Fk) (r : Row) (p v : Nat) : Row := comb ts r (cA (a6 f r p) (g r p)) (cA (a6 f r p) v)
section
variable {ts: List Tab}{S: Row → Prop}{f: Fk}{r r': Row}{p v: Nat}{here: List Lot}{l l': Lot}
theorem kF {e : Nat × Row} (h : e ∈ l) : e.1 ∈ keys l := List.mem_map.mpr ⟨e, h, rfl⟩
theorem g7 (h : v ∈ keys l) : (v, cA l v) ∈ l := by
 unfold cA
 induction l with
 | nil => simp [keys] at h
 | cons e l ih =>
  obtain ⟨k, x⟩ := e
  simp only [List.lookup]
  by_cases hk : v = k
  ·subst hk
   simp
  ·have hb : (v == k) = false := by simpa using hk
   rw [hb]
   simp only
   have h2 : v ∈ keys l := by
    simp only [keys, List.map_cons, List.mem_cons] at h
    rcases h with h | h
    ·exact absurd h hk
    ·exact h
   exact List.mem_cons_of_mem _ (ih h2)
theorem wA (h : l ∈ here) (hv : v ∈ keys l) : dX here v ∈ here ∧ v ∈ keys (dX here v) := by
 unfold dX
 cases hf : here.find? fun l => (keys l).contains v with
 | none =>
  have := List.find?_eq_none.mp hf l h
  simp at this
  exact absurd hv this
 | some l2 =>
  have h1 := List.find?_some hf
  exact ⟨List.mem_of_find?_eq_some hf, by simpa using h1⟩
theorem PlOK.uniq (P : PlOK S p here) (h : l ∈ here) (h' : l' ∈ here) (hv : v ∈ keys l) (hv' : v ∈ keys l') : l = l' := by
 have nd := P.nd
 clear P
 induction here with
 | nil => cases h
 | cons x xs ih =>
  rw [List.flatMap_cons, List.nodup_append] at nd
  rcases List.mem_cons.mp h with rfl | h1
  ·rcases List.mem_cons.mp h' with rfl | h2
   ·rfl
   ·exact absurd rfl (nd.2.2 v hv v (List.mem_flatMap.mpr ⟨l', h2, hv'⟩))
  ·rcases List.mem_cons.mp h' with rfl | h2
   ·exact absurd rfl (nd.2.2 v hv' v (List.mem_flatMap.mpr ⟨l, h1, hv⟩))
   ·exact ih h1 h2 nd.2.1
theorem PlOK.at_ (P : PlOK S p here) (h : l ∈ here) (hv : v ∈ keys l) : dX here v = l := by
 obtain ⟨h1, h2⟩ := wA h hv
 exact P.uniq h1 h h2 hv
theorem FkOf.hat (F : FkOf ts S f) (hp : p < ts.length) : f[p]? = ξ (f.getD p []) := by
 rw [List.getD_eq_getElem?_getD, List.getElem?_eq_getElem (by rw [F.len]; exact hp)]
 rfl
theorem FkOf.place (F : FkOf ts S f) (hp : p < ts.length) : PlOK S p (f.getD p []) := F.pl p _ (F.hat hp)
theorem FkOf.lot (F : FkOf ts S f) (hp : p < ts.length) (hr : S r) : a6 f r p ∈ f.getD p [] ∧ g r p ∈ keys (a6 f r p) := by
 obtain ⟨l, h1, h2, _⟩ := (F.place hp).cov r r hr hr Ag.refl
 exact wA h1 h2
theorem Ec {q : Nat} (F : FkOf ts S f) (hp : p < ts.length) (hl : l ∈ f.getD p []) (hv : v ∈ keys l) : S (cA l v) ∧ g (cA l v) p = v := ((F.place hp).lot l hl).mem _ (g7 hv)
theorem FkOf.moved (F : FkOf ts S f) (hp : p < ts.length) (hr : S r) (hv : v ∈ keys (a6 f r p)) : S (cf ts f r p v) ∧ Ag (· < p) r (cf ts f r p v) ∧ g (cf ts f r p v) p = v := by
 obtain ⟨h1, h2⟩ := F.lot hp hr
 have L := (F.place hp).lot _ h1
 have m1 := g7 h2
 have m2 := g7 hv
 have a1 : S (cA (a6 f r p) (g r p)) ∧ g (cA (a6 f r p) (g r p)) p = g r p := L.mem _ m1
 have a2 : S (cA (a6 f r p) v) ∧ g (cA (a6 f r p) v) p = v := L.mem _ m2
 have ag : Ag (· < p) (cA (a6 f r p) (g r p)) (cA (a6 f r p) v) := L.ag _ m1 _ m2
 refine ⟨F.cl.clo _ _ _ hr a1.1 a2.1, fun i hi => (Fz F.cl hr a1.1 a2.1 (by omega) (ag i hi)).symm, ?_⟩
 exact (Fy F.cl hr a1.1 a2.1 hp a1.2.symm).trans a2.2
theorem FkOf.class (F : FkOf ts S f) (hp : p < ts.length) (hr : S r) : v ∈ keys (a6 f r p) ↔ ∃ r', S r' ∧ Ag (· < p) r r' ∧ g r' p = v := by
 constructor
 ·intro hv
  obtain ⟨h1, h2, h3⟩ := F.moved hp hr hv
  exact ⟨_, h1, h2, h3⟩
 ·rintro ⟨r', h1, h2, rfl⟩
  obtain ⟨l, hl, k1, k2⟩ := (F.place hp).cov r r' hr h1 h2
  unfold a6
  rw [(F.place hp).at_ hl k1]
  exact k2
theorem FkOf.same (F : FkOf ts S f) (hp : p < ts.length) (hr : S r) (hr' : S r') (h : Ag (· < p) r r') : a6 f r p = a6 f r' p := by
 obtain ⟨l, hl, k1, k2⟩ := (F.place hp).cov r r' hr hr' h
 unfold a6
 rw [(F.place hp).at_ hl k1, (F.place hp).at_ hl k2]
end
def Lx (x y : Row) : Prop := ∃ k, k < x.length ∧ Ag (· < k) x y ∧ g x k < g y k
theorem Lx.asym {x y : Row} (h : Lx x y) (h' : Lx y x) : False := by
 obtain ⟨k, _, a, b⟩ := h
 obtain ⟨j, _, c, d⟩ := h'
 rcases Nat.lt_trichotomy k j with z | z | z
 ·have := c k z
  omega
 ·subst z; omega
 ·have := a j z
  omega
def oQ (up : Bool) : List Nat → Nat
 | [] => 0
 | [v] => v
 | v :: vs => if up then max v (oQ up vs) else min v (oQ up vs)
theorem ji {up : Bool} : ∀ {vs : List Nat}, vs ≠ [] → oQ up vs ∈ vs ∧ ∀ v ∈ vs, if up then v ≤ oQ up vs else oQ up vs ≤ v
 | [], h => absurd rfl h
 | [v], _ => by cases up <;> simp [oQ]
 | v :: w :: vs, _ => by
  obtain ⟨h1, h2⟩ := ji (up := up) (vs := w :: vs) (by simp)
  have e : oQ up (v :: w :: vs) = if up then max v (oQ up (w :: vs)) else min v (oQ up (w :: vs)) := rfl
  rw [e]
  cases up
  ·simp only [Bool.false_eq_true, if_false] at h2 ⊢
   refine ⟨?_, fun u hu => ?_⟩
   ·rcases Nat.le_total v (oQ false (w :: vs)) with z | z
    ·rw [Nat.min_eq_left z]; exact List.mem_cons_self
    ·rw [Nat.min_eq_right z]; exact List.mem_cons_of_mem _ h1
   ·rcases List.mem_cons.mp hu with rfl | hu
    ·exact Nat.min_le_left _ _
    ·exact Nat.le_trans (Nat.min_le_right _ _) (h2 u hu)
  ·simp only [if_true] at h2 ⊢
   refine ⟨?_, fun u hu => ?_⟩
   ·rcases Nat.le_total v (oQ true (w :: vs)) with z | z
    ·rw [Nat.max_eq_right z]; exact List.mem_cons_of_mem _ h1
    ·rw [Nat.max_eq_left z]; exact List.mem_cons_self
   ·rcases List.mem_cons.mp hu with rfl | hu
    ·exact Nat.le_max_left _ _
    ·exact Nat.le_trans (h2 u hu) (Nat.le_max_right _ _)
def Fs (ts : List Tab) (f : Fk) (up : Bool) : Nat → Nat → Row → Row
 | _, 0, r => r
 | b, k + 1, r => Fs ts f up (b + 1) k (cf ts f r b (oQ up (keys (a6 f r b))))
def iJ (ts : List Tab) (f : Fk) (up : Bool) (r : Row) (b : Nat) : Row := Fs ts f up b (ts.length - b) r
def Nj (up : Bool) (x r : Row) : Prop := if up then Lx x r else Lx r x
section
variable {ts: List Tab}{S: Row → Prop}{f: Fk}{up: Bool}
theorem w9 (F : FkOf ts S f) : ∀ {k b : Nat} {r : Row}, b + k = ts.length → S r → S (Fs ts f up b k r) ∧ Ag (· < b) r (Fs ts f up b k r) ∧ ∀ x, S x → Ag (· < b) r x → x = Fs ts f up b k r ∨ Nj up x (Fs ts f up b k r)
 | 0, b, r, hb, hr => ⟨hr, Ag.refl, fun x hx ag => .inl (ui ((F.cl.len hx).trans (F.cl.len hr).symm) fun i hi => (ag i (by have := F.cl.len hx; omega)).symm)⟩
 | k + 1, b, r, hb, hr => by
  have hbn : b < ts.length := by omega
  obtain ⟨_, hm⟩ := F.lot hbn hr
  have hne : keys (a6 f r b) ≠ [] := fun e => by rw [e] at hm; simp at hm
  obtain ⟨h1, h2⟩ := ji (up := up) hne
  obtain ⟨m1, m2, m3⟩ := F.moved hbn hr h1
  obtain ⟨d1, d2, d3⟩ := w9 F (k := k) (b := b + 1) (r := cf ts f r b (oQ up (keys (a6 f r b)))) (by omega) m1
  have e : Fs ts f up b (k + 1) r = Fs ts f up (b + 1) k (cf ts f r b (oQ up (keys (a6 f r b)))) := rfl
  rw [e]
  refine ⟨d1, m2.trans (d2.mono fun i hi => by omega), fun x hx ag => ?_⟩
  have hxk : g x b ∈ keys (a6 f r b) := (F.class hbn hr).mpr ⟨x, hx, ag, rfl⟩
  by_cases hv : g x b = oQ up (keys (a6 f r b))
  ·refine d3 x hx fun i hi => ?_
   by_cases hi' : i = b
   ·subst hi'
    rw [m3, hv]
   ·exact (m2 i (by omega)).symm.trans (ag i (by omega))
  ·right
   have hb2 := h2 _ hxk
   have hd : g (Fs ts f up (b + 1) k (cf ts f r b (oQ up (keys (a6 f r b))))) b = oQ up (keys (a6 f r b)) := by
    rw [← d2 b (by omega)]
    exact m3
   have hag : Ag (· < b) x (Fs ts f up (b + 1) k (cf ts f r b (oQ up (keys (a6 f r b))))) := ag.symm.trans (m2.trans (d2.mono fun i hi => by omega))
   unfold Nj
   cases up
   ·simp only [Bool.false_eq_true, if_false] at hb2 ⊢
    exact ⟨b, by rw [F.cl.len d1]; exact hbn, hag.symm, by omega⟩
   ·simp only [if_true] at hb2 ⊢
    exact ⟨b, by rw [F.cl.len hx]; exact hbn, hag, by omega⟩
theorem oL (F : FkOf ts S f) {r : Row} {b : Nat} (hb : b ≤ ts.length) (hr : S r) : S (iJ ts f up r b) ∧ Ag (· < b) r (iJ ts f up r b) ∧ ∀ x, S x → Ag (· < b) r x → x = iJ ts f up r b ∨ Nj up x (iJ ts f up r b) := w9 F (by omega) hr
end
def tw (p i : Nat) : Nat := if i = p then p + 1 else if i = p + 1 then p else i
theorem Pg {p i : Nat} : tw p (tw p i) = i := by
 unfold tw
 split
 ·rename_i h; subst h; simp
 ·rename_i h
  split
  ·rename_i h2; subst h2; simp
  ·rename_i h2; simp [h, h2]
theorem Ph {p i n : Nat} (h : p + 1 < n) (hi : i < n) : tw p i < n := by
 unfold tw
 split
 ·omega
 ·split <;> omega
def swp {α : Type} (p : Nat) (l : List α) : List α := l.take p ++ ((l[p + 1]?).toList ++ ((l[p]?).toList ++ l.drop (p + 2)))
theorem mh {α : Type} {p : Nat} {l : List α} (h : p + 1 < l.length) : (swp p l).length = l.length := by
 unfold swp
 rw [List.getElem?_eq_getElem h, List.getElem?_eq_getElem (show p < l.length by omega)]
 simp
 omega
theorem gU {α : Type} {p i : Nat} {l : List α} (h : p + 1 < l.length) : (swp p l)[i]? = l[tw p i]? := by
 unfold swp tw
 rw [List.getElem?_eq_getElem h, List.getElem?_eq_getElem (show p < l.length by omega)]
 have hp : (l.take p).length = p := by simp; omega
 rcases Nat.lt_trichotomy i p with z | z | z
 ·rw [List.getElem?_append_left (by omega), List.getElem?_take_of_lt z, if_neg (by omega), if_neg (by omega)]
 ·subst z
  rw [List.getElem?_append_right (by omega), hp, if_pos rfl]
  simp [h]
 ·rw [List.getElem?_append_right (by omega), hp, if_neg (by omega)]
  by_cases z2 : i = p + 1
  ·subst z2
   rw [if_pos rfl]
   have e : p + 1 - p = 1 := by omega
   rw [e]
   simp
  ·rw [if_neg z2]
   obtain ⟨j, rfl⟩ : ∃ j, i = p + 2 + j := ⟨i - (p + 2), by omega⟩
   have e : p + 2 + j - p = j + 2 := by omega
   rw [e]
   simp [Nat.add_comm, Nat.add_left_comm]
theorem wQ {p i : Nat} {r : Row} (h : p + 1 < r.length) : g (swp p r) i = g r (tw p i) := by
 unfold g
 rw [List.getD_eq_getElem?_getD, List.getD_eq_getElem?_getD, gU h]
structure LotP (S : Row → Prop) (P : Nat → Prop) (q : Nat) (l : Lot) : Prop where
 mem : ∀ e ∈ l, S e.2 ∧ g e.2 q = e.1
 ag : ∀ e ∈ l, ∀ e' ∈ l, Ag P e.2 e'.2
 ne : l ≠ []
structure PlP (S : Row → Prop) (P : Nat → Prop) (q : Nat) (here : List Lot) : Prop where
 lot : ∀ l ∈ here, LotP S P q l
 nd : (here.flatMap keys).Nodup
 cov : ∀ r r', S r → S r' → Ag P r r' → ∃ l ∈ here, g r q ∈ keys l ∧ g r' q ∈ keys l
theorem PlP.ok {S : Row → Prop} {p : Nat} {here : List Lot} (h : PlP S (· < p) p here) : PlOK S p here := ⟨fun l hl => ⟨(h.lot l hl).mem, (h.lot l hl).ag, (h.lot l hl).ne⟩, h.nd, h.cov⟩
theorem PlOK.p {S : Row → Prop} {p : Nat} {here : List Lot} (h : PlOK S p here) : PlP S (· < p) p here := ⟨fun l hl => ⟨(h.lot l hl).mem, (h.lot l hl).ag, (h.lot l hl).ne⟩, h.nd, h.cov⟩
def kR {α : Type} (val : α → Nat) (mk : α → Lot) : List α → List Lot → List Lot
 | [], found => found
 | a :: as, found => if val a ∈ found.flatMap keys then kR val mk as found else kR val mk as (found ++ [mk a])
structure MkOk {α : Type} (S : Row → Prop) (P : Nat → Prop) (q : Nat) (val : α → Nat) (mk : α → Lot) (a : α) : Prop where
 lot : LotP S P q (mk a)
 nd : (keys (mk a)).Nodup
 cls : ∀ v, v ∈ keys (mk a) ↔ Rel S P q (val a) v
section
variable {ts: List Tab}{S: Row → Prop}{P: Nat → Prop}{q: Nat}{α: Type}{val: α → Nat}{mk: α → Lot}
theorem MkOk.self {a : α} (C : Cl ts S) (h : MkOk S P q val mk a) (hP : ∀ i, P i → i < ts.length) (hq : q < ts.length) : val a ∈ keys (mk a) := by
 obtain ⟨e, he⟩ := List.exists_mem_of_ne_nil _ h.lot.ne
 have h1 := (h.cls _).mp (kF he)
 exact (h.cls _).mpr (h1.trans C hP hq h1.symm)
theorem nD (C : Cl ts S) (hP : ∀ i, P i → i < ts.length) (hq : q < ts.length) : ∀ {as : List α} {found : List Lot}, (∀ a ∈ as, MkOk S P q val mk a) → (∀ l ∈ found, ∃ a, l = mk a ∧ MkOk S P q val mk a) → (found.flatMap keys).Nodup →
    (∀ l ∈ kR val mk as found, ∃ a, l = mk a ∧ MkOk S P q val mk a) ∧ ((kR val mk as found).flatMap keys).Nodup ∧ (∀ l ∈ found, l ∈ kR val mk as found) ∧ ∀ a ∈ as, val a ∈ (kR val mk as found).flatMap keys
  | [], found, _, h1, h2 => ⟨h1, h2, fun _ h => h, fun a ha => by cases ha⟩
  | a :: as, found, hm, h1, h2 => by
    have ha := hm a List.mem_cons_self
    have hm' : ∀ b ∈ as, MkOk S P q val mk b := fun b hb => hm b (List.mem_cons_of_mem _ hb)
    unfold kR
    by_cases hk : val a ∈ found.flatMap keys
    · rw [if_pos hk]
      obtain ⟨i1, i2, i3, i4⟩ := nD C hP hq hm' h1 h2
      refine ⟨i1, i2, i3, fun b hb => ?_⟩
      rcases List.mem_cons.mp hb with rfl | hb
      · obtain ⟨l, hl, hv⟩ := List.mem_flatMap.mp hk
        exact List.mem_flatMap.mpr ⟨l, i3 l hl, hv⟩
      · exact i4 b hb
    · rw [if_neg hk]
      have nd : ((found ++ [mk a]).flatMap keys).Nodup := by
        rw [List.flatMap_append, List.nodup_append]
        refine ⟨h2, by simpa using ha.nd, fun v hv w hw e => ?_⟩
        subst e
        obtain ⟨l, hl, hvl⟩ := List.mem_flatMap.mp hv
        obtain ⟨b, rfl, hb⟩ := h1 l hl
        have hw' : v ∈ keys (mk a) := by simpa using hw
        have r1 := (hb.cls v).mp hvl
        have r2 := (ha.cls v).mp hw'
        exact hk (List.mem_flatMap.mpr ⟨mk b, hl, (hb.cls _).mpr (r1.trans C hP hq r2.symm)⟩)
      obtain ⟨i1, i2, i3, i4⟩ := nD C hP hq (found := found ++ [mk a]) hm' (fun l hl => by
        rcases List.mem_append.mp hl with hl | hl
        · exact h1 l hl
        · simp at hl
          exact ⟨a, hl, ha⟩) nd
      refine ⟨i1, i2, fun l hl => i3 l (List.mem_append_left _ hl), fun b hb => ?_⟩
      rcases List.mem_cons.mp hb with rfl | hb
      · exact List.mem_flatMap.mpr ⟨mk b, i3 _ (by simp), ha.self C hP hq⟩
      · exact i4 b hb
theorem wc (C : Cl ts S) (hP : ∀ i, P i → i < ts.length) (hq : q < ts.length) {as : List α} (hm : ∀ a ∈ as, MkOk S P q val mk a) (hc : ∀ r, S r → ∃ a ∈ as, Rel S P q (val a) (g r q)) : PlP S P q (kR val mk as []) := by
 obtain ⟨i1, i2, _, i4⟩ := nD C hP hq (found := []) hm (fun l hl => by cases hl) (by simp)
 refine ⟨fun l hl => ?_, i2, fun r r' hr hr' ag => ?_⟩
 ·obtain ⟨a, rfl, ha⟩ := i1 l hl
  exact ha.lot
 ·obtain ⟨a, ha, h1⟩ := hc r hr
  obtain ⟨l, hl, hv⟩ := List.mem_flatMap.mp (i4 a ha)
  obtain ⟨b, rfl, hb⟩ := i1 l hl
  have r1 := ((hb.cls _).mp hv).trans C hP hq h1
  exact ⟨mk b, hl, (hb.cls _).mpr r1, (hb.cls _).mpr (r1.trans C hP hq ⟨r, r', hr, hr', ag, rfl, rfl⟩)⟩
end
def uG (l : Lot) (v : Nat) (r : Row) : Lot := if v ∈ keys l then l.map fun e => if e.1 = v then (v, r) else e else l ++ [(v, r)]
def puts (l es : Lot) : Lot := es.foldl (fun acc e => uG acc e.1 e.2) l
theorem sW {l : Lot} {v : Nat} {r : Row} : keys (uG l v r) = if v ∈ keys l then keys l else keys l ++ [v] := by
 unfold uG
 split
 ·unfold keys
  rw [List.map_map]
  refine List.map_congr_left fun e _ => ?_
  show (if e.1 = v then (v, r) else e).1 = e.1
  split
  ·rename_i h; exact h.symm
  ·rfl
 ·simp [keys]
theorem Eb {l : Lot} {v : Nat} {r : Row} {e : Nat × Row} (h : e ∈ uG l v r) : e ∈ l ∨ e = (v, r) := by
 unfold uG at h
 split at h
 ·obtain ⟨x, hx, rfl⟩ := List.mem_map.mp h
  split
  ·exact .inr rfl
  ·exact .inl hx
 ·rcases List.mem_append.mp h with h | h
  ·exact .inl h
  ·exact .inr (by simpa using h)
theorem v7 : ∀ {es l : Lot} {e : Nat × Row}, e ∈ puts l es → e ∈ l ∨ e ∈ es
 | [], l, e, h => .inl h
 | x :: es, l, e, h => by
  rcases v7 (es := es) (l := uG l x.1 x.2) h with h | h
  ·rcases Eb h with h | h
   ·exact .inl h
   ·exact .inr (by rw [h]; exact List.mem_cons_self)
  ·exact .inr (List.mem_cons_of_mem _ h)
theorem sP : ∀ {es l : Lot} {v : Nat}, v ∈ keys (puts l es) ↔ v ∈ keys l ∨ v ∈ keys es
 | [], l, v => by simp [puts, keys]
 | x :: es, l, v => by
  have ih := sP (es := es) (l := uG l x.1 x.2) (v := v)
  show v ∈ keys (puts (uG l x.1 x.2) es) ↔ _
  rw [ih, sW]
  have e : keys (x :: es) = x.1 :: keys es := rfl
  rw [e, List.mem_cons]
  by_cases hx : x.1 ∈ keys l
  ·rw [if_pos hx]
   constructor
   ·rintro (h | h)
    ·exact .inl h
    ·exact .inr (.inr h)
   ·rintro (h | h | h)
    ·exact .inl h
    ·subst h; exact .inl hx
    ·exact .inr h
  ·rw [if_neg hx, List.mem_append, List.mem_singleton]
   constructor
   ·rintro ((h | h) | h)
    ·exact .inl h
    ·exact .inr (.inl h)
    ·exact .inr (.inr h)
   ·rintro (h | h | h)
    ·exact .inl (.inl h)
    ·exact .inl (.inr h)
    ·exact .inr h
theorem qk : ∀ {es l : Lot}, (keys l).Nodup → (keys (puts l es)).Nodup
 | [], l, h => h
 | x :: es, l, h => by
  refine qk (es := es) (l := uG l x.1 x.2) ?_
  rw [sW]
  split
  ·exact h
  ·rename_i hx
   rw [List.nodup_append]
   exact ⟨h, by simp, fun a ha b hb e => by simp at hb; subst hb; subst e; exact hx ha⟩
theorem mk_of {α : Type} {ts : List Tab} {S : Row → Prop} {P : Nat → Prop} {q : Nat} {val : α → Nat} {mk : α → Lot} {a : α} {es : Lot} {row : Row} (C : Cl ts S) (hP : ∀ i, P i → i < ts.length) (hq : q < ts.length) (he : mk a = puts [] es) (hr : S row) (hv : g row q = val a)
  (h1 : ∀ e ∈ es, S e.2 ∧ g e.2 q = e.1 ∧ Ag P row e.2) (h2 : ∀ r', S r' → Ag P row r' → g r' q ∈ keys es) : MkOk S P q val mk a := by
 have hm : ∀ e ∈ mk a, e ∈ es := fun e h => by
  rw [he] at h
  rcases v7 h with h | h
  ·cases h
  ·exact h
 have hk : ∀ v, v ∈ keys (mk a) ↔ v ∈ keys es := fun v => by
  rw [he, sP]
  simp [keys]
 refine ⟨⟨fun e h => ⟨(h1 e (hm e h)).1, (h1 e (hm e h)).2.1⟩, fun e h e' h' => (h1 e (hm e h)).2.2.symm.trans (h1 e' (hm e' h')).2.2, fun e => ?_⟩, by rw [he]; exact qk (by simp [keys]), fun v => ?_⟩
 ·have := (hk (g row q)).mpr (h2 row hr Ag.refl)
  rw [e] at this
  simp [keys] at this
 ·rw [hk]
  constructor
  ·intro h
   obtain ⟨e, he', rfl⟩ := List.mem_map.mp h
   obtain ⟨a1, a2, a3⟩ := h1 e he'
   exact ⟨row, e.2, hr, a1, a3, hv, a2⟩
  ·intro h
   obtain ⟨r', b1, b2, b3⟩ := h.ext C hP hq hr hv
   rw [← b3]
   exact h2 r' b1 b2
def E8 (ts : List Tab) (f : Fk) (p v : Nat) : Lot := (keys (a6 f (cA (dX (f.getD (p + 1) []) v) v) p)).flatMap fun a =>
 (keys (a6 f (cf ts f (cA (dX (f.getD (p + 1) []) v) v) p a) (p + 1))).map fun b => (b, cf ts f (cf ts f (cA (dX (f.getD (p + 1) []) v) v) p a) (p + 1) b)
def uK (ts : List Tab) (f : Fk) (p : Nat) : List Lot := kR id (fun v => puts [] (E8 ts f p v)) ((f.getD (p + 1) []).flatMap keys) []
def QT (ts : List Tab) (f : Fk) (p v : Nat) : Lot := (keys (a6 f (cA (dX (f.getD p []) v) v) p)).filterMap fun a =>
 if g (cA (dX (f.getD p []) v) v) (p + 1) ∈ keys (a6 f (cf ts f (cA (dX (f.getD p []) v) v) p a) (p + 1)) then ξ (a, cf ts f (cf ts f (cA (dX (f.getD p []) v) v) p a) (p + 1) (g (cA (dX (f.getD p []) v) v) (p + 1))) else ζ
def uU (ts : List Tab) (f : Fk) (p : Nat) : List Lot := kR id (fun v => puts [] (QT ts f p v)) ((f.getD p []).flatMap keys) []
section
variable {ts: List Tab}{S: Row → Prop}{f: Fk}{p: Nat}
theorem FkOf.rep {q v : Nat} (F : FkOf ts S f) (hq : q < ts.length) (hv : v ∈ (f.getD q []).flatMap keys) : S (cA (dX (f.getD q []) v) v) ∧ g (cA (dX (f.getD q []) v) v) q = v := by
 obtain ⟨l, hl, hk⟩ := List.mem_flatMap.mp hv
 rw [(F.place hq).at_ hl hk]
 exact Ec (q := q) F hq hl hk
theorem FkOf.occ {q : Nat} {r : Row} (F : FkOf ts S f) (hq : q < ts.length) (hr : S r) : g r q ∈ (f.getD q []).flatMap keys := by
 obtain ⟨h1, h2⟩ := F.lot hq hr
 exact List.mem_flatMap.mpr ⟨_, h1, h2⟩
theorem yo (F : FkOf ts S f) (hp : p + 1 < ts.length) : PlP S (· < p) (p + 1) (uK ts f p) := by
 refine wc F.cl (fun i hi => by omega) hp (fun v hv => ?_) fun r hr => ⟨g r (p + 1), F.occ hp hr, r, r, hr, hr, Ag.refl, rfl, rfl⟩
 obtain ⟨h1, h2⟩ := F.rep hp hv
 refine mk_of F.cl (fun i hi => by omega) hp (es := E8 ts f p v) rfl h1 h2 (fun e he => ?_) fun r' hr' ag => ?_
 ·obtain ⟨a, ha, hb⟩ := List.mem_flatMap.mp he
  obtain ⟨b, hb2, rfl⟩ := List.mem_map.mp hb
  obtain ⟨m1, m2, m3⟩ := F.moved (by omega) h1 ha
  obtain ⟨n1, n2, n3⟩ := F.moved hp m1 hb2
  exact ⟨n1, n3, m2.trans (n2.mono fun i hi => by omega)⟩
 ·have ha : g r' p ∈ keys (a6 f (cA (dX (f.getD (p + 1) []) v) v) p) := (F.class (by omega) h1).mpr ⟨r', hr', ag, rfl⟩
  obtain ⟨m1, m2, m3⟩ := F.moved (by omega) h1 ha
  have hb : g r' (p + 1) ∈ keys (a6 f (cf ts f (cA (dX (f.getD (p + 1) []) v) v) p (g r' p)) (p + 1)) := (F.class hp m1).mpr ⟨r', hr', fun i hi => by
   by_cases hi' : i = p
   ·subst hi'; exact m3
   ·exact (m2 i (by omega)).symm.trans (ag i (by omega)), rfl⟩
  exact List.mem_map.mpr ⟨_, List.mem_flatMap.mpr ⟨_, ha, List.mem_map.mpr ⟨_, hb, rfl⟩⟩, rfl⟩
theorem B4 (F : FkOf ts S f) (hp : p + 1 < ts.length) : PlP S (fun i => i < p ∨ i = p + 1) p (uU ts f p) := by
 refine wc F.cl (fun i hi => by omega) (by omega) (fun v hv => ?_) fun r hr => ⟨g r p, F.occ (by omega) hr, r, r, hr, hr, Ag.refl, rfl, rfl⟩
 obtain ⟨h1, h2⟩ := F.rep (by omega) hv
 refine mk_of F.cl (fun i hi => by omega) (by omega) (es := QT ts f p v) rfl h1 h2 (fun e he => ?_) fun r' hr' ag => ?_
 ·obtain ⟨a, ha, hb⟩ := List.mem_filterMap.mp he
  split at hb
  ·rename_i hc
   cases hb
   obtain ⟨m1, m2, m3⟩ := F.moved (by omega) h1 ha
   obtain ⟨n1, n2, n3⟩ := F.moved hp m1 hc
   refine ⟨n1, (n2 p (by omega)).symm.trans m3, fun i hi => ?_⟩
   rcases hi with hi | hi
   ·exact (m2 i hi).trans (n2 i (by omega))
   ·subst hi; exact n3.symm
  ·cases hb
 ·have ha : g r' p ∈ keys (a6 f (cA (dX (f.getD p []) v) v) p) := (F.class (by omega) h1).mpr ⟨r', hr', ag.mono fun i hi => .inl hi, rfl⟩
  obtain ⟨m1, m2, m3⟩ := F.moved (by omega) h1 ha
  have hb : g (cA (dX (f.getD p []) v) v) (p + 1) ∈ keys (a6 f (cf ts f (cA (dX (f.getD p []) v) v) p (g r' p)) (p + 1)) := (F.class hp m1).mpr ⟨r', hr', fun i hi => by
   by_cases hi' : i = p
   ·subst hi'; exact m3
   ·exact (m2 i (by omega)).symm.trans (ag i (.inl (by omega))), (ag (p + 1) (.inr rfl)).symm⟩
  exact List.mem_map.mpr ⟨_, List.mem_filterMap.mpr ⟨_, ha, if_pos hb⟩, rfl⟩
end
def Rk (p : Nat) (S : Row → Prop) : Row → Prop := fun r' => ∃ r, S r ∧ r' = swp p r
def uz (h : Row → Row) (l : Lot) : Lot := l.map fun e => (e.1, h e.2)
theorem nL {h : Row → Row} {l : Lot} : keys (uz h l) = keys l := by
 unfold keys uz
 rw [List.map_map]
 rfl
theorem BD {h : Row → Row} {here : List Lot} : (here.map (uz h)).flatMap keys = here.flatMap keys := by
 induction here with
 | nil => rfl
 | cons l here ih => simp only [List.map_cons, List.flatMap_cons, nL, ih]
theorem PlP.map {S S' : Row → Prop} {P P' : Nat → Prop} {q q' : Nat} {here : List Lot} {h : Row → Row} (H : PlP S P q here) (to : ∀ r, S r → S' (h r)) (frm : ∀ r', S' r' → ∃ r, S r ∧ r' = h r) (at_ : ∀ r, S r → g (h r) q' = g r q) (ag1 : ∀ x y, S x → S y → Ag P x y → Ag P' (h x) (h y)) (ag2 : ∀ x y, S x → S y → Ag P' (h x) (h y) → Ag P x y) : PlP S' P' q' (here.map (uz h)) := by
 refine ⟨fun l hl => ?_, by rw [BD]; exact H.nd, fun r r' hr hr' ag => ?_⟩
 ·obtain ⟨l, hl2, rfl⟩ := List.mem_map.mp hl
  have L := H.lot l hl2
  refine ⟨fun e he => ?_, fun e he e' he' => ?_, fun z => L.ne ?_⟩
  ·obtain ⟨e, he2, rfl⟩ := List.mem_map.mp he
   obtain ⟨a, b⟩ := L.mem e he2
   exact ⟨to _ a, (at_ _ a).trans b⟩
  ·obtain ⟨e, he2, rfl⟩ := List.mem_map.mp he
   obtain ⟨e', he2', rfl⟩ := List.mem_map.mp he'
   exact ag1 _ _ (L.mem e he2).1 (L.mem e' he2').1 (L.ag e he2 e' he2')
  ·simpa [uz] using z
 ·obtain ⟨x, hx, rfl⟩ := frm r hr
  obtain ⟨y, hy, rfl⟩ := frm r' hr'
  obtain ⟨l, hl, k1, k2⟩ := H.cov x y hx hy (ag2 x y hx hy ag)
  exact ⟨uz h l, List.mem_map.mpr ⟨l, hl, rfl⟩, by rw [nL, at_ x hx]; exact k1, by rw [nL, at_ y hy]; exact k2⟩
theorem Lf {ts : List Tab} {r : Row} {p : Nat} (hp : p + 1 < ts.length) (h : RowOK ts r) : RowOK (swp p ts) (swp p r) := by
 have hr : p + 1 < r.length := by rw [h.1]; exact hp
 refine ⟨by rw [mh hp, mh hr]; exact h.1, fun i t v e1 e2 => ?_⟩
 rw [gU hp] at e1
 rw [gU hr] at e2
 exact h.2 _ t v e1 e2
theorem CG {ts : List Tab} {x y z : Row} {p : Nat} (hp : p + 1 < ts.length) (hx : RowOK ts x) (hy : RowOK ts y) (hz : RowOK ts z) : comb (swp p ts) (swp p x) (swp p y) (swp p z) = swp p (comb ts x y z) := by
 have lc : p + 1 < (comb ts x y z).length := by rw [ig]; exact hp
 have lx : p + 1 < x.length := by rw [hx.1]; exact hp
 have ly : p + 1 < y.length := by rw [hy.1]; exact hp
 have lz : p + 1 < z.length := by rw [hz.1]; exact hp
 refine List.ext_getElem? fun i => ?_
 by_cases hi : i < ts.length
 ·have hj := Ph hp hi
  have e1 : (swp p ts)[i]? = ξ (ts[tw p i]'hj) := by rw [gU hp, List.getElem?_eq_getElem hj]
  obtain ⟨a, ha, _⟩ := hx.at_ (List.getElem?_eq_getElem hj)
  obtain ⟨b, hb, _⟩ := hy.at_ (List.getElem?_eq_getElem hj)
  obtain ⟨d, hd, _⟩ := hz.at_ (List.getElem?_eq_getElem hj)
  rw [gU lc, mI e1 (by rw [gU lx]; exact ha) (by rw [gU ly]; exact hb) (by rw [gU lz]; exact hd), mI (List.getElem?_eq_getElem hj) ha hb hd]
 ·rw [List.getElem?_eq_none (by rw [ig, mh hp]; omega), List.getElem?_eq_none (by rw [mh lc, ig]; omega)]
theorem Hb {α : Type} {p : Nat} {l : List α} (h : p + 1 < l.length) {a : α} (ha : a ∈ swp p l) : a ∈ l := by
 obtain ⟨i, hi⟩ := List.mem_iff_getElem?.mp ha
 rw [gU h] at hi
 exact List.mem_of_getElem? hi
theorem Cl.swp {ts : List Tab} {S : Row → Prop} {p : Nat} (C : Cl ts S) (hp : p + 1 < ts.length) : Cl (swp p ts) (Rk p S) := by
 refine ⟨fun t ht => C.good t (Hb hp ht), fun r' ⟨r, hr, e⟩ => by rw [e]; exact Lf hp (C.ok r hr), fun x y z ⟨x', hx, ex⟩ ⟨y', hy, ey⟩ ⟨z', hz, ez⟩ => ?_⟩
 subst ex ey ez
 exact ⟨_, C.clo _ _ _ hx hy hz, CG hp (C.ok _ hx) (C.ok _ hy) (C.ok _ hz)⟩
def wZ (ts : List Tab) (f : Fk) (p : Nat) : Fk := (f.take p ++ (uK ts f p :: uU ts f p :: f.drop (p + 2))).map fun here => here.map (uz (swp p))
section
variable {ts: List Tab}{S: Row → Prop}{f: Fk}{p: Nat}
theorem Jp {i : Nat} (hl : f.length = ts.length) (hp : p + 1 < ts.length) : (wZ ts f p)[i]? = (if i = p then ξ (uK ts f p) else if i = p + 1 then ξ (uU ts f p) else f[i]?).map fun here => here.map (uz (swp p)) := by
 unfold wZ
 rw [List.getElem?_map]
 congr 1
 have ht : (f.take p).length = p := by simp; omega
 rcases Nat.lt_trichotomy i p with z | z | z
 ·rw [List.getElem?_append_left (by omega), List.getElem?_take_of_lt z, if_neg (by omega), if_neg (by omega)]
 ·subst z
  rw [List.getElem?_append_right (by omega), ht, if_pos rfl]
  simp
 ·rw [List.getElem?_append_right (by omega), ht, if_neg (by omega)]
  by_cases z2 : i = p + 1
  ·subst z2
   rw [if_pos rfl]
   have e : p + 1 - p = 1 := by omega
   rw [e]
   rfl
  ·rw [if_neg z2]
   obtain ⟨j, rfl⟩ : ∃ j, i = p + 2 + j := ⟨i - (p + 2), by omega⟩
   have e : p + 2 + j - p = j + 2 := by omega
   rw [e]
   simp [Nat.add_comm, Nat.add_left_comm]
theorem Jo (F : FkOf ts S f) (hp : p + 1 < ts.length) : FkOf (swp p ts) (Rk p S) (wZ ts f p) := by
  have len : ∀ r, S r → p + 1 < r.length := fun r hr => by rw [F.cl.len hr]; exact hp
  have mp : ∀ {P P' : Nat → Prop} {q q' : Nat} {here : List Lot}, PlP S P q here → tw p q' = q → (∀ i, P' i → P (tw p i)) → (∀ i, P i → P' (tw p i)) → PlP (Rk p S) P' q' (here.map (uz (swp p))) := fun H hq h1 h2 =>
    H.map (fun r hr => ⟨r, hr, rfl⟩) (fun _ h => h) (fun r hr => by rw [wQ (len r hr), hq]) (fun x y hx hy ag i hi => by rw [wQ (len x hx), wQ (len y hy)]; exact ag _ (h1 i hi)) fun x y hx hy ag i hi => by
      have := ag (tw p i) (h2 i hi)
      rw [wQ (len x hx), wQ (len y hy), Pg] at this
      exact this
  refine ⟨F.cl.swp hp, let ⟨r, hr⟩ := F.one; ⟨swp p r, r, hr, rfl⟩, ?_, fun i here e => ?_⟩
  · rw [mh hp, ← F.len]
    unfold wZ
    have := F.len
    simp
    omega
  · rw [Jp F.len hp] at e
    by_cases h1 : i = p
    · subst h1
      rw [if_pos rfl] at e
      cases e
      exact (mp (yo F hp) (by unfold tw; simp) (fun j hj => by unfold tw; rw [if_neg (by omega), if_neg (by omega)]; exact hj) fun j hj => by unfold tw; rw [if_neg (by omega), if_neg (by omega)]; exact hj).ok
    · rw [if_neg h1] at e
      by_cases h2 : i = p + 1
      · subst h2
        rw [if_pos rfl] at e
        cases e
        exact (mp (B4 F hp) (by unfold tw; simp) (fun j hj => by unfold tw; split <;> (try split) <;> omega) fun j hj => by unfold tw; split <;> (try split) <;> omega).ok
      · rw [if_neg h2] at e
        obtain ⟨h0, e0, rfl⟩ := Option.map_eq_some_iff.mp e
        exact (mp (F.pl i h0 e0).p (by unfold tw; rw [if_neg h1, if_neg h2]) (fun j hj => by unfold tw; split <;> (try split) <;> omega) fun j hj => by unfold tw; split <;> (try split) <;> omega).ok
end
theorem FkOf.congr {ts : List Tab} {S S' : Row → Prop} {f : Fk} (F : FkOf ts S f) (h : ∀ r, S r ↔ S' r) : FkOf ts S' f := by
 have e : S = S' := funext fun r => propext (h r)
 rw [← e]
 exact F
def FZ (o : List Nat) (r : Row) : Row := o.map (g r)
def pmS (o : List Nat) (S : Row → Prop) : Row → Prop := fun r' => ∃ r, S r ∧ r' = FZ o r
def jZ (ts : List Tab) (i : Nat) : Tab := ts.getD i (1, fun _ _ _ => 0)
def pmT (o : List Nat) (ts : List Tab) : List Tab := o.map (jZ ts)
theorem swp_map {α β : Type} {p : Nat} {l : List α} {h : α → β} : swp p (l.map h) = (swp p l).map h := by
 unfold swp
 simp only [List.map_append, List.map_take, List.map_drop, List.getElem?_map]
 cases l[p + 1]? <;> cases l[p]? <;> rfl
theorem HP {p : Nat} {o : List Nat} {S : Row → Prop} {r : Row} : Rk p (pmS o S) r ↔ pmS (swp p o) S r := by
 constructor
 ·rintro ⟨x, ⟨y, hy, rfl⟩, rfl⟩
  exact ⟨y, hy, swp_map⟩
 ·rintro ⟨y, hy, rfl⟩
  exact ⟨_, ⟨y, hy, rfl⟩, swp_map.symm⟩
theorem CF {α : Type} {p : Nat} {l : List α} (h : p + 1 < l.length) : (swp p l).Perm l := by
 have e : l = l.take p ++ (l[p]'(by omega) :: l[p + 1] :: l.drop (p + 2)) := by
  have h1 : l.drop p = l[p]'(by omega) :: l.drop (p + 1) := List.drop_eq_getElem_cons (by omega)
  have h2 : l.drop (p + 1) = l[p + 1] :: l.drop (p + 2) := List.drop_eq_getElem_cons h
  rw [← h2, ← h1, List.take_append_drop]
 have e2 : swp p l = l.take p ++ (l[p + 1] :: l[p]'(by omega) :: l.drop (p + 2)) := by
  unfold swp
  rw [List.getElem?_eq_getElem h, List.getElem?_eq_getElem (show p < l.length by omega)]
  rfl
 rw [e2]
 refine ((List.Perm.swap _ _ _).append_left _).trans ?_
 rw [← e]
abbrev Sto := List Tab × Fk × List Nat
def Pm (p : Nat) (s : Sto) : Sto := (swp p s.1, wZ s.1 s.2.1 p, swp p s.2.2)
structure StOk (n : Nat) (ts0 : List Tab) (S : Row → Prop) (s : Sto) : Prop where
 tab : s.1 = pmT s.2.2 ts0
 fk : FkOf s.1 (pmS s.2.2 S) s.2.1
 perm : s.2.2.Perm (List.range n)
section
variable {n: Nat}{ts0: List Tab}{S: Row → Prop}{s: Sto}
theorem StOk.len (h : StOk n ts0 S s) : s.2.2.length = n := by rw [h.perm.length_eq, List.length_range]
theorem StOk.tlen (h : StOk n ts0 S s) : s.1.length = n := by rw [h.tab, pmT, List.length_map]; exact h.len
theorem StOk.step {p : Nat} (h : StOk n ts0 S s) (hp : p + 1 < n) : StOk n ts0 S (Pm p s) := by
 have ht : p + 1 < s.1.length := by rw [h.tlen]; exact hp
 have ho : p + 1 < s.2.2.length := by rw [h.len]; exact hp
 refine ⟨?_, (Jo h.fk ht).congr fun r => HP, (CF ho).trans h.perm⟩
 show swp p s.1 = pmT (swp p s.2.2) ts0
 rw [h.tab]
 exact swp_map
end
def gL (ks : List Nat) : List Nat := (j' (ks.map fun v : Nat => (v : Int))).map Int.toNat
theorem pV {ks : List Nat} : (gL ks).map (fun v : Nat => (v : Int)) = j' (ks.map fun v : Nat => (v : Int)) := by
 unfold gL
 rw [List.map_map]
 refine (List.map_congr_left fun i hi => ?_).trans (List.map_id _)
 obtain ⟨v, _, rfl⟩ := List.mem_map.mp ((oz _).mem_iff.mp hi)
 simp
theorem lr {ks : List Nat} : (gL ks).Perm ks := by
 have h := (oz (ks.map fun v : Nat => (v : Int))).map Int.toNat
 rw [List.map_map] at h
 have e : ks.map (Int.toNat ∘ fun v : Nat => (v : Int)) = ks := (List.map_congr_left fun v _ => by simp).trans (List.map_id _)
 rw [e] at h
 exact h
theorem mi {ks : List Nat} : (gL ks).Pairwise (· ≤ ·) := by
 have h := rW (ks.map fun v : Nat => (v : Int))
 rw [← pV, List.pairwise_map] at h
 exact h.imp fun h => by omega
theorem vK {ks : List Nat} (h : ks ≠ []) : gL ks ≠ [] := fun e => by
 have := lr (ks := ks)
 rw [e] at this
 exact h (List.Perm.nil_eq this).symm
theorem xS {ks : List Nat} (h : ks ≠ []) : (gL ks).head? = ξ (oQ false ks) := by
 cases hs : gL ks with
 | nil => exact absurd hs (vK h)
 | cons v vs =>
  have hp := lr (ks := ks)
  have hsrt := mi (ks := ks)
  rw [hs] at hp hsrt
  obtain ⟨h1, h2⟩ := ji (up := false) h
  have hv : v ∈ ks := hp.mem_iff.mp List.mem_cons_self
  have e1 := h2 v hv
  simp only [Bool.false_eq_true, if_false] at e1
  have e2 : v ≤ oQ false ks := by
   rcases List.mem_cons.mp (hp.mem_iff.mpr h1) with z | z
   ·omega
   ·exact (List.pairwise_cons.mp hsrt).1 _ z
  show ξ v = ξ _
  rw [show v = oQ false ks by omega]
theorem xR {ks : List Nat} (h : ks ≠ []) : (gL ks).getLast? = ξ (oQ true ks) := by
 have hp := lr (ks := ks)
 have hsrt := mi (ks := ks)
 have hne := vK h
 obtain ⟨h1, h2⟩ := ji (up := true) h
 rw [List.getLast?_eq_some_getLast hne]
 congr 1
 have hv : (gL ks).getLast hne ∈ ks := hp.mem_iff.mp (List.getLast_mem hne)
 have e1 := h2 _ hv
 simp only [if_true] at e1
 have hb : oQ true ks ∈ gL ks := hp.mem_iff.mpr h1
 have e2 : oQ true ks ≤ (gL ks).getLast hne := by
  have hd := List.dropLast_concat_getLast hne
  rw [← hd] at hb hsrt
  rcases List.mem_append.mp hb with z | z
  ·exact (List.pairwise_append.mp hsrt).2.2 _ z _ (by simp)
  ·simp at z
   omega
 omega
def bk {α : Type} (p : Nat) (l : List α) : List α := (l.drop 1).take p ++ ((l[0]?).toList ++ (l.drop 1).drop p)
section
theorem qp {o : List Nat} {r : Row} {i j : Nat} (h : o[i]? = ξ j) : g (FZ o r) i = g r j := by
 unfold FZ g
 rw [List.getD_eq_getElem?_getD, List.getElem?_map, h]
 rfl
end
theorem De {ts : List Tab} {r : Row} (hl : r.length = ts.length) (h : ∀ i, i < ts.length → g r i < (jZ ts i).1) : RowOK ts r := by
 refine ⟨hl, fun i t v e1 e2 => ?_⟩
 have hi : i < ts.length := (List.getElem?_eq_some_iff.mp e1).1
 have := h i hi
 unfold jZ g at this
 rw [List.getD_eq_getElem?_getD, List.getD_eq_getElem?_getD, e1, e2] at this
 exact this
theorem RowOK.at2 {ts : List Tab} {r : Row} {i : Nat} (h : RowOK ts r) (hi : i < ts.length) : g r i < (jZ ts i).1 := by
 have := h.lt hi
 unfold jZ
 rw [List.getD_eq_getElem?_getD, List.getElem?_eq_getElem hi]
 exact this
def sE (f : Fk) : Row := match f with
 | [] => []
 | here :: _ => match here with
  | [] => []
  | l :: _ => match l with
   | [] => []
   | e :: _ => e.2
theorem pW {ts : List Tab} {S : Row → Prop} {f : Fk} (F : FkOf ts S f) : S (sE f) := by
 cases f with
 | nil =>
  obtain ⟨r, hr⟩ := F.one
  have h1 := F.cl.len hr
  have h2 := F.len
  have : r = [] := List.eq_nil_of_length_eq_zero (by rw [h1, ← h2]; rfl)
  subst this
  exact hr
 | cons here rest =>
  have P := F.pl 0 here rfl
  obtain ⟨r, hr⟩ := F.one
  obtain ⟨l, hl, _, _⟩ := P.cov r r hr hr Ag.refl
  cases here with
  | nil => cases hl
  | cons l0 ls =>
   have L := P.lot l0 List.mem_cons_self
   cases l0 with
   | nil => exact absurd rfl L.ne
   | cons e es => exact (L.mem e List.mem_cons_self).1
theorem yZ {x y : Row} {p : Nat} (hl : x.length = y.length) (hp : p ≤ x.length) : x.take p = y.take p ↔ Ag (· < p) x y := by
 constructor
 ·intro h i hi
  have hi' : i < p := hi
  have e := congrArg (fun l : List Nat => l[i]?) h
  simp only [List.getElem?_take_of_lt hi'] at e
  rw [jP (by omega), jP (by omega)] at e
  exact Option.some.inj e
 ·intro h
  refine List.ext_getElem? fun i => ?_
  by_cases hi : i < p
  ·rw [List.getElem?_take_of_lt hi, List.getElem?_take_of_lt hi, jP (by omega), jP (by omega), h i hi]
  ·rw [List.getElem?_eq_none (by simp; omega), List.getElem?_eq_none (by simp; omega)]
section
end
theorem CI {a : List Nat} : ∀ {l : List Nat}, a.Nodup → l.Nodup → (∀ x ∈ a, x ∈ l) → (a ++ l.filter fun i => decide (i ∉ a)).Perm l := by
 intro l na nl h
 refine (List.perm_ext_iff_of_nodup ?_ nl).mpr fun x => ?_
 ·rw [List.nodup_append]
  exact ⟨na, nl.sublist List.filter_sublist, fun x hx y hy e => by
   subst e
   have := of_decide_eq_true (List.mem_filter.mp hy).2
   exact this hx⟩
 ·rw [List.mem_append, List.mem_filter]
  constructor
  ·rintro (h1 | h1)
   ·exact h x h1
   ·exact h1.1
  ·intro hx
   by_cases ha : x ∈ a
   ·exact .inl ha
   ·exact .inr ⟨hx, decide_eq_true ha⟩
section
end
section
theorem Bv {k : List Row} : hot (zh false k) = false := by
 unfold zh
 simp only [hot, Bool.false_or]
 exact aU fun _ _ => rfl
@[simp] theorem QH {te : BV.TE} {C : Addr} {d : Option T} : rh [] te (ξ (.exc C d [])) = ξ (.exc C d te) := rfl
def badL (pre : List Row) (bad : T) (rest : List T) : T := .nd false .lst (pre.map rowT ++ bad :: rest)
theorem E3 {pre : List Row} {bad : T} {rest : List T} (hb : hot bad = false) (hr : hots rest = false) : hots (pre.map rowT ++ bad :: rest) = false := by
 refine hots_iff.mpr fun x hx => ?_
 rcases List.mem_append.mp hx with h | h
 ·exact hots_iff.mp (nN (k := pre)) x h
 ·rcases List.mem_cons.mp h with rfl | h
  ·exact hb
  ·exact hots_iff.mp hr x h
def yA (bad : T) : T := .nd true (.xd ["row"]) [bad]
def T4 (ts : List Tab) (k d : List Row) (x y z : Option T) : BV.TE := [ξ (Cv ts), ζ, ξ (vW k), ξ (vW k), ξ (zh true d), x, y, z, ζ]
theorem it2 {ts : List Tab} {k d : List Row} {x y z : Option T} : i6 (au (ae 2)) (T4 ts k d x y z) = ξ (.ok (k.map rowT) (T4 ts k d x y z)) := by simp [T4, vW, nN]
@[simp] theorem NA {a : VD} {te : BV.TE} : OS a te = a9 (a te) fun t te1 => kT (PF t) te1 := rfl
theorem aC {a : VD} {as : VA} {te te1 te2 : BV.TE} {x : T} {xs : List T} (h1 : a te = ξ (.ok x te1)) (h2 : as te1 = ξ (.ok xs te2)) : aa a as te = ξ (.ok (x :: xs) te2) := by
 unfold aa
 rw [h1]
 show a9 (as te1) _ = _
 rw [h2]
 rfl
theorem lC {as : VA} {te te1 : BV.TE} {xs : List T} (h : as te = ξ (.ok xs te1)) (hl : xs.length ≤ sizeLine) : bx as te = ξ (.ok (.nd true .lst xs) te1) := by
 unfold bx
 rw [h]
 show (if xs.length ≤ sizeLine then ξ (VR.ok (T.nd true .lst xs) te1) else ζ) = _
 rw [if_pos hl]
theorem bY {a : VD} {te te1 : BV.TE} {t : T} (h : a te = ξ (.ok t te1)) : av a te = ξ (.ok (frz t) te1) := by
 unfold av
 rw [h]
 rfl
theorem E7 {xs : List T} (h : hots xs = false) : frz (.nd true .lst xs) = .nd false .lst xs := by
 simp only [frz]
 rw [frzs_of h]
end
def ky (v : Nat) : Key := .inl (v : Int)
def j9 (l : Lot) : T := .nd false (.dct (l.map fun e => ky e.1)) (l.map fun e => rowT e.2)
def jg (here : List Lot) : T := .nd false .lst (here.map j9)
def rA (here : List Lot) : List (Nat × Lot) := here.flatMap fun l => l.map fun e => (e.1, l)
def xh (here : List Lot) : T := .nd false (.dct ((rA here).map fun e => ky e.1)) ((rA here).map fun e => j9 e.2)
def a8 (c : Cn) (ts : List Tab) (f : Fk) : T := .nd false (.ins (c.cl "Forks") ["row_kinds", "lots", "by_value"]) [.tup (ts.map (kindT c)), .nd false .lst (f.map jg), .nd false .lst (f.map xh)]
@[simp] theorem pG {l : Lot} : hot (j9 l) = false := by
  simp only [j9, ka, Bool.false_or]
  exact aU fun _ _ => ck
@[simp] theorem wO {here : List Lot} : hot (jg here) = false := by
  simp only [jg, ka, Bool.false_or]
  exact aU fun _ _ => pG
@[simp] theorem Jf {here : List Lot} : hot (xh here) = false := by
  simp only [xh, ka, Bool.false_or]
  exact aU fun _ _ => pG
@[simp] theorem eJ {c : Cn} {ts : List Tab} {f : Fk} : hot (a8 c ts f) = false := by
  simp only [a8, ka, Bool.false_or, g8, iH, fR, qV, Bool.or_false]
  rw [aU fun _ _ => wO, aU fun _ _ => Jf]
  rfl
section
variable {c: Cn}{ts: List Tab}{S: Row → Prop}{f: Fk}{r: Row}{p v: Nat}{here: List Lot}{l: Lot}
theorem Ff : ib (c.cl "Forks") "row_kinds" (a8 c ts f) = ξ (.tup (ts.map (kindT c))) := by simp [ib, a8, y0]
theorem Fg : ib (c.cl "Forks") "lots" (a8 c ts f) = ξ (.nd false .lst (f.map jg)) := by
 simp only [ib, a8, if_true]
 rfl
theorem Jk : ib (c.cl "Forks") "by_value" (a8 c ts f) = ξ (.nd false .lst (f.map xh)) := by
 simp only [ib, a8, if_true]
 rfl
theorem ky_inj {a b : Nat} : ky a = ky b ↔ a = b := by
 unfold ky
 constructor
 ·intro h
  injection h with h
  omega
 ·rintro rfl
  rfl
theorem pz {α : Type} {h : α → T} {k : α → Nat} : ∀ {l : List α}, CB (ky v) (l.map fun e => ky (k e)) (l.map h) = (l.find? fun e => decide (k e = v)).map h
 | [] => rfl
 | e :: l => by
  simp only [List.map_cons, CB, List.find?_cons]
  by_cases hk : k e = v
  ·simp [hk]
  ·rw [if_neg (fun z => hk (ky_inj.mp z))]
   simp only [hk, decide_false]
   exact pz
theorem ou : ∀ {l : Lot}, l.lookup v = (l.find? fun e => decide (e.1 = v)).map (·.2)
 | [] => rfl
 | (k, x) :: l => by
  simp only [List.lookup, List.find?_cons]
  by_cases hk : v = k
  ·subst hk; simp
  ·have hb : (v == k) = false := by simpa using hk
   have hb2 : decide (k = v) = false := by simpa using fun z => hk z.symm
   rw [hb, hb2]
   exact ou
theorem Ep (h : v ∈ keys l) : x5 (j9 l) (.int (v : Nat)) = ξ (.pur (rowT (cA l v))) := by
 have hm := g7 h
 unfold cA at hm ⊢
 rw [ou] at hm ⊢
 have e : CB (ky v) (l.map fun e => ky e.1) (l.map fun e => rowT e.2) = (l.find? fun e => decide (e.1 = v)).map fun e => rowT e.2 := pz (k := fun e : Nat × Row => e.1)
 show (match (ξ (CB (ky v) (l.map fun e => ky e.1) (l.map fun e => rowT e.2)) : Option (Option T)) with
  | some (ξ t) => ξ (PN.pur t)
  | _ => ζ) = _
 rw [e]
 obtain ⟨x, hx, e1⟩ := List.mem_map.mp h
 cases hf : l.find? fun e => decide (e.1 = v) with
 | none =>
  have := List.find?_eq_none.mp hf x hx
  simp at this
  exact absurd e1 this
 | some y => rfl
theorem MJ {neg : Bool} : HF neg (.int (v : Nat)) (j9 l) = ξ (.pur (.bl ((keys l).contains v != neg))) := by
 have e : CB (ky v) (l.map fun e => ky e.1) (l.map fun e => rowT e.2) = (l.find? fun e => decide (e.1 = v)).map fun e => rowT e.2 := pz (k := fun e : Nat × Row => e.1)
 show (match (ξ (CB (ky v) (l.map fun e => ky e.1) (l.map fun e => rowT e.2)) : Option (Option T)) with
  | some o => ξ (PN.pur (.bl (o.isSome != neg)))
  | none => ζ) = _
 rw [e]
 have : ((l.find? fun e => decide (e.1 = v)).map fun e => rowT e.2).isSome = (keys l).contains v := by
  rw [Option.isSome_map]
  cases hf : l.find? fun e => decide (e.1 = v) with
  | none =>
   have h := List.find?_eq_none.mp hf
   simp only [Option.isSome_none]
   symm
   rw [← Bool.not_eq_true]
   intro hc
   have hc2 : v ∈ keys l := by simpa using hc
   obtain ⟨x, hx, e1⟩ := List.mem_map.mp hc2
   have := h x hx
   simp at this
   exact this e1
  | some y =>
   have h1 := List.find?_some hf
   have h2 := List.mem_of_find?_eq_some hf
   simp only [Option.isSome_some]
   symm
   have : y.1 ∈ keys l := kF h2
   simp at h1
   subst h1
   simpa using this
 simp only [this]
theorem tK : ∀ {here : List Lot}, ((rA here).find? fun e => decide (e.1 = v)).map (·.2) = here.find? fun l => (keys l).contains v
 | [] => rfl
 | l :: here => by
  unfold rA
  rw [List.flatMap_cons, List.find?_append, List.find?_cons]
  have ih := tK (here := here)
  unfold rA at ih
  cases hk : (keys l).contains v with
  | true =>
   have hm : v ∈ keys l := by simpa using hk
   obtain ⟨x, hx, e1⟩ := List.mem_map.mp hm
   cases hf : (l.map fun e => (e.1, l)).find? fun e => decide (e.1 = v) with
   | none =>
    have := List.find?_eq_none.mp hf (x.1, l) (List.mem_map.mpr ⟨x, hx, rfl⟩)
    simp at this
    exact absurd e1 this
   | some y =>
    obtain ⟨z, hz, rfl⟩ := List.mem_map.mp (List.mem_of_find?_eq_some hf)
    rfl
  | false =>
   have : (l.map fun e => (e.1, l)).find? (fun e => decide (e.1 = v)) = ζ := by
    rw [List.find?_eq_none]
    intro y hy
    obtain ⟨z, hz, rfl⟩ := List.mem_map.mp hy
    have : ¬ v ∈ keys l := by simpa using hk
    simp
    rintro rfl
    exact this (kF hz)
   rw [this]
   simpa using ih
theorem MG (h : v ∈ here.flatMap keys) : x5 (xh here) (.int (v : Nat)) = ξ (.pur (j9 (dX here v))) := by
 have e : CB (ky v) ((rA here).map fun e => ky e.1) ((rA here).map fun e => j9 e.2) = ((rA here).find? fun e => decide (e.1 = v)).map fun e => j9 e.2 := pz (k := fun e : Nat × Lot => e.1)
 show (match (ξ (CB (ky v) ((rA here).map fun e => ky e.1) ((rA here).map fun e => j9 e.2)) : Option (Option T)) with
  | some (ξ t) => ξ (PN.pur t)
  | _ => ζ) = _
 rw [e]
 have e2 := tK (here := here) (v := v)
 obtain ⟨l, hl, hv⟩ := List.mem_flatMap.mp h
 unfold dX
 cases hf : here.find? fun l => (keys l).contains v with
 | none =>
  have := List.find?_eq_none.mp hf l hl
  simp at this
  exact absurd hv this
 | some y =>
  rw [hf] at e2
  cases hg : (rA here).find? fun e => decide (e.1 = v) with
  | none => rw [hg] at e2; cases e2
  | some z =>
   rw [hg] at e2
   cases e2
   rfl
theorem yk (h : p < r.length) : fB (rowT r) (.int (p : Nat)) = ξ (.pur (.int (g r p : Nat))) := gk (ts := r.map fun v => T.int (v : Nat)) rfl (by rw [List.getElem?_map, jP h]; rfl)
theorem FkOf.ixB (F : FkOf ts S f) (hp : p < ts.length) : fB (.nd false .lst (f.map xh)) (.int (p : Nat)) = ξ (.pur (xh (f.getD p []))) := gk (ts := f.map xh) rfl (by rw [List.getElem?_map, F.hat hp]; rfl)
theorem qH (F : FkOf ts S f) (hp : p < ts.length) (hr : S r) : bH c [a8 c ts f, rowT r, .int (p : Nat)] = ξ (.ok (j9 (a6 f r p)) []) := by
 have h1 := F.occ hp hr
 simp [bH, bE, jQ, Jk, F.ixB hp, -List.getD_eq_getElem?_getD, yk (show p < r.length by rw [F.cl.len hr]; exact hp), MG h1, eP]
 rfl
theorem eI {mn : Str} {V : cD} {o : VV} {as : VA} {te te1 : BV.TE} {xs : List T} {x : T} (hm : (["row_kinds", "lots", "by_value"] : List Str).contains mn = false) (ho : o te = ξ (a8 c ts f)) (ha : as te = ξ (.ok xs te1)) (hV : V xs = ξ (.ok x [])) : bF (c.cl "Forks") mn V [] o as te = ξ (.ok x te1) := by
 rw [nh, ho]
 unfold a8
 simp only [hm, and_self, if_true, bM, ha, hV, uR, List.length_nil, nA]
theorem bC {ms : List Bool} {n : Nat} {b : bu} {xs fs : List T} {t : T} {te : BV.TE} (hl : xs.length = ms.length) (h : b (xs.map ξ ++ List.replicate (n - ms.length) ζ) = ξ (.fl (.ret t) te)) (hf : eP ms te = ξ fs) : bE ms n b xs = ξ (.ok t fs) := by
 unfold bE
 rw [if_pos hl, h]
 simp only [hf]
theorem dD {a b : bu} {te te1 : BV.TE} {R : Option VS} (h : a te = ξ (.fl .next te1)) (k : b te1 = R) : a5 a b te = R := by
 rw [vR h, k]
theorem iV {a : VD} {i : Nat} {x : T} {te te1 : BV.TE} (h : a te = ξ (.ok x te1)) : cx a (gName i) te = ξ (.fl .next (te1.set i (ξ x))) := by
 simp [h]
theorem cP {a : VD} {x : T} {te te1 : BV.TE} (h : a te = ξ (.ok x te1)) : bA a te = ξ (.fl (.ret x) te1) := by
 simp [h]
theorem iK {V : cD} {as : VA} {te te1 : BV.TE} {xs : List T} {x : T} (ha : as te = ξ (.ok xs te1)) (hV : V xs = ξ (.ok x [])) : bj V [] as te = ξ (.ok x te1) := by
 simp [ha, hV]
theorem fP {i : Nat} {te : BV.TE} {x : T} (h : te[i]? = ξ (ξ x)) (hc : hot x = false) : au (ae i) te = ξ (.ok x te) := by
 simp [h, hc]
theorem cO {i : Nat} {te : BV.TE} {x : T} (h : te[i]? = ξ (ξ x)) : ae i te = ξ x := by
 simp [h]
theorem aN {te : BV.TE} : ah te = ξ (.ok [] te) := rfl
theorem aV {i : Nat} {te te1 : BV.TE} {x : T} {xs : List T} {as : VA} (h : te[i]? = ξ (ξ x)) (hc : hot x = false) (k : as te = ξ (.ok xs te1)) : aa (au (ae i)) as te = ξ (.ok (x :: xs) te1) := aC (fP h hc) k
theorem zH (F : FkOf ts S f) (hn : ts.length ≤ 1000) (hp : p < ts.length) (hr : S r) (hv : v ∈ keys (a6 f r p)) : dg c [a8 c ts f, rowT r, .int (p : Nat), .int (v : Nat)] = ξ (.ok (rowT (cf ts f r p v)) []) := by
 obtain ⟨h1, h2⟩ := F.lot hp hr
 have L := (F.place hp).lot _ h1
 have a1 := L.mem _ (g7 h2)
 have a2 := L.mem _ (g7 hv)
 have hl : p < r.length := by rw [F.cl.len hr]; exact hp
 have hc := BQ (c := c) (ks := .tup (ts.map (kindT c))) nK hn (F.cl.ok r hr) (F.cl.ok _ a1.1) (F.cl.ok _ a2.1)
 refine bC rfl (dD (iV (eI (by decide) (cO rfl) (aV rfl eJ (aV rfl ck (aV rfl rfl aN))) (qH F hp hr))) (cP (iK (te1 := [ξ (a8 c ts f), ξ (rowT r), ξ (.int (p : Nat)), ξ (.int (v : Nat)), ξ (j9 (a6 f r p))]) ?_ hc))) rfl
 simp [Ff, fR, yk hl, Ep h2, Ep hv]
def Sq (x : T) (xs : List T) : Prop := hots xs = false ∧ (x = .tup xs ∨ x = .nd false .lst xs)
theorem Sq.cold {x : T} {xs : List T} (h : Sq x xs) : hot x = false := by
 obtain ⟨h1, rfl | rfl⟩ := h <;> simp [h1]
theorem Sq.seq {x : T} {xs : List T} (h : Sq x xs) : seqT x = ξ xs := by
 obtain ⟨h1, rfl | rfl⟩ := h <;> rfl
theorem y9 {a : VD} {as : VA} {te te1 te2 : BV.TE} {y : T} {ys us : List T} (ha : a te = ξ (.ok y te1)) (q : Sq y ys) (hb : as te1 = ξ (.ok us te2)) : lj a as te = ξ (.ok (ys ++ us) te2) := by
 unfold lj
 rw [ha]
 show (if hot y = true then ζ else match seqT y with
  | some ts => a9 (as te1) fun us te2 => ξ (.ok (ts ++ us) te2)
  | none => ζ) = _
 rw [q.cold, q.seq, hb]
 rfl
theorem Ct {as : VA} {te te1 : BV.TE} {xs : List T} (h : as te = ξ (.ok xs te1)) (hl : xs.length ≤ sizeLine) : lV as te = ξ (.ok (.tup xs) te1) := by
 unfold lV
 rw [h]
 show (if xs.length ≤ sizeLine then ξ (VR.ok (T.tup xs) te1) else ζ) = _
 rw [if_pos hl]
theorem Sq.ix {x : T} {xs : List T} (q : Sq x xs) {t : T} (h : xs[p]? = ξ t) : fB x (.int (p : Nat)) = ξ (.pur t) ∧ hot t = false := ⟨gk q.seq h, hots_iff.mp q.1 t (List.mem_of_getElem? h)⟩
theorem Sq.row : Sq (rowT r) (r.map fun v => T.int (v : Nat)) := ⟨aU fun _ _ => rfl, .inl rfl⟩
theorem opI {g : G2} {a b : BV.VV} {x y z : T} {te : BV.TE} (ha : a te = ξ x) (hb : b te = ξ y) (h : g x y = ξ (.pur z)) : aD g a b te = ξ z := by
 simp [ha, hb, h]
theorem bV {a : BV.VV} {x : T} {te : BV.TE} (h : a te = ξ x) (hc : hot x = false) : au a te = ξ (.ok x te) := by
 simp [h, hc]
def kU (vs : List Nat) : T := .nd false .lst (vs.map fun v => T.int (v : Nat))
theorem tj {vs : List Nat} : hots (vs.map fun v : Nat => T.int (v : Nat)) = false := aU fun _ _ => rfl
@[simp] theorem Bx {vs : List Nat} : hot (kU vs) = false := by simp [kU, tj]
theorem AA {n : Nat} : ju 0 n = (List.range n).map fun v : Nat => T.int (v : Nat) := by
 unfold ju
 refine List.map_congr_left fun i _ => ?_
 simp
theorem qQ : ∀ {vs : List Nat}, td (vs.map ky) = ξ (vs.map fun v : Nat => (v : Int))
 | [] => rfl
 | v :: vs => by
  show (match td (vs.map ky) with
   | some is => ξ ((v : Int) :: is)
   | none => ζ) = _
  rw [qQ]
  rfl
theorem Ed : (l.map fun e => ky e.1) = (keys l).map ky := by simp [keys]
theorem CO (h : l.length < 64) : qe [j9 l] = ξ (.new .lst ((gL (keys l)).map fun v => T.int (v : Nat))) := by
 show (match td (l.map fun e => ky e.1) with
  | some is => if is.length < 64 then ξ (PN.new .lst ((j' is).map T.int)) else ζ
  | none => ζ) = _
 rw [Ed, qQ]
 simp only
 rw [if_pos (by simpa [keys] using h), ← pV, List.map_map]
 rfl
theorem D2 {n : Nat} {vs : List Nat} (nd : vs.Nodup) (h : ∀ v ∈ vs, v < n) : vs.length ≤ n := by
 have := (CI nd List.nodup_range fun x hx => List.mem_range.mpr (h x hx)).length_eq
 simp at this
 omega
theorem FkOf.val4 (F : FkOf ts S f) (hp : p < ts.length) (h : v ∈ (f.getD p []).flatMap keys) : v < 4 := by
 obtain ⟨h1, h2⟩ := F.rep hp h
 have := (F.cl.ok _ h1).lt hp
 have := (F.cl.good _ (List.getElem_mem hp)).le4
 omega
theorem FkOf.few (F : FkOf ts S f) (hp : p < ts.length) : ((f.getD p []).flatMap keys).length ≤ 4 := D2 (F.place hp).nd fun v h => F.val4 hp h
theorem wG : ∀ {here : List Lot} {l : Lot}, l ∈ here → l.length ≤ (here.flatMap keys).length
 | x :: here, l, h => by
  rw [List.flatMap_cons, List.length_append]
  rcases List.mem_cons.mp h with rfl | h
  ·simp [keys]
  ·have := wG h
   omega
theorem FkOf.few1 (F : FkOf ts S f) (hp : p < ts.length) (h : l ∈ f.getD p []) : l.length ≤ 4 := Nat.le_trans (wG h) (F.few hp)
theorem IE {vs : List Nat} (h : vs.head? = ξ v) : fB (kU vs) (.int 0) = ξ (.pur (.int (v : Nat))) := by
 cases vs with
 | nil => cases h
 | cons w vs => cases h; exact gk (i := 0) (ts := (v :: vs).map fun v => T.int (v : Nat)) rfl rfl
theorem IC {vs : List Nat} (h : vs.getLast? = ξ v) : fB (kU vs) (.int (-1)) = ξ (.pur (.int (v : Nat))) := by
 have hne : vs ≠ [] := by rintro rfl; cases h
 have hl : 0 < vs.length := List.length_pos_iff.mpr hne
 rw [List.getLast?_eq_getElem?] at h
 have e : atI (vs.map fun v => T.int (v : Nat)) (-1) = ξ (.int (v : Nat)) := by
  unfold atI ixN
  rw [if_neg (by omega), if_pos (by simp; omega)]
  simp only [Option.bind_some, List.length_map]
  rw [show ((-1 : Int) + (vs.length : Nat)).toNat = vs.length - 1 by omega, List.getElem?_map, h]
  rfl
 show (match atI (vs.map fun v => T.int (v : Nat)) (-1) with
  | some t => ξ (PN.pur t)
  | none => ζ) = _
 rw [e]
def Fq (c : Cn) : bu := (aA [4, 5] (a5 (cx (av (oU qe (aa (bF (c.cl "Forks") "lot_of" (bH c) [] (ae 0) (aa (au (ae 0)) (aa (au (ae 1)) (aa (au (ae 4)) ah)))) ah))) (gName 5))
  (aA [4, 5] (cx (bF (c.cl "Forks") "moved" (dg c) [] (ae 0) (aa (au (ae 0)) (aa (au (ae 1)) (aa (au (ae 4)) (aa (Au (eR (ae 3)) (au (aD fB (ae 5) (GP Hz (aI (.int 1))))) (au (aD fB (ae 5) (aI (.int 0))))) ah))))) (gName 1)))))
theorem M4 {up : Bool} {b : T} (F : FkOf ts S f) (hn : ts.length ≤ 1000) (hp : p < ts.length) (hr : S r) : Fq c [ξ (a8 c ts f), ξ (rowT r), ξ b, ξ (.bl up), ξ (.int (p : Nat)), ζ] = ξ (.fl .next [ξ (a8 c ts f), ξ (rowT (cf ts f r p (oQ up (keys (a6 f r p))))), ξ b, ξ (.bl up), ζ, ζ]) := by
 obtain ⟨h1, h2⟩ := F.lot hp hr
 have hne : keys (a6 f r p) ≠ [] := fun e => by rw [e] at h2; simp at h2
 have h3 := (ji (up := up) hne).1
 have h4 := F.few1 hp h1
 have hs := CO (l := a6 f r p) (by omega)
 have ix : ∀ te : BV.TE, te[3]? = ξ (ξ (.bl up)) → te[5]? = ξ (ξ (kU (gL (keys (a6 f r p))))) → Au (eR (ae 3)) (au (aD fB (ae 5) (GP Hz (aI (.int 1))))) (au (aD fB (ae 5) (aI (.int 0)))) te = ξ (.ok (.int (oQ up (keys (a6 f r p)) : Nat)) te) := fun te e3 e5 => by
  cases up
  ·simp [e3, e5, IE (xS hne)]
  ·simp [e3, e5, IC (xR hne)]
 have a1 : av (oU qe (aa (bF (c.cl "Forks") "lot_of" (bH c) [] (ae 0) (aa (au (ae 0)) (aa (au (ae 1)) (aa (au (ae 4)) ah)))) ah)) [ξ (a8 c ts f), ξ (rowT r), ξ b, ξ (.bl up), ξ (.int (p : Nat)), ζ] = ξ (.ok (kU (gL (keys (a6 f r p)))) [ξ (a8 c ts f), ξ (rowT r), ξ b, ξ (.bl up), ξ (.int (p : Nat)), ζ]) := by
  have m := aC (eI (mn := "lot_of") (by decide) (cO (i := 0) rfl) (aV (i := 0) rfl eJ (aV (i := 1) rfl ck (aV (i := 4) (te := [ξ (a8 c ts f), ξ (rowT r), ξ b, ξ (.bl up), ξ (.int (p : Nat)), ζ]) rfl rfl aN))) (qH (c := c) F hp hr)) aN
  have : ∀ (as : VA) (te : BV.TE), as te = ξ (.ok [j9 (a6 f r p)] te) → oU qe as te = ξ (.ok (.nd true .lst ((gL (keys (a6 f r p))).map fun v => T.int (v : Nat))) te) := fun as te h => by simp [h, hs]
  have := bY (this _ _ m)
  rw [E7 tj] at this
  exact this
 have a2 := iV (i := 1) (eI (mn := "moved") (by decide) (cO (i := 0) rfl) (aV (i := 0) rfl eJ (aV (i := 1) rfl ck (aV (i := 4) rfl rfl (aC (ix [ξ (a8 c ts f), ξ (rowT r), ξ b, ξ (.bl up), ξ (.int (p : Nat)), ξ (kU (gL (keys (a6 f r p))))] rfl rfl) aN)))) (zH (c := c) F hn hp hr h3))
 exact aH (dD (iV (i := 5) a1) (aH (zs := [4, 5]) a2))
theorem Az {b k : Nat} : ju (b : Int) (k + 1) = .int (b : Nat) :: ju ((b + 1 : Nat) : Int) k := by
 unfold ju
 rw [List.range_succ_eq_map, List.map_cons, List.map_map]
 refine congr (congrArg List.cons (by simp)) (List.map_congr_left fun i _ => ?_)
 simp
 omega
theorem xa {up : Bool} {b0 : T} (F : FkOf ts S f) (hn : ts.length ≤ 1000) : ∀ {k b : Nat} {r : Row}, b + k = ts.length → S r → b7 (gName 4) (Fq c) (ju (b : Int) k) [ξ (a8 c ts f), ξ (rowT r), ξ b0, ξ (.bl up), ζ, ζ] = ξ (.fl .next [ξ (a8 c ts f), ξ (rowT (Fs ts f up b k r)), ξ b0, ξ (.bl up), ζ, ζ])
 | 0, b, r, _, _ => rfl
 | k + 1, b, r, hb, hr => by
  have hp : b < ts.length := by omega
  obtain ⟨h1, h2⟩ := F.lot hp hr
  have hne : keys (a6 f r b) ≠ [] := fun e => by rw [e] at h2; simp at h2
  have h3 := (ji (up := up) hne).1
  rw [Az]
  unfold b7
  simp only [nO]
  show (match Fq c [ξ (a8 c ts f), ξ (rowT r), ξ b0, ξ (.bl up), ξ (.int (b : Nat)), ζ] with
   | some (.fl .next te2) => b7 (gName 4) (Fq c) (ju ((b + 1 : Nat) : Int) k) te2
   | some (.fl .cont te2) => b7 (gName 4) (Fq c) (ju ((b + 1 : Nat) : Int) k) te2
   | some (.fl .brk te2) => ξ (.fl .next te2)
   | x => x) = _
  rw [M4 F hn hp hr]
  exact xa F hn (by omega) (F.moved hp hr h3).1
theorem Ft {up : Bool} {b : Nat} (F : FkOf ts S f) (hn : ts.length ≤ 1000) (hb : b ≤ ts.length) (hr : S r) : iq c [a8 c ts f, rowT r, .int (b : Nat), .bl up] = ξ (.ok (rowT (iJ ts f up r b)) []) := by
 have it : Cp (aa (au (ae 2)) (aa (au (bt cm (aw (aZ (c.cl "Forks") "row_kinds" (ae 0)) aK))) ah)) [ξ (a8 c ts f), ξ (rowT r), ξ (.int (b : Nat)), ξ (.bl up), ζ, ζ] = ξ (.ok (ju (b : Int) (ts.length - b)) [ξ (a8 c ts f), ξ (rowT r), ξ (.int (b : Nat)), ξ (.bl up), ζ, ζ]) := by
  have s1 : sm 1000000000000 (b : Int) = true := om (by omega)
  have s2 : sm 1000000000000 (ts.length : Int) = true := om (by omega)
  simp [Cp, Ff, s1, s2]
 refine bC rfl (dD (aH ((iS it).trans (xa F hn (by omega) hr))) (cP (fP rfl ck))) rfl
end
section
variable {α: Type}{te te0 te1: BV.TE}{i: Nat}{zs: List Nat}
theorem Ei {tt : VT} {elt : VD} {h k : α → T} {b : α → Bool} : ∀ {xs : List α}, (∀ x ∈ xs, tt (te0.set i (ξ (h x))) = ξ (.ok (b x) (te0.set i (ξ (h x)))) ∧ aT (te0.set i (ξ (h x))) zs = te0 ∧ (b x = true → ∃ te3, elt (te0.set i (ξ (h x))) = ξ (.ok (k x) te3) ∧ aT te3 zs = te0)) →
  jY (gName i) tt elt zs (xs.map h) te0 = ξ ((xs.filter b).map k, te0)
 | [], _ => rfl
 | x :: xs, hx => by
  obtain ⟨h1, h2, h3⟩ := hx x (by simp)
  have ih := Ei (xs := xs) fun y hy => hx y (List.mem_cons_of_mem _ hy)
  rw [List.map_cons]
  unfold jY
  simp only [nO, h1]
  cases hb : b x with
  | false =>
   simp only
   rw [h2, ih, List.filter_cons_of_neg (by simp [hb])]
  | true =>
   obtain ⟨te3, e3, w3⟩ := h3 hb
   simp only [e3]
   rw [w3, ih, List.filter_cons_of_pos hb]
   rfl
theorem Qk {vi : VI} {tt : VT} {elt : VD} {h k : α → T} {b : α → Bool} {xs : List α} (hi : vi te = ξ (.ok (xs.map h) te1)) (hl : xs.length ≤ 1000000) (hc : dN te1 zs = true) (hx : ∀ x ∈ xs, tt ((aT te1 zs).set i (ξ (h x))) = ξ (.ok (b x) ((aT te1 zs).set i (ξ (h x)))) ∧ aT ((aT te1 zs).set i (ξ (h x))) zs = aT te1 zs ∧ (b x = true → ∃ te3, elt ((aT te1 zs).set i (ξ (h x))) = ξ (.ok (k x) te3) ∧ aT te3 zs = aT te1 zs)) :
  vm vi (gName i) tt elt zs te = ξ (.ok (.nd true .lst ((xs.filter b).map k)) (cM te1 (aT te1 zs) zs)) := by
 rw [pq, hi]
 simp only [bM]
 rw [if_pos (eO (by simpa using hl)), if_pos hc, Ei hx]
theorem Mv {vi : VI} {elt : VD} {h k : α → T} {xs : List α} (hi : vi te = ξ (.ok (xs.map h) te1)) (hl : xs.length ≤ 1000000) (hc : dN te1 zs = true) (hx : ∀ x ∈ xs, aT ((aT te1 zs).set i (ξ (h x))) zs = aT te1 zs ∧ ∃ te3, elt ((aT te1 zs).set i (ξ (h x))) = ξ (.ok (k x) te3) ∧ aT te3 zs = aT te1 zs) :
  vm vi (gName i) fv elt zs te = ξ (.ok (.nd true .lst (xs.map k)) (cM te1 (aT te1 zs) zs)) := by
 have := Qk (b := fun _ => true) (tt := fv) hi hl hc fun x m => ⟨rfl, (hx x m).1, fun _ => (hx x m).2⟩
 rw [this, List.filter_eq_self.mpr fun _ _ => rfl]
abbrev Ps := List (Nat × T)
def dv (ps : Ps) : List T := ps.map (·.2)
theorem Er {a : VD} {x : T} {xs : List T} (h : a te = ξ (.ok x te1)) (q : Sq x xs) : i6 a te = ξ (.ok xs te1) := by
 obtain ⟨h1, rfl | rfl⟩ := q <;> simp [h, h1]
end
section
variable {ts: List Tab}{S: Row → Prop}{f: Fk}{p v: Nat}{here: List Lot}{l: Lot}
def HOk (f : Fk) : Prop := ∀ here ∈ f, (here.flatMap keys).Nodup ∧ (here.flatMap keys).length ≤ 1000
theorem kD {C : Addr} {fl : Str} {i : Nat} {val : VD} {te te1 : BV.TE} {y : T} {fs : List Str} {us : List T} (hv : val te = ξ (.ok y te1)) (hi : te1[i]? = ξ (ξ (.nd true (.ins C fs) us))) (hl : fs.length < 1000) : i5 C fl i val te = ξ (.fl .next (te1.set i (ξ (.nd true (.ins C (lA fl y fs us).1) (lA fl y fs us).2)))) := by
 rw [Ao, hv]
 simp only [tZ, qM, hi]
 rw [if_pos ⟨trivial, hl⟩]
theorem j2 {ms : List Bool} {n : Nat} {b : bu} {xs fs : List T} {te : BV.TE} (hl : xs.length = ms.length) (h : b (xs.map ξ ++ List.replicate (n - ms.length) ζ) = ξ (.fl .next te)) (hf : eP ms te = ξ fs) : bE ms n b xs = ξ (.ok .non fs) := by
 unfold bE
 rw [if_pos hl, h]
 simp only [hf]
theorem FkOf.hok (F : FkOf ts S f) : HOk f := fun here hh => by
 obtain ⟨p, hp⟩ := List.getElem?_of_mem hh
 have hl : p < ts.length := by
  rw [← F.len]
  exact (List.getElem?_eq_some_iff.mp hp).1
 have e : f.getD p [] = here := by
  have := F.hat hl
  rw [hp] at this
  exact (Option.some.inj this).symm
 have h1 := (F.place hl).nd
 have h2 := F.few hl
 rw [e] at h1 h2
 exact ⟨h1, by omega⟩
theorem Ng {i : Nat} {as : VA} {te te1 : BV.TE} {x : T} {xs ys : List T} (h0 : te[i]? = ξ (ξ (.nd true .lst ys))) (ha : as te = ξ (.ok [x] te1)) (h1 : te1[i]? = ξ (ξ (.nd true .lst xs))) (hl : xs.length < 1000000) : dH (oa "list" jD i as) te = ξ (.fl .next (te1.set i (ξ (.nd true .lst (xs ++ [x]))))) := by
 have e : oa "list" jD i as te = ξ (.ok .non (te1.set i (ξ (.nd true .lst (xs ++ [x]))))) := by
  rw [sA]
  simp only [qM, h0, tP, bM, ha, h1, oJ]
  rw [if_pos ⟨trivial, by decide⟩, if_pos (szl hl)]
 simp only [i7, e, tZ]
theorem wV {i : Nat} {te : BV.TE} {x : T} (h : te[i]? = ξ (ξ x)) : Av i te = ξ (.ok (frz x) (te.set i (ξ (frz x)))) := by
 simp [h]
theorem Em : (keys l).length = l.length := by simp [keys]
structure KF (kn : Lot) (found : List Lot) : Prop where
 nd : (keys kn).Nodup
 eq : ∀ v, v ∈ keys kn ↔ v ∈ found.flatMap keys
 lt : ∀ v ∈ keys kn, v < 4
theorem KF.len {kn : Lot} {found : List Lot} (h : KF kn found) : kn.length ≤ 4 := by
 rw [← Em]
 exact D2 h.nd h.lt
end
section
variable {v: Nat}{l: Lot}
theorem gG {t : VT} {a b : bu} {te te1 : BV.TE} {R : Option VS} (h : t te = ξ (.ok false te1)) (k : b te1 = R) : dG t a b te = R := by
 simp [h, k]
theorem jC {t : VT} {a b : bu} {te te1 : BV.TE} {R : Option VS} (h : t te = ξ (.ok true te1)) (k : a te1 = R) : dG t a b te = R := by
 simp [h, k]
theorem G8 {a b : VD} {te te1 te2 : BV.TE} {neg : Bool} (ha : a te = ξ (.ok (.int (v : Nat)) te1)) (hb : b te1 = ξ (.ok (j9 l) te2)) : cK (Aq (HF neg) a b) te = ξ (.ok ((keys l).contains v != neg) te2) := by
 simp only [ko, GZ, bM, ha, hb, MJ, Bc, JK]
end
section
end
section
end
section
variable {ts: List Tab}{S: Row → Prop}{f: Fk}{p: Nat}{here: List Lot}
theorem FkOf.at_ (F : FkOf ts S f) (h : here ∈ f) : ∃ p, p < ts.length ∧ PlOK S p here := by
 obtain ⟨p, hp⟩ := List.getElem?_of_mem h
 have hl : p < ts.length := by
  rw [← F.len]
  exact (List.getElem?_eq_some_iff.mp hp).1
 exact ⟨p, hl, F.pl p here hp⟩
end
section
theorem QI {as : VA} {te te1 : BV.TE} {x : T} {xs : List T} (q : Sq x xs) (h : as te = ξ (.ok [x] te1)) : vEn as te = ξ (.ok (ra 0 xs) te1) := by
 unfold vEn
 rw [h]
 simp only [bM]
 rw [q.cold]
 obtain ⟨_, rfl | rfl⟩ := q <;> rfl
end
section
variable {c: Cn}{ts: List Tab}{S: Row → Prop}{f: Fk}{v: Nat}{here: List Lot}{l: Lot}
theorem Df {a : VD} {te te1 : BV.TE} {n : Nat} (h : a te = ξ (.ok (.int (n : Nat)) te1)) (hn : n ≤ 1000000) : kO (aa a ah) te = ξ (.ok ((List.range n).map fun v : Nat => T.int (v : Nat)) te1) := by
 have hs : sm 1000000000000 (n : Int) = true := om (by omega)
 rw [Ap]
 simp only [pN, sx, bM, h, hs, if_true]
 rw [← AA]
 simp
theorem wW {g : VG} {body : bu} {t x : T} {us : List T} {te te1 te2 : BV.TE} (h1 : g t te = ξ te1) (h2 : body te1 = ξ (.fl (.ret x) te2)) : b7 g body (t :: us) te = ξ (.fl (.ret x) te2) := by
 unfold b7
 simp only [h1, h2]
theorem xU {e : Nat × Row} {es : Lot} {ls : List Lot} {hs : Fk} : sE (((e :: es) :: ls) :: hs) = e.2 := rfl
theorem xT (F : FkOf ts S f) : fX c [a8 c ts f] = ξ (.ok (rowT (sE f)) []) := by
 have hL : hots (f.map jg) = false := aU fun _ _ => wO
 have it : i6 (au (aZ (c.cl "Forks") "lots" (ae 0))) [ξ (a8 c ts f), ζ, ζ] = ξ (.ok (f.map jg) [ξ (a8 c ts f), ζ, ζ]) := Er (bV (show aZ (c.cl "Forks") "lots" (ae 0) _ = ξ (.nd false .lst (f.map jg)) from Fg) (by simpa using hL)) ⟨hL, .inr rfl⟩
 cases f with
 | nil =>
  have s1 := aH (zs := [0, 1, 2]) ((iS (g := gName 1) (body := (aA [1, 2] (aA [1, 2] (gr (Ar qZ (au (aD fB (ae 1) (aI (.int 0))))) (gName 2) (aA [2] (bA (au (ae 2)))))))) it).trans rfl)
  have s2 : bA (au (hM aK)) [ζ, ζ, ζ] = ξ (.fl (.ret (rowT [])) [ζ, ζ, ζ]) := by
   simp [show (0 : Nat) ≤ sizeLine from eO (by decide), rowT]
  exact bC rfl (dD s1 s2) rfl
 | cons here hs =>
  have h0 : 0 < ts.length := by rw [← F.len]; simp
  have P := F.place h0
  obtain ⟨r0, hr0⟩ := F.one
  obtain ⟨l0, hl0, _⟩ := P.cov r0 r0 hr0 hr0 Ag.refl
  have hh : (here :: hs).getD 0 [] = here := rfl
  rw [hh] at P hl0
  cases here with
  | nil => cases hl0
  | cons l ls =>
   have hne := (P.lot l (by simp)).ne
   cases l with
   | nil => exact absurd rfl hne
   | cons e es =>
    rw [xU]
    have it2 : Ar qZ (au (aD fB (ae 1) (aI (.int 0)))) [ξ (a8 c ts (((e :: es) :: ls) :: hs)), ξ (jg ((e :: es) :: ls)), ζ] = ξ (.ok ((e :: es).map fun e => rowT e.2) [ξ (a8 c ts (((e :: es) :: ls) :: hs)), ξ (jg ((e :: es) :: ls)), ζ]) := by
     have ix : aD fB (ae 1) (aI (.int 0)) [ξ (a8 c ts (((e :: es) :: ls) :: hs)), ξ (jg ((e :: es) :: ls)), ζ] = ξ (j9 (e :: es)) := opI (cO rfl) rfl (gk (i := 0) (ts := ((e :: es) :: ls).map j9) rfl rfl)
     have o := bV ix pG
     unfold Ar
     rw [o]
     simp only [bM, pG, Bool.false_eq_true, if_false]
     rfl
    have f2 : gr (Ar qZ (au (aD fB (ae 1) (aI (.int 0))))) (gName 2) (aA [2] (bA (au (ae 2)))) [ξ (a8 c ts (((e :: es) :: ls) :: hs)), ξ (jg ((e :: es) :: ls)), ζ] = ξ (.fl (.ret (rowT e.2)) [ξ (a8 c ts (((e :: es) :: ls) :: hs)), ξ (jg ((e :: es) :: ls)), ξ (rowT e.2)]) := by
     rw [iS it2, List.map_cons]
     unfold b7
     simp
    have f1 : gr (i6 (au (aZ (c.cl "Forks") "lots" (ae 0)))) (gName 1) (aA [1, 2] (aA [1, 2] (gr (Ar qZ (au (aD fB (ae 1) (aI (.int 0))))) (gName 2) (aA [2] (bA (au (ae 2))))))) [ξ (a8 c ts (((e :: es) :: ls) :: hs)), ζ, ζ] = ξ (.fl (.ret (rowT e.2)) [ξ (a8 c ts (((e :: es) :: ls) :: hs)), ξ (jg ((e :: es) :: ls)), ξ (rowT e.2)]) := by
     rw [iS it, List.map_cons]
     exact wW rfl (hJ (zs := [1, 2]) (hJ (zs := [1, 2]) f2))
    exact bC rfl (kE (hJ f1)) rfl
end
section
end
section
def rowsT (rs : List Row) : T := .nd false .lst (rs.map rowT)
theorem lE {rs : List Row} : hots (rs.map rowT) = false := aU fun _ _ => ck
@[simp] theorem Bu {rs : List Row} : hot (rowsT rs) = false := by simp [rowsT, lE]
end
section
theorem Ig {a b : BV.VV} {te : BV.TE} {i j : Nat} (ha : a te = ξ (.int (i : Nat))) (hb : b te = ξ (.int (j : Nat))) : eR (aD Ki a b) te = ξ (.ok (decide (i ≠ j)) te) := by
 have : aD Ki a b te = ξ (.bl (decide (i ≠ j))) := opI ha hb (by
  rw [HA]
  congr 3
  by_cases h : i = j
  ·simp [h]
  ·have h' : ¬ ((i : Int) = (j : Int)) := by omega
   simp [h, h'])
 unfold eR
 rw [this]
end
section
end
section
end
section
end
section
variable {c: Cn}{ts: List Tab}{S: Row → Prop}{f: Fk}{r: Row}
def HV (c : Cn) (ts : List Tab) : Option Fk → T
 | some f => a8 c ts f
 | none => .non
@[simp] theorem EW {o : Option Fk} : hot (HV c ts o) = false := by
  cases o
  · rfl
  · exact eJ
def setT (c : Cn) (ts : List Tab) (o : Option Fk) : T := .nd false (.ins (c.cl "ClosedSet") ["set_kinds", "forks"]) [.tup (ts.map (kindT c)), HV c ts o]
@[simp] theorem uN {o : Option Fk} : hot (setT c ts o) = false := by
  simp only [setT, ka, Bool.false_or, g8, iH, fR, qV, Bool.or_false, EW]
theorem Fe {o : Option Fk} : ib (c.cl "ClosedSet") "set_kinds" (setT c ts o) = ξ (.tup (ts.map (kindT c))) := by
 simp only [ib, setT, if_true]
 rfl
theorem uP {o : Option Fk} : ib (c.cl "ClosedSet") "forks" (setT c ts o) = ξ (HV c ts o) := by
 simp only [ib, setT, if_true]
 rfl
def Nn (ts : List Tab) (S : Row → Prop) : Option Fk → Prop
 | some f => FkOf ts S f
 | none => ∀ r, ¬ S r
theorem IJ {o : Option Fk} : iD (HV c ts o) .non = ξ (.pur (.bl o.isNone)) := by
 cases o <;> rfl
theorem vN {mn : Str} {V : cD} {a : BV.VV} {as : VA} {te te1 : BV.TE} {xs : List T} {x : T} {o : Option Fk} (hm : (["set_kinds", "forks"] : List Str).contains mn = false) (ho : a te = ξ (setT c ts o)) (ha : as te = ξ (.ok xs te1)) (hV : V xs = ξ (.ok x [])) : bF (c.cl "ClosedSet") mn V [] a as te = ξ (.ok x te1) := by
 rw [nh, ho]
 unfold setT
 simp only [hm, and_self, if_true, bM, ha, hV, uR, List.length_nil, nA]
def qu : Option Row → T
 | some r => rowT r
 | none => .non
@[simp] theorem EV {o : Option Row} : hot (qu o) = false := by
  cases o
  · rfl
  · exact ck
end
section
variable {c: Cn}{p n: Nat}
theorem yl (ok : CnOk c) (h : p < n) : lJ c [.int (p : Nat), .int (n : Nat)] = ξ (.ok (.bl true) []) := by
 have h1 := ok.base (.int (p : Nat)) "int" "int" rfl (by simp)
 have h2 := ok.base (.int (p : Nat)) "int" "bool" rfl (by simp)
 have e1 : isaB "int" "int" = true := by decide
 have e2 : isaB "int" "bool" = false := by decide
 rw [e1] at h1
 rw [e2] at h2
 simp [lJ, bE, oS, h1, h2, eP, h]
end
abbrev Wk := List (Nat × Nat) × Option Nat × Row
def lT (ts : List Tab) (f : Fk) : List Nat → Nat → Row → List (Nat × Nat) → Wk
 | [], _, cur, st => (st, ζ, cur)
 | v :: vs, i, cur, st => if v ∉ keys (a6 f cur i) then (st, ξ i, cur) else if v ≠ g cur i then lT ts f vs (i + 1) (cf ts f cur i v) (st ++ [(i, v)]) else lT ts f vs (i + 1) cur st
section
variable {c: Cn}{ts: List Tab}{S: Row → Prop}{f: Fk}{p v: Nat}
theorem tW (F : FkOf ts S f) {row : Row} (hr : row.length = ts.length) : ∀ {vs : List Nat} {i : Nat} {cur : Row} {st : List (Nat × Nat)}, row.drop i = vs → S cur → Ag (· < i) row cur → ((lT ts f vs i cur st).2.1 = ζ ↔ S row)
  | [], i, cur, st, hd, hc, ag => by
    have hi : row.length ≤ i := List.drop_eq_nil_iff.mp hd
    have e : row = cur := ui (hr.trans (F.cl.len hc).symm) fun j hj => ag j (show j < i by omega)
    rw [e]
    exact ⟨fun _ => hc, fun _ => rfl⟩
  | v :: vs, i, cur, st, hd, hc, ag => by
    have hlt : i < row.length := by
      apply Classical.byContradiction
      intro hn
      rw [List.drop_eq_nil_of_le (by omega)] at hd
      cases hd
    rw [List.drop_eq_getElem_cons hlt] at hd
    injection hd with hv hvs
    have hg : g row i = v := by
      have := jP hlt
      rw [List.getElem?_eq_getElem hlt, hv] at this
      exact (Option.some.inj this).symm
    have hit : i < ts.length := by omega
    unfold lT
    by_cases hk : v ∈ keys (a6 f cur i)
    · rw [if_neg (fun z => z hk)]
      obtain ⟨m1, m2, m3⟩ := F.moved hit hc hk
      by_cases hne : v ≠ g cur i
      · rw [if_pos hne]
        refine tW F hr hvs m1 fun j hj => ?_
        by_cases hj' : j = i
        · subst hj'
          rw [hg, m3]
        · have hj2 : j < i + 1 := hj
          exact (ag j (show j < i by omega)).trans (m2 j (show j < i by omega))
      · rw [if_neg hne]
        refine tW F hr hvs hc fun j hj => ?_
        by_cases hj' : j = i
        · subst hj'
          rw [hg]
          exact Classical.byContradiction hne
        · have hj2 : j < i + 1 := hj
          exact ag j (show j < i by omega)
    · rw [if_pos hk]
      refine ⟨fun h => (by cases h), fun h => absurd ((F.class hit hc).mpr ⟨row, h, ag.symm, hg⟩) hk⟩
def za (st : List (Nat × Nat)) : List T := st.map fun e => T.tup [.int (e.1 : Nat), .int (e.2 : Nat)]
theorem wM {st : List (Nat × Nat)} : hots (za st) = false := aU fun _ _ => rfl
def Q7 (c : Cn) : bu := (aA [4, 5] (a5 (dG (cK (Aq (HF true) (au (ae 5)) (bF (c.cl "Forks") "lot_of" (bH c) [] (aZ (c.cl "ClosedSet") "forks" (ae 0)) (aa (au (aZ (c.cl "ClosedSet") "forks" (ae 0))) (aa (au (ae 2)) (aa (au (ae 4)) ah)))))) (bA (lV (aa (Av 3) (aa (au (ae 4)) (aa (au (ae 2)) ah))))) bf)
  (aA [4, 5] (dG (eR (aD Ki (ae 5) (aD fB (ae 2) (ae 4)))) (a5 (cx (bF (c.cl "Forks") "moved" (dg c) [] (aZ (c.cl "ClosedSet") "forks" (ae 0)) (aa (au (aZ (c.cl "ClosedSet") "forks" (ae 0))) (aa (au (ae 2)) (aa (au (ae 4)) (aa (au (ae 5)) ah))))) (gName 2))
  (aA [4, 5] (dH (oa "list" jD 3 (aa (au (hM (aw (ae 4) (aw (ae 5) aK)))) ah))))) bf))))
def rM (c : Cn) (ts : List Tab) (f : Fk) (row : T) (cur : Row) (st : List (Nat × Nat)) (x y : Option T) : BV.TE := [ξ (setT c ts (ξ f)), ξ row, ξ (rowT cur), ξ (.nd true .lst (za st)), x, y]
theorem Jl {row : T} {cur : Row} {st : List (Nat × Nat)} {x y : Option T} : aZ (c.cl "ClosedSet") "forks" (ae 0) (rM c ts f row cur st x y) = ξ (a8 c ts f) := uP
theorem OB {row : T} {cur : Row} {st : List (Nat × Nat)} (F : FkOf ts S f) (hn : ts.length ≤ 900) (hp : p < ts.length) (hc : S cur) (hl : st.length ≤ 1000) :
    if v ∉ keys (a6 f cur p) then ∃ te', Q7 c (rM c ts f row cur st (ξ (.int (p : Nat))) (ξ (.int (v : Nat)))) = ξ (.fl (.ret (.tup [.nd false .lst (za st), .int (p : Nat), rowT cur])) te') ∧ te'.length = 6
    else if v ≠ g cur p then Q7 c (rM c ts f row cur st (ξ (.int (p : Nat))) (ξ (.int (v : Nat)))) = ξ (.fl .next (rM c ts f row (cf ts f cur p v) (st ++ [(p, v)]) ζ ζ))
    else Q7 c (rM c ts f row cur st (ξ (.int (p : Nat))) (ξ (.int (v : Nat)))) = ξ (.fl .next (rM c ts f row cur st ζ ζ)) := by
  have hcl : p < cur.length := by rw [F.cl.len hc]; exact hp
  have lo := eI (mn := "lot_of") (by decide) (Jl (row := row) (cur := cur) (st := st) (x := ξ (.int (p : Nat))) (y := ξ (.int (v : Nat)))) (aC (bV Jl eJ) (aV (i := 2) rfl ck (aV (i := 4) rfl rfl aN))) (qH (c := c) F hp hc)
  have tst := G8 (neg := true) (v := v) (fP (i := 5) (te := rM c ts f row cur st (ξ (.int (p : Nat))) (ξ (.int (v : Nat)))) rfl rfl) lo
  by_cases hk : v ∈ keys (a6 f cur p)
  · rw [if_neg (fun z => z hk)]
    have ht : ((keys (a6 f cur p)).contains v != true) = false := by simp [hk]
    rw [ht] at tst
    have s1 := gG (a := bA (lV (aa (Av 3) (aa (au (ae 4)) (aa (au (ae 2)) ah))))) (b := bf) tst rfl
    have t2 := Ig (a := ae 5) (b := aD fB (ae 2) (ae 4)) (te := rM c ts f row cur st (ξ (.int (p : Nat))) (ξ (.int (v : Nat)))) (i := v) (j := g cur p) (cO rfl) (opI (cO rfl) (cO rfl) (yk hcl))
    by_cases hne : v ≠ g cur p
    · rw [if_pos hne]
      rw [decide_eq_true hne] at t2
      have s2 := iV (i := 2) (eI (mn := "moved") (by decide) (Jl (row := row) (cur := cur) (st := st) (x := ξ (.int (p : Nat))) (y := ξ (.int (v : Nat)))) (aC (bV Jl eJ) (aV (i := 2) rfl ck (aV (i := 4) rfl rfl (aV (i := 5) rfl rfl aN)))) (zH (c := c) F (by omega) hp hc hk))
      have tp : au (hM (aw (ae 4) (aw (ae 5) aK))) (rM c ts f row (cf ts f cur p v) st (ξ (.int (p : Nat))) (ξ (.int (v : Nat)))) = ξ (.ok (.tup [.int (p : Nat), .int (v : Nat)]) (rM c ts f row (cf ts f cur p v) st (ξ (.int (p : Nat))) (ξ (.int (v : Nat))))) := by
        have z2 : (2 : Nat) ≤ sizeLine := eO (by decide)
        simp [rM, z2]
      have s3 := aH (zs := [4, 5]) (Ng (i := 3) (xs := za st) (ys := za st) rfl (aC tp aN) rfl (by simp [za]; omega))
      have hs : za (st ++ [(p, v)]) = za st ++ [.tup [.int (p : Nat), .int (v : Nat)]] := by simp [za]
      unfold rM
      rw [hs]
      exact aH (zs := [4, 5]) (dD s1 (aH (zs := [4, 5]) (jC (b := bf) t2 (dD s2 s3))))
    · rw [if_neg hne]
      rw [decide_eq_false hne] at t2
      exact aH (zs := [4, 5]) (dD s1 (aH (zs := [4, 5]) (gG (b := bf) t2 rfl)))
  · rw [if_pos hk]
    have ht : ((keys (a6 f cur p)).contains v != true) = true := by simp [hk]
    rw [ht] at tst
    have fz := wV (i := 3) (te := rM c ts f row cur st (ξ (.int (p : Nat))) (ξ (.int (v : Nat)))) rfl
    rw [E7 wM] at fz
    have tu := Ct (aC fz (aV (i := 4) rfl rfl (aV (i := 2) rfl ck aN))) (eO (by simp))
    exact ⟨_, hJ (kE (jC (b := bf) tst (cP tu))), rfl⟩
end
section
variable {c: Cn}{ts: List Tab}{S: Row → Prop}{f: Fk}{r: Row}{v: Nat}
def QW (c : Cn) (ts : List Tab) (f : Fk) (row : T) (w : Wk) (x : Option VS) : Prop := match w.2.1 with
 | none => x = ξ (.fl .next (rM c ts f row w.2.2 w.1 ζ ζ))
 | some k => ∃ te', x = ξ (.fl (.ret (.tup [.nd false .lst (za w.1), .int (k : Nat), rowT w.2.2])) te') ∧ te'.length = 6
theorem qX {g : VG} {body : bu} {t : T} {us : List T} {te te1 te2 : BV.TE} (h1 : g t te = ξ te1) (h2 : body te1 = ξ (.fl .next te2)) : b7 g body (t :: us) te = b7 g body us te2 := by
 rw [b7]
 simp only [h1, h2]
theorem tV {row : T} (F : FkOf ts S f) (hn : ts.length ≤ 900) : ∀ {vs : List Nat} {i : Nat} {cur : Row} {st : List (Nat × Nat)}, i + vs.length = ts.length → S cur → st.length ≤ i → QW c ts f row (lT ts f vs i cur st) (b7 (kb 2 (bc (gName 4) (bc (gName 5) gQ))) (Q7 c) (ra i (vs.map fun v => T.int (v : Nat))) (rM c ts f row cur st ζ ζ))
 | [], i, cur, st, _, _, _ => rfl
 | v :: vs, i, cur, st, hi, hc, hs => by
  rw [List.length_cons] at hi
  have hit : i < ts.length := by omega
  have turn := OB (c := c) (row := row) (v := v) (st := st) F hn hit hc (by omega)
  have hg : kb 2 (bc (gName 4) (bc (gName 5) gQ)) (.tup [.int (i : Nat), .int (v : Nat)]) (rM c ts f row cur st ζ ζ) = ξ (rM c ts f row cur st (ξ (.int (i : Nat))) (ξ (.int (v : Nat)))) := by
   simp [rM]
  rw [List.map_cons, ra, lT]
  by_cases hk : v ∉ keys (a6 f cur i)
  ·rw [if_pos hk] at turn ⊢
   obtain ⟨te', e, l⟩ := turn
   exact ⟨te', wW hg e, l⟩
  ·rw [if_neg hk] at turn ⊢
   have hk' : v ∈ keys (a6 f cur i) := Classical.byContradiction hk
   by_cases hne : v ≠ g cur i
   ·rw [if_pos hne] at turn ⊢
    rw [qX hg turn]
    exact tV F hn (by omega) (F.moved hit hc hk').1 (by simp; omega)
   ·rw [if_neg hne] at turn ⊢
    rw [qX hg turn]
    exact tV F hn (by omega) hc (by omega)
def HU : Option Nat → T
 | some k => .int (k : Nat)
 | none => .non
def GO (ts : List Tab) (f : Fk) (r : Row) : Wk := lT ts f r 0 (iJ ts f false (sE f) 0) []
theorem K5 (ok : CnOk c) (F : FkOf ts S f) (hn : ts.length ≤ 900) (hr : RowOK ts r) : dW c [setT c ts (ξ f), rowT r] = ξ (.ok (.tup [.nd false .lst (za (GO ts f r).1), HU (GO ts f r).2.1, rowT (GO ts f r).2.2]) []) := by
 have ir := wH ok (nK (c := c) (ts := ts)) (by omega) (x := rowT r) Dat.row.elt Dat.row.kids
 rw [sL hr] at ir
 generalize hte : [ξ (setT c ts (ξ f)), ξ (rowT r), ζ, ζ, ζ, ζ] = te
 have sk : aZ (c.cl "ClosedSet") "set_kinds" (ae 0) te = ξ (.tup (ts.map (kindT c))) := by subst hte; exact Fe
 have fk : aZ (c.cl "ClosedSet") "forks" (ae 0) te = ξ (a8 c ts f) := by subst hte; exact uP
 have w1 : te[1]? = ξ (ξ (rowT r)) := by subst hte; rfl
 have c1 := iK (te := te) (aC (bV sk (by simp [fR])) (aV w1 ck aN)) ir
 have t1 : cG (cK (bj (e8 c) [] (aa (au (aZ (c.cl "ClosedSet") "set_kinds" (ae 0))) (aa (au (ae 1)) ah)))) te = ξ (.ok false te) := by
  rw [ng, ko, c1]
  rfl
 have s1 := gG (a := t4) (b := bf) t1 rfl
 have t2 : eR (aD iD (aZ (c.cl "ClosedSet") "forks" (ae 0)) (aI .non)) te = ξ (.ok false te) := by
  have : aD iD (aZ (c.cl "ClosedSet") "forks" (ae 0)) (aI .non) te = ξ (.bl false) := opI fk rfl rfl
  unfold eR
  rw [this]
 have s2 := gG (a := t4) (b := bf) t2 rfl
 have sr := eI (mn := "some_row") (by decide) fk (aC (bV fk eJ) aN) (xT (c := c) F)
 have dr := eI (mn := "driven") (by decide) fk (aC (bV fk eJ) (aC sr (aC (bV (show aI (.int 0) te = ξ (.int ((0 : Nat) : Int)) from rfl) rfl) (aC (bV (show aI (.bl false) te = ξ (.bl false) from rfl) rfl) aN)))) (Ft (c := c) (up := false) (b := 0) F (by omega) (by omega) (pW F))
 have s3 := iV (i := 2) dr
 have hcur := (oL (up := false) F (b := 0) (by omega) (pW F)).1
 generalize hcu : iJ ts f false (sE f) 0 = cur at s3 hcur
 have s4 : cx (bx ah) (gName 3) [ξ (setT c ts (ξ f)), ξ (rowT r), ξ (rowT cur), ζ, ζ, ζ] = ξ (.fl .next (rM c ts f (rowT r) cur [] ζ ζ)) := by
  simp [show (0 : Nat) ≤ sizeLine from eO (by decide), rM, za]
 have it := QI (Sq.row (r := r)) (aV (i := 1) (te := rM c ts f (rowT r) cur [] ζ ζ) rfl ck aN)
 have lp := tV (c := c) (row := rowT r) F hn (vs := r) (i := 0) (cur := cur) (st := []) (by rw [hr.1]; omega) hcur (by simp)
 have hw : GO ts f r = lT ts f r 0 cur [] := by unfold GO; rw [hcu]
 rw [hw]
 generalize lT ts f r 0 cur [] = w at lp
 obtain ⟨st, k, cu⟩ := w
 subst hte
 cases k with
 | none =>
  have lp : b7 _ _ _ _ = _ := lp
  have s5 := aH (zs := [0, 1, 4, 5]) ((iS it).trans lp)
  have fz := wV (i := 3) (te := [ζ, ζ, ξ (rowT cu), ξ (.nd true .lst (za st)), ζ, ζ]) rfl
  rw [E7 wM] at fz
  have tu := Ct (aC fz (aC (bV (show aI .non [ζ, ζ, ξ (rowT cu), ξ (.nd false .lst (za st)), ζ, ζ] = ξ .non from rfl) rfl) (aV (i := 2) rfl ck aN))) (eO (by simp))
  exact bC rfl (dD s1 (dD s2 (dD s3 (dD s4 (dD s5 (cP tu)))))) rfl
 | some k =>
  obtain ⟨te', e, l⟩ := lp
  have s5 := hJ (zs := [0, 1, 4, 5]) ((iS it).trans e)
  refine bC rfl (dD s1 (dD s2 (dD s3 (dD s4 (kE s5))))) ?_
  match te', l with
  | [a, b, d, e, f, g], _ => rfl
theorem QB (ok : CnOk c) (F : FkOf ts S f) (hn : ts.length ≤ 900) (hr : RowOK ts r) : V_ClosedSet_has c [setT c ts (ξ f), rowT r] = ξ (.ok (.bl (GO ts f r).2.1.isNone) []) := by
 have ir := wH ok (nK (c := c) (ts := ts)) (by omega) (x := rowT r) Dat.row.elt Dat.row.kids
 rw [sL hr] at ir
 generalize hte : [ξ (setT c ts (ξ f)), ξ (rowT r), ζ, ζ, ζ] = te
 have sk : aZ (c.cl "ClosedSet") "set_kinds" (ae 0) te = ξ (.tup (ts.map (kindT c))) := by subst hte; exact Fe
 have fk : aZ (c.cl "ClosedSet") "forks" (ae 0) te = ξ (a8 c ts f) := by subst hte; exact uP
 have w0 : te[0]? = ξ (ξ (setT c ts (ξ f))) := by subst hte; rfl
 have w1 : te[1]? = ξ (ξ (rowT r)) := by subst hte; rfl
 have c1 := iK (te := te) (aC (bV sk (by simp [fR])) (aV w1 ck aN)) ir
 have t1 : cG (cK (bj (e8 c) [] (aa (au (aZ (c.cl "ClosedSet") "set_kinds" (ae 0))) (aa (au (ae 1)) ah)))) te = ξ (.ok false te) := by
  rw [ng, ko, c1]
  rfl
 have t2 : eR (aD iD (aZ (c.cl "ClosedSet") "forks" (ae 0)) (aI .non)) te = ξ (.ok false te) := by
  have : aD iD (aZ (c.cl "ClosedSet") "forks" (ae 0)) (aI .non) te = ξ (.bl false) := opI fk rfl rfl
  unfold eR
  rw [this]
 have t3 : jV (eR (aD iD (aZ (c.cl "ClosedSet") "forks" (ae 0)) (aI .non))) (cG (cK (bj (e8 c) [] (aa (au (aZ (c.cl "ClosedSet") "set_kinds" (ae 0))) (aa (au (ae 1)) ah))))) te = ξ (.ok false te) := by
  rw [vj, t2]
  exact t1
 have s1 := gG (a := bA (au (aI (.bl false)))) (b := bf) t3 rfl
 have m := vN (mn := "walk") (by decide) (cO w0) (aV w0 uN (aV w1 ck aN)) (K5 (c := c) ok F hn hr)
 generalize GO ts f r = w at m
 obtain ⟨st, k, cu⟩ := w
 subst hte
 have s2 : aA [0, 1, 2, 4] (cx (bF (c.cl "ClosedSet") "walk" (dW c) [] (ae 0) (aa (au (ae 0)) (aa (au (ae 1)) ah))) (kb 3 (bc (gName 2) (bc (gName 3) (bc (gName 4) gQ))))) [ξ (setT c ts (ξ f)), ξ (rowT r), ζ, ζ, ζ] = ξ (.fl .next [ζ, ζ, ζ, ξ (HU k), ζ]) := by
  have gen : ∀ (a : VD) (te : BV.TE) (x y z : T), te.length = 5 → a te = ξ (.ok (.tup [x, y, z]) te) → ∃ te1, cx a (kb 3 (bc (gName 2) (bc (gName 3) (bc (gName 4) gQ)))) te = ξ (.fl .next te1) ∧ te1 = ((te.set 2 (ξ x)).set 3 (ξ y)).set 4 (ξ z) := fun a te x y z _ h => ⟨_, by simp [h], rfl⟩
  obtain ⟨te1, e1, e2⟩ := gen _ _ _ _ _ rfl m
  rw [aH e1, e2]
  rfl
 have t5 : aD iD (ae 3) (aI .non) [ζ, ζ, ζ, ξ (HU k), ζ] = ξ (.bl k.isNone) := by
  cases k <;> rfl
 exact bC rfl (dD s1 (dD s2 (cP (bV t5 rfl)))) rfl
end
section
end
section
variable {ts: List Tab}{S: Row → Prop}{places: List Nat}{x y z r: Row}
theorem Kj (hp : ∀ p ∈ places, p < ts.length) {i : Nat} (hi : i < places.length) : jZ (pmT places ts) i = jZ ts places[i] := by
 unfold pmT jZ
 rw [List.getD_eq_getElem?_getD, List.getElem?_map, List.getElem?_eq_getElem hi]
 rfl
theorem x8 (hp : ∀ p ∈ places, p < ts.length) (h : RowOK ts r) : RowOK (pmT places ts) (FZ places r) := by
 refine De (by simp [FZ, pmT]) fun i hi => ?_
 have hi' : i < places.length := by simpa [pmT] using hi
 rw [Kj hp hi', qp (List.getElem?_eq_getElem hi')]
 exact h.at2 (hp _ (List.getElem_mem hi'))
theorem zX (hx : RowOK ts x) (hy : RowOK ts y) (hz : RowOK ts z) {i : Nat} (hi : i < ts.length) : g (comb ts x y z) i = (jZ ts i).2 (g x i) (g y i) (g z i) := by
 rw [yu hx hy hz hi]
 unfold jZ
 rw [List.getD_eq_getElem?_getD, List.getElem?_eq_getElem hi]
 rfl
theorem HM (hp : ∀ p ∈ places, p < ts.length) (hx : RowOK ts x) (hy : RowOK ts y) (hz : RowOK ts z) : comb (pmT places ts) (FZ places x) (FZ places y) (FZ places z) = FZ places (comb ts x y z) := by
 refine ui (by rw [ig]; simp [FZ, pmT]) fun i hi => ?_
 rw [ig] at hi
 have hi' : i < places.length := by simpa [pmT] using hi
 have hj := hp _ (List.getElem_mem hi')
 have e := List.getElem?_eq_getElem hi'
 rw [zX (x8 hp hx) (x8 hp hy) (x8 hp hz) hi, Kj hp hi', qp e, qp e, qp e, qp e, zX hx hy hz hj]
structure LimOK (ts : List Tab) (l : List Nat × List Row) : Prop where
 pl : ∀ p ∈ l.1, p < ts.length
 len : l.1.length ≤ 3
 row : ∀ r ∈ l.2, RowOK (pmT l.1 ts) r
 few : l.2.length < 64
 clo : ∀ x y z, x ∈ l.2 → y ∈ l.2 → z ∈ l.2 → comb (pmT l.1 ts) x y z ∈ l.2
theorem LimOK.cl {l : List Nat × List Row} (L : LimOK ts l) (C : Cl ts S) : Cl ts fun r => S r ∧ l.1.map (g r) ∈ l.2 := ⟨C.good, fun r h => C.ok r h.1, fun x y z hx hy hz => ⟨C.clo x y z hx.1 hy.1 hz.1, by
 have e := HM (places := l.1) L.pl (C.ok x hx.1) (C.ok y hy.1) (C.ok z hz.1)
 have := L.clo _ _ _ hx.2 hy.2 hz.2
 have e2 : comb (pmT l.1 ts) (l.1.map (g x)) (l.1.map (g y)) (l.1.map (g z)) = l.1.map (g (comb ts x y z)) := e
 rw [← e2]
 exact this⟩⟩
end
section
abbrev QZ := List Nat × List Row
def Io (l : QZ) : T := .tup [kU l.1, rowsT l.2]
@[simp] theorem Jb {l : QZ} : hot (Io l) = false := by simp [Io]
end
section
def Km (ls : List QZ) : T := .nd false .lst (ls.map Io)
theorem Bs {ls : List QZ} : hots (ls.map Io) = false := aU fun _ _ => Jb
@[simp] theorem QA {ls : List QZ} : hot (Km ls) = false := by simp [Km, Bs]
end
inductive Gen (ts : List Tab) (rs : List Row) : Row → Prop
 | base {r : Row} : r ∈ rs → Gen ts rs r
 | comb {x y z : Row} : Gen ts rs x → Gen ts rs y → Gen ts rs z → Gen ts rs (comb ts x y z)
section
variable {ts: List Tab}{rs: List Row}{r: Row}
theorem Gen.ok (good : ∀ t ∈ ts, GoodT t) (hr : ∀ r ∈ rs, RowOK ts r) (h : Gen ts rs r) : RowOK ts r := by
 induction h with
 | base h => exact hr _ h
 | comb _ _ _ a b d => exact JA good a b d
structure Clo (ts : List Tab) (rs k : List Row) : Prop where
 nd : k.Nodup
 gen : ∀ r ∈ k, Gen ts rs r
 sub : ∀ r ∈ rs, r ∈ k
 clo : ∀ x y z, x ∈ k → y ∈ k → z ∈ k → comb ts x y z ∈ k
end
section
theorem ja {V : cD} {i : Nat} {as : VA} {te te1 : BV.TE} {s s1 s' x : T} {xs : List T} (h0 : te[i]? = ξ (ξ s)) (ha : as te = ξ (.ok xs te1)) (h1 : te1[i]? = ξ (ξ s1)) (hV : V (s1 :: xs) = ξ (.ok x [s'])) : bj V [i] (bZ i as) te = ξ (.ok x (te1.set i (ξ s'))) := by
 simp [h0, ha, h1, hV]
theorem yb {G : G2} {a b : VD} {te te1 te2 : BV.TE} {x y z : T} (h1 : a te = ξ (.ok x te1)) (h2 : b te1 = ξ (.ok y te2)) (h3 : G x y = ξ (.pur z)) : Aq G a b te = ξ (.ok z te2) := by
 simp [h1, h2, h3]
theorem tH {G : GN} {as : VA} {te te1 : BV.TE} {xs : List T} {x : T} (ha : as te = ξ (.ok xs te1)) (h : G xs = ξ (.pur x)) : oU G as te = ξ (.ok x te1) := by
 simp [ha, h]
end
section
variable {te te1: BV.TE}
theorem zy {G : G2} {a : VD} {b : BV.VV} {x y z : T} (h1 : a te = ξ (.ok x te1)) (h2 : b te1 = ξ y) (h3 : G x y = ξ (.pur z)) (hc : hot z = false) : lX G a b te = ξ (.ok z te1) := by
 simp [h1, h2, h3, hc]
theorem kq {a : VD} {b : Bool} (h : a te = ξ (.ok (.bl b) te1)) : cK a te = ξ (.ok b te1) := by
 rw [ko, h]
 rfl
end
section
def lt1 : Row → Row → Prop
 | a :: x, b :: y => a < b ∨ (a = b ∧ lt1 x y)
 | _, _ => False
end
section
variable {ts: List Tab}
variable {S: Row → Prop}
theorem GL {f : Fk} {r : Row} (F : FkOf ts S f) (hr : r.length = ts.length) : (GO ts f r).2.1.isNone = true ↔ S r := by
 have h := tW F hr (vs := r) (i := 0) (cur := iJ ts f false (sE f) 0) (st := []) (by simp) (oL (up := false) F (b := 0) (by omega) (pW F)).1 (fun i hi => absurd hi (by omega))
 rw [Option.isNone_iff_eq_none]
 exact h
theorem nP {v : Nat} {body : bu} {te : BV.TE} : ∀ {us : List T}, (∀ t ∈ us, body (te.set v (ξ t)) = ξ (.fl .next te)) → b7 (gName v) body us te = ξ (.fl .next te)
 | [], _ => rfl
 | t :: us, h => by
  rw [b7]
  simp only [nO, h t (by simp)]
  exact nP fun t ht => h t (List.mem_cons_of_mem _ ht)
end
section
theorem Nh {a b : VT} {te te1 : BV.TE} (h : a te = ξ (.ok false te1)) : jW a b te = ξ (.ok false te1) := by
 rw [sv, h]
 rfl
theorem JM {a b : VT} {te te1 : BV.TE} {R : Option (VR Bool)} (h : a te = ξ (.ok true te1)) (k : b te1 = R) : jW a b te = R := by
 rw [sv, h]
 exact k
theorem L6 {a b : VT} {te te1 : BV.TE} (h : a te = ξ (.ok true te1)) : jV a b te = ξ (.ok true te1) := by
 rw [vj, h]
 rfl
theorem qE {a : VT} {te te1 : BV.TE} {b : Bool} (h : a te = ξ (.ok b te1)) : cG a te = ξ (.ok (!b) te1) := by
 rw [ng, h]
 rfl
theorem yq {t : VT} {a b : VD} {te te1 : BV.TE} {R : Option (VR T)} (h : t te = ξ (.ok true te1)) (k : a te1 = R) : Au t a b te = R := by
 simp [h, k]
def QM (rs : List Row) : T := .nd false .lst [qu rs.head?, qu rs.getLast?]
@[simp] theorem RH {rs : List Row} : hot (QM rs) = false := by simp [QM]
end
section
variable {c: Cn}{ts: List Tab}{S: Row → Prop}
theorem MP (ok : CnOk c) {o : Option Fk} {rs : List Row} {r : Row} (F : Nn ts S o) (hn : ts.length ≤ 900) (hm : ∀ r, r ∈ rs ↔ S r) (hr : RowOK ts r) : V_ClosedSet_has c [setT c ts o, rowT r] = ξ (.ok (.bl (decide (r ∈ rs))) []) := by
 cases o with
 | none =>
  have t2 : eR (aD iD (aZ (c.cl "ClosedSet") "forks" (ae 0)) (aI .non)) [ξ (setT c ts ζ), ξ (rowT r), ζ, ζ, ζ] = ξ (.ok true [ξ (setT c ts ζ), ξ (rowT r), ζ, ζ, ζ]) := by
   have : aD iD (aZ (c.cl "ClosedSet") "forks" (ae 0)) (aI .non) [ξ (setT c ts ζ), ξ (rowT r), ζ, ζ, ζ] = ξ (.bl true) := opI uP rfl (IJ (o := ζ))
   unfold eR
   rw [this]
  rw [decide_eq_false fun h => F r ((hm r).mp h)]
  exact bC rfl (kE (jC (L6 t2) (cP (bV rfl rfl)))) rfl
 | some f =>
  have h := QB (c := c) ok F hn hr
  have e : (GO ts f r).2.1.isNone = decide (r ∈ rs) := by
   have := GL F hr.1
   rw [← hm] at this
   by_cases hh : r ∈ rs
   ·rw [this.mpr hh, decide_eq_true hh]
   ·rw [decide_eq_false hh, ← Bool.not_eq_true]
    exact fun z => hh (this.mp z)
  rw [e] at h
  exact h
structure NoR (ts : List Tab) (x : T) : Prop where
 vl : Vl 5 100000 x
 no : isRowB ts x = false
theorem NoR.cold {x : T} (h : NoR ts x) : hot x = false := h.vl.cold
theorem NoR.len {xs : List T} (h : Vl 5 100000 (.tup xs)) (hl : xs.length ≠ ts.length) : NoR ts (.tup xs) := ⟨h, by
 show vX ts xs = false
 unfold vX
 rw [beq_eq_false_iff_ne.mpr hl]
 rfl⟩
end
section
variable {ts: List Tab}{rs: List Row}
@[simp] theorem MM {k : List Row} : hot (zh false k) = false := Bv
structure CloS (ts : List Tab) (rs k : List Row) : Prop extends Clo ts rs k where
 srt : k.Pairwise lt1
end
section
end
section
end
section
end
section
end
section
variable {ts: List Tab}{rs: List Row}
theorem CloS.ok {k : List Row} (h : CloS ts rs k) (good : ∀ t ∈ ts, GoodT t) (hr : ∀ r ∈ rs, RowOK ts r) : ∀ r ∈ k, RowOK ts r := fun r hk => (h.gen r hk).ok good hr
end
end QP
end
section
set_option exponentiation.threshold 2000
namespace QP
open PySem hiding Env
open L2 hiding TE gName
open SB BV KV
def Src2 (n : Nat) (t : T) : Prop := ∃ a b d, t = uf a b d ∧ 0 ≤ a ∧ 0 ≤ b ∧ b < 2 ^ 100 ∧ 0 ≤ d ∧ d + n ≤ 1000000000000000
theorem Src2.mono {n m : Nat} {t : T} (h : Src2 n t) (l : m ≤ n) : Src2 m t := by
 obtain ⟨a, b, d, e, h1, h2, h3, h4, h5⟩ := h
 exact ⟨a, b, d, e, h1, h2, h3, h4, by omega⟩
def zt : T := .tup [.int 2147483647, .int 2147483629, .int 2147483587, .int 2147483579, .int 2147483563, .int 2147483549, .int 2147483543, .int 2147483497]
theorem v8 {i : Int} (h0 : 0 ≤ i) (h8 : i < 8) : ∃ p : Int, fB zt (.int i) = ξ (.pur (.int p)) ∧ 0 < p ∧ p < 2147483648 := by
 have : i = 0 ∨ i = 1 ∨ i = 2 ∨ i = 3 ∨ i = 4 ∨ i = 5 ∨ i = 6 ∨ i = 7 := by omega
 rcases this with rfl | rfl | rfl | rfl | rfl | rfl | rfl | rfl
 ·exact ⟨2147483647, rfl, by decide, by decide⟩
 ·exact ⟨2147483629, rfl, by decide, by decide⟩
 ·exact ⟨2147483587, rfl, by decide, by decide⟩
 ·exact ⟨2147483579, rfl, by decide, by decide⟩
 ·exact ⟨2147483563, rfl, by decide, by decide⟩
 ·exact ⟨2147483549, rfl, by decide, by decide⟩
 ·exact ⟨2147483543, rfl, by decide, by decide⟩
 ·exact ⟨2147483497, rfl, by decide, by decide⟩
section
variable {c: Cn}
theorem Pn {i : Int} (h : -1000000000000000000 ≤ i ∧ i ≤ 1000000000000000000) : sm 1000000000000000000 i = true := om (by omega)
theorem D6 {i j : Int} (h : -1000000000000000000 ≤ i ∧ i ≤ 1000000000000000000) : eV (.int i) (.int j) = ξ (.pur (.int (i * j))) := by
 rw [je, if_pos (by rw [Pn h]; rfl)]
theorem D5 {i j : Int} (h : -1000000000000000000 ≤ j ∧ j ≤ 1000000000000000000) : eV (.int i) (.int j) = ξ (.pur (.int (i * j))) := by
 rw [je, if_pos (by rw [Pn h, Bool.or_true])]
theorem Bi {i j : Int} (h : 0 < j) : qg (.int i) (.int j) = ξ (.pur (.int (i % j))) := by
 rw [mv, if_pos h]
theorem M5 {i j : Int} (h : 0 < j) (h2 : j < 1000000000) : A7 (.int i) (.int j) = ξ (.pur (.int (i / j))) := by
 rw [qh, if_pos (by rw [decide_eq_true h, om (show j.natAbs ≤ 1073741823 by omega)]; rfl)]
theorem powI {i : Int} (h0 : 0 ≤ i) (h : i < 2 ^ 200) : x4 (.int i) (.int 3) = ξ (.pur (.int (i ^ 3))) := by
 have p1 : sm (2 ^ 999) i = true := by
  apply om
  exact Nat.le_of_lt (Nat.lt_trans (Bh (n := 2 ^ 200) h0 (by omega)) (Nat.pow_lt_pow_right (by decide) (by decide)))
 rw [j3, if_pos (by rw [p1]; rfl)]
 rfl
theorem addI {i j : Int} : dJ (.int i) (.int j) = ξ (.pur (.int (i + j))) := rfl
theorem z4 {n k : Nat} {s : T} (hs : Src2 (n + 1) s) (hk : 0 < k) (hk2 : k < 1000000) : ∃ (v : Nat) (s' : T), bT c [s, .int k] = ξ (.ok (.int v) [s']) ∧ v < k ∧ Src2 n s' := by
 obtain ⟨a, b, d, rfl, h1, h2, h3, h4, h5⟩ := hs
 have hk4 : (0 : Int) < k := by omega
 have x0 : ixN 3 (0 : Int) = ξ 0 := rfl
 have x2 : ixN 3 (2 : Int) = ξ 2 := rfl
 by_cases ha : 0 < a
 ·have hv := Int.emod_nonneg a (b := (k : Int)) (by omega)
  have hv2 := Int.emod_lt_of_pos a hk4
  have dv := M5 (i := a) hk4 (show (k : Int) < 1000000000 by omega)
  refine ⟨(a % k).toNat, uf (a / k) b d, ?_, by omega, ⟨a / k, b, d, rfl, Int.ediv_nonneg h1 (by omega), h2, h3, h4, by omega⟩⟩
  simp [-qh, bT, bE, eB, uf, ix3, ha, hk, hk4, dv, x0, eP]
  rw [Int.max_eq_left hv]
 ·have g1 := Int.emod_nonneg (d + 1) (b := 8) (by decide)
  have g2 := Int.emod_lt_of_pos (d + 1) (b := 8) (by decide)
  have g3 := Int.emod_nonneg (d + 1 + 3) (b := 8) (by decide)
  have g4 := Int.emod_lt_of_pos (d + 1 + 3) (b := 8) (by decide)
  obtain ⟨p, hp, p0, p1⟩ := v8 g1 g2
  obtain ⟨q, hq, q0, q1⟩ := v8 g3 g4
  have hB : 0 ≤ b * (2 * (d + 1) + 5) + 6217 * (d + 1) * (d + 1) + 83 ∧ b * (2 * (d + 1) + 5) + 6217 * (d + 1) * (d + 1) + 83 < 2 ^ 200 := by
   have u1 : 0 ≤ b * (2 * (d + 1) + 5) := Int.mul_nonneg h2 (by omega)
   have u2 : 0 ≤ 6217 * (d + 1) * (d + 1) := Int.mul_nonneg (by omega) (by omega)
   have u3 : b * (2 * (d + 1) + 5) ≤ 2 ^ 100 * 10000000000000000 := Int.mul_le_mul (by omega) (by omega) (by omega) (by decide)
   have u4 : 6217 * (d + 1) * (d + 1) ≤ 10000000000000000000 * 10000000000000000 := Int.mul_le_mul (by omega) (by omega) (by omega) (by decide)
   have u5 : (2 : Int) ^ 100 * 10000000000000000 + 10000000000000000000 * 10000000000000000 + 83 < 2 ^ 200 := by decide
   omega
  generalize hX : (b * (2 * (d + 1) + 5) + 6217 * (d + 1) * (d + 1) + 83) ^ 3 % p = X
  have hX0 : 0 ≤ X ∧ X < 2147483648 := by
   rw [← hX]
   have a1 := Int.emod_nonneg ((b * (2 * (d + 1) + 5) + 6217 * (d + 1) * (d + 1) + 83) ^ 3) (b := p) (by omega)
   have a2 := Int.emod_lt_of_pos ((b * (2 * (d + 1) + 5) + 6217 * (d + 1) * (d + 1) + 83) ^ 3) p0
   omega
  generalize hY : X * (X / 4093 + 29) % q / 16 = Y
  have hv := Int.emod_nonneg Y (b := (k : Int)) (by omega)
  have hv2 := Int.emod_lt_of_pos Y hk4
  have m1 := D6 (i := 2) (j := d + 1) (by decide)
  have m2 := D5 (i := b) (j := 2 * (d + 1) + 5) (by omega)
  have m3 := D6 (i := 6217) (j := d + 1) (by decide)
  have m4 := D5 (i := 6217 * (d + 1)) (j := d + 1) (by omega)
  have m5 := powI hB.1 hB.2
  have m6 := Bi (i := (b * (2 * (d + 1) + 5) + 6217 * (d + 1) * (d + 1) + 83) ^ 3) p0
  have m7 := M5 (i := X) (j := 4093) (by decide) (by decide)
  have m8 := D6 (i := X) (j := X / 4093 + 29) (by omega)
  have m9 := Bi (i := X * (X / 4093 + 29)) q0
  have m10 := M5 (i := X * (X / 4093 + 29) % q) (j := 16) (by decide) (by decide)
  have m11 := Bi (i := Y) hk4
  have m12 := Bi (i := d + 1) (j := 8) (by decide)
  have m13 := Bi (i := d + 1 + 3) (j := 8) (by decide)
  have z8 : (8 : Nat) ≤ sizeLine := eO (by decide)
  rw [hX] at m6
  rw [hY] at m10
  refine ⟨(Y % k).toNat, uf a b (d + 1), ?_, by omega, ⟨a, b, d + 1, rfl, h1, h2, h3, by omega, by omega⟩⟩
  unfold zt at hp hq
  simp [-je, -mv, -qh, -j3, bT, bE, eB, uf, ix3, ha, x2, eP, m1, m2, m3, m4, m5, m6, m7, m8, m9, m10, m11, m12, m13, hp, hq, z8]
  rw [Int.max_eq_left hv]
theorem AI {ns : List Int} {at_ : Nat} (hat : at_ < 100) : ∃ s, dS c [.scr ns, .int at_] = ξ (.ok s []) ∧ Src2 100000000000000 s := by
 have key : ∀ cell : Int, ∃ s, a5 (cx (au (bt Dw (aw (ae 2) aK))) (gName 3))
  (bA (bx (aa (au (aD eV (ae 3) (bt zp (aw (aD Rx (ae 3) (aD x4 (aI (.int 10)) (aI (.int 18)))) aK)))) (aa (au (aD dJ (aD dJ (aD dJ (aD qg (ae 2) (aI (.int 1000000000000000009))) (aD eV (aD eV (aI (.int 9973)) (ae 1)) (ae 1))) (aD eV (aI (.int 71)) (ae 1))) (aI (.int 7)))) (aa (au (aI (.int 0))) ah))))) [ζ, ξ (.int at_), ξ (.int cell), ζ] = ξ (.fl (.ret s) [ζ, ξ (.int at_), ξ (.int cell), ξ (.int (cell.natAbs : Nat))]) ∧ Src2 100000000000000 s := fun cell => by
  have p18 : x4 (.int 10) (.int 18) = ξ (.pur (.int 1000000000000000000)) := by
   rw [j3, if_pos (by rw [p10]; rfl)]
   rfl
  have z3 : (3 : Nat) ≤ sizeLine := eO (by decide)
  have md := Bi (i := cell) (j := 1000000000000000009) (by decide)
  have r1 := Int.emod_nonneg cell (b := 1000000000000000009) (by decide)
  have r2 := Int.emod_lt_of_pos cell (b := 1000000000000000009) (by decide)
  have m1 := D6 (i := 9973) (j := (at_ : Int)) (by decide)
  have m2 := D5 (i := 9973 * (at_ : Int)) (j := (at_ : Int)) (by omega)
  have m3 := D6 (i := 71) (j := (at_ : Int)) (by decide)
  have ab : Dw [.int cell] = ξ (.pur (.int (cell.natAbs : Nat))) := by
   rw [qj, show (if cell < 0 then -cell else cell) = ((cell.natAbs : Nat) : Int) by split <;> omega]
  have sq : (9973 * (at_ : Int)) * (at_ : Int) ≤ 9973 * 100 * 100 := Int.mul_le_mul (by omega) (by omega) (by omega) (by decide)
  have sq0 : 0 ≤ (9973 * (at_ : Int)) * (at_ : Int) := Int.mul_nonneg (by omega) (by omega)
  by_cases hb : (1000000000000000000 : Int) ≤ (cell.natAbs : Nat)
  ·have m4 := D5 (i := ((cell.natAbs : Nat) : Int)) (j := 1) (by decide)
   refine ⟨uf (cell.natAbs : Nat) (cell % 1000000000000000009 + 9973 * (at_ : Int) * (at_ : Int) + 71 * (at_ : Int) + 7) 0, ?_, ⟨_, _, _, rfl, by omega, by omega, by omega, by omega, by omega⟩⟩
   rw [Int.mul_one] at m4
   simp [-je, -mv, -j3, -qj, ab, p18, md, m1, m2, m3, m4, z3, hb, uf]
  ·have m4 := D5 (i := ((cell.natAbs : Nat) : Int)) (j := 0) (by decide)
   refine ⟨uf 0 (cell % 1000000000000000009 + 9973 * (at_ : Int) * (at_ : Int) + 71 * (at_ : Int) + 7) 0, ?_, ⟨_, _, _, rfl, by omega, by omega, by omega, by omega, by omega⟩⟩
   rw [Int.mul_zero] at m4
   simp [-je, -mv, -j3, -qj, ab, p18, md, m1, m2, m3, m4, z3, hb, uf]
 have a1 : cx (au (aI (.int 0))) (gName 2) [ξ (.scr ns), ξ (.int at_), ζ, ζ] = ξ (.fl .next [ξ (.scr ns), ξ (.int at_), ξ (.int 0), ζ]) := iV (bV rfl rfl)
 have lt : eR (aD A3 (ae 1) (bt cm (aw (ae 0) aK))) [ξ (.scr ns), ξ (.int at_), ξ (.int 0), ζ] = ξ (.ok (decide ((at_ : Int) < (ns.length : Nat))) [ξ (.scr ns), ξ (.int at_), ξ (.int 0), ζ]) := by
  simp
 by_cases h : at_ < ns.length
 ·rw [decide_eq_true (by omega)] at lt
  have hx : fB (.scr ns) (.int at_) = ξ (.pur (.int ns[at_])) := gk (ts := ns.map T.int) rfl (by rw [List.getElem?_map, List.getElem?_eq_getElem h]; rfl)
  obtain ⟨s, e, hs⟩ := key ns[at_]
  have a2 := aH (zs := [0]) (jC (b := bf) lt (aH (zs := [0]) (iV (i := 2) (bV (opI (cO (i := 0) rfl) (cO (i := 1) rfl) hx) rfl))))
  exact ⟨s, bC rfl (dD a1 (dD a2 e)) rfl, hs⟩
 ·rw [decide_eq_false (by omega)] at lt
  obtain ⟨s, e, hs⟩ := key 0
  have a2 := aH (zs := [0]) (gG (a := aA [0] (cx (au (aD fB (ae 0) (ae 1))) (gName 2))) (b := bf) lt rfl)
  exact ⟨s, bC rfl (dD a1 (dD a2 e)) rfl, hs⟩
end
end QP
end
section
namespace QP
open PySem hiding Env
open L2 hiding TE gName
open SB BV KV
section
def DC (P : List Row) : T := .tup (P.map rowT)
@[simp] theorem MO {P : List Row} : hot (DC P) = false := by simp [DC, lE]
end
section
theorem Iv {α : Type} {enc : α → T} {P : α → Prop} {cost n k v : Nat} {zs : List Nat} {mk : T → BV.TE} {e elt : VD} {te : BV.TE} {s1 : T}
  (he : e te = ξ (.ok (.int (k : Nat)) (mk s1))) (hs : Src2 (n + cost * k) s1) (hk : k ≤ 1000000)
  (hc : dN (mk s1) zs = true) (hw : ∀ s, aT (mk s) zs = mk s) (hr : ∀ s s', cM (mk s) (mk s') zs = mk s')
  (step : ∀ (m : Nat) (s : T) (i : Nat), Src2 (m + cost) s → ∃ x s' te3, elt ((mk s).set v (ξ (.int (i : Nat)))) = ξ (.ok (enc x) te3) ∧ aT te3 zs = mk s' ∧ P x ∧ Src2 m s') :
  ∃ (xs : List α) (s' : T), vm (kO (aa e ah)) (gName v) fv elt zs te = ξ (.ok (.nd true .lst (xs.map enc)) (mk s')) ∧ xs.length = k ∧ (∀ x ∈ xs, P x) ∧ Src2 n s' := by
 obtain ⟨ys, te2, e2, xs, s2, rfl, hl, hp, hs2, rfl⟩ := LD (v := v) (zs := zs) (e := e) (n := k) (elt := elt) (te := te) (te1 := mk s1)
  (fun i ys te => ∃ (xs : List α) (s' : T), ys = xs.map enc ∧ xs.length = i ∧ (∀ x ∈ xs, P x) ∧ Src2 (n + cost * (k - i)) s' ∧ te = mk s') he hk hc ⟨[], s1, rfl, rfl, by simp, by simpa using hs, hw s1⟩ (fun i ys te hi hI => by
   obtain ⟨xs, s', rfl, hl, hp, hs', rfl⟩ := hI
   have e1 : k - i = (k - (i + 1)) + 1 := by omega
   rw [e1, Nat.mul_succ, ← Nat.add_assoc] at hs'
   obtain ⟨x, s3, te3, e3, w3, p3, hs3⟩ := step _ s' i hs'
   refine ⟨enc x, te3, e3, xs ++ [x], s3, by simp, by simp [hl], fun q hq => ?_, hs3, w3⟩
   rcases List.mem_append.mp hq with h | h
   ·exact hp q h
   ·simp at h
    subst h
    exact p3)
 refine ⟨xs, s2, ?_, hl, hp, by simpa using hs2⟩
 rw [e2, hr]
end
section
end
section
end
section
end
section
end
section
variable {ts: List Tab}{S: Row → Prop}{f: Fk}{p: Nat}{here here': List Lot}{l l': Lot}
def Least (P : Row → Prop) (r : Row) : Prop := P r ∧ ∀ x, P x → x = r ∨ Lx r x
theorem Least.uniq {P : Row → Prop} {r r' : Row} (h : Least P r) (h' : Least P r') : r = r' := by
 rcases h.2 r' h'.1 with e | e
 ·exact e.symm
 ·rcases h'.2 r h.1 with e' | e'
  ·exact e'
  ·exact (Lx.asym e e').elim
def LotL (S : Row → Prop) (p : Nat) : Lot → Prop
 | [] => False
 | e :: l => Least (fun x => S x ∧ g x p = e.1) e.2 ∧ ∀ d ∈ l, Least (fun x => S x ∧ Ag (· < p) e.2 x ∧ g x p = d.1) d.2
structure LeastPl (S : Row → Prop) (p : Nat) (here : List Lot) : Prop where
 pl : PlOK S p here
 srt : ∀ l ∈ here, (keys l).Pairwise (· < ·)
 ord : here.Pairwise fun l l' => (keys l).headD 0 < (keys l').headD 0
 lst : ∀ l ∈ here, LotL S p l
theorem Ik : ∀ {l l' : Lot}, LotL S p l → LotL S p l' → keys l = keys l' → l = l'
 | [], _, h, _, _ => h.elim
 | _ :: _, [], _, h, _ => h.elim
 | (v, r) :: l, (v', r') :: l', h, h', e => by
  injection e with e1 e2
  have e1 : v = v' := e1
  subst e1
  have er : r = r' := h.1.uniq h'.1
  subst er
  have : ∀ {l l' : Lot}, (∀ d ∈ l, Least (fun x => S x ∧ Ag (· < p) r x ∧ g x p = d.1) d.2) → (∀ d ∈ l', Least (fun x => S x ∧ Ag (· < p) r x ∧ g x p = d.1) d.2) → keys l = keys l' → l = l' := by
   intro l
   induction l with
   | nil =>
    intro l' _ _ e
    cases l' with
    | nil => rfl
    | cons _ _ => simp [keys] at e
   | cons d l ih =>
    intro l' h h' e
    cases l' with
    | nil => simp [keys] at e
    | cons d' l' =>
     injection e with e1 e2
     have e1 : d.1 = d'.1 := e1
     have hd := h d (by simp)
     have hd' := h' d' (by simp)
     rw [← e1] at hd'
     have : d = d' := Prod.ext e1 (hd.uniq hd')
     rw [this, ih (fun x hx => h x (List.mem_cons_of_mem _ hx)) (fun x hx => h' x (List.mem_cons_of_mem _ hx)) e2]
  rw [this h.2 h'.2 e2]
theorem lq : ∀ {a b : List Nat}, a.Pairwise (· < ·) → b.Pairwise (· < ·) → (∀ v, v ∈ a ↔ v ∈ b) → a = b
  | [], [], _, _, _ => rfl
  | [], y :: b, _, _, h => by have := (h y).mpr (by simp); simp at this
  | x :: a, [], _, _, h => by have := (h x).mp (by simp); simp at this
  | x :: a, y :: b, ha, hb, h => by
    obtain ⟨a1, a2⟩ := List.pairwise_cons.mp ha
    obtain ⟨b1, b2⟩ := List.pairwise_cons.mp hb
    have e : x = y := by
      rcases List.mem_cons.mp ((h x).mp (by simp)) with e | e
      · exact e
      · rcases List.mem_cons.mp ((h y).mpr (by simp)) with e' | e'
        · exact e'.symm
        · have := a1 y e'
          have := b1 x e
          omega
    subst e
    rw [lq a2 b2 fun v => by
      constructor
      · intro hv
        rcases List.mem_cons.mp ((h v).mp (List.mem_cons_of_mem _ hv)) with e | e
        · have := a1 v hv; omega
        · exact e
      · intro hv
        rcases List.mem_cons.mp ((h v).mpr (List.mem_cons_of_mem _ hv)) with e | e
        · have := b1 v hv; omega
        · exact e]
theorem LotOK.rel (L : LotOK S p l) {v w : Nat} (hv : v ∈ keys l) (hw : w ∈ keys l) : ∃ r r', S r ∧ S r' ∧ Ag (· < p) r r' ∧ g r p = v ∧ g r' p = w := by
 obtain ⟨e, he, rfl⟩ := List.mem_map.mp hv
 obtain ⟨d, hd, rfl⟩ := List.mem_map.mp hw
 exact ⟨e.2, d.2, (L.mem e he).1, (L.mem d hd).1, L.ag e he d hd, (L.mem e he).2, (L.mem d hd).2⟩
theorem LeastPl.sub (h : LeastPl S p here) (h' : LeastPl S p here') : ∀ l ∈ here, l ∈ here' := fun l hl => by
 have L := h.pl.lot l hl
 obtain ⟨e, he⟩ : ∃ e, e ∈ l := List.exists_mem_of_ne_nil l L.ne
 have hv := kF he
 obtain ⟨l', hl', k1, _⟩ := h'.pl.cov e.2 e.2 (L.mem e he).1 (L.mem e he).1 Ag.refl
 rw [(L.mem e he).2] at k1
 have L' := h'.pl.lot l' hl'
 have same : ∀ v, v ∈ keys l ↔ v ∈ keys l' := fun v => by
  constructor
  ·intro hv2
   obtain ⟨r, r', s1, s2, ag, g1, g2⟩ := L.rel hv hv2
   obtain ⟨l2, hl2, a1, a2⟩ := h'.pl.cov r r' s1 s2 ag
   rw [g1] at a1
   rw [g2] at a2
   rw [h'.pl.uniq hl' hl2 k1 a1]
   exact a2
  ·intro hv2
   obtain ⟨r, r', s1, s2, ag, g1, g2⟩ := L'.rel k1 hv2
   obtain ⟨l2, hl2, a1, a2⟩ := h.pl.cov r r' s1 s2 ag
   rw [g1] at a1
   rw [g2] at a2
   rw [h.pl.uniq hl hl2 hv a1]
   exact a2
 rw [Ik (h.lst l hl) (h'.lst l' hl') (lq (h.srt l hl) (h'.srt l' hl') same)]
 exact hl'
def KeptO (ts : List Tab) (S : Row → Prop) : Option Fk → Prop
 | some f => FkOf ts S f ∧ ∀ p, p < ts.length → LeastPl S p (f.getD p [])
 | none => ∀ r, ¬ S r
theorem KeptO.op {o : Option Fk} (h : KeptO ts S o) : Nn ts S o := by
 cases o with
 | none => exact h
 | some f => exact h.1
end
section
end
section
end
section
@[simp] theorem Qz {e : Option Nat} : hot (HU e) = false := by cases e <;> rfl
theorem pL {a : BV.VV} {te : BV.TE} {b : Bool} (h : a te = ξ (.bl b)) : eR a te = ξ (.ok b te) := by
 rw [GU, h]
end
def Js (e : Nat × Row) : T := .tup [.int (e.1 : Nat), rowT e.2]
def Il (l : Lot) : T := .nd false .lst (l.map Js)
def zV (here : List Lot) : T := .nd false .lst (here.map Il)
def fkC (f : Fk) : T := .nd false .lst (f.map zV)
def QR : Option Fk → T
 | some f => fkC f
 | none => .non
@[simp] theorem Je {e : Nat × Row} : hot (Js e) = false := by simp [Js, hots]
theorem EL {l : Lot} : hots (l.map Js) = false := aU fun _ _ => Je
@[simp] theorem EX {l : Lot} : hot (Il l) = false := by simp [Il, EL]
theorem Br {l : List Lot} : hots (l.map Il) = false := aU fun _ _ => EX
@[simp] theorem By {l : List Lot} : hot (zV l) = false := by simp [zV, Br]
theorem yr {f : Fk} : hots (f.map zV) = false := aU fun _ _ => By
@[simp] theorem Jd {f : Fk} : hot (fkC f) = false := by simp [fkC, yr]
@[simp] theorem Og {o : Option Fk} : hot (QR o) = false := by
  cases o
  · rfl
  · exact Jd
section
end
section
theorem oK {t : T} {te : BV.TE} (h : hot t = false) : au (aI t) te = ξ (.ok t te) := bV rfl h
end
section
variable {ts: List Tab}
theorem RowOK.set {r : Row} {p v : Nat} (h : RowOK ts r) (hv : v < (jZ ts p).1) (hp : p < ts.length) : RowOK ts (r.set p v) := by
 refine De (by rw [List.length_set]; exact h.1) fun i hi => ?_
 unfold g
 by_cases e : p = i
 ·subst e
  rw [List.getD_eq_getElem?_getD, List.getElem?_set_self (by rw [h.1]; exact hp)]
  exact hv
 ·rw [List.getD_eq_getElem?_getD, List.getElem?_set_ne e, ← List.getD_eq_getElem?_getD]
  exact h.at2 hi
end
section
def QQ (here : List Lot) : T := .nd false .lst (here.map fun l => kU (keys l))
theorem ER {here : List Lot} : hots (here.map fun l => kU (keys l)) = false := aU fun _ _ => Bx
@[simp] theorem RJ {here : List Lot} : hot (QQ here) = false := by simp [QQ, ER]
end
section
variable {S: Row → Prop}{p: Nat}
def IK (x : Nat) : List Nat → List Nat
 | [] => [x]
 | y :: ys => if x < y then x :: y :: ys else if x = y then y :: ys else y :: IK x ys
def CY (vs : List Nat) : List Nat := vs.foldr IK []
theorem th {x : Nat} : ∀ {l : List Nat}, oW ((x : Nat) : Int) (l.map fun v : Nat => ((v : Nat) : Int)) = (IK x l).map fun v : Nat => ((v : Nat) : Int)
 | [] => rfl
 | y :: ys => by
  show (if ((x : Nat) : Int) < ((y : Nat) : Int) then _ else if ((x : Nat) : Int) = ((y : Nat) : Int) then _ else ((y : Nat) : Int) :: oW ((x : Nat) : Int) (ys.map fun v : Nat => ((v : Nat) : Int))) = List.map _ (if x < y then _ else if x = y then _ else y :: IK x ys)
  by_cases h : x < y
  ·rw [if_pos h, if_pos (by omega)]
   rfl
  ·rw [if_neg h, if_neg (by omega)]
   by_cases e : x = y
   ·rw [if_pos e, if_pos (by omega)]
    rfl
   ·rw [if_neg e, if_neg (by omega), th]
    rfl
theorem nu : ∀ {vs : List Nat}, AK (vs.map fun v : Nat => ((v : Nat) : Int)) = (CY vs).map fun v : Nat => ((v : Nat) : Int)
 | [] => rfl
 | v :: vs => by
  show oW _ (AK (vs.map fun v : Nat => ((v : Nat) : Int))) = _
  rw [nu, th]
  rfl
theorem vO {vs : List Nat} {v : Nat} : v ∈ CY vs ↔ v ∈ vs := by
 have := vP (z := ((v : Nat) : Int)) (is := vs.map fun v : Nat => ((v : Nat) : Int))
 rw [nu] at this
 constructor
 ·intro h
  obtain ⟨a, ha, e⟩ := List.mem_map.mp (this.mp (List.mem_map.mpr ⟨v, h, rfl⟩))
  have : a = v := by omega
  rw [← this]
  exact ha
 ·intro h
  obtain ⟨a, ha, e⟩ := List.mem_map.mp (this.mpr (List.mem_map.mpr ⟨v, h, rfl⟩))
  have : a = v := by omega
  rw [← this]
  exact ha
theorem oo {vs : List Nat} : (CY vs).Pairwise (· < ·) := by
 have := oq (is := vs.map fun v : Nat => ((v : Nat) : Int))
 rw [nu, List.pairwise_map] at this
 exact this.imp fun h => by omega
def yG (cl : Nat → List Nat) : List Nat → List (List Nat) → List (List Nat)
 | [], found => found
 | v :: vs, found => if found.any (fun l => decide (v ∈ l)) = true then yG cl vs found else yG cl vs (found ++ [cl v])
theorem Dx {α : Type} {m : α → Nat} : ∀ {a b : List α}, a.Pairwise (fun x y => m x < m y) → b.Pairwise (fun x y => m x < m y) → (∀ v, v ∈ a ↔ v ∈ b) → a = b
 | [], [], _, _, _ => rfl
 | [], y :: b, _, _, h => absurd ((h y).mpr (by simp)) (by simp)
 | x :: a, [], _, _, h => absurd ((h x).mp (by simp)) (by simp)
 | x :: a, y :: b, ha, hb, h => by
  obtain ⟨a1, a2⟩ := List.pairwise_cons.mp ha
  obtain ⟨b1, b2⟩ := List.pairwise_cons.mp hb
  have e : x = y := by
   rcases List.mem_cons.mp ((h x).mp (by simp)) with h1 | h1
   ·exact h1
   ·rcases List.mem_cons.mp ((h y).mpr (by simp)) with h2 | h2
    ·exact h2.symm
    ·have := a1 y h2
     have := b1 x h1
     omega
  subst e
  rw [Dx a2 b2 fun v => ⟨fun hv => ?_, fun hv => ?_⟩]
  ·rcases List.mem_cons.mp ((h v).mp (List.mem_cons_of_mem _ hv)) with e | e
   ·subst e
    exact absurd (a1 v hv) (by omega)
   ·exact e
  ·rcases List.mem_cons.mp ((h v).mpr (List.mem_cons_of_mem _ hv)) with e | e
   ·subst e
    exact absurd (b1 v hv) (by omega)
   ·exact e
theorem uT {ks : List (List Nat)} {cl : Nat → List Nat} (srt : ∀ l ∈ ks, l.Pairwise (· < ·)) (dis : ∀ l ∈ ks, ∀ l' ∈ ks, ∀ v, v ∈ l → v ∈ l' → l = l') (hcl : ∀ l ∈ ks, ∀ v ∈ l, cl v = l) :
    ∀ {vs done : List Nat} {found : List (List Nat)}, (done ++ vs).Pairwise (· < ·) → (∀ v, v ∈ done ++ vs ↔ ∃ l ∈ ks, v ∈ l) → (∀ l ∈ found, l ∈ ks) → (∀ v ∈ done, ∃ l ∈ found, v ∈ l) → found.Pairwise (fun l l' => l.headD 0 < l'.headD 0) → (∀ l ∈ found, l.headD 0 ∈ done) →
      (∀ l, l ∈ yG cl vs found ↔ l ∈ ks ∧ l ≠ []) ∧ (yG cl vs found).Pairwise (fun l l' => l.headD 0 < l'.headD 0) ∨ (∃ l ∈ found, l = [])
  | [], done, found, hp, hv, hf, hd, pw, hh => by
    by_cases hnil : ∃ l ∈ found, l = []
    · exact .inr hnil
    · refine .inl ⟨fun l => ⟨fun h => ⟨hf l h, fun z => hnil ⟨l, h, z⟩⟩, fun h => ?_⟩, pw⟩
      obtain ⟨v, hv'⟩ := List.exists_mem_of_ne_nil l h.2
      obtain ⟨l', h1, h2⟩ := hd v (by simpa using (hv v).mpr ⟨l, h.1, hv'⟩)
      rw [dis l h.1 l' (hf l' h1) v hv' h2]
      exact h1
  | v :: vs, done, found, hp, hv, hf, hd, pw, hh => by
    have hp' : ((done ++ [v]) ++ vs).Pairwise (· < ·) := by simpa using hp
    have hv' : ∀ w, w ∈ (done ++ [v]) ++ vs ↔ ∃ l ∈ ks, w ∈ l := fun w => by rw [← hv w]; simp
    unfold yG
    by_cases hc : found.any (fun l => decide (v ∈ l)) = true
    · rw [if_pos hc]
      refine uT srt dis hcl hp' hv' hf (fun w hw => ?_) pw (fun l hl => List.mem_append.mpr (.inl (hh l hl)))
      rcases List.mem_append.mp hw with h | h
      · exact hd w h
      · simp at h
        subst h
        obtain ⟨l, hl, h⟩ := List.any_eq_true.mp hc
        exact ⟨l, hl, by simpa using h⟩
    · rw [if_neg hc]
      obtain ⟨l, hl, hvl⟩ := (hv v).mp (by simp)
      have ec := hcl l hl v hvl
      have hnew : ∀ l' ∈ found, v ∉ l' := fun l' h' z => hc (List.any_eq_true.mpr ⟨l', h', by simpa using z⟩)
      have hhead : l.headD 0 = v := by
        cases l with
        | nil => simp at hvl
        | cons a l0 =>
          show a = v
          rcases List.mem_cons.mp hvl with e | e
          · exact e.symm
          · exfalso
            have lt := (List.pairwise_cons.mp (srt _ hl)).1 v e
            have ha : a ∈ done ++ v :: vs := (hv a).mpr ⟨_, hl, by simp⟩
            rcases List.mem_append.mp ha with h | h
            · obtain ⟨l', h1, h2⟩ := hd a h
              have := dis _ hl l' (hf l' h1) a (by simp) h2
              subst this
              exact hnew _ h1 hvl
            · rcases List.mem_cons.mp h with h | h
              · omega
              · have := (List.pairwise_cons.mp (List.pairwise_append.mp hp).2.1).1 a h
                omega
      refine uT srt dis hcl hp' hv' (fun l' h' => ?_) (fun w hw => ?_) ?_ (fun l' h' => ?_) |>.elim .inl fun ⟨l', h1, h2⟩ => ?_
      · rcases List.mem_append.mp h' with h | h
        · exact hf l' h
        · simp at h
          rw [h, ec]
          exact hl
      · rcases List.mem_append.mp hw with h | h
        · obtain ⟨l', h1, h2⟩ := hd w h
          exact ⟨l', by simp [h1], h2⟩
        · simp at h
          subst h
          exact ⟨cl w, by simp, by rw [ec]; exact hvl⟩
      · refine List.pairwise_append.mpr ⟨pw, by simp, fun x hx y hy => ?_⟩
        simp at hy
        rw [hy, ec, hhead]
        exact (List.pairwise_append.mp hp).2.2 _ (hh x hx) v (by simp)
      · rcases List.mem_append.mp h' with h | h
        · exact List.mem_append.mpr (.inl (hh l' h))
        · simp at h
          rw [h, ec, hhead]
          simp
      · rcases List.mem_append.mp h1 with h | h
        · exact .inr ⟨l', h, h2⟩
        · simp at h
          rw [h, ec] at h2
          rw [h2] at hvl
          simp at hvl
theorem FH {here : List Lot} {cl : Nat → List Nat} {vs : List Nat} (h : LeastPl S p here) (hcl : ∀ l ∈ here, ∀ v ∈ keys l, cl v = keys l) (hp : vs.Pairwise (· < ·)) (hv : ∀ v, v ∈ vs ↔ v ∈ here.flatMap keys) : yG cl vs [] = here.map keys := by
 have dis : ∀ l ∈ here.map keys, ∀ l' ∈ here.map keys, ∀ v, v ∈ l → v ∈ l' → l = l' := fun l hl l' hl' v h1 h2 => by
  obtain ⟨a, ha, rfl⟩ := List.mem_map.mp hl
  obtain ⟨b, hb, rfl⟩ := List.mem_map.mp hl'
  rw [h.pl.uniq ha hb h1 h2]
 rcases uT (ks := here.map keys) (cl := cl) (fun l hl => by
  obtain ⟨a, ha, rfl⟩ := List.mem_map.mp hl
  exact h.srt a ha) dis (fun l hl v hv => by
  obtain ⟨a, ha, rfl⟩ := List.mem_map.mp hl
  exact hcl a ha v hv) (vs := vs) (done := []) (found := []) (by simpa using hp) (fun v => by
   rw [List.nil_append, hv v]
   constructor
   ·intro h
    obtain ⟨l, hl, hk⟩ := List.mem_flatMap.mp h
    exact ⟨keys l, List.mem_map.mpr ⟨l, hl, rfl⟩, hk⟩
   ·rintro ⟨l, hl, hk⟩
    obtain ⟨a, ha, rfl⟩ := List.mem_map.mp hl
    exact List.mem_flatMap.mpr ⟨a, ha, hk⟩) (by simp) (by simp) (by simp) (by simp) with ⟨h1, h2⟩ | ⟨l, h, _⟩
 ·refine Dx (m := fun l => l.headD 0) h2 (by rw [List.pairwise_map]; exact h.ord) fun l => ?_
  rw [h1]
  constructor
  ·exact fun z => z.1
  ·intro z
   refine ⟨z, fun e => ?_⟩
   obtain ⟨a, ha, rfl⟩ := List.mem_map.mp z
   have := (h.pl.lot a ha).ne
   unfold keys at e
   rw [List.map_eq_nil_iff] at e
   exact this e
 ·simp at h
end
section
variable {S: Row → Prop}{p: Nat}{r: Row}{rs: List Row}{here: List Lot}
def D7 : List Row → List Row → List Row
 | [], acc => acc
 | r :: more, acc => D7 more (LZ acc r)
theorem qG {x : Row} : ∀ {more acc : List Row}, x ∈ D7 more acc ↔ x ∈ acc ∨ x ∈ more
 | [], acc => by simp [D7]
 | r :: more, acc => by
  unfold D7
  rw [qG, Dy, List.mem_cons, or_assoc]
def stsR (rs : List Row) (p v : Nat) : List Row := (rs.filter fun r => decide (g r p = v)).map fun r => r.take p
def RT (rs : List Row) (p v : Nat) : List Nat := CY ((rs.filter fun r => decide (r.take p ∈ D7 (stsR rs p v) [])).map fun r => g r p)
theorem JD {w v : Nat} (hl : ∀ x ∈ rs, p < x.length) (hle : ∀ x ∈ rs, ∀ y ∈ rs, x.length = y.length) : w ∈ RT rs p v ↔ ∃ x ∈ rs, ∃ y ∈ rs, g x p = w ∧ g y p = v ∧ Ag (· < p) x y := by
 unfold RT
 rw [vO, List.mem_map]
 constructor
 ·rintro ⟨x, hx, rfl⟩
  obtain ⟨h1, h2⟩ := List.mem_filter.mp hx
  have h2 := of_decide_eq_true h2
  rw [qG] at h2
  rcases h2 with h2 | h2
  ·simp at h2
  ·obtain ⟨y, hy, e⟩ := List.mem_map.mp h2
   obtain ⟨y1, y2⟩ := List.mem_filter.mp hy
   exact ⟨x, h1, y, y1, rfl, of_decide_eq_true y2, (yZ (hle x h1 y y1) (by have := hl x h1; omega)).mp e.symm⟩
 ·rintro ⟨x, hx, y, hy, e1, e2, ag⟩
  refine ⟨x, List.mem_filter.mpr ⟨hx, decide_eq_true ?_⟩, e1⟩
  rw [qG]
  exact .inr (List.mem_map.mpr ⟨y, List.mem_filter.mpr ⟨hy, decide_eq_true e2⟩, ((yZ (hle x hx y hy) (by have := hl x hx; omega)).mpr ag).symm⟩)
theorem FI {l : Lot} {v : Nat} (h : LeastPl S p here) (hm : ∀ r, r ∈ rs ↔ S r) (hl : ∀ x ∈ rs, p < x.length) (hle : ∀ x ∈ rs, ∀ y ∈ rs, x.length = y.length) (hh : l ∈ here) (hv : v ∈ keys l) : RT rs p v = keys l := by
 refine lq oo (h.srt l hh) fun w => ?_
 rw [JD hl hle]
 constructor
 ·rintro ⟨x, hx, y, hy, e1, e2, ag⟩
  obtain ⟨l', h1, h2, h3⟩ := h.pl.cov x y ((hm x).mp hx) ((hm y).mp hy) ag
  rw [e2] at h3
  rw [e1] at h2
  rw [h.pl.uniq hh h1 hv h3]
  exact h2
 ·intro hw
  obtain ⟨x, y, hx, hy, ag, e1, e2⟩ := (h.pl.lot l hh).rel hw hv
  exact ⟨x, (hm x).mpr hx, y, (hm y).mpr hy, e1, e2, ag⟩
def BX (rs : List Row) (p : Nat) : List (List Nat) := yG (RT rs p) (CY (rs.map fun r => g r p)) []
theorem JC (h : LeastPl S p here) (hm : ∀ r, r ∈ rs ↔ S r) (hl : ∀ x ∈ rs, p < x.length) (hle : ∀ x ∈ rs, ∀ y ∈ rs, x.length = y.length) : BX rs p = here.map keys := by
 refine FH h (fun l hh v hv => FI h hm hl hle hh hv) oo fun v => ?_
 rw [vO]
 constructor
 ·intro hv
  obtain ⟨x, hx, rfl⟩ := List.mem_map.mp hv
  obtain ⟨l, h1, h2, _⟩ := h.pl.cov x x ((hm x).mp hx) ((hm x).mp hx) Ag.refl
  exact List.mem_flatMap.mpr ⟨l, h1, h2⟩
 ·intro hv
  obtain ⟨l, h1, h2⟩ := List.mem_flatMap.mp hv
  obtain ⟨e, he, rfl⟩ := List.mem_map.mp h2
  obtain ⟨m1, m2⟩ := (h.pl.lot l h1).mem e he
  exact List.mem_map.mpr ⟨e.2, (hm _).mpr m1, m2⟩
def Gg : bu := (cx (av (oU LV (aa (av (vm (i6 (au (ae 0))) (gName 5) (eR (aD x6 (aD fB (ae 5) (ae 1)) (ae 3))) (lV (aa (av (OM (ae 5) voN (voS (ae 1)))) (aa (au (aI (.bl true))) ah))) [5])) ah))) (gName 4))
end
section
end
structure Enc (α : Type) [DecidableEq α] (k : Nat) (enc : α → T) (D : α → PyData) : Prop where
 d : ∀ a, dT k (enc a) = ξ (D a)
 e : ∀ a b, PyData.eqv (D a) (D b) = decide (a = b)
section
variable {α: Type}[DecidableEq α]{k: Nat}{enc: α → T}{D: α → PyData}
theorem Enc.all (E : Enc α k enc D) : ∀ {as : List α}, dE (dT k) (as.map enc) = ξ (as.map D)
 | [] => rfl
 | a :: as => by
  rw [List.map_cons, List.map_cons]
  unfold dE
  rw [E.d, E.all]
theorem Enc.eqAll (E : Enc α k enc D) : ∀ {as bs : List α}, PyData.eqvAll (as.map D) (bs.map D) = decide (as = bs)
 | [], [] => rfl
 | [], _ :: _ => rfl
 | _ :: _, [] => rfl
 | a :: as, b :: bs => by
  show (PyData.eqv (D a) (D b) && PyData.eqvAll (as.map D) (bs.map D)) = _
  rw [E.eqAll, E.e]
  by_cases h1 : a = b <;> by_cases h2 : as = bs <;> simp [h1, h2]
end
section
end
section
end
section
end
section
theorem B5 {α : Type} {xs : List α} : mw [frz (.nd true .lst (xs.map fun _ => T.bl true))] = ξ (.pur (.bl true)) := by
 rw [E7 (aU fun _ _ => rfl)]
 have e : (xs.map fun _ => T.bl true) = (xs.map fun _ => true).map T.bl := by rw [List.map_map]; rfl
 rw [e, jx]
 simp
theorem rD {a b : VD} {te te1 : BV.TE} {R : Option (VR T)} (h : a te = ξ (.ok (.bl true) te1)) (k : b te1 = R) : t6 a b te = R := by
 unfold t6
 rw [h]
 exact k
end
theorem y8 {x y : Str} (h : x.cps.toList = y.cps.toList) : x = y := by
 obtain ⟨a⟩ := x
 obtain ⟨b⟩ := y
 have : a = b := Array.toList_inj.mp h
 rw [this]
theorem pH (x y : Str) : (x ++ y).cps.toList = x.cps.toList ++ y.cps.toList := by
 show (x.cps ++ y.cps).toList = _
 rw [Array.toList_append]
theorem CJ (x : Str) : x ++ Str.empty = x := y8 (by rw [pH]; show _ ++ ([] : List Nat) = _; rw [List.append_nil])
theorem Iu (x y : Str) : (x ++ y).length = x.length + y.length := by
 have e : ∀ z : Str, z.length = z.cps.toList.length := fun z => by show z.cps.size = _; rw [Array.length_toList]
 rw [e, e, e, pH, List.length_append]
def N9 : List Nat := [97, 98, 99, 112, 113, 114, 115, 116, 117, 120, 121, 122]
def Nm (x : Str) : Prop := ∃ l : List Nat, 1 ≤ l.length ∧ l.length ≤ 3 ∧ (∀ a ∈ l, a ∈ N9) ∧ x = ⟨l.toArray⟩
theorem qN : ∀ (l : List Nat), Str.join Str.empty (l.map fun a => (⟨#[a]⟩ : Str)) = ⟨l.toArray⟩
 | [] => rfl
 | [a] => rfl
 | a :: b :: r => by
  have ih := qN (b :: r)
  show (⟨#[a]⟩ : Str) ++ Str.empty ++ Str.join Str.empty ((b :: r).map fun a => (⟨#[a]⟩ : Str)) = _
  rw [ih, CJ]
  exact y8 (by rw [pH]; simp)
theorem Nm.len {x : Str} (h : Nm x) : x.length ≤ 3 := by
 obtain ⟨l, _, h2, _, rfl⟩ := h
 show l.toArray.size ≤ 3
 simpa using h2
section
variable {c: Cn}
theorem BZ {n : Nat} {s : T} (hs : Src2 (n + 1) s) : ∃ (a : Nat) (s' : T), dU c [s, .str "abcxyz"] = ξ (.ok (.str ⟨#[a]⟩) [s']) ∧ a ∈ N9 ∧ Src2 n s' := by
 obtain ⟨v, s', e, hv, hs'⟩ := z4 (c := c) (k := 6) hs (by decide) (by decide)
 have hx : ∃ a, HD (.str "abcxyz") (.int (v : Nat)) = ξ (.pur (.str ⟨#[a]⟩)) ∧ a ∈ N9 := by
  have : v = 0 ∨ v = 1 ∨ v = 2 ∨ v = 3 ∨ v = 4 ∨ v = 5 := by omega
  rcases this with rfl | rfl | rfl | rfl | rfl | rfl
  ·exact ⟨97, by kernel_rfl, by decide⟩
  ·exact ⟨98, by kernel_rfl, by decide⟩
  ·exact ⟨99, by kernel_rfl, by decide⟩
  ·exact ⟨120, by kernel_rfl, by decide⟩
  ·exact ⟨121, by kernel_rfl, by decide⟩
  ·exact ⟨122, by kernel_rfl, by decide⟩
 obtain ⟨a, e2, ha⟩ := hx
 refine ⟨a, s', ?_, ha, hs'⟩
 have ln : bt cm (aw (ae 1) aK) [ξ s, ξ (.str "abcxyz")] = ξ (.int ((6 : Nat) : Int)) := by
  show (match cm [.str "abcxyz"] with
   | some (.pur t) => ξ t
   | _ => ζ) = _
  have : cm [.str "abcxyz"] = ξ (.pur (.int 6)) := by kernel_rfl
  rw [this] <;> rfl
 have sc := ja (i := 0) (te := [ξ s, ξ (.str "abcxyz")]) rfl (aC (bV ln rfl) aN) rfl e
 exact bC (te := [ξ s', ξ (.str "abcxyz")]) rfl (cP (yb (fP (i := 1) rfl rfl) sc e2)) rfl
theorem Dr {a : Str} {y : T} {xs : List Str} (hs : seqT y = ξ (xs.map T.str)) (hj : ow a xs = true) : sN (.str a) [y] = ξ (.pur (.str (Str.join a xs))) := by
 have st : ∀ xs : List Str, oj (xs.map T.str) = ξ xs := fun xs => by
  induction xs with
  | nil => rfl
  | cons x xs ih =>
   show (match oj (xs.map T.str) with
    | some ys => ξ (x :: ys)
    | none => ζ) = _
   rw [ih]
 unfold sN
 simp only [hs, st, if_pos hj, TL.join_eq]
theorem IA {va : VD} {vas : VA} {te te1 te2 : BV.TE} {a : Str} {y : T} {xs : List Str} (h1 : va te = ξ (.ok (.str a) te1)) (h2 : vas te1 = ξ (.ok [y] te2)) (hs : seqT y = ξ (xs.map T.str)) (hj : ow a xs = true) : yU sN va vas te = ξ (.ok (.str (Str.join a xs)) te2) := by
 unfold yU
 rw [h1]
 simp only [bM, h2, Dr hs hj]
 rfl
theorem AD {xs : List Str} {k : Nat} (h : ∀ x ∈ xs, x.length ≤ k) : (xs.map (·.length)).sum ≤ xs.length * k := by
 induction xs with
 | nil => simp
 | cons x xs ih =>
  have h1 := h x (by simp)
  have h2 := ih fun y hy => h y (by simp [hy])
  simp only [List.map_cons, List.sum_cons, List.length_cons, Nat.add_mul, Nat.one_mul]
  omega
theorem Eo {a : Str} {xs : List Str} {k n : Nat} (h : ∀ x ∈ xs, x.length ≤ k) (hk : k ≤ 1000) (hn : xs.length ≤ n) (ha : a.length ≤ 100) (hb : n ≤ 1000) : ow a xs = true := by
 have h1 := AD h
 have h2 : xs.length * k ≤ 1000 * 1000 := Nat.mul_le_mul (by omega) hk
 have h3 : xs.length * a.length ≤ 1000 * 100 := Nat.mul_le_mul (by omega) ha
 unfold ow
 exact Nat.ble_eq_true_of_le (by omega)
theorem D3 {n : Nat} {s : T} (hs : Src2 (n + 4) s) : ∃ (x : Str) (s' : T), cN c [s] = ξ (.ok (.str x) [s']) ∧ Nm x ∧ Src2 n s' := by
 obtain ⟨v, s1, e, hv, hs1⟩ := z4 (c := c) (n := n + 3) (k := 3) hs (by decide) (by decide)
 have ed : Aq dJ (au (aI (.int 1))) (bj (bT c) [0] (bZ 0 (aa (au (aI (.int 3))) ah))) [ξ s, ζ] = ξ (.ok (.int ((v + 1 : Nat) : Int)) [ξ s1, ζ]) := by
  refine yb (oK rfl) (ja (i := 0) (te := [ξ s, ζ]) rfl (aC (oK rfl) aN) rfl e) ?_
  rw [addI]
  congr 3
  omega
 have hc1 := bY ed
 obtain ⟨as, s2, e2, hl, hp, hs2⟩ := Iv (α := Nat) (enc := fun a => T.str ⟨#[a]⟩) (P := fun a => a ∈ N9) (cost := 1) (n := n) (k := v + 1) (v := 1) (zs := [1]) (mk := fun s => [ξ s, ζ]) (e := av (Aq dJ (au (aI (.int 1))) (bj (bT c) [0] (bZ 0 (aa (au (aI (.int 3))) ah))))) (elt := bj (dU c) [0] (bZ 0 (aa (au (aI (.str "abcxyz"))) ah))) (te := [ξ s, ζ]) (s1 := s1)
  hc1 (hs1.mono (by omega)) (by omega) rfl (fun _ => rfl) (fun _ _ => rfl) (fun m s i hs => by
   obtain ⟨a, s', e, ha, hs'⟩ := BZ (c := c) (n := m) (s := s) hs
   exact ⟨a, s', [ξ s', ξ (.int (i : Nat))], ja (i := 0) (te := [ξ s, ξ (.int (i : Nat))]) rfl (aC (oK rfl) aN) rfl e, rfl, ha, hs'⟩)
 have hm : as.map (fun a => T.str ⟨#[a]⟩) = (as.map fun a => (⟨#[a]⟩ : Str)).map T.str := by rw [List.map_map]; rfl
 refine ⟨⟨as.toArray⟩, s2, ?_, ⟨as, by omega, by omega, hp, rfl⟩, hs2⟩
 have e3 := bY e2
 have hfz : frz (.nd true .lst (as.map fun a => T.str ⟨#[a]⟩)) = .nd false .lst ((as.map fun a => (⟨#[a]⟩ : Str)).map T.str) := by
  rw [hm]
  show T.nd false .lst (frzs _) = _
  congr 1
  generalize as.map (fun a => (⟨#[a]⟩ : Str)) = zs
  induction zs with
  | nil => rfl
  | cons z zs ih => show frz (.str z) :: frzs (zs.map T.str) = _; rw [ih]; rfl
 rw [hfz] at e3
 have e4 := IA (va := au (aI (.str ""))) (a := "") (oK (te := [ξ s, ζ]) rfl) (aC e3 aN) (xs := as.map fun a => (⟨#[a]⟩ : Str)) rfl (Eo (k := 1) (n := 3) (fun x hx => by
  obtain ⟨a, _, rfl⟩ := List.mem_map.mp hx
  exact Nat.le_refl _) (by decide) (by rw [List.length_map]; omega) (by decide) (by decide))
 have hj : Str.join "" (as.map fun a => (⟨#[a]⟩ : Str)) = ⟨as.toArray⟩ := qN as
 rw [hj] at e4
 exact bC (te := [ξ s2, ζ]) rfl (cP e4) rfl
theorem Bl (ok : CnOk c) {x : Str} (h : Nm x) : cz c [.str x] = ξ (.ok (.bl true) []) := by
  obtain ⟨l, h1, h2, h3, rfl⟩ := h
  have hi : c.isi (.str ⟨l.toArray⟩) (.ty "str") = ξ true := (ok.base _ "str" _ rfl (.inr (.inr (.inl rfl)))).trans rfl
  have a1 : bt (gM c) (aw (ae 0) (aw (aI (.ty "str")) aK)) [ξ (.str ⟨l.toArray⟩), ζ] = ξ (.bl true) := by
    show (match gM c [.str ⟨l.toArray⟩, .ty "str"] with
      | some (.pur t) => ξ t
      | _ => ζ) = _
    rw [sO, hi]
  have hlen : (⟨l.toArray⟩ : Str).length = l.length := by show l.toArray.size = _; simp
  have a2 : gi zo zo (aI (.int 1)) (bt cm (aw (ae 0) aK)) (aI (.int 3)) [ξ (.str ⟨l.toArray⟩), ζ] = ξ (.bl true) := by
    have eL : bt cm (aw (ae 0) aK) [ξ (.str ⟨l.toArray⟩), ζ] = ξ (.int (l.length : Nat)) := by
      show (match cm [.str ⟨l.toArray⟩] with
        | some (.pur t) => ξ t
        | _ => ζ) = _
      have : cm [.str ⟨l.toArray⟩] = ξ (.pur (.int (l.length : Nat))) := by
        show (if (⟨l.toArray⟩ : Str).length ≤ sizeLine then ξ (PN.pur (.int (⟨l.toArray⟩ : Str).length)) else ζ) = _
        rw [hlen, if_pos (eO (by omega))]
      rw [this]
    unfold gi
    rw [eL]
    have q1 : zo (.int 1) (.int (l.length : Nat)) = ξ (.pur (.bl true)) := by
      rw [pD, decide_eq_true (by omega)]
    have q2 : zo (.int (l.length : Nat)) (.int 3) = ξ (.pur (.bl true)) := by
      rw [pD, decide_eq_true (by omega)]
    simp only [aI, q1, q2]
  have a3 : av (vm (jt (au (ae 0))) (gName 1) fv (au (aD (rQ false) (ae 1) (aI (.str "abcdefghijklmnopqrstuvwxyz")))) [1]) [ξ (.str ⟨l.toArray⟩), ζ] = ξ (.ok (.nd false .lst ((l.map fun _ => true).map T.bl)) [ξ (.str ⟨l.toArray⟩), ζ]) := by
    have hs : (iG ⟨l.toArray⟩).map T.str = l.map fun a => T.str ⟨#[a]⟩ := by
      unfold iG
      rw [List.map_map]
      rfl
    have e := FP (vi := jt (au (ae 0))) (g := gName 1) (elt := au (aD (rQ false) (ae 1) (aI (.str "abcdefghijklmnopqrstuvwxyz")))) (zs := [1]) (te := [ξ (.str ⟨l.toArray⟩), ζ]) (ts := l.map fun a => T.str ⟨#[a]⟩) (fun _ => true)
      (by unfold jt; rw [fP (i := 0) rfl rfl]; simp only [bM, hs]) (by rw [List.length_map]; omega) rfl rfl rfl (fun t ht => by
        obtain ⟨a, ha, rfl⟩ := List.mem_map.mp ht
        have hq : ∀ a ∈ N9, rQ false (.str ⟨#[a]⟩) (.str "abcdefghijklmnopqrstuvwxyz") = ξ (.pur (.bl true)) := by
          intro a ha
          simp only [N9, List.mem_cons, List.not_mem_nil, or_false] at ha
          rcases ha with rfl | rfl | rfl | rfl | rfl | rfl | rfl | rfl | rfl | rfl | rfl | rfl <;> kernel_rfl
        refine ⟨[ξ (.str ⟨l.toArray⟩), ξ (.str ⟨#[a]⟩)], [ξ (.str ⟨l.toArray⟩), ξ (.str ⟨#[a]⟩)], rfl, bV ?_ rfl, rfl⟩
        show (match rQ false (.str ⟨#[a]⟩) (.str "abcdefghijklmnopqrstuvwxyz") with
          | some (.pur t) => ξ t
          | _ => ζ) = _
        rw [hq a (h3 a ha)])
    have e2 := bY e
    rw [e2]
    show ξ (VR.ok (T.nd false .lst (frzs _)) _) = _
    rw [List.map_map, List.map_map]
    congr 3
    generalize l = z
    induction z with
    | nil => rfl
    | cons a z ih => show frz (.bl true) :: frzs (z.map _) = _; rw [ih]; rfl
  have a4 : oU mw (aa (av (vm (jt (au (ae 0))) (gName 1) fv (au (aD (rQ false) (ae 1) (aI (.str "abcdefghijklmnopqrstuvwxyz")))) [1])) ah) [ξ (.str ⟨l.toArray⟩), ζ] = ξ (.ok (.bl true) [ξ (.str ⟨l.toArray⟩), ζ]) := by
    refine tH (aC a3 aN) ?_
    rw [jx]
    congr 3
    rw [List.all_map]
    exact List.all_eq_true.mpr fun _ _ => rfl
  exact bC (te := [ξ (.str ⟨l.toArray⟩), ζ]) rfl (cP (rD (bV a1 rfl) (rD (bV a2 rfl) a4))) rfl
end
section
theorem Lg {V : cD} {x : T} {ts : List T} (h : ts.length ≤ 1000000) : ay 1 V (x :: ts) = V [x, .tup ts] := by
 unfold ay
 have h2 := eO h
 rw [if_pos ⟨by simp, by simpa using h2⟩]
 rfl
theorem Ii {C : Addr} {V : cD} {as : VA} {te te1 : BV.TE} {ys : List T} {t : T} (ha : as te = ξ (.ok ys te1)) (hV : V (.nd true (.ins C []) [] :: ys) = ξ (.ok .non [t])) : av (aP C V [] as) te = ξ (.ok (frz t) te1) := by
 refine bY ?_
 unfold aP
 rw [ha]
 simp only [bM, hV, List.length_nil, if_true, fC]
end
def Tx (n : Nat) (x : Str) : Prop := x.length ≤ n ∧ ∀ c ∈ x.cps.toList, c < 0x110000
theorem Tx.ok {n : Nat} {x : Str} (h : Tx n x) : PyData.strOk x = true := vD h.2
theorem Tx.mono {n m : Nat} {x : Str} (h : Tx n x) (l : n ≤ m) : Tx m x := ⟨Nat.le_trans h.1 l, h.2⟩
theorem Tx.app {n m : Nat} {x y : Str} (hx : Tx n x) (hy : Tx m y) : Tx (n + m) (x ++ y) := ⟨by rw [Iu]; exact Nat.add_le_add hx.1 hy.1, fun c hc => by
 rw [pH] at hc
 rcases List.mem_append.mp hc with h | h
 ·exact hx.2 c h
 ·exact hy.2 c h⟩
theorem Tx.emp : Tx 0 Str.empty := ⟨Nat.le_refl _, fun c hc => by cases hc⟩
theorem Tx.join {n m : Nat} {s : Str} (hs : Tx m s) : ∀ {xs : List Str}, (∀ x ∈ xs, Tx n x) → Tx (xs.length * (n + m)) (Str.join s xs)
 | [], _ => Tx.emp.mono (by simp)
 | [x], h => (h x (by simp)).mono (by simp)
 | x :: z :: r, h => by
  have h1 := h x (by simp)
  have h2 := Tx.join hs (xs := z :: r) fun y hy => h y (by simp [hy])
  have h3 := (h1.app hs).app h2
  refine Tx.mono (x := Str.join s (x :: z :: r)) h3 ?_
  simp only [List.length_cons, Nat.add_mul, Nat.one_mul]
  omega
theorem Tx.le {n : Nat} {x : Str} (h : Tx n x) (l : n ≤ 1000000) : x.length ≤ sizeLine := Nat.le_trans h.1 (eO l)
section
end
section
end
section
end
section
end
section
end
section
end
theorem FL {V : cD} {as : VA} {te te1 : BV.TE} {xs : List T} {C : Addr} {d : Option T} (ha : as te = ξ (.ok xs te1)) (hV : V xs = ξ (.exc C d [])) : bj V [] as te = ξ (.exc C d te1) := by
 rw [Aw, ha]
 simp only [bM, hV]
 rfl
theorem Fi {a : VD} {te te1 : BV.TE} {C : Addr} {d : Option T} (h : a te = ξ (.exc C d te1)) : dH a te = ξ (.exc C d te1) := by
 rw [i7, h]
 rfl
theorem Jn {a : VD} {te te1 : BV.TE} {x : T} (h : a te = ξ (.ok x te1)) : dH a te = ξ (.fl .next te1) := by
 rw [i7, h]
 rfl
theorem gY {ms : List Bool} {n : Nat} {b : bu} {xs fs : List T} {C : Addr} {d : Option T} {te : BV.TE} (hl : xs.length = ms.length) (h : b (xs.map ξ ++ List.replicate (n - ms.length) ζ) = ξ (.exc C d te)) (hf : eP ms te = ξ fs) : bE ms n b xs = ξ (.exc C d fs) := by
 unfold bE
 rw [if_pos hl, h]
 simp only [hf]
theorem Dk {C : Addr} {fs : List Str} {as : VA} {te te1 : BV.TE} {xs : List T} (ha : as te = ξ (.ok xs te1)) (hl : xs.length = fs.length := by rfl) (hz : fs.length ≤ 1000 := by decide) : eS C fs as te = ξ (.exc C (ξ (.nd true (.xd fs.reverse) xs.reverse)) te1) := by
 unfold eS
 rw [ha]
 simp [hl, hz]
section
theorem BR {pre : List Row} {bad : T} {rest : List T} (hb : hot bad = false) (hr : hots rest = false) : hot (badL pre bad rest) = false := by
 unfold badL
 simp only [hot, Bool.false_or]
 exact E3 hb hr
end
section
variable {ts: List Tab}
structure NoQ (ts : List Tab) (x : T) : Prop where
 vl : Vl 5 31000 x
 no : isRowB ts x = false
theorem NoQ.cold {x : T} (h : NoQ ts x) : hot x = false := h.vl.cold
theorem NoQ.len {xs : List T} (h : Vl 5 31000 (.tup xs)) (hl : xs.length ≠ ts.length) : NoQ ts (.tup xs) := ⟨h, (NoR.len (ts := ts) (h.mono (by decide) (by decide)) hl).no⟩
section
end
end
theorem yY {exm : Addr → Option Bool} {C : Addr} {i : Nat} {vb : bu} {vd : VD} {te te1 te2 : BV.TE} {d : Option T} {t : T} (h : vb te = ξ (.exc C d te1)) (he : exm C = ξ true) (hi : i < te1.length) (hd : vd (te1.set i d) = ξ (.ok t te2)) : lW exm C i vb vd te = ξ (.fl (.ret t) te2) := by
 unfold lW
 rw [h]
 simp only [he]
 rw [if_pos ⟨trivial, hi⟩, hd]
theorem Cu {exm : Addr → Option Bool} {C C' : Addr} {i : Nat} {vb : bu} {vd : VD} {te te1 : BV.TE} {d : Option T} (h : vb te = ξ (.exc C' d te1)) (he : exm C' = ξ false) : lW exm C i vb vd te = ξ (.exc C' d te1) := by
 unfold lW
 rw [h]
 simp only [he]
section
end
section
section
end
end
section
end
section
end
section
theorem Jr {x : Str} (h : PyData.strOk x = true) : x6 (.str x) (.str x) = ξ (.pur (.bl true)) := by
 have e : dT 60 (.str x) = ξ (.str x) := by simp only [dT]; rw [if_pos h]
 unfold x6
 rw [e]
 simp only [SeqAt.eqv_refl (.str x) (show PyData.canLay0 (.str x) = true from h)]
def HeldOK (e : T) : Prop := ∃ L y, e = .tup [.nd false .lst L, .str y] ∧ hots L = false ∧ qRepD [.nd false .lst L] = ξ (.pur (.str y)) ∧ PyData.strOk y = true
theorem HeldOK.cold {e : T} (h : HeldOK e) : hot e = false := by
 obtain ⟨L, y, rfl, h1, _⟩ := h
 simp [hot, hots, h1]
theorem Hv {i : Nat} {te : BV.TE} {x : T} {y : Str} (h : te[i]? = ξ (ξ x)) (e : qRepD [x] = ξ (.pur (.str y))) : bt qRepD (aw (ae i) aK) te = ξ (.str y) := by
 simp only [lU, pK, cO h, su, e]
end
section
end
section
end
section
end
section
end
section
end
section
variable {c: Cn}{ts: List Tab}{S: Row → Prop}{f: Fk}{r cur fin: Row}{st: List (Nat × Nat)}
def Wd (ts : List Tab) (f : Fk) (S : Row → Prop) : Row → List (Nat × Nat) → Row → Prop
 | cur, [], fin => S cur ∧ cur = fin
 | cur, e :: st, fin => S cur ∧ e.1 < ts.length ∧ e.2 ∈ keys (a6 f cur e.1) ∧ Wd ts f S (cf ts f cur e.1 e.2) st fin
theorem Wd.here : ∀ {st : List (Nat × Nat)} {cur fin : Row}, Wd ts f S cur st fin → S cur
 | [], _, _, h => h.1
 | _ :: _, _, _, h => h.1
theorem r9 {cl x : T} (hx : hot x = false) (hm : ∀ te : BV.TE, te[0]? = ξ (ξ cl) → te[1]? = ξ (ξ x) → cK (bF (c.cl "ClosedSet") "has" (V_ClosedSet_has c) [] (ae 0) (aa (au (ae 0)) (aa (au (ae 1)) ah))) te = ξ (.ok false te)) : e9 c [cl, x] = ξ (.exc (c.cl "BadRow") (ξ (yA x)) []) := by
 have t := qE (hm (ξ cl :: ξ x :: List.replicate 11 ζ) rfl rfl)
 have r := Dk (C := c.cl "BadRow") (fs := ["row"]) (aV (i := 1) (te := ξ cl :: ξ x :: List.replicate 11 ζ) rfl hx aN)
 exact gY rfl (gV (jC (b := bf) t r)) rfl
end
section
variable {c: Cn}
def le1 (c : Cn) : bu := (dG (jV (cG (eR (bt (gM c) (aw (ae 2) (aw (aI (.ty "tuple")) aK))))) (jV (cG (eR (bt (gM c) (aw (aD fB (ae 2) (aI (.int 0))) (aw (aI (.ty "list")) aK))))) (cG (eR (bt (gM c) (aw (aD fB (ae 2) (aI (.int 1))) (aw (aI (.ty "list")) aK))))))) (bA (au (aI (.bl false)))) bf)
theorem AX (rr : c.exm (c.cl "BadRow") (.ob (c.cl "BadRow")) = ξ true) {cl x : T} {y : Str} (hcl : hot cl = false) (hx : hot x = false) (hd : e9 c [cl, x] = ξ (.exc (c.cl "BadRow") (ξ (yA x)) [])) (hy : qRepD [x] = ξ (.pur (.str y))) (hs : PyData.strOk y = true) : iL c [cl, x] = ξ (.ok (.bl true) []) := by
 have ce := FL (te := [ξ cl, ξ x, ζ]) (aV (i := 0) rfl hcl (aV (i := 1) rfl hx aN)) hd
 have b : aA [0] (dH (bj (e9 c) [] (aa (au (ae 0)) (aa (au (ae 1)) ah)))) [ξ cl, ξ x, ζ] = ξ (.exc (c.cl "BadRow") (ξ (yA x)) [ξ cl, ξ x, ζ]) := (d6 (zs := [0]) (show dH (bj (e9 c) [] (aa (au (ae 0)) (aa (au (ae 1)) ah))) [ξ cl, ξ x, ζ] = ξ (.exc (c.cl "BadRow") (ξ (yA x)) [ξ cl, ξ x, ζ]) from by rw [i7, ce]; rfl)).trans rfl
 have fl : lY 2 "row" [ξ cl, ξ x, ξ (yA x)] = ξ x := by
  show List.lookup ("row" : Str) [(("row" : Str), x)] = ξ x
  simp
 have r1 : bt qRepD (aw (lY 2 "row") aK) [ξ cl, ξ x, ξ (yA x)] = ξ (.str y) := by
  simp only [lU, pK, fl, su, hy]
 have h := bV (opI r1 (Hv (i := 1) (te := [ξ cl, ξ x, ξ (yA x)]) rfl hy) (Jr hs)) rfl
 have t := yY (exm := fun C' => c.exm C' (.ob (c.cl "BadRow"))) (C := c.cl "BadRow") (i := 2) b rr (by simp) h
 exact bC rfl (kE (hJ (zs := [0, 1, 2]) t)) rfl
end
section
end
section
section
end
end
section
variable {c: Cn}{ts: List Tab}{S: Row → Prop}{rs: List Row}{r: Row}{o: Option Fk}
structure Rf (c : Cn) (cl x : T) : Prop where
 cold : hot x = false
 no : V_ClosedSet_has c [cl, x] = ξ (.ok (.bl false) [])
 rep : ∃ y, qRepD [x] = ξ (.pur (.str y)) ∧ PyData.strOk y = true
theorem Rf.ref (rr : c.exm (c.cl "BadRow") (.ob (c.cl "BadRow")) = ξ true) {x : T} (h : Rf c (setT c ts o) x) : iL c [setT c ts o, x] = ξ (.ok (.bl true) []) := by
 obtain ⟨y, hy, hs⟩ := h.rep
 refine AX rr uN h.cold (r9 h.cold fun te w0 w1 => ?_) hy hs
 exact kq (vN (mn := "has") (by decide) (cO w0) (aV w0 uN (aV w1 h.cold aN)) h.no)
theorem Rf.row (ok : CnOk c) (good : ∀ t ∈ ts, GoodT t) (hn : ts.length ≤ 20) (F : Nn ts S o) (hm : ∀ r, r ∈ rs ↔ S r) (hr : RowOK ts r) (h : r ∉ rs) : Rf c (setT c ts o) (rowT r) := by
 have e := MP (c := c) ok F (by omega) hm hr
 rw [decide_eq_false h] at e
 refine ⟨ck, e, ?_⟩
 obtain ⟨D, _, e, hs⟩ := x3 (Vl.row good hr hn) (by decide) (by decide)
 exact ⟨_, e, hs⟩
end
section
end
section
end
section
end
section
variable {ts: List Tab}
inductive TryL (ts : List Tab) : T → Prop
 | rows {rs : List Row} (h : ∀ r ∈ rs, RowOK ts r) (hl : rs.length ≤ 20) : TryL ts (rowsT rs)
 | bad {pre post : List Row} {x : T} (h1 : ∀ r ∈ pre, RowOK ts r) (h2 : ∀ r ∈ post, RowOK ts r) (hx : NoQ ts x) (hl : pre.length + post.length ≤ 20) : TryL ts (badL pre x (post.map rowT))
theorem TryL.cold {L : T} (h : TryL ts L) : hot L = false := by
 cases h with
 | rows _ _ => exact Bu
 | bad _ _ hx _ => exact BR hx.cold lE
section
end
end
section
def HeldG (e : T) : Prop := ∃ x y, e = .tup [x, .str y] ∧ hot x = false ∧ qRepD [x] = ξ (.pur (.str y)) ∧ PyData.strOk y = true
theorem HeldG.cold {e : T} (h : HeldG e) : hot e = false := by
 obtain ⟨x, y, rfl, h1, _⟩ := h
 simp [hot, hots, h1]
end
section
theorem zL {VF : Option VC → Option VC} {vd : VD} {te te1 : BV.TE} {C : Addr} {d : Option T} {u : T} (h : vd te = ξ (.exc C d te1)) (hv : VF (ξ (.exc C d [])) = ξ (.ok u [])) : ni VF vd te = ξ (.ok u te1) := by
 unfold ni
 rw [h]
 simp only [hv]
end
section
theorem Mw {VF : Option VC → Option VC} {vd : VD} {te te1 : BV.TE} {v u : T} (h : vd te = ξ (.ok v te1)) (hv : VF (ξ (.ok v [])) = ξ (.ok u [])) : ni VF vd te = ξ (.ok u te1) := by
 unfold ni
 rw [h]
 simp only [hv]
end
def LeS (a b : bu) : Prop := ∀ te r, a te = ξ r → b te = ξ r
def LeD (a b : VD) : Prop := ∀ te r, a te = ξ r → b te = ξ r
section
variable {a: bu}{d d': VD}
theorem LeS.refl : LeS a a := fun _ _ h => h
theorem uI (h : LeD d d') : LeS (bA d) (bA d') := fun te r e => by
 unfold bA pM at e ⊢
 cases hd : d te with
 | none => rw [hd] at e; cases e
 | some x => rw [hd] at e; rw [h te x hd]; exact e
end
section
end
section
end
section
end
section
variable {α: Type}[DecidableEq α]{k: Nat}{enc: α → T}{D: α → PyData}
theorem Enc.tup (E : Enc α k enc D) : Enc (List α) (k + 1) (fun as => .tup (as.map enc)) (fun as => .tuple (as.map D)) := ⟨fun as => by
 show (match dE (dT k) (as.map enc) with
  | some ds => ξ (PyData.tuple ds)
  | none => ζ) = _
 rw [E.all], fun a b => by
 show PyData.eqvAll (a.map D) (b.map D) = _
 rw [E.eqAll]⟩
theorem Enc.ne (E : Enc α 60 enc D) {a b : α} : Ki (enc a) (enc b) = ξ (.pur (.bl (decide (a ≠ b)))) := by
 unfold Ki
 rw [E.d, E.d]
 simp only [E.e]
 by_cases h : a = b <;> simp [h]
end
section
end
section
end
section
end
section
end
section
end
section
end
def hL (us : List T) : T := .nd true .lst us
section
end
section
end
abbrev Lk := Nat × Nat × Row × Row
abbrev Pth := List (Row × Row)
abbrev Pths := List (Nat × Pth)
def pkeys (ps : Pths) : List Nat := ps.map (·.1)
def j5 (ps : Pths) (v : Nat) : Pth := (ps.lookup v).getD []
def Dir (ls : List Lk) (b e : Nat) (t u : Row) : Prop := (b, e, t, u) ∈ ls ∨ (e, b, u, t) ∈ ls
inductive Chain (ls : List Lk) (v : Nat) : Pth → Nat → Prop
 | nil : Chain ls v [] v
 | snoc {es : Pth} {k e : Nat} {t u : Row} : Chain ls v es k → Dir ls k e t u → Chain ls v (es ++ [(t, u)]) e
def Conn (ls : List Lk) (a b : Nat) : Prop := ∃ es, Chain ls a es b
theorem Dir.symm {ls : List Lk} {b e : Nat} {t u : Row} (h : Dir ls b e t u) : Dir ls e b u t := h.elim .inr .inl
theorem Conn.refl {ls : List Lk} {a : Nat} : Conn ls a a := ⟨[], .nil⟩
theorem Conn.step {ls : List Lk} {a b d : Nat} {t u : Row} (h : Conn ls a b) (k : Dir ls b d t u) : Conn ls a d := h.elim fun _ c => ⟨_, c.snoc k⟩
theorem Conn.trans {ls : List Lk} {a b d : Nat} (h : Conn ls a b) (k : Conn ls b d) : Conn ls a d := by
 obtain ⟨es, c⟩ := k
 induction c with
 | nil => exact h
 | snoc _ hd ih => exact ih.step hd
theorem Conn.symm {ls : List Lk} {a b : Nat} (h : Conn ls a b) : Conn ls b a := by
 obtain ⟨es, c⟩ := h
 induction c with
 | nil => exact .refl
 | snoc _ hd ih => exact Conn.trans (Conn.refl.step hd.symm) ih
theorem Conn.mono {ls ls' : List Lk} {a b : Nat} (hs : ∀ l ∈ ls, l ∈ ls') (h : Conn ls a b) : Conn ls' a b := by
 obtain ⟨es, c⟩ := h
 induction c with
 | nil => exact .refl
 | snoc _ hd ih => exact ih.step (hd.imp (hs _) (hs _))
abbrev Bst := Pths × List Nat
section
variable {N: Nat}
theorem qt {ps : Pths} {k : Nat} (h : k ∈ pkeys ps) : (k, j5 ps k) ∈ ps := by
 unfold j5
 induction ps with
 | nil => simp [pkeys] at h
 | cons e ps ih =>
  obtain ⟨j, x⟩ := e
  simp only [List.lookup]
  by_cases hk : k = j
  ·subst hk
   simp
  ·have hb : (k == j) = false := by simpa using hk
   rw [hb]
   simp only
   have h2 : k ∈ pkeys ps := by
    simp only [pkeys, List.map_cons, List.mem_cons] at h
    rcases h with h | h
    ·exact absurd h hk
    ·exact h
   exact List.mem_cons_of_mem _ (ih h2)
theorem wm : ∀ {N : Nat} {l : List Nat}, l.Nodup → (∀ k ∈ l, k < N) → l.length ≤ N
 | 0, l, _, h => by
  cases l with
  | nil => simp
  | cons a l => exact absurd (h a (by simp)) (by omega)
 | N + 1, l, nd, h => by
  have h1 : (l.erase N).length ≤ N := wm (nd.erase N) fun k hk => by
   have := h k (List.mem_of_mem_erase hk)
   have : k ≠ N := fun z => by subst z; exact (List.Nodup.not_mem_erase nd) hk
   omega
  have h2 : l.length ≤ (l.erase N).length + 1 := by
   rw [List.length_erase]
   split <;> omega
  omega
end
structure LkOK (S : Row → Prop) (p : Nat) (l : Lk) : Prop where
 t : S l.2.2.1
 u : S l.2.2.2
 ag : Ag (· < p) l.2.2.1 l.2.2.2
 a : g l.2.2.1 p = l.1
 b : g l.2.2.2 p = l.2.1
 ne : l.1 ≠ l.2.1
section
variable {S: Row → Prop}{p: Nat}{ls: List Lk}
theorem Dir.ok (L : ∀ l ∈ ls, LkOK S p l) {b e : Nat} {t u : Row} (hd : Dir ls b e t u) : S t ∧ S u ∧ Ag (· < p) t u ∧ g t p = b ∧ g u p = e := by
 rcases hd with hd | hd
 ·have := L _ hd
  exact ⟨this.t, this.u, this.ag, this.a, this.b⟩
 ·have := L _ hd
  exact ⟨this.u, this.t, this.ag.symm, this.b, this.a⟩
end
abbrev Fst := List (List Lk)
structure FsOK (ts : List Tab) (S : Row → Prop) (F : Fst) : Prop where
 len : F.length = ts.length
 ok : ∀ p, p < ts.length → ∀ l ∈ F.getD p [], LkOK S p l
section
variable {ts: List Tab}{S: Row → Prop}{p: Nat}{F: Fst}
theorem FsOK.lt (C : Cl ts S) (L : FsOK ts S F) (hp : p < ts.length) : ∀ l ∈ F.getD p [], l.1 < 4 ∧ l.2.1 < 4 := fun l hl => by
 have o := L.ok p hp l hl
 have h4 : (ts[p]'hp).1 ≤ 4 := (C.good _ (List.getElem_mem hp)).le4
 have h1 := (C.ok _ o.t).lt hp
 have h2 := (C.ok _ o.u).lt hp
 rw [o.a] at h1
 rw [o.b] at h2
 omega
end
inductive Forest : List Lk → Prop
 | nil : Forest []
 | snoc {ls : List Lk} {l : Lk} : Forest ls → ¬ Conn ls l.1 l.2.1 → Forest (ls ++ [l])
theorem oN {z : Nat} {p q : Nat → Bool} : ∀ {V : List Nat}, V.Nodup → z ∈ V → p z = true → (∀ v ∈ V, q v = (p v && decide (v ≠ z))) → V.countP q + 1 = V.countP p
 | [], _, h, _, _ => by simp at h
 | v :: V, nd, hz, hp, hq => by
  have nd' := List.nodup_cons.mp nd
  have hq1 := hq v (by simp)
  rw [List.countP_cons, List.countP_cons]
  by_cases e : v = z
  ·subst e
   have : V.countP q = V.countP p := List.countP_congr fun w hw => by
    have hne : w ≠ v := fun x => nd'.1 (x ▸ hw)
    rw [hq w (List.mem_cons_of_mem _ hw)]
    simp [hne]
   rw [hq1, hp, this]
   simp
  ·have ih := oN (V := V) nd'.2 ((List.mem_cons.mp hz).resolve_left (Ne.symm e)) hp fun w hw => hq w (List.mem_cons_of_mem _ hw)
   rw [hq1]
   simp only [e, ne_eq, not_false_eq_true, decide_true, Bool.and_true]
   omega
def SameLot (lots : List (List Nat)) (a b : Nat) : Prop := ∃ l ∈ lots, a ∈ l ∧ b ∈ l
theorem nF : ∀ {lots : List (List Nat)} {l l' : List Nat} {v : Nat}, lots.flatten.Nodup → l ∈ lots → l' ∈ lots → v ∈ l → v ∈ l' → l = l'
 | [], _, _, _, _, h, _, _, _ => by simp at h
 | m :: lots, l, l', v, nd, h, h', hv, hv' => by
  rw [List.flatten_cons] at nd
  obtain ⟨n1, n2, n3⟩ := List.nodup_append.mp nd
  rcases List.mem_cons.mp h with e1 | e1 <;> rcases List.mem_cons.mp h' with e2 | e2
  ·rw [e1, e2]
  ·subst e1
   exact absurd rfl (n3 v hv v (List.mem_flatten.mpr ⟨l', e2, hv'⟩))
  ·subst e2
   exact absurd rfl (n3 v hv' v (List.mem_flatten.mpr ⟨l, e1, hv⟩))
  ·exact nF n2 e1 e2 hv hv'
theorem SameLot.trans {lots : List (List Nat)} {a b d : Nat} (nd : lots.flatten.Nodup) (h : SameLot lots a b) (k : SameLot lots b d) : SameLot lots a d := by
 obtain ⟨l, h1, h2, h3⟩ := h
 obtain ⟨m, k1, k2, k3⟩ := k
 cases nF nd h1 k1 h3 k2
 exact ⟨l, h1, h2, k3⟩
theorem SameLot.symm {lots : List (List Nat)} {a b : Nat} (h : SameLot lots a b) : SameLot lots b a := by
 obtain ⟨l, h1, h2, h3⟩ := h
 exact ⟨l, h1, h3, h2⟩
theorem SameLot.mem {lots : List (List Nat)} {a b : Nat} (h : SameLot lots a b) : a ∈ lots.flatten := by
 obtain ⟨l, h1, h2, h3⟩ := h
 exact List.mem_flatten.mpr ⟨l, h1, h2⟩
theorem oM {q : Nat → Bool} : ∀ {lots : List (List Nat)}, (∀ l ∈ lots, ∃ v ∈ l, q v = true) → lots.length ≤ lots.flatten.countP q
 | [], _ => by simp
 | l :: lots, h => by
  obtain ⟨v, hv, hq⟩ := h l (by simp)
  have ih := oM (lots := lots) fun m hm => h m (List.mem_cons_of_mem _ hm)
  have : 0 < l.countP q := List.countP_pos_iff.mpr ⟨v, hv, hq⟩
  rw [List.flatten_cons, List.countP_append, List.length_cons]
  omega
theorem rX {lots : List (List Nat)} (nd : lots.flatten.Nodup) {ls : List Lk} (fo : Forest ls) : (∀ l ∈ ls, SameLot lots l.1 l.2.1) → ∃ f : Nat → Nat, (∀ x, Conn ls x (f x)) ∧ (∀ x, f (f x) = f x) ∧ (∀ x ∈ lots.flatten, SameLot lots x (f x)) ∧ lots.flatten.countP (fun v => decide (f v = v)) + ls.length = lots.flatten.length := by
  induction fo with
  | nil =>
    refine fun _ => ⟨id, fun _ => .refl, fun _ => rfl, fun x hx => ?_, ?_⟩
    · obtain ⟨l, h1, h2⟩ := List.mem_flatten.mp hx
      exact ⟨l, h1, h2, h2⟩
    · simp
  | @snoc ls l _ hc ih =>
    intro hl
    obtain ⟨a, b, t, u⟩ := l
    obtain ⟨f, f1, f2, f3, f4⟩ := ih fun l h => hl l (List.mem_append.mpr (.inl h))
    have hab : SameLot lots a b := hl (a, b, t, u) (by simp)
    have hne : f a ≠ f b := fun z => hc (Conn.trans (f1 a) (z ▸ (f1 b).symm))
    have up : ∀ {x y : Nat}, Conn ls x y → Conn (ls ++ [(a, b, t, u)]) x y := fun h => h.mono fun l hl => List.mem_append.mpr (.inl hl)
    have st : Conn (ls ++ [(a, b, t, u)]) a b := Conn.refl.step (t := t) (u := u) (.inl (List.mem_append.mpr (.inr (by simp))))
    refine ⟨fun x => if f x = f b then f a else f x, fun x => ?_, fun x => ?_, fun x hx => ?_, ?_⟩
    · show Conn _ x (if f x = f b then f a else f x)
      by_cases h : f x = f b
      · rw [if_pos h]
        have c1 := up (f1 x)
        rw [h] at c1
        exact (c1.trans (up (f1 b)).symm).trans (st.symm.trans (up (f1 a)))
      · rw [if_neg h]
        exact up (f1 x)
    · show (if f (if f x = f b then f a else f x) = f b then f a else f (if f x = f b then f a else f x)) = if f x = f b then f a else f x
      by_cases h : f x = f b
      · rw [if_pos h, f2, if_neg hne]
      · rw [if_neg h, f2, if_neg h]
    · show SameLot lots x (if f x = f b then f a else f x)
      by_cases h : f x = f b
      · rw [if_pos h]
        have h1 := f3 x hx
        rw [h] at h1
        exact (h1.trans nd (f3 b hab.symm.mem).symm).trans nd (hab.symm.trans nd (f3 a hab.mem))
      · rw [if_neg h]
        exact f3 x hx
    · have := oN (z := f b) (p := fun v => decide (f v = v)) (q := fun v => decide ((if f v = f b then f a else f v) = v)) nd (f3 b hab.symm.mem).symm.mem (by simp [f2]) (fun v hv => by
        show decide ((if f v = f b then f a else f v) = v) = (decide (f v = v) && decide (v ≠ f b))
        by_cases h : f v = f b
        · rw [if_pos h]
          have h1 : ¬ (f a = v) := fun z => hne (by rw [← f2 a, z, h])
          rw [decide_eq_false h1]
          by_cases h2 : f v = v
          · have : v = f b := h2.symm.trans h
            simp [this]
          · simp [h2]
        · rw [if_neg h]
          by_cases h2 : f v = v
          · have : v ≠ f b := fun z => h (by rw [h2]; exact z)
            simp [h2, this]
          · simp [h2])
      show lots.flatten.countP (fun v => decide ((if f v = f b then f a else f v) = v)) + (ls ++ [(a, b, t, u)]).length = lots.flatten.length
      rw [List.length_append, List.length_cons, List.length_nil]
      omega
theorem uO {lots : List (List Nat)} (nd : lots.flatten.Nodup) (ne : ∀ l ∈ lots, l ≠ []) {ls : List Lk} (fo : Forest ls) (hl : ∀ l ∈ ls, SameLot lots l.1 l.2.1) : ls.length + lots.length ≤ lots.flatten.length := by
 obtain ⟨f, f1, f2, f3, f4⟩ := rX nd fo hl
 have := oM (q := fun v => decide (f v = v)) (lots := lots) fun l h => by
  obtain ⟨x, hx⟩ := List.exists_mem_of_ne_nil _ (ne l h)
  obtain ⟨m, m1, m2, m3⟩ := f3 x (List.mem_flatten.mpr ⟨l, h, hx⟩)
  cases nF nd h m1 hx m2
  exact ⟨f x, m3, by simp [f2]⟩
 omega
def uH (lots : List (List Nat)) : Nat := (lots.map fun l => l.length - 1).sum
theorem qJ : ∀ {lots : List (List Nat)}, (∀ l ∈ lots, l ≠ []) → uH lots + lots.length = lots.flatten.length
 | [], _ => rfl
 | l :: lots, h => by
  have ih := qJ (lots := lots) fun m hm => h m (List.mem_cons_of_mem _ hm)
  have : 0 < l.length := List.length_pos_iff.mpr (h l (by simp))
  unfold uH at *
  rw [List.map_cons, List.sum_cons, List.flatten_cons, List.length_append, List.length_cons]
  omega
section
section
end
end
def OutR (x : Option VS) (te : BV.TE) (o : Option Row) : Prop := match o with
 | none => x = ξ (.fl .next te)
 | some r => ∃ te2, x = ξ (.fl (.ret (rowT r)) te2) ∧ ∃ a b l, te2 = a :: b :: l
theorem OutR.wipe {b : bu} {zs : List Nat} {te te1 : BV.TE} {o : Option Row} (h : OutR (b te) te1 o) (hw : aT te1 zs = te1) : OutR (aA zs b te) te1 o := by
 cases o with
 | none => exact (aH h).trans (by rw [hw])
 | some r =>
  obtain ⟨te2, e, q⟩ := h
  exact ⟨te2, hJ e, q⟩
section
end
section
end
structure Sm (N : Nat) (s : Bst) : Prop where
 nd : (pkeys s.1).Nodup
 lt : ∀ k ∈ pkeys s.1, k < N
 wt : ∀ k ∈ s.2, k ∈ pkeys s.1
 wnd : s.2.Nodup
 pl : ∀ e ∈ s.1, e.2.length ≤ s.1.length
section
variable {N: Nat}{s: Bst}{ps: Pths}{w: List Nat}
theorem Sm.len (h : Sm N s) : s.1.length ≤ N := by
 have := wm h.nd h.lt
 simpa [pkeys] using this
theorem Sm.tail {h0 : Nat} (h : Sm N (ps, h0 :: w)) : Sm N (ps, w) := ⟨h.nd, h.lt, fun k hk => h.wt k (List.mem_cons_of_mem _ hk), (List.nodup_cons.mp h.wnd).2, h.pl⟩
end
def Rz (e : Row × Row) : T := .tup [rowT e.1, rowT e.2]
def L0 (es : Pth) : T := .nd false .lst (es.map Rz)
def sX (l : Lk) : T := .tup [.int (l.1 : Nat), .int (l.2.1 : Nat), rowT l.2.2.1, rowT l.2.2.2]
def eW (o : Bool) (ls : List Lk) : T := .nd o .lst (ls.map sX)
section
variable {e: Nat}{ps: Pths}{ls: List Lk}
@[simp] theorem MN {x : Row × Row} : hot (Rz x) = false := by simp [Rz]
@[simp] theorem Qx {es : Pth} : hots (es.map Rz) = false := aU fun _ _ => MN
@[simp] theorem Ja {es : Pth} : hot (L0 es) = false := by simp [L0]
@[simp] theorem Oe {ps : Pths} : hots (ps.map fun e => L0 e.2) = false := aU fun _ _ => Ja
@[simp] theorem EY {l : Lk} : hot (sX l) = false := by simp [sX]
@[simp] theorem lF {ls : List Lk} : hots (ls.map sX) = false := aU fun _ _ => EY
theorem xD {te : BV.TE} : aK te = ξ [] := rfl
theorem tY {a : BV.VV} {as : tO} {te : BV.TE} {x : T} {xs : List T} (h : a te = ξ x) (k : as te = ξ xs) : aw a as te = ξ (x :: xs) := by
 simp [h, k]
end
def N' (x : Str) : Bool := decide (1 ≤ x.length ∧ x.length ≤ 3) && x.cps.toList.all fun a => decide (a ∈ ("abcdefghijklmnopqrstuvwxyz" : Str).cps.toList)
section
variable {c: Cn}{x: Str}{t: T}
theorem Ab {a b : VD} {te te1 : BV.TE} (h : a te = ξ (.ok (.bl false) te1)) : t6 a b te = ξ (.ok (.bl false) te1) := by
 unfold t6
 rw [h]
 rfl
theorem zO {te : BV.TE} (ok : CnOk c) {a : String} {i : Nat} (hi : te[i]? = ξ (ξ t)) (h : tyN t = ξ a) : bt (gM c) (aw (ae i) (aw (aI (.ty "str")) aK)) te = ξ (.bl (isaB a "str")) := by
 have e : c.isi t (.ty "str") = ξ (isaB a "str") := ok.base _ _ _ h (.inr (.inr (.inl rfl)))
 rw [lU, tY (cO hi) (tY rfl xD)]
 simp only
 rw [sO, e]
theorem j8 (ok : CnOk c) {a : String} (h : tyN t = ξ a) (ha : isaB a "str" = false) : cz c [t] = ξ (.ok (.bl false) []) := by
 have a1 := zO (te := [ξ t, ζ]) ok (i := 0) rfl h
 rw [ha] at a1
 exact bC (te := [ξ t, ζ]) rfl (cP (Ab (bV a1 rfl))) rfl
def RC : T → Bool
 | .str y => (match y.cps.toList with
  | [a] => decide (a ∈ ("abcdefghijklmnopqrstuvwxyz" : Str).cps.toList)
  | _ => false)
 | _ => false
theorem wU : ∀ (zs : List Bool), frzs (zs.map T.bl) = zs.map T.bl
 | [] => rfl
 | z :: zs => by show frz (.bl z) :: frzs (zs.map T.bl) = _; rw [wU zs]; rfl
theorem D4 (ok : CnOk c) (hz : x.length ≤ 1000) : cz c [.str x] = ξ (.ok (.bl (N' x)) []) := by
  have a1 := zO (te := [ξ (.str x), ζ]) (t := .str x) ok (a := "str") (i := 0) rfl rfl
  have eL : bt cm (aw (ae 0) aK) [ξ (.str x), ζ] = ξ (.int (x.length : Nat)) := by
    show (match (if x.length ≤ sizeLine then ξ (PN.pur (.int x.length)) else ζ) with
      | some (.pur t) => ξ t
      | _ => ζ) = _
    rw [if_pos (eO (by omega))]
  have q1 : zo (.int 1) (.int (x.length : Nat)) = ξ (.pur (.bl (decide (1 ≤ x.length)))) := by
    rw [pD]
    congr 3
    simp only [decide_eq_decide]
    omega
  have q2 : zo (.int (x.length : Nat)) (.int 3) = ξ (.pur (.bl (decide (x.length ≤ 3)))) := by
    rw [pD]
    congr 3
    simp only [decide_eq_decide]
    omega
  have a2 : gi zo zo (aI (.int 1)) (bt cm (aw (ae 0) aK)) (aI (.int 3)) [ξ (.str x), ζ] = ξ (.bl (decide (1 ≤ x.length ∧ x.length ≤ 3))) := by
    unfold gi
    rw [eL]
    simp only [aI, q1]
    by_cases h1 : 1 ≤ x.length
    · rw [decide_eq_true h1]
      simp only [q2, h1, true_and]
    · rw [decide_eq_false h1]
      simp only [h1, false_and, decide_false]
  by_cases h13 : 1 ≤ x.length ∧ x.length ≤ 3
  case neg =>
    rw [decide_eq_false h13] at a2
    have hb : N' x = false := by
      unfold N'
      rw [decide_eq_false h13, Bool.false_and]
    rw [hb]
    exact bC (te := [ξ (.str x), ζ]) rfl (cP (rD (bV a1 rfl) (Ab (bV a2 rfl)))) rfl
  rw [decide_eq_true h13] at a2
  have a3 := FP (vi := jt (au (ae 0))) (g := gName 1) (elt := au (aD (rQ false) (ae 1) (aI (.str "abcdefghijklmnopqrstuvwxyz")))) (zs := [1]) (te := [ξ (.str x), ζ]) (ts := (iG x).map T.str) RC
    (by unfold jt; rw [fP (i := 0) rfl rfl]; rfl) (by
      have : (iG x).length = x.length := by
        unfold iG
        rw [List.length_map, Array.length_toList]
        rfl
      rw [List.length_map, this]
      omega) rfl rfl rfl (fun t ht => by
        obtain ⟨y, hy, rfl⟩ := List.mem_map.mp ht
        obtain ⟨a, ha, rfl⟩ := List.mem_map.mp hy
        exact ⟨[ξ (.str x), ξ (.str ⟨#[a]⟩)], [ξ (.str x), ξ (.str ⟨#[a]⟩)], rfl, bV (x := .bl (RC (.str ⟨#[a]⟩))) (by
          show ξ (T.bl (decide (a ∈ ("abcdefghijklmnopqrstuvwxyz" : Str).cps.toList) != false)) = ξ (T.bl (decide (a ∈ ("abcdefghijklmnopqrstuvwxyz" : Str).cps.toList)))
          rw [Bool.bne_false]) rfl, rfl⟩)
  have a3 := bY a3
  have fz : frz (.nd true .lst ((((iG x).map T.str).map RC).map T.bl)) = .nd false .lst ((((iG x).map T.str).map RC).map T.bl) := by
    simp only [qW, wU]
  rw [fz] at a3
  have a4 : oU mw (aa (av (vm (jt (au (ae 0))) (gName 1) fv (au (aD (rQ false) (ae 1) (aI (.str "abcdefghijklmnopqrstuvwxyz")))) [1])) ah) [ξ (.str x), ζ] = ξ (.ok (.bl (N' x)) [ξ (.str x), ζ]) := by
    refine tH (aC a3 aN) ?_
    rw [jx]
    congr 3
    unfold N' iG
    rw [decide_eq_true h13, Bool.true_and, List.map_map, List.map_map, List.all_map]
    rfl
  exact bC (te := [ξ (.str x), ζ]) rfl (cP (rD (bV a1 rfl) (rD (bV a2 rfl) a4))) rfl
end
def Ji (F : Fst) : T := .nd true .lst (F.map (eW true))
def gx (c : Cn) (ts : List Tab) (o : Option Row) (F : Fst) (n : Nat) : T := .nd true (.ins (c.cl "Learner") ["row_kinds", "first_row", "forest", "rows_told"]) [.tup (ts.map (kindT c)), qu o, Ji F, .int (n : Nat)]
section
variable {c: Cn}{ts: List Tab}{S: Row → Prop}{o: Option Row}{F: Fst}{n i: Nat}{r: Row}
theorem Iq : ib (c.cl "Learner") "row_kinds" (gx c ts o F n) = ξ (.tup (ts.map (kindT c))) := by
 simp only [ib, gx, if_true]
 rfl
theorem Ir : ib (c.cl "Learner") "first_row" (gx c ts o F n) = ξ (qu o) := by
 simp only [ib, gx, if_true]
 rfl
theorem Ip : ib (c.cl "Learner") "rows_told" (gx c ts o F n) = ξ (.int (n : Nat)) := by
 simp only [ib, gx, if_true]
 rfl
theorem Jm {C : Addr} {f : Str} {j : Nat} {te : BV.TE} {t x : T} (h : te[j]? = ξ (ξ t)) (k : ib C f t = ξ x) : aZ C f (ae j) te = ξ x := by
 unfold aZ
 rw [cO h]
 exact k
theorem wu {C : Addr} {mn : Str} {V : cD} {i : Nat} {as : VA} {te te1 : BV.TE} {fs : List Str} {us xs : List T} {L L' x : T} (hL : L = .nd true (.ins C fs) us) (h0 : te[i]? = ξ (ξ L)) (hf : fs.contains mn = false) (ha : as te = ξ (.ok xs te1)) (h1 : te1[i]? = ξ (ξ L)) (hV : V (L :: xs) = ξ (.ok x [L'])) : bF C mn V [i] (ae i) (bZ i as) te = ξ (.ok x (te1.set i (ξ L'))) := by
 subst hL
 have e : bZ i as te = ξ (.ok (.nd true (.ins C fs) us :: xs) (te1.set i ζ)) := by
  unfold bZ
  rw [h0]
  simp only [ha, bM, h1]
 unfold bF
 rw [cO h0]
 simp only
 rw [if_pos ⟨trivial, hf⟩, e]
 simp only [bM, hV, rh, List.length_cons, List.length_nil, if_true, fC, List.set_set]
def LrnS (ts : List Tab) (S : Row → Prop) (o : Option Row) (F : Fst) : Prop := FsOK ts S F ∧ ∀ r, o = ξ r → S r
theorem Ij : il c [gx c ts o F n] = ξ (.ok (.int (n : Nat)) [gx c ts o F n]) := bC rfl (cP (bV (Jm (j := 0) rfl Ip) rfl)) rfl
end
section
variable {ts: List Tab}{S: Row → Prop}{o: Option Row}{F: Fst}{n p: Nat}{r: Row}{rs: List Row}
def RB (ts : List Tab) : Fst := List.replicate ts.length []
def Ql (rs : List Row) (p : Nat) : Nat := 1 + ((List.range p).map fun q => uH (BX rs q)).sum
theorem Ej : Ql rs (p + 1) = Ql rs p + uH (BX rs p) := by
 unfold Ql
 rw [List.range_succ, List.map_append, List.sum_append]
 simp
 omega
def fsum (F : Fst) (k : Nat) : Nat := ((List.range k).map fun p => (F.getD p []).length).sum
theorem tm {k : Nat} : fsum F (k + 1) = fsum F k + (F.getD k []).length := by
 unfold fsum
 rw [List.range_succ, List.map_append, List.sum_append]
 simp
structure LrnI (ts : List Tab) (S : Row → Prop) (o : Option Row) (F : Fst) (n : Nat) : Prop where
 s : LrnS ts S o F
 fo : ∀ p, Forest (F.getD p [])
 c0 : o = ζ → n = 0
 c1 : ∀ r, o = ξ r → n = 1 + fsum F ts.length
 e0 : o = ζ → ∀ p, F.getD p [] = []
theorem uv : (RB ts).getD p [] = [] := by
 unfold RB
 rw [List.getD_eq_getElem?_getD, List.getElem?_replicate]
 split <;> rfl
theorem LrnI.new : LrnI ts S ζ (RB ts) 0 := ⟨⟨⟨by simp [RB], fun p hp l h => by
  rw [uv] at h
  simp at h⟩, fun r h => (by cases h)⟩, fun p => by
  rw [uv]
  exact .nil, fun _ => rfl, fun r h => (by cases h), fun _ p => uv⟩
theorem FG {o2 : Option Fk} (K : KeptO ts S o2) (C : Cl ts S) (hm : ∀ r, r ∈ rs ↔ S r) (hne : rs ≠ []) (hp : p < ts.length) : (BX rs p).flatten.Nodup ∧ (∀ l ∈ BX rs p, l ≠ []) ∧ ∀ x y, S x → S y → Ag (· < p) x y → SameLot (BX rs p) (g x p) (g y p) := by
 obtain ⟨x0, hx0⟩ := List.exists_mem_of_ne_nil _ hne
 cases o2 with
 | none => exact absurd ((hm x0).mp hx0) (K x0)
 | some f =>
  have P := K.2 p hp
  rw [JC P hm (fun x hx => by rw [C.len ((hm x).mp hx)]; exact hp) (fun x hx y hy => by rw [C.len ((hm x).mp hx), C.len ((hm y).mp hy)])]
  refine ⟨?_, fun l hl => ?_, fun x y hx hy ag => ?_⟩
  ·have := P.pl.nd
   rwa [List.flatMap_def] at this
  ·obtain ⟨h, hh, rfl⟩ := List.mem_map.mp hl
   have := (P.pl.lot h hh).ne
   intro z
   exact this (List.map_eq_nil_iff.mp z)
  ·obtain ⟨l, h1, h2, h3⟩ := P.pl.cov x y hx hy ag
   exact ⟨keys l, List.mem_map.mpr ⟨l, h1, rfl⟩, h2, h3⟩
theorem LrnI.le {o2 : Option Fk} (C : Cl ts S) (L : LrnI ts S o F n) (K : KeptO ts S o2) (hm : ∀ r, r ∈ rs ↔ S r) (hne : rs ≠ []) : n ≤ Ql rs ts.length := by
 have key : ∀ k, k ≤ ts.length → 1 + fsum F k ≤ Ql rs k := by
  intro k
  induction k with
  | zero => exact fun _ => Nat.le_refl _
  | succ k ih =>
   intro hk
   have ih := ih (by omega)
   rw [tm, Ej]
   obtain ⟨h1, h2, h3⟩ := FG (p := k) K C hm hne (by omega)
   have fc := uO h1 h2 (L.fo k) fun l hl => by
    have o := L.s.1.ok k (by omega) l hl
    have := h3 _ _ o.t o.u o.ag
    rwa [o.a, o.b] at this
   have ls := qJ h2
   omega
 cases ho : o with
 | none =>
  have := L.c0 ho
  omega
 | some r =>
  have := L.c1 r ho
  have := key ts.length (Nat.le_refl _)
  omega
theorem LrnI.len (L : LrnI ts S o F n) (hF : n ≤ 1000) : (F.getD p []).length < 1000000 := by
 cases ho : o with
 | none => rw [L.e0 ho]; simp
 | some r =>
  have c1 := L.c1 r ho
  have mono : ∀ k, p < k → (F.getD p []).length ≤ fsum F k := by
   intro k
   induction k with
   | zero => intro h; omega
   | succ k ih =>
    intro h
    rw [tm]
    by_cases e : p = k
    ·subst e
     omega
    ·have := ih (by omega)
     omega
  by_cases hp : p < ts.length
  ·have := mono ts.length hp
   omega
  ·rw [List.getD_eq_getElem?_getD, List.getElem?_eq_none (by rw [L.s.1.len]; omega)]
   simp
end
inductive SC (ls : List Lk) (v : Nat) : List Nat → Pth → Nat → Prop
 | nil : SC ls v [v] [] v
 | snoc {vs : List Nat} {es : Pth} {k e : Nat} {t u : Row} : SC ls v vs es k → e ∉ vs → Dir ls k e t u → SC ls v (vs ++ [e]) (es ++ [(t, u)]) e
section
variable {ls: List Lk}{v k a b here: Nat}{vs: List Nat}{es es': Pth}{t u: Row}{p: Nat}
theorem SC.chain (h : SC ls v vs es k) : Chain ls v es k := by
 induction h with
 | nil => exact .nil
 | snoc _ _ hd ih => exact ih.snoc hd
theorem SC.last (h : SC ls v vs es k) : k ∈ vs := by
 induction h <;> simp
theorem SC.first (h : SC ls v vs es k) : v ∈ vs := by
 induction h with
 | nil => simp
 | snoc _ _ _ ih => exact List.mem_append.mpr (.inl ih)
theorem SC.conn (h : SC ls v vs es k) : Conn ls v k := ⟨_, h.chain⟩
theorem SC.cut (h : SC (ls ++ [(a, b, t, u)]) v vs es k) : SC ls v vs es k ∨ ∃ (x y : Nat) (p q : Row) (es1 es2 : Pth) (vs1 vs2 : List Nat), ((x = a ∧ y = b ∧ p = t ∧ q = u) ∨ (x = b ∧ y = a ∧ p = u ∧ q = t)) ∧ SC ls v vs1 es1 x ∧ SC ls y vs2 es2 k ∧ es = es1 ++ [(p, q)] ++ es2 ∧ vs = vs1 ++ vs2 := by
 induction h with
 | nil => exact .inl .nil
 | @snoc vs es k e t' u' _ hn hd ih =>
  have hd' : Dir ls k e t' u' ∨ (k = a ∧ e = b ∧ t' = t ∧ u' = u) ∨ (k = b ∧ e = a ∧ t' = u ∧ u' = t) := by
   rcases hd with hd | hd
   ·rcases List.mem_append.mp hd with hd | hd
    ·exact .inl (.inl hd)
    ·simp only [List.mem_singleton, Prod.mk.injEq] at hd
     exact .inr (.inl hd)
   ·rcases List.mem_append.mp hd with hd | hd
    ·exact .inl (.inr hd)
    ·simp only [List.mem_singleton, Prod.mk.injEq] at hd
     exact .inr (.inr ⟨hd.2.1, hd.1, hd.2.2.2, hd.2.2.1⟩)
  rcases ih with ih | ⟨x, y, p, q, es1, es2, vs1, vs2, hx, h1, h2, rfl, rfl⟩
  ·rcases hd' with hd' | hd'
   ·exact .inl (ih.snoc hn hd')
   ·exact .inr ⟨k, e, t', u', es, [], vs, [e], hd', ih, .nil, by simp, rfl⟩
  ·simp only [List.mem_append, not_or] at hn
   rcases hd' with hd' | hd'
   ·exact .inr ⟨x, y, p, q, es1, es2 ++ [(t', u')], vs1, vs2 ++ [e], hx, h1, h2.snoc hn.2 hd', by simp, by simp⟩
   ·exfalso
    have ex := h1.last
    have ey := h2.first
    have : e = x ∨ e = y := by
     rcases hx with ⟨rfl, rfl, _⟩ | ⟨rfl, rfl, _⟩ <;> rcases hd' with ⟨_, rfl, _⟩ | ⟨_, rfl, _⟩ <;> simp
    rcases this with rfl | rfl
    ·exact hn.1 ex
    ·exact hn.2 ey
theorem SC.uniq (fo : Forest ls) : ∀ {v k : Nat} {vs vs' : List Nat} {es es' : Pth}, SC ls v vs es k → SC ls v vs' es' k → es = es' := by
 induction fo with
 | nil =>
  intro v k vs vs' es es' h h'
  have e : ∀ {vs es k}, SC [] v vs es k → es = [] := fun h => by
   cases h with
   | nil => rfl
   | snoc _ _ hd => simp [Dir] at hd
  rw [e h, e h']
 | @snoc ls l _ hc ih =>
  obtain ⟨a, b, t, u⟩ := l
  intro v k vs vs' es es' h h'
  have hc : ¬ Conn ls a b := hc
  rcases h.cut with h | ⟨x, y, p, q, es1, es2, vs1, vs2, hx, h1, h2, rfl, rfl⟩ <;> rcases h'.cut with h' | ⟨x', y', p', q', es1', es2', vs1', vs2', hx', h1', h2', rfl, rfl⟩
  ·exact ih h h'
  ·exfalso
   have c1 : Conn ls x' y' := (h1'.conn.symm.trans h.conn).trans h2'.conn.symm
   rcases hx' with ⟨rfl, rfl, _⟩ | ⟨rfl, rfl, _⟩
   ·exact hc c1
   ·exact hc c1.symm
  ·exfalso
   have c1 : Conn ls x y := (h1.conn.symm.trans h'.conn).trans h2.conn.symm
   rcases hx with ⟨rfl, rfl, _⟩ | ⟨rfl, rfl, _⟩
   ·exact hc c1
   ·exact hc c1.symm
  ·rcases hx with ⟨rfl, rfl, rfl, rfl⟩ | ⟨rfl, rfl, rfl, rfl⟩ <;> rcases hx' with ⟨rfl, rfl, rfl, rfl⟩ | ⟨rfl, rfl, rfl, rfl⟩
   ·rw [ih h1 h1', ih h2 h2']
   ·exact absurd (h1.conn.symm.trans h1'.conn) hc
   ·exact absurd (h1'.conn.symm.trans h1.conn) hc
   ·rw [ih h1 h1', ih h2 h2']
structure Gr (ls : List Lk) (v : Nat) (ps : Pths) : Prop where
 nd : (pkeys ps).Nodup
 start : (v, []) ∈ ps
 sc : ∀ k es, (k, es) ∈ ps → ∃ vs, SC ls v vs es k ∧ ∀ x ∈ vs, x ∈ pkeys ps
theorem Gr.new : Gr ls v [(v, [])] := ⟨by simp [pkeys], by simp, fun k es h => by
 simp only [List.mem_singleton] at h
 cases h
 exact ⟨[v], .nil, by simp [pkeys]⟩⟩
theorem Gr.step {ps : Pths} {e : Nat} (h : Gr ls v ps) (hh : here ∈ pkeys ps) (he : e ∉ pkeys ps) (hd : Dir ls here e t u) : Gr ls v (ps ++ [(e, j5 ps here ++ [(t, u)])]) := by
 have hk : ∀ {x : Nat}, x ∈ pkeys ps → x ∈ pkeys (ps ++ [(e, j5 ps here ++ [(t, u)])]) := fun z => by
  simp only [pkeys, List.map_append, List.mem_append]
  exact .inl z
 refine ⟨?_, List.mem_append.mpr (.inl h.start), fun k es hm => ?_⟩
 ·simp only [pkeys, List.map_append, List.map_cons, List.map_nil]
  refine List.nodup_append.mpr ⟨h.nd, by simp, fun a ha b' hb => ?_⟩
  simp only [List.mem_singleton] at hb
  subst hb
  intro z
  subst z
  exact he ha
 ·rcases List.mem_append.mp hm with hm | hm
  ·obtain ⟨vs, h1, h2⟩ := h.sc k es hm
   exact ⟨vs, h1, fun x hx => hk (h2 x hx)⟩
  ·simp only [List.mem_singleton] at hm
   cases hm
   obtain ⟨vs, h1, h2⟩ := h.sc _ _ (qt hh)
   refine ⟨vs ++ [e], h1.snoc (fun z => he (h2 _ z)) hd, fun x hx => ?_⟩
   rcases List.mem_append.mp hx with hx | hx
   ·exact hk (h2 x hx)
   ·simp only [List.mem_singleton] at hx
    subst hx
    simp [pkeys]
theorem Gr.path {ps : Pths} (h : Gr ls v ps) (hk : k ∈ pkeys ps) : ∃ vs, SC ls v vs (j5 ps k) k := by
 obtain ⟨vs, h1, _⟩ := h.sc _ _ (qt hk)
 exact ⟨vs, h1⟩
theorem Gr.same (fo : Forest ls) {ps qs : Pths} (h : Gr ls v ps) (h' : Gr ls v qs) (hk : k ∈ pkeys ps) (hk' : k ∈ pkeys qs) : j5 ps k = j5 qs k := by
 obtain ⟨vs, h1⟩ := h.path hk
 obtain ⟨vs', h2⟩ := h'.path hk'
 exact SC.uniq fo h1 h2
theorem Gr.is (fo : Forest ls) {ps : Pths} (h : Gr ls v ps) (hk : k ∈ pkeys ps) (hs : SC ls v vs es k) : j5 ps k = es := by
 obtain ⟨vs, h1⟩ := h.path hk
 exact SC.uniq fo h1 hs
end
section
end
section
variable {c: Cn}{ls: List Lk}{k a b: Nat}{t u: Row}{ts: List Tab}{S: Row → Prop}{o: Option Row}{F: Fst}{n p i j: Nat}
def BC (F : Fst) : T := .nd false .lst (F.map (eW false))
theorem Vl.link (C : Cl ts S) (hn : ts.length ≤ 20) (hp : p < ts.length) {l : Lk} (o : LkOK S p l) : Vl 5 5000 (sX l) := by
 obtain ⟨a, b, t, u⟩ := l
 have h4 : (ts[p]'hp).1 ≤ 4 := (C.good _ (List.getElem_mem hp)).le4
 have h1 := (C.ok _ o.t).lt hp
 have h2 := (C.ok _ o.u).lt hp
 rw [o.a] at h1
 rw [o.b] at h2
 have i1 : Vl 4 1000 (.int (a : Nat)) := (Vl.int (by omega) (by simp only at h1; omega)).mono (by decide) (by decide)
 have i2 : Vl 4 1000 (.int (b : Nat)) := (Vl.int (by omega) (by simp only at h2; omega)).mono (by decide) (by decide)
 have r1 : Vl 4 1000 (rowT t) := Vl.row C.good (C.ok _ o.t) hn
 have r2 : Vl 4 1000 (rowT u) := Vl.row C.good (C.ok _ o.u) hn
 exact (Vl.tup (d := 4) (n := 1000) (k := 4) (xs := [.int (a : Nat), .int (b : Nat), rowT t, rowT u]) (fun x hx => by
  simp only [List.mem_cons, List.not_mem_nil, or_false] at hx
  rcases hx with rfl | rfl | rfl | rfl
  ·exact i1
  ·exact i2
  ·exact r1
  ·exact r2) (by simp)).mono (by decide) (by decide)
theorem D9 : gH c [gx c ts o F n] = ξ (.ok (qu o) [gx c ts o F n]) := bC rfl (cP (bV (Jm (j := 0) rfl Ir) EV)) rfl
theorem BA {ls : List Lk} : frz (eW true ls) = eW false ls := by
 unfold eW
 simp only [qW]
 rw [frzs_of lF]
theorem yy : ((List.range F.length).map fun p => eW false (F.getD p [])) = F.map (eW false) := by
 refine List.ext_getElem (by simp) fun i h1 h2 => ?_
 simp only [List.length_map, List.length_range] at h1
 simp only [List.getElem_map, List.getElem_range]
 rw [List.getD_eq_getElem?_getD, List.getElem?_eq_getElem h1]
 rfl
end
section
end
section
end
section
end
section
variable {c: Cn}{ts: List Tab}{o: Option Row}{F: Fst}{n p: Nat}{t: T}
def yB (s : Str) (t : T) : T := .nd false .lst [.str s, t]
theorem Ea {s : Str} {a : BV.VV} {te : BV.TE} (ha : a te = ξ t) (hx : hot t = false) : av (bx (aa (au (aI (.str s))) (aa (au a) ah))) te = ξ (.ok (yB s t) te) := by
 have l := bY (lC (aC (bV (show aI (.str s) te = ξ (.str s) from rfl) rfl) (aC (bV ha hx) aN)) (eO (by simp)))
 have e : frz (.nd true .lst [.str s, t]) = yB s t := by
  unfold yB
  simp only [qW]
  rw [frzs_of (by simp [hx])]
 rw [e] at l
 exact l
theorem Ml {te : BV.TE} {i : Nat} (h : te[i]? = ξ (ξ (gx c ts o F n))) : bt cm (aw (aZ (c.cl "Learner") "row_kinds" (ae i)) aK) te = ξ (.int (ts.length : Nat)) := by
 rw [lU, tY (Jm h Iq) xD]
 show ξ (T.int (((ts.map (kindT c)).length : Nat) : Int)) = _
 rw [List.length_map]
theorem Ef (ok : CnOk c) (hF : F.length = ts.length) (hp : p < ts.length) : cR c [gx c ts o F n, .int (p : Nat)] = ξ (.ok (eW false (F.getD p [])) [gx c ts o F n]) := by
 have c1 := iK (te := [ξ (gx c ts o F n), ξ (.int (p : Nat))]) (aV (i := 1) rfl rfl (aC (bV (Ml (i := 0) rfl) rfl) aN)) (yl ok hp)
 have a1 := gG (a := eS (c.cl "BadPlace") ["place"] (aa (au (ae 1)) ah)) (b := bf) (qE (kq c1)) rfl
 have ix : aD fB (aZ (c.cl "Learner") "forest" (ae 0)) (ae 1) [ξ (gx c ts o F n), ξ (.int (p : Nat))] = ξ (eW true (F.getD p [])) := by
  have fo : ib (c.cl "Learner") "forest" (gx c ts o F n) = ξ (Ji F) := by
   simp only [ib, gx, if_true]
   rfl
  refine opI (Jm (j := 0) rfl fo) (cO (i := 1) rfl) (gk (show seqT (Ji F) = ξ (F.map (eW true)) from rfl) ?_)
  rw [List.getElem?_map, List.getD_eq_getElem?_getD, List.getElem?_eq_getElem (by omega)]
  rfl
 have ll : vq ot (aw (aD fB (aZ (c.cl "Learner") "forest" (ae 0)) (ae 1)) aK) [ξ (gx c ts o F n), ξ (.int (p : Nat))] = ξ (.ok (eW true (F.getD p [])) [ξ (gx c ts o F n), ξ (.int (p : Nat))]) := by
  have q : ot [eW true (F.getD p [])] = ξ (.new .lst ((F.getD p []).map sX)) := rfl
  unfold vq
  rw [tY ix xD]
  simp only [q]
  unfold dj
  simp only [lF]
  rfl
 have cl := bY ll
 rw [BA] at cl
 exact bC rfl (dD a1 (cP cl)) rfl
end
section
variable {c: Cn}{ts: List Tab}{S: Row → Prop}{o: Option Row}{F: Fst}{n p: Nat}{r: Row}{t: T}
theorem Vl.forC7 (C : Cl ts S) (L : FsOK ts S F) (hn : ts.length ≤ 4) (hl : ∀ p, (F.getD p []).length ≤ 7) : Vl 7 150000 (BC F) := (Vl.lst (d := 6) (n := 36000) (k := 4) (fun x hx => by
  obtain ⟨ls, h, rfl⟩ := List.mem_map.mp hx
  obtain ⟨p, hp, e⟩ := List.getElem_of_mem h
  have e2 : F.getD p [] = ls := by
   rw [List.getD_eq_getElem?_getD, List.getElem?_eq_getElem hp, e]
   rfl
  have hp2 : p < ts.length := by rw [← L.len]; exact hp
  exact (Vl.lst (d := 5) (n := 5000) (k := 7) (fun y hy => by
   obtain ⟨l, h2, rfl⟩ := List.mem_map.mp hy
   exact Vl.link C (by omega) hp2 (L.ok p hp2 l (by rw [e2]; exact h2))) (by rw [List.length_map, ← e2]; exact hl p)).mono (by decide) (by decide)) (by rw [List.length_map, L.len]; exact hn)).mono (by decide) (by decide)
theorem HJ {te : BV.TE} {i : Nat} (h : te[i]? = ξ (ξ (gx c ts o F n))) (hs : te.set i (ξ (gx c ts o F n)) = te := by rfl) : xF (c.cl "Learner") (il c) i te = ξ (.ok (.int (n : Nat)) te) := by
 have sc := ja (i := i) (te := te) h aN h (Ij (c := c) (ts := ts) (o := o) (F := F) (n := n))
 rw [hs] at sc
 unfold xF
 have e : te[i]? = ξ (ξ (.nd true (.ins (c.cl "Learner") ["row_kinds", "first_row", "forest", "rows_told"]) [.tup (ts.map (kindT c)), qu o, Ji F, .int (n : Nat)])) := h
 rw [e]
 simp only [if_true]
 rw [sc]
theorem Ro (ok : CnOk c) (C : Cl ts S) (L : LrnS ts S o F) (hn : ts.length ≤ 4) (h9 : n ≤ 40) (hl : ∀ p, (F.getD p []).length ≤ 7) : ∃ x : Str, uW c [gx c ts o F n, .int (ts.length : Nat)] = ξ (.ok (.str x) [gx c ts o F n]) ∧ PyData.strOk x = true := by
 generalize hte : [ξ (gx c ts o F n), ξ (.int (ts.length : Nat)), ζ] = te
 have g0 : te[0]? = ξ (ξ (gx c ts o F n)) := by subst hte; rfl
 have g1 : te[1]? = ξ (ξ (.int (ts.length : Nat))) := by subst hte; rfl
 have p1 := HJ (c := c) (i := 0) g0 (by subst hte; rfl)
 have p2 := wu (C := c.cl "Learner") (mn := "start") (V := gH c) (i := 0) (te := te) rfl g0 (by decide) aN g0 D9
 have hs : te.set 0 (ξ (gx c ts o F n)) = te := by subst hte; rfl
 rw [hs] at p2
 have rg := Df (n := ts.length) (te := te) (fP g1 rfl) (by omega)
 have lc := Mv (i := 2) (zs := [2]) (h := fun p : Nat => T.int (p : Nat)) (k := fun p => eW false (F.getD p [])) (elt := bF (c.cl "Learner") "links" (cR c) [0] (ae 0) (bZ 0 (aa (au (ae 2)) ah))) rg (by rw [List.length_range]; omega) (by subst hte; rfl) (fun p hp => by
  subst hte
  exact ⟨rfl, _, wu (C := c.cl "Learner") (mn := "links") (V := cR c) (i := 0) rfl rfl (by decide) (aV (i := 2) rfl rfl aN) rfl (Ef ok L.1.len (List.mem_range.mp hp)), rfl⟩)
 have hr : cM te (aT te [2]) [2] = te := by subst hte; rfl
 rw [hr, ← L.1.len, yy] at lc
 have co := bY lc
 rw [E7 (aU fun l _ => by unfold eW; rw [ka, lF]; rfl)] at co
 have l3 := bY (lC (aC p1 (aC p2 (aC co aN))) (eO (by simp)))
 have hf : hot (BC F) = false := (Vl.forC7 C L.1 hn hl).cold
 have e3 : frz (.nd true .lst [.int (n : Nat), qu o, BC F]) = .nd false .lst [.int (n : Nat), qu o, BC F] := by
  simp only [qW]
  rw [frzs_of (by simp [hf])]
 have l3 : av (bx _) te = ξ (.ok (frz (.nd true .lst [.int (n : Nat), qu o, BC F])) te) := l3
 rw [e3] at l3
 have hv : Vl 8 460000 (.nd false .lst [.int (n : Nat), qu o, BC F]) := (Vl.lst (d := 7) (n := 150000) (k := 3) (fun x hx => by
  simp only [List.mem_cons, List.not_mem_nil, or_false] at hx
  rcases hx with rfl | rfl | rfl
  ·exact (Vl.int (by omega) (by omega)).mono (by decide) (by decide)
  ·cases o with
   | none => exact Vl.non.mono (by decide) (by decide)
   | some r => exact (Vl.row C.good (C.ok _ (L.2 r rfl)) (by omega)).mono (by decide) (by decide)
  ·exact Vl.forC7 C L.1 hn hl) (by simp)).mono (by decide) (by decide)
 obtain ⟨D, _, h1, h2⟩ := x3 hv (by decide) (by decide)
 refine ⟨_, ?_, h2⟩
 have rt := tH (aC l3 aN) h1
 subst hte
 exact bC rfl (cP rt) rfl
theorem Vl.err {s : Str} {d m : Nat} (hs : PyData.strOk s = true) (hl : s.length ≤ 20) (h : Vl d m t) (hd : 1 ≤ d) (hm : 1000 ≤ m) : Vl (d + 1) (2 * (m + 2) + 3) (yB s t) := Vl.lst (d := d) (n := m) (k := 2) (fun x hx => by
 simp only [List.mem_cons, List.not_mem_nil, or_false] at hx
 rcases hx with rfl | rfl
 ·exact (Vl.str (n := 20) hs hl).mono hd (by omega)
 ·exact h) (by simp)
end
section
variable {c: Cn}
def rY (t : T) : T := .nd true (.xd ["name"]) [t]
theorem Jh {g : VG} {body : bu} {t : T} {us : List T} {te te1 te2 : BV.TE} {C : Addr} {d : Option T} (h1 : g t te = ξ te1) (h2 : body te1 = ξ (.exc C d te2)) : b7 g body (t :: us) te = ξ (.exc C d te2) := by
 unfold b7
 rw [h1]
 simp only [h2]
def NmB (c : Cn) (b : Bool) (t : T) : Prop := cz c [t] = ξ (.ok (.bl b) [])
def Kk (c : Cn) : bu := aA [2] (aA [2] (dG (cG (cK (bj (cz c) [] (aa (au (ae 2)) ah)))) (eS (c.cl "BadName") ["name"] (aa (au (ae 2)) ah)) bf))
def vn (c : Cn) (C : Addr) (lo mo : T) : cD := bE [true, false] 3
  (a5 (aA [2] (gr (i6 (au (ae 1))) (gName 2) (Kk c)))
  (a5 (dG (jV (eR (aD A3 (bt cm (aw (ae 1) aK)) (cF C "FEWEST" lo (ae 0)))) (jW (eR (aD j4 (cF C "MOST" mo (ae 0)) (aI .non))) (eR (aD FY (bt cm (aw (ae 1) aK)) (cF C "MOST" mo (ae 0)))))) (iF (c.cl "BadConstraint")) bf)
  (aA [1] (i5 C "variables" 0 (au (ae 1))))))
inductive Oc where
 | bad (t : T) | cnt | fine
inductive Mo : T → Nat → Bool → Prop where
 | non {n : Nat} : Mo .non n false
 | int {m n : Nat} : Mo (.int (m : Nat)) n (decide (m < n))
inductive OcIs (c : Cn) (lo : Nat) (mo : T) (ts : List T) : Oc → Prop where
 | bad (pre : List T) (y : T) (rest : List T) (h : ts = pre ++ y :: rest) (hp : ∀ t ∈ pre, NmB c true t) (hy : NmB c false y) : OcIs c lo mo ts (.bad y)
 | cnt (b : Bool) (h : ∀ t ∈ ts, NmB c true t) (hm : Mo mo ts.length b) (hb : (decide (ts.length < lo) || b) = true) : OcIs c lo mo ts .cnt
 | fine (b : Bool) (h : ∀ t ∈ ts, NmB c true t) (hm : Mo mo ts.length b) (hb : (decide (ts.length < lo) || b) = false) : OcIs c lo mo ts .fine
def aX (C : Addr) : T := .nd true (.ins C []) []
def Qd (c : Cn) (C : Addr) (ts : List T) : Oc → Option VC
 | .bad y => ξ (.exc (c.cl "BadName") (ξ (rY y)) [aX C])
 | .cnt => ξ (.exc (c.cl "BadConstraint") ζ [aX C])
 | .fine => ξ (.ok .non [.nd true (.ins C ["variables"]) [.tup ts]])
theorem zG {self tup t : T} {b : Bool} (h : NmB c b t) (ht : hot t = false) : cG (cK (bj (cz c) [] (aa (au (ae 2)) ah))) [ξ self, ξ tup, ξ t] = ξ (.ok (!b) [ξ self, ξ tup, ξ t]) := by
 have cl := iK (V := cz c) (te := [ξ self, ξ tup, ξ t]) (aV (i := 2) rfl ht aN) h
 unfold cG
 rw [kq cl]
 rfl
theorem Qe {self tup t : T} (h : NmB c true t) (ht : hot t = false) : Kk c [ξ self, ξ tup, ξ t] = ξ (.fl .next [ξ self, ξ tup, ζ]) :=
 aH (aH (gG (a := eS (c.cl "BadName") ["name"] (aa (au (ae 2)) ah)) (b := bf) (zG h ht) rfl))
theorem Md {self tup t : T} (h : NmB c false t) (ht : hot t = false) : Kk c [ξ self, ξ tup, ξ t] = ξ (.exc (c.cl "BadName") (ξ (rY t)) [ξ self, ξ tup, ξ t]) := by
 refine d6 (d6 (jC (zG h ht) ?_))
 have a := aV (i := 2) (te := [ξ self, ξ tup, ξ t]) rfl ht aN
 unfold eS
 rw [a]
 rfl
theorem yd {self tup : T} {R : Option VS} : ∀ {pre rest : List T} {x : Option T}, (∀ t ∈ pre, NmB c true t) → hots pre = false → b7 (gName 2) (Kk c) rest [ξ self, ξ tup, if pre = [] then x else ζ] = R → b7 (gName 2) (Kk c) (pre ++ rest) [ξ self, ξ tup, x] = R
 | [], rest, x, _, _, h => by simpa using h
 | t :: pre, rest, x, hp, hh, h => by
  rw [g8, Bool.or_eq_false_iff] at hh
  have ih := yd (self := self) (tup := tup) (R := R) (pre := pre) (rest := rest) (x := ζ) (fun u hu => hp u (by simp [hu])) hh.2 (by simpa using h)
  show b7 (gName 2) (Kk c) (t :: (pre ++ rest)) _ = R
  unfold b7
  have g : gName 2 t [ξ self, ξ tup, x] = ξ [ξ self, ξ tup, ξ t] := rfl
  rw [g]
  simp only [Qe (hp t (by simp)) hh.1]
  exact ih
theorem zQ {C : Addr} {lo : Nat} {mo : T} {ts : List T} {R : Oc} (hh : hots ts = false) (hl : ts.length ≤ 1000) (h : OcIs c lo mo ts R) : vn c C (.int (lo : Nat)) mo [aX C, .tup ts] = Qd c C ts R := by
 have it : i6 (au (ae 1)) [ξ (aX C), ξ (.tup ts), ζ] = ξ (.ok ts [ξ (aX C), ξ (.tup ts), ζ]) := Er (fP (i := 1) rfl (by simpa using hh)) ⟨hh, .inl rfl⟩
 have all : (∀ t ∈ ts, NmB c true t) → aA [2] (gr (i6 (au (ae 1))) (gName 2) (Kk c)) [ξ (aX C), ξ (.tup ts), ζ] = ξ (.fl .next [ξ (aX C), ξ (.tup ts), ζ]) := fun hp => by
  refine aH (te1 := [ξ (aX C), ξ (.tup ts), ζ]) ?_
  rw [iS it]
  have := yd (c := c) (self := aX C) (tup := .tup ts) (pre := ts) (rest := []) (x := ζ) (R := ξ (.fl .next [ξ (aX C), ξ (.tup ts), ζ])) hp hh (by simp only [ite_self]; rfl)
  rwa [List.append_nil] at this
 have ln : bt cm (aw (ae 1) aK) [ξ (aX C), ξ (.tup ts), ζ] = ξ (.int (ts.length : Nat)) := by
  show (match cm [.tup ts] with
   | some (.pur t) => ξ t
   | _ => ζ) = _
  rw [Dm]
 have cn : ∀ {f : Str} {t : T}, cF C f t (ae 0) [ξ (aX C), ξ (.tup ts), ζ] = ξ t := fun {f t} => by
  show (if C = C ∧ ([] : List Str).contains f = false then ξ t else ζ) = _
  rw [if_pos ⟨rfl, rfl⟩]
 have t1 : eR (aD A3 (bt cm (aw (ae 1) aK)) (cF C "FEWEST" (.int (lo : Nat)) (ae 0))) [ξ (aX C), ξ (.tup ts), ζ] = ξ (.ok (decide (ts.length < lo)) [ξ (aX C), ξ (.tup ts), ζ]) := by
  refine pL ?_
  unfold aD
  rw [ln, cn]
  simp only [HB]
  congr 2
  simp only [decide_eq_decide]
  omega
 have t2 : ∀ {b : Bool}, Mo mo ts.length b → jW (eR (aD j4 (cF C "MOST" mo (ae 0)) (aI .non))) (eR (aD FY (bt cm (aw (ae 1) aK)) (cF C "MOST" mo (ae 0)))) [ξ (aX C), ξ (.tup ts), ζ] = ξ (.ok b [ξ (aX C), ξ (.tup ts), ζ]) := fun {b} hm => by
  have e1 : ∀ b, (!mo.isNon) = b → eR (aD j4 (cF C "MOST" mo (ae 0)) (aI .non)) [ξ (aX C), ξ (.tup ts), ζ] = ξ (.ok b [ξ (aX C), ξ (.tup ts), ζ]) := fun b hb => by
   refine pL ?_
   unfold aD
   rw [cn]
   simp only [aI, AZ, hb]
  cases hm with
  | non => exact Nh (e1 false rfl)
  | int =>
   rename_i m
   refine JM (e1 true rfl) (pL ?_)
   unfold aD
   rw [ln, cn]
   simp only [HG]
   congr 2
   simp only [decide_eq_decide]
   omega
 have t3 : ∀ {b : Bool}, Mo mo ts.length b → jV (eR (aD A3 (bt cm (aw (ae 1) aK)) (cF C "FEWEST" (.int (lo : Nat)) (ae 0)))) (jW (eR (aD j4 (cF C "MOST" mo (ae 0)) (aI .non))) (eR (aD FY (bt cm (aw (ae 1) aK)) (cF C "MOST" mo (ae 0))))) [ξ (aX C), ξ (.tup ts), ζ] = ξ (.ok (decide (ts.length < lo) || b) [ξ (aX C), ξ (.tup ts), ζ]) := fun {b} hm => by
  unfold jV
  rw [t1]
  cases hd : decide (ts.length < lo) with
  | true => rfl
  | false => exact t2 hm
 cases h with
 | bad pre y rest h hp hy =>
  subst h
  rw [wN, Bool.or_eq_false_iff, g8, Bool.or_eq_false_iff] at hh
  have e : aA [2] (gr (i6 (au (ae 1))) (gName 2) (Kk c)) [ξ (aX C), ξ (.tup (pre ++ y :: rest)), ζ] = ξ (.exc (c.cl "BadName") (ξ (rY y)) [ξ (aX C), ξ (.tup (pre ++ y :: rest)), ξ y]) := by
   refine d6 ?_
   rw [iS it]
   refine yd (c := c) (pre := pre) (rest := y :: rest) hp hh.1 ?_
   simp only [ite_self]
   exact Jh (te1 := [ξ (aX C), ξ (.tup (pre ++ y :: rest)), ξ y]) rfl (Md hy hh.2.1)
  exact gY rfl (gV e) rfl
 | cnt b h hm hb =>
  have f : dG (jV _ _) (iF (c.cl "BadConstraint")) bf [ξ (aX C), ξ (.tup ts), ζ] = ξ (.exc (c.cl "BadConstraint") ζ [ξ (aX C), ξ (.tup ts), ζ]) := jC (by rw [t3 hm, hb]) rfl
  exact gY rfl ((vR (all h)).trans (gV f)) rfl
 | fine b h hm hb =>
  have f : dG (jV _ _) (iF (c.cl "BadConstraint")) bf [ξ (aX C), ξ (.tup ts), ζ] = ξ (.fl .next _) := gG (by rw [t3 hm, hb]) rfl
  have q3 := aH (zs := [1]) (kD (C := C) (fl := "variables") (i := 0) (fs := []) (us := []) (fP (i := 1) (te := [ξ (aX C), ξ (.tup ts), ζ]) rfl (by simpa using hh)) rfl (by decide))
  exact j2 rfl (dD (all h) (dD f (q3.trans rfl))) rfl
end
structure XE62 (c : Cn) : Prop where
 nn : c.exm (c.cl "BadName") (.ob (c.cl "BadName")) = ξ true
 cn : c.exm (c.cl "BadConstraint") (.ob (c.cl "BadName")) = ξ false
 cc : c.exm (c.cl "BadConstraint") (.ob (c.cl "BadConstraint")) = ξ true
 nv : c.xis (c.cl "BadName") (.ty "ValueError") = ξ true
 cv : c.xis (c.cl "BadConstraint") (.ty "ValueError") = ξ true
section
variable {c: Cn}
def QY (c : Cn) (C : Addr) (x : Option VC) : Oc → Prop
 | .bad y => x = ξ (.exc (c.cl "BadName") (ξ (rY y)) [aX C])
 | .cnt => x = ξ (.exc (c.cl "BadConstraint") ζ [aX C])
 | .fine => ∃ t, x = ξ (.ok .non [t])
def Ot (c : Cn) (te : BV.TE) (x : Option (VR T)) : Oc → Prop
 | .bad y => x = ξ (.exc (c.cl "BadName") (ξ (rY y)) te)
 | .cnt => x = ξ (.exc (c.cl "BadConstraint") ζ te)
 | .fine => ∃ t, x = ξ (.ok t te)
theorem xc {v : VD} {te te1 : BV.TE} {C : Addr} {d : Option T} (h : v te = ξ (.exc C d te1)) : av v te = ξ (.exc C d te1) := by
 unfold av
 rw [h]
 rfl
theorem pE {C : Addr} {V : cD} {as : VA} {te : BV.TE} {ys : List T} {R : Oc} (ha : as te = ξ (.ok ys te)) (hV : QY c C (V (aX C :: ys)) R) : Ot c te (av (aP C V [] as) te) R := by
 have hm : aP C V [] as te = match V (aX C :: ys) with
   | some (.ok .non (t :: fs)) => if fs.length = ([] : List Nat).length then ξ (.ok t (fC te [] fs)) else ζ
   | some (.exc C d (_ :: fs)) => if fs.length = ([] : List Nat).length then ξ (.exc C d (fC te [] fs)) else ζ
   | _ => ζ := by
  unfold aP
  rw [ha]
  rfl
 cases R with
 | bad y =>
  refine xc ?_
  rw [hm, hV]
  rfl
 | cnt =>
  refine xc ?_
  rw [hm, hV]
  rfl
 | fine =>
  obtain ⟨t, hV⟩ := hV
  rw [hV] at hm
  exact ⟨_, bY (hm.trans rfl)⟩
theorem y5 {C : Addr} {V : cD} {as : VA} {te te1 : BV.TE} {ys : List T} (h0 : te[0]? = ξ (ξ (aX C))) (ha : as te = ξ (.ok ys te1)) (h1 : te1[0]? = ξ (ξ (aX C))) : bF C "__init__" V [0] (ae 0) (bZ 0 as) te = rh [0] (te1.set 0 ζ) (V (aX C :: ys)) := by
 have e : bZ 0 as te = ξ (.ok (aX C :: ys) (te1.set 0 ζ)) := by
  unfold bZ
  rw [h0]
  simp only [ha, bM, h1]
 unfold bF
 rw [cO h0]
 unfold aX
 simp only
 rw [if_pos ⟨trivial, rfl⟩]
 have e' : bZ 0 as te = ξ (.ok (T.nd true (.ins C []) [] :: ys) (te1.set 0 ζ)) := e
 rw [e']
 rfl
theorem xP {V : cD} {x : T} {ts : List T} (h : ts.length ≤ 1000) : ay 1 V (x :: ts) = V [x, .tup ts] := by
 unfold ay
 have h2 := eO (n := ts.length) (by omega)
 rw [if_pos ⟨by simp, by simpa using h2⟩]
 rfl
theorem kr {C E : Addr} {lo mo : T} {as : VA} {te te1 : BV.TE} {ts : List T} {d : Option T} (hl : ts.length ≤ 1000) (h0 : te[0]? = ξ (ξ (aX C))) (ha : as te = ξ (.ok ts te1)) (h1 : te1[0]? = ξ (ξ (aX C))) (h : vn c C lo mo [aX C, .tup ts] = ξ (.exc E d [aX C])) :
  dH (bF C "__init__" (ay 1 (vn c C lo mo)) [0] (ae 0) (bZ 0 as)) te = ξ (.exc E d te1) := by
 refine Fi ?_
 rw [y5 h0 ha h1, xP hl, h]
 show ξ (VR.exc E d ((te1.set 0 ζ).set 0 (ξ (aX C)))) = _
 rw [List.set_set]
 congr 2
 apply List.ext_getElem?
 intro q
 rw [List.getElem?_set]
 by_cases hq : 0 = q
 ·subst hq
  have : 0 < te1.length := (List.getElem?_eq_some_iff.mp h1).1
  rw [if_pos rfl, if_pos this, h1]
 ·rw [if_neg hq]
theorem xN {C : Addr} {lo mo : T} {as : VA} {te te1 : BV.TE} {ts : List T} {t : T} (hl : ts.length ≤ 1000) (h0 : te[0]? = ξ (ξ (aX C))) (ha : as te = ξ (.ok ts te1)) (h1 : te1[0]? = ξ (ξ (aX C))) (h : vn c C lo mo [aX C, .tup ts] = ξ (.ok .non [t])) :
  dH (bF C "__init__" (ay 1 (vn c C lo mo)) [0] (ae 0) (bZ 0 as)) te = ξ (.fl .next (te1.set 0 (ξ t))) := by
 refine Jn (x := .non) ?_
 rw [y5 h0 ha h1, xP hl, h]
 show ξ (VR.ok T.non ((te1.set 0 ζ).set 0 (ξ t))) = _
 rw [List.set_set]
theorem MZ {ts : List T} {R : Oc} (hh : hots ts = false) (hl : ts.length ≤ 1000) (h : OcIs c 2 .non ts R) : QY c (c.cl "Equal") (ay 1 (aE c) (aX (c.cl "Equal") :: ts)) R := by
 rw [xP hl]
 have e : aE c [aX (c.cl "Equal"), .tup ts] = _ := zQ (c := c) (C := c.cl "Equal") (lo := 2) (mo := .non) hh hl h
 rw [e]
 cases R with
 | bad y => rfl
 | cnt => rfl
 | fine => exact ⟨_, rfl⟩
theorem MV {x : T} {v : Int} {R : Oc} (hh : hot x = false) (h : OcIs c 1 (.int ((1 : Nat) : Int)) [x] R) : QY c (c.cl "Fixed") (bK c [aX (c.cl "Fixed"), x, .int v]) R := by
 have e := zQ (c := c) (C := c.cl "Fixed") (lo := 1) (mo := .int ((1 : Nat) : Int)) (ts := [x]) (by simp [hh]) (by simp) h
 have a := aV (i := 1) (te := [ξ (aX (c.cl "Fixed")), ξ x, ξ (.int v), ζ]) rfl hh aN
 cases R with
 | bad y => exact gY rfl (gV (d6 (kr (by simp) rfl a rfl e))) rfl
 | cnt => exact gY rfl (gV (d6 (kr (by simp) rfl a rfl e))) rfl
 | fine =>
  have q1 := aH (zs := [1]) (xN (by simp) rfl a rfl e)
  have q2 := aH (zs := [2]) (kD (C := c.cl "Fixed") (fl := "only_value") (i := 0) (fs := ["variables"]) (us := [.tup [x]]) (fP (i := 2) (te := [ξ (.nd true (.ins (c.cl "Fixed") ["variables"]) [.tup [x]]), ζ, ξ (.int v), ζ]) rfl rfl) rfl (by decide))
  exact ⟨_, j2 rfl (dD q1 (q2.trans rfl)) rfl⟩
theorem Mg {s : T} {ts : List T} {R : Oc} (hs : hot s = false) (hh : hots ts = false) (hl : ts.length ≤ 1000) (h : OcIs c 1 .non ts R) : QY c (c.cl "Member") (aL c [aX (c.cl "Member"), s, .tup ts]) R := by
 have e := zQ (c := c) (C := c.cl "Member") (lo := 1) (mo := .non) hh hl h
 have a : lj (au (ae 2)) ah [ξ (aX (c.cl "Member")), ξ s, ξ (.tup ts), ζ] = ξ (.ok ts [ξ (aX (c.cl "Member")), ξ s, ξ (.tup ts), ζ]) := by
  have := y9 (fP (i := 2) (te := [ξ (aX (c.cl "Member")), ξ s, ξ (.tup ts), ζ]) rfl (by simpa using hh)) (⟨hh, .inl rfl⟩ : Sq (.tup ts) ts) aN
  rwa [List.append_nil] at this
 cases R with
 | bad y => exact gY rfl (gV (d6 (kr hl rfl a rfl e))) rfl
 | cnt => exact gY rfl (gV (d6 (kr hl rfl a rfl e))) rfl
 | fine =>
  have q1 := aH (zs := [2]) (xN hl rfl a rfl e)
  have q2 := aH (zs := [1]) (kD (C := c.cl "Member") (fl := "closed_rows") (i := 0) (fs := ["variables"]) (us := [.tup ts]) (fP (i := 1) (te := [ξ (.nd true (.ins (c.cl "Member") ["variables"]) [.tup ts]), ξ s, ζ, ζ]) rfl hs) rfl (by decide))
  exact ⟨_, j2 rfl (dD q1 (q2.trans rfl)) rfl⟩
def BF : T := .nd false .lst []
theorem La {ts : List T} {R : Oc} (hh : hots ts = false) (hl : ts.length ≤ 1000) (h : OcIs c 1 (.int ((3 : Nat) : Int)) ts R) : QY c (c.cl "Table") (az c [aX (c.cl "Table"), BF, .tup ts]) R := by
 have e := zQ (c := c) (C := c.cl "Table") (lo := 1) (mo := .int ((3 : Nat) : Int)) hh hl h
 have a : lj (au (ae 2)) ah [ξ (aX (c.cl "Table")), ξ BF, ξ (.tup ts), ζ] = ξ (.ok ts [ξ (aX (c.cl "Table")), ξ BF, ξ (.tup ts), ζ]) := by
  have := y9 (fP (i := 2) (te := [ξ (aX (c.cl "Table")), ξ BF, ξ (.tup ts), ζ]) rfl (by simpa using hh)) (⟨hh, .inl rfl⟩ : Sq (.tup ts) ts) aN
  rwa [List.append_nil] at this
 cases R with
 | bad y => exact gY rfl (gV (d6 (kr hl rfl a rfl e))) rfl
 | cnt => exact gY rfl (gV (d6 (kr hl rfl a rfl e))) rfl
 | fine =>
  have q1 := aH (zs := [2]) (xN hl rfl a rfl e)
  have hv : vq ot (aw (ae 1) aK) [ξ (.nd true (.ins (c.cl "Table") ["variables"]) [.tup ts]), ξ BF, ζ, ζ] = ξ (.ok (.nd true .lst []) [ξ (.nd true (.ins (c.cl "Table") ["variables"]) [.tup ts]), ξ BF, ζ, ζ]) := rfl
  have q2 := aH (zs := [1]) (kD (C := c.cl "Table") (fl := "table_rows") (i := 0) (fs := ["variables"]) (us := [.tup ts]) hv rfl (by decide))
  exact ⟨_, j2 rfl (dD q1 (q2.trans rfl)) rfl⟩
def Jq : Oc → T
 | .bad y => yB "BadName" y
 | .cnt => .nd false .lst [.str "BadConstraint"]
 | .fine => .non
def Jy (c : Cn) : VD := Au (eR (As 1 (c.xis (c.cl "BadName") (.ty "ValueError")))) (av (bx (aa (au (aI (.str "BadName"))) (aa (au (lY 1 "name")) ah)))) (au (aI .non))
def M3 (c : Cn) : VD := Au (eR (Cq (c.xis (c.cl "BadConstraint") (.ty "ValueError")))) (av (bx (aa (au (aI (.str "BadConstraint"))) ah))) (au (aI .non))
def MX (c : Cn) (x : Option VC) : bu := lW (fun C' => c.exm C' (.ob (c.cl "BadName"))) (c.cl "BadName") 1 (dH (vp x)) (Jy c)
def f62B (c : Cn) (x : Option VC) : bu := jX (fun C' => c.exm C' (.ob (c.cl "BadConstraint"))) (c.cl "BadConstraint") 1 (MX c x) (M3 c)
theorem z1 {x : Option VC} {u : T} {te : BV.TE} (h : f62B c x [ζ, ζ] = ξ (.fl (.ret u) te)) : aM c x = ξ (.ok u []) := by
 have e := kE (b := bA (au (aI .non))) h
 have e' : fY c x (List.replicate 2 ζ) = _ := e
 unfold aM yW
 rw [e']
theorem Ha {exm : Addr → Option Bool} {C : Addr} {i : Nat} {vb : bu} {vd : VD} {te te1 te2 : BV.TE} {t : T} (h : vb te = ξ (.exc C ζ te1)) (he : exm C = ξ true) (hi : i < te1.length) (hd : vd (te1.set i ζ) = ξ (.ok t te2)) : jX exm C i vb vd te = ξ (.fl (.ret t) te2) := by
 unfold jX
 rw [h]
 simp only [he]
 rw [if_pos (by simp [hi]), hd]
theorem Ld {exm : Addr → Option Bool} {C : Addr} {i : Nat} {vb : bu} {vd : VD} {te te1 : BV.TE} {f : VF} (h : vb te = ξ (.fl f te1)) : jX exm C i vb vd te = ξ (.fl f te1) := by
 unfold jX
 rw [h]
theorem yj (xe : XE62 c) {vd : VD} {te : BV.TE} {R : Oc} (h : Ot c te (vd te) R) (hy : ∀ y, R = .bad y → hot y = false) : ni (aM c) vd te = ξ (.ok (Jq R) te) := by
 cases R with
 | bad y =>
  refine zL h ?_
  have fl : lY 1 "name" [ζ, ξ (rY y)] = ξ y := by
   show List.lookup ("name" : Str) [(("name" : Str), y)] = ξ y
   simp
  have hh : Jy c [ζ, ξ (rY y)] = ξ (.ok (yB "BadName" y) [ζ, ξ (rY y)]) := by
   unfold Jy
   rw [xe.nv]
   exact yq (pL (b := true) rfl) (Ea fl (hy y rfl))
  have b : dH (vp (ξ (.exc (c.cl "BadName") (ξ (rY y)) []))) [ζ, ζ] = ξ (.exc (c.cl "BadName") (ξ (rY y)) [ζ, ζ]) := rfl
  have e1 : MX c _ [ζ, ζ] = _ := yY (exm := fun C' => c.exm C' (.ob (c.cl "BadName"))) (C := c.cl "BadName") (i := 1) b xe.nn (by simp) hh
  exact z1 (Ld e1)
 | cnt =>
  refine zL h ?_
  have hh : M3 c [ζ, ζ] = ξ (.ok (.nd false .lst [.str "BadConstraint"]) [ζ, ζ]) := by
   unfold M3
   rw [xe.cv]
   exact yq (pL (b := true) rfl) (bY (lC (aC (bV (show aI (.str "BadConstraint") [ζ, ζ] = ξ (.str "BadConstraint") from rfl) rfl) aN) (eO (by simp))))
  have b : dH (vp (ξ (.exc (c.cl "BadConstraint") ζ []))) [ζ, ζ] = ξ (.exc (c.cl "BadConstraint") ζ [ζ, ζ]) := rfl
  have e1 : MX c _ [ζ, ζ] = _ := Cu (exm := fun C' => c.exm C' (.ob (c.cl "BadName"))) (C := c.cl "BadName") (i := 1) (vd := Jy c) b xe.cn
  exact z1 (Ha e1 xe.cc (by simp) hh)
 | fine =>
  obtain ⟨t, h⟩ := h
  exact Mw h rfl
theorem P9 {V : cD} {L r : T} : bB [0, 1] 2 (ay 2 V) [L, r] = V [L, r, .tup []] := by
 show ay 2 V [L, r] = _
 unfold ay
 rw [if_pos ⟨by simp, eO (by simp)⟩]
 rfl
theorem P8 {V : cD} {L r a : T} : bB [0, 2, 1] 3 (ay 2 V) [L, a, r] = V [L, r, .tup [a]] := by
 show ay 2 V [L, r, a] = _
 unfold ay
 rw [if_pos ⟨by simp, eO (by simp)⟩]
 rfl
theorem pkX2 {V : cD} {L r a b : T} : bB [0, 3, 1, 2] 4 (ay 2 V) [L, a, b, r] = V [L, r, .tup [a, b]] := by
 show ay 2 V [L, r, a, b] = _
 unfold ay
 rw [if_pos ⟨by simp, eO (by simp)⟩]
 rfl
theorem P7 {V : cD} {L r a b d : T} : bB [0, 4, 1, 2, 3] 5 (ay 2 V) [L, a, b, d, r] = V [L, r, .tup [a, b, d]] := by
 show ay 2 V [L, r, a, b, d] = _
 unfold ay
 rw [if_pos ⟨by simp, eO (by simp)⟩]
 rfl
theorem L3 {V : cD} {L r a b d e : T} : bB [0, 5, 1, 2, 3, 4] 6 (ay 2 V) [L, a, b, d, e, r] = V [L, r, .tup [a, b, d, e]] := by
 show ay 2 V [L, r, a, b, d, e] = _
 unfold ay
 rw [if_pos ⟨by simp, eO (by simp)⟩]
 rfl
theorem P6 {V : cD} {L r a b d e f : T} : bB [0, 6, 1, 2, 3, 4, 5] 7 (ay 2 V) [L, a, b, d, e, f, r] = V [L, r, .tup [a, b, d, e, f]] := by
 show ay 2 V [L, r, a, b, d, e, f] = _
 unfold ay
 rw [if_pos ⟨by simp, eO (by simp)⟩]
 rfl
theorem vr {p : List Nat} {n : Nat} {ys ts : List T} {as : VA} {te : BV.TE} {R : Oc} (ha : as te = ξ (.ok ys te)) (hp : bB p n (ay 2 (az c)) (aX (c.cl "Table") :: ys) = az c [aX (c.cl "Table"), BF, .tup ts]) (hh : hots ts = false) (hl : ts.length ≤ 1000) (h : OcIs c 1 (.int ((3 : Nat) : Int)) ts R) :
  Ot c te (av (aP (c.cl "Table") (bB p n (ay 2 (az c))) [] as) te) R := pE ha (by rw [hp]; exact La hh hl h)
theorem Ih {p : List Nat} {n : Nat} {ys ts : List T} {s : T} {as : VA} {te : BV.TE} {R : Oc} (ha : as te = ξ (.ok ys te)) (hp : bB p n (ay 2 (aL c)) (aX (c.cl "Member") :: ys) = aL c [aX (c.cl "Member"), s, .tup ts]) (hs : hot s = false) (hh : hots ts = false) (hl : ts.length ≤ 1000) (h : OcIs c 1 .non ts R) :
  Ot c te (av (aP (c.cl "Member") (bB p n (ay 2 (aL c))) [] as) te) R := pE ha (by rw [hp]; exact Mg hs hh hl h)
theorem yC {ts : List T} {as : VA} {te : BV.TE} {R : Oc} (ha : as te = ξ (.ok ts te)) (hh : hots ts = false) (hl : ts.length ≤ 1000) (h : OcIs c 2 .non ts R) :
  Ot c te (av (aP (c.cl "Equal") (ay 1 (aE c)) [] as) te) R := pE ha (MZ hh hl h)
theorem QF {x : T} {v : Int} {as : VA} {te : BV.TE} {R : Oc} (ha : as te = ξ (.ok [x, .int v] te)) (hh : hot x = false) (h : OcIs c 1 (.int ((1 : Nat) : Int)) [x] R) :
  Ot c te (av (aP (c.cl "Fixed") (bK c) [] as) te) R := pE ha (MV hh h)
theorem sy {VB : VD → VD} {VF : Option VC → Option VC} {te : BV.TE} : ∀ {vs : List VD}, (∀ v ∈ vs, VB (ni VF v) te = ξ (.ok (.bl true) te)) → kN VB VF vs te = ξ (.ok (vs.map fun _ => .bl true) te)
 | [], _ => rfl
 | v :: vs, h => aC (h v (by simp)) (sy fun u hu => h u (by simp [hu]))
theorem qL {VB : VD → VD} {VF : Option VC → Option VC} {te : BV.TE} {vs : List VD} (hl : vs.length ≤ 1000) (h : ∀ v ∈ vs, VB (ni VF v) te = ξ (.ok (.bl true) te)) : oU mw (aa (av (FX (bx (kN VB VF vs)))) ah) te = ξ (.ok (.bl true) te) := by
 have e1 := lC (sy h) (eO (by rw [List.length_map]; omega))
 have e2 : FX (bx (kN VB VF vs)) te = ξ (.ok (.nd true .lst (vs.map fun _ => .bl true)) te) := by
  unfold FX
  rw [e1]
 exact tH (aC (bY e2) aN) B5
theorem AW {v : VD} {te : BV.TE} {y : T} (h : v te = ξ (.ok (Jq (.bad y)) te)) (hv : te[1]? = ξ (ξ y)) (vl : Vl 20 1000 y) :
  Aq x6 (oU qRepD (aa (av v) ah)) (oU qRepD (aa (av (bx (aa (au (aI (.str "BadName"))) (aa (au (ae 1)) ah)))) ah)) te = ξ (.ok (.bl true) te) := by
 have ve := Vl.err (s := "BadName") (by decide +kernel) (by decide +kernel) vl (by decide) (by decide)
 have co := bY h
 have ef : frz (Jq (.bad y)) = yB "BadName" y := E6 ve.cold
 rw [ef] at co
 have l2 := Ea (s := "BadName") (a := ae 1) (te := te) (cO (i := 1) hv) vl.cold
 obtain ⟨D, _, h1, h2⟩ := x3 ve (by decide) (by decide)
 exact yb (tH (aC co aN) h1) (tH (aC l2 aN) h1) (v5 (Vl.str h2 (Nat.le_refl _)) (by decide))
structure Odd62 (c : Cn) (t : T) : Prop where
 vl : Vl 20 1000 t
 no : NmB c false t
theorem NmB.of (ok : CnOk c) {x : Str} (h : Nm x) : NmB c true (.str x) := Bl ok h
def xq (x : Str) (y s : T) : BV.TE := [ξ (.str x), ξ y, ξ s, ζ, ζ]
def RY (c : Cn) : List VD := [(av (aP (c.cl "Table") (bB [0, 2, 1] 3 (ay 2 (az c))) [] (aa (au (ae 1)) (aa (av (bx ah)) ah)))), (av (aP (c.cl "Table") (bB [0, 3, 1, 2] 4 (ay 2 (az c))) [] (aa (au (ae 0)) (aa (au (ae 1)) (aa (av (bx ah)) ah))))), (av (aP (c.cl "Table") (bB [0, 4, 1, 2, 3] 5 (ay 2 (az c))) [] (aa (au (ae 0)) (aa (au (ae 0)) (aa (au (ae 1)) (aa (av (bx ah)) ah)))))), (av (aP (c.cl "Table") (bB [0, 5, 1, 2, 3, 4] 6 (ay 2 (az c))) [] (aa (au (ae 0)) (aa (au (ae 0)) (aa (au (ae 0)) (aa (au (ae 1)) (aa (av (bx ah)) ah))))))), (av (aP (c.cl "Table") (bB [0, 6, 1, 2, 3, 4, 5] 7 (ay 2 (az c))) [] (aa (au (ae 1)) (aa (au (aI .non)) (aa (au (ae 0)) (aa (au (ae 0)) (aa (au (ae 0)) (aa (av (bx ah)) ah)))))))), (av (aP (c.cl "Fixed") (bK c) [] (aa (au (ae 1)) (aa (au (aI (.int 0))) ah)))), (av (aP (c.cl "Equal") (ay 1 (aE c)) [] (aa (au (ae 1)) ah))), (av (aP (c.cl "Equal") (ay 1 (aE c)) [] (aa (au (ae 0)) (aa (au (ae 1)) ah)))), (av (aP (c.cl "Equal") (ay 1 (aE c)) [] (aa (au (ae 1)) (aa (au (ae 0)) (aa (au (aI (.int 3))) ah))))), (av (aP (c.cl "Member") (bB [0, 2, 1] 3 (ay 2 (aL c))) [] (aa (au (ae 1)) (aa (au (ae 2)) ah)))), (av (aP (c.cl "Member") (bB [0, 5, 1, 2, 3, 4] 6 (ay 2 (aL c))) [] (aa (au (ae 0)) (aa (au (ae 0)) (aa (au (ae 1)) (aa (au (ae 0)) (aa (au (ae 2)) ah)))))))]
theorem JH (ok : CnOk c) (xe : XE62 c) {x : Str} {y s : T} (hx : Nm x) (hy : Odd62 c y) (hs : hot s = false) : ∀ v ∈ RY c, ni (aM c) v (xq x y s) = ξ (.ok (Jq (.bad y)) (xq x y s)) := by
 have hc := hy.vl.cold
 have nx := NmB.of (c := c) ok hx
 have e0 : ∀ {te : BV.TE}, av (bx ah) te = ξ (.ok BF te) := rfl
 have A0 : ∀ {as : VA} {ys : List T}, as (xq x y s) = ξ (.ok ys (xq x y s)) → aa (au (ae 0)) as (xq x y s) = ξ (.ok (.str x :: ys) (xq x y s)) := fun h => aV (i := 0) rfl rfl h
 have A1 : ∀ {as : VA} {ys : List T}, as (xq x y s) = ξ (.ok ys (xq x y s)) → aa (au (ae 1)) as (xq x y s) = ξ (.ok (y :: ys) (xq x y s)) := fun h => aV (i := 1) rfl hc h
 have A2 : ∀ {as : VA} {ys : List T}, as (xq x y s) = ξ (.ok ys (xq x y s)) → aa (au (ae 2)) as (xq x y s) = ξ (.ok (s :: ys) (xq x y s)) := fun h => aV (i := 2) rfl hs h
 have AE : ∀ {te : BV.TE}, aa (av (bx ah)) ah te = ξ (.ok [BF] te) := aC e0 aN
 have hx0 : hot (.str x) = false := rfl
 intro v hv
 refine yj (R := .bad y) xe ?_ (fun z e => by cases e; exact hc)
 have one : ∀ t ∈ [T.str x], NmB c true t := fun t h => by rw [List.mem_singleton.mp h]; exact nx
 have two : ∀ t ∈ [T.str x, .str x], NmB c true t := fun t h => by simp at h; rw [h]; exact nx
 have three : ∀ t ∈ [T.str x, .str x, .str x], NmB c true t := fun t h => by simp at h; rw [h]; exact nx
 have none_ : ∀ t ∈ ([] : List T), NmB c true t := fun t h => by cases h
 simp only [RY, List.mem_cons, List.not_mem_nil, or_false] at hv
 rcases hv with rfl | rfl | rfl | rfl | rfl | rfl | rfl | rfl | rfl | rfl | rfl
 ·exact vr (ts := [y]) (A1 AE) P8 (by simp [hc]) (by simp) (.bad [] y [] rfl none_ hy.no)
 ·exact vr (ts := [.str x, y]) (A0 (A1 AE)) pkX2 (by simp [hc]) (by simp) (.bad [.str x] y [] rfl one hy.no)
 ·exact vr (ts := [.str x, .str x, y]) (A0 (A0 (A1 AE))) P7 (by simp [hc]) (by simp) (.bad [.str x, .str x] y [] rfl two hy.no)
 ·exact vr (ts := [.str x, .str x, .str x, y]) (A0 (A0 (A0 (A1 AE)))) L3 (by simp [hc]) (by simp) (.bad [.str x, .str x, .str x] y [] rfl three hy.no)
 ·exact vr (ts := [y, .non, .str x, .str x, .str x]) (A1 (aC (oK (t := .non) rfl) (A0 (A0 (A0 AE))))) P6 (by simp [hc]) (by simp) (.bad [] y [.non, .str x, .str x, .str x] rfl none_ hy.no)
 ·exact QF (x := y) (v := 0) (A1 (aC (oK (t := .int 0) rfl) aN)) hc (.bad [] y [] rfl none_ hy.no)
 ·exact yC (ts := [y]) (A1 aN) (by simp [hc]) (by simp) (.bad [] y [] rfl none_ hy.no)
 ·exact yC (ts := [.str x, y]) (A0 (A1 aN)) (by simp [hc]) (by simp) (.bad [.str x] y [] rfl one hy.no)
 ·exact yC (ts := [y, .str x, .int 3]) (A1 (A0 (aC (oK (t := .int 3) rfl) aN))) (by simp [hc]) (by simp) (.bad [] y [.str x, .int 3] rfl none_ hy.no)
 ·exact Ih (ts := [y]) (s := s) (A1 (A2 aN)) P8 hs (by simp [hc]) (by simp) (.bad [] y [] rfl none_ hy.no)
 ·exact Ih (ts := [.str x, .str x, y, .str x]) (s := s) (A0 (A0 (A1 (A0 (A2 aN))))) L3 hs (by simp [hc]) (by simp) (.bad [.str x, .str x] y [.str x] rfl two hy.no)
theorem xi (ok : CnOk c) (xe : XE62 c) {x : Str} {y s : T} (hx : Nm x) (hy : Odd62 c y) (hs : hot s = false) : bG c [.str x, y, s] = ξ (.ok (.bl true) []) := by
 have e := qL (VB := fun v => (Aq x6 (oU qRepD (aa (av v) ah)) (oU qRepD (aa (av (bx (aa (au (aI (.str "BadName"))) (aa (au (ae 1)) ah)))) ah)))) (VF := aM c) (te := xq x y s) (vs := RY c) (by simp [RY]) (fun v hv => AW (JH ok xe hx hy hs v hv) rfl hy.vl)
 exact bC (te := xq x y s) rfl (cP e) rfl
def sQ : List T := [.str "", .str "abcd", .str "A", .str "a1", .str "a b", .str " a", .non, .int 0, .bl true, .tup [.str "a"], .nd false .lst [.str "a"], .str "aB", .str "abcdefgh", .str "1", .str "-", .str "_"]
theorem DQ (ok : CnOk c) : ∀ t ∈ sQ, Odd62 c t := by
 have st : ∀ x : Str, PyData.strOk x = true → x.length ≤ 8 → N' x = false → Odd62 c (.str x) := fun x h1 h2 h3 => ⟨(Vl.str (n := 8) h1 h2).mono (by decide) (by decide), by
  have := D4 (c := c) (x := x) ok (by omega)
  rw [h3] at this
  exact this⟩
 have va : Vl 1 52 (.str "a") := Vl.str (n := 5) (by decide +kernel) (by decide +kernel)
 intro t ht
 simp only [sQ, List.mem_cons, List.not_mem_nil, or_false] at ht
 rcases ht with rfl | rfl | rfl | rfl | rfl | rfl | rfl | rfl | rfl | rfl | rfl | rfl | rfl | rfl | rfl | rfl
 ·exact st _ (by decide +kernel) (by decide +kernel) (by decide +kernel)
 ·exact st _ (by decide +kernel) (by decide +kernel) (by decide +kernel)
 ·exact st _ (by decide +kernel) (by decide +kernel) (by decide +kernel)
 ·exact st _ (by decide +kernel) (by decide +kernel) (by decide +kernel)
 ·exact st _ (by decide +kernel) (by decide +kernel) (by decide +kernel)
 ·exact st _ (by decide +kernel) (by decide +kernel) (by decide +kernel)
 ·exact ⟨Vl.non.mono (by decide) (by decide), j8 ok rfl (by decide)⟩
 ·exact ⟨(Vl.int (i := 0) (by decide) (by decide)).mono (by decide) (by decide), j8 ok rfl (by decide)⟩
 ·exact ⟨Vl.bl.mono (by decide) (by decide), j8 ok rfl (by decide)⟩
 ·exact ⟨(Vl.tup (d := 1) (n := 52) (k := 1) (fun x hx => by rw [List.mem_singleton.mp hx]; exact va) (by simp)).mono (by decide) (by decide), j8 ok rfl (by decide)⟩
 ·exact ⟨(Vl.lst (d := 1) (n := 52) (k := 1) (fun x hx => by rw [List.mem_singleton.mp hx]; exact va) (by simp)).mono (by decide) (by decide), j8 ok rfl (by decide)⟩
 ·exact st _ (by decide +kernel) (by decide +kernel) (by decide +kernel)
 ·exact st _ (by decide +kernel) (by decide +kernel) (by decide +kernel)
 ·exact st _ (by decide +kernel) (by decide +kernel) (by decide +kernel)
 ·exact st _ (by decide +kernel) (by decide +kernel) (by decide +kernel)
 ·exact st _ (by decide +kernel) (by decide +kernel) (by decide +kernel)
def Jv (c : Cn) : T := .nd false (.ins (c.cl "ClosedSet") ["set_kinds", "forks"]) [.tup [], .non]
theorem Ju {te : BV.TE} : bj (ay 1 (bU c)) [] (aa (au (aI (.ob (c.cl "ClosedSet")))) ah) te = ξ (.ok (Jv c) te) := by
 have q1 := aH (zs := [1]) (kD (C := c.cl "ClosedSet") (fl := "set_kinds") (i := 0) (fs := []) (us := []) (val := au (bt nz (aw (ae 1) aK))) (y := .tup []) (te := [ξ (.nd true (.ins (c.cl "ClosedSet") []) []), ξ (.tup []), ξ .non]) (te1 := [ξ (.nd true (.ins (c.cl "ClosedSet") []) []), ξ (.tup []), ξ .non]) rfl rfl (by decide))
 have t : eR (aD iD (ae 2) (aI .non)) [ξ (.nd true (.ins (c.cl "ClosedSet") ["set_kinds"]) [.tup []]), ζ, ξ .non] = ξ (.ok true [ξ (.nd true (.ins (c.cl "ClosedSet") ["set_kinds"]) [.tup []]), ζ, ξ .non]) := rfl
 have q2 := aH (zs := [2]) (kD (C := c.cl "ClosedSet") (fl := "forks") (i := 0) (fs := ["set_kinds"]) (us := [.tup []]) (val := Au (eR (aD iD (ae 2) (aI .non))) (au (aI .non)) xE) (y := .non) (te := [ξ (.nd true (.ins (c.cl "ClosedSet") ["set_kinds"]) [.tup []]), ζ, ξ .non]) (yq t (oK rfl)) rfl (by decide))
 have e : bW c [.nd true (.ins (c.cl "ClosedSet") []) [], .tup [], .non] = ξ (.ok .non [.nd true (.ins (c.cl "ClosedSet") ["set_kinds", "forks"]) [.tup [], .non]]) := j2 rfl (dD (q1.trans rfl) (q2.trans rfl)) rfl
 have m : av (pO 0 (c.cl "ClosedSet") (bW c) [] (aa (au (ae 1)) (aa (au (aI .non)) ah))) [ξ (.ob (c.cl "ClosedSet")), ξ (.tup [])] = ξ (.ok (Jv c) [ξ (.ob (c.cl "ClosedSet")), ξ (.tup [])]) := by
  have h1 := Ii (C := c.cl "ClosedSet") (V := bW c) (aV (i := 1) (te := [ξ (.ob (c.cl "ClosedSet")), ξ (.tup [])]) rfl rfl (aC (oK (t := .non) rfl) aN)) e
  unfold pO
  unfold av at h1 ⊢
  show a9 (if c.cl "ClosedSet" = c.cl "ClosedSet" then _ else ζ) _ = _
  rw [if_pos rfl, h1]
  rfl
 have e2 : bU c [.ob (c.cl "ClosedSet"), .tup []] = ξ (.ok (Jv c) []) := bC rfl (cP m) rfl
 exact iK (aC (oK (t := .ob (c.cl "ClosedSet")) rfl) aN) ((Lg (ts := []) (by simp)).trans e2)
def Qu (c : Cn) : bu := (aA [2] (cx (bj (dS c) [] (aa (au (ae 0)) (aa (au (ae 2)) ah))) (gName 3)))
def Qt (c : Cn) : bu := (aA [3] (cx (lV (aa (bj (cN c) [3] (bZ 3 ah)) (aa (bj (cN c) [3] (bZ 3 ah)) ah))) (kb 2 (bc (gName 4) (bc (gName 5) gQ)))))
def Qs (c : Cn) : bu := (aA [6] (gr (i6 (av (bx (aa (au (aI (.str ""))) (aa (au (aI (.str "abcd"))) (aa (au (aI (.str "A"))) (aa (au (aI (.str "a1"))) (aa (au (aI (.str "a b"))) (aa (au (aI (.str " a"))) (aa (au (aI .non)) (aa (au (aI (.int 0))) (aa (au (aI (.bl true))) (aa (au (hM (aw (aI (.str "a")) aK))) (aa (av (bx (aa (au (aI (.str "a"))) ah))) (aa (au (aI (.str "aB"))) (aa (au (aI (.str "abcdefgh"))) (aa (au (aI (.str "1"))) (aa (au (aI (.str "-"))) (aa (au (aI (.str "_"))) ah))))))))))))))))))) (gName 6) (aA [6] (aA [6] (dG (cG (cK (bj (bG c) [] (aa (au (ae 4)) (aa (au (ae 6)) (aa (au (ae 1)) ah)))))) (bA (au (aI (.bl false)))) bf)))))
def Qr : bu := (cx (av (bx (aa (au (aI (.str "BadConstraint"))) ah))) (gName 7))
def Qq (c : Cn) : bu := (aA [7, 8, 9] (xG 8 (dG (cG (cK (oU mw (aa (av (FX (bx (kN (fun v => (lX x6 (av v) (ae 7))) (aM c) [(av (aP (c.cl "Table") (bB [0, 1] 2 (ay 2 (az c))) [] (aa (av (bx ah)) ah))), (av (aP (c.cl "Table") (bB [0, 5, 1, 2, 3, 4] 6 (ay 2 (az c))) [] (aa (au (ae 4)) (aa (au (ae 5)) (aa (au (ae 4)) (aa (au (ae 5)) (aa (av (bx ah)) ah))))))), (av (aP (c.cl "Equal") (ay 1 (aE c)) [] ah)), (av (aP (c.cl "Equal") (ay 1 (aE c)) [] (aa (au (ae 4)) ah))), (av (aP (c.cl "Member") (bB [0, 1] 2 (ay 2 (aL c))) [] (aa (au (ae 1)) ah)))])))) ah)))) (bA (au (aI (.bl false)))) bf)))
def Qp (c : Cn) : bu := (aA [4, 5, 8, 9] (xG 8 (dG (cG (cK (oU mw (aa (av (FX (bx (kN (fun v => (lX iD (av v) (aI .non))) (aM c) [(av (aP (c.cl "Table") (bB [0, 4, 1, 2, 3] 5 (ay 2 (az c))) [] (aa (au (ae 4)) (aa (au (ae 5)) (aa (au (ae 4)) (aa (av (bx ah)) ah)))))), (av (aP (c.cl "Equal") (ay 1 (aE c)) [] (aa (au (ae 4)) (aa (au (ae 4)) ah)))), (av (aP (c.cl "Fixed") (bK c) [] (aa (au (ae 5)) (aa (au (aI (.int 0))) ah)))), (av (aP (c.cl "Equal") (ay 1 (aE c)) [] (aa (au (ae 4)) (aa (au (ae 5)) (aa (au (ae 4)) (aa (au (ae 5)) (aa (au (ae 4)) ah))))))), (av (aP (c.cl "Member") (bB [0, 6, 1, 2, 3, 4, 5] 7 (ay 2 (aL c))) [] (aa (au (ae 4)) (aa (au (ae 4)) (aa (au (ae 5)) (aa (au (ae 4)) (aa (au (ae 5)) (aa (au (ae 1)) ah))))))))])))) ah)))) (bA (au (aI (.bl false)))) bf)))
def fG (c : Cn) (ns : List Int) (p2 p3 p4 p5 p6 p7 : Option T) : BV.TE := [ξ (.scr ns), ξ (Jv c), p2, p3, p4, p5, p6, p7, ζ, ζ]
variable {ns: List Int}{x y: Str}
theorem MD {i : Nat} (hi : i < 100) : ∃ s, Qu c (fG c ns (ξ (.int (i : Nat))) ζ ζ ζ ζ ζ) = ξ (.fl .next (fG c ns ζ (ξ s) ζ ζ ζ ζ)) ∧ Src2 100000000000000 s := by
 obtain ⟨s, e, hs⟩ := AI (c := c) (ns := ns) hi
 exact ⟨s, aH (zs := [2]) (iV (i := 3) (iK (te := fG c ns (ξ (.int (i : Nat))) ζ ζ ζ ζ ζ) (aV (i := 0) rfl rfl (aV (i := 2) rfl rfl aN)) e)), hs⟩
theorem MC {s : T} {n : Nat} (hs : Src2 (n + 8) s) : ∃ x y : Str, Qt c (fG c ns ζ (ξ s) ζ ζ ζ ζ) = ξ (.fl .next (fG c ns ζ ζ (ξ (.str x)) (ξ (.str y)) ζ ζ)) ∧ Nm x ∧ Nm y := by
 obtain ⟨x, s1, e1, hx, hs1⟩ := D3 (c := c) (n := n + 4) (s := s) hs
 obtain ⟨y, s2, e2, hy, _⟩ := D3 (c := c) (n := n) (s := s1) hs1
 have c1 := ja (i := 3) (te := fG c ns ζ (ξ s) ζ ζ ζ ζ) rfl aN rfl e1
 have c2 := ja (i := 3) (te := fG c ns ζ (ξ s1) ζ ζ ζ ζ) rfl aN rfl e2
 have a : cx (lV (aa (bj (cN c) [3] (bZ 3 ah)) (aa (bj (cN c) [3] (bZ 3 ah)) ah))) (kb 2 (bc (gName 4) (bc (gName 5) gQ))) (fG c ns ζ (ξ s) ζ ζ ζ ζ) = ξ (.fl .next (fG c ns ζ (ξ s2) (ξ (.str x)) (ξ (.str y)) ζ ζ)) := by
  have t := aC c1 (aC c2 aN)
  unfold cx lV
  rw [t]
  rfl
 exact ⟨x, y, aH (zs := [3]) a, hx, hy⟩
def r62L : VD := (av (bx (aa (au (aI (.str ""))) (aa (au (aI (.str "abcd"))) (aa (au (aI (.str "A"))) (aa (au (aI (.str "a1"))) (aa (au (aI (.str "a b"))) (aa (au (aI (.str " a"))) (aa (au (aI .non)) (aa (au (aI (.int 0))) (aa (au (aI (.bl true))) (aa (au (hM (aw (aI (.str "a")) aK))) (aa (av (bx (aa (au (aI (.str "a"))) ah))) (aa (au (aI (.str "aB"))) (aa (au (aI (.str "abcdefgh"))) (aa (au (aI (.str "1"))) (aa (au (aI (.str "-"))) (aa (au (aI (.str "_"))) ah))))))))))))))))))
theorem LO {te : BV.TE} : r62L te = ξ (.ok (.nd false .lst sQ) te) := by
 have tu : hM (aw (aI (.str "a")) aK) te = ξ (.tup [.str "a"]) := by
  unfold hM aw aK
  show (if ([T.str "a"] : List T).length ≤ sizeLine then ξ (T.tup [.str "a"]) else ζ) = _
  rw [if_pos (eO (by simp))]
 have l1 : av (bx (aa (au (aI (.str "a"))) ah)) te = ξ (.ok (.nd false .lst [.str "a"]) te) := bY (lC (aC (oK rfl) aN) (eO (by simp)))
 exact bY (lC (aC (oK rfl) (aC (oK rfl) (aC (oK rfl) (aC (oK rfl) (aC (oK rfl) (aC (oK rfl) (aC (oK rfl) (aC (oK rfl) (aC (oK rfl) (aC (bV tu rfl) (aC l1 (aC (oK rfl) (aC (oK rfl) (aC (oK rfl) (aC (oK rfl) (aC (oK rfl) aN)))))))))))))))) (eO (by simp)))
theorem MB (ok : CnOk c) (xe : XE62 c) (hx : Nm x) : Qs c (fG c ns ζ ζ (ξ (.str x)) (ξ (.str y)) ζ ζ) = ξ (.fl .next (fG c ns ζ ζ (ξ (.str x)) (ξ (.str y)) ζ ζ)) := by
 have it := Er (te := fG c ns ζ ζ (ξ (.str x)) (ξ (.str y)) ζ ζ) LO (⟨rfl, .inr rfl⟩ : Sq (.nd false .lst sQ) sQ)
 refine aH (zs := [6]) ((iS it).trans (nP (v := 6) (us := sQ) fun t ht => ?_))
 have ho := DQ (c := c) ok t ht
 have cl := iK (V := bG c) (te := fG c ns ζ ζ (ξ (.str x)) (ξ (.str y)) (ξ t) ζ) (aV (i := 4) rfl rfl (aV (i := 6) rfl ho.vl.cold (aV (i := 1) rfl rfl aN))) (xi ok xe hx ho (s := Jv c) rfl)
 exact aH (zs := [6]) (aH (zs := [6]) (gG (a := bA (au (aI (.bl false)))) (b := bf) (qE (kq cl)) rfl))
def Oo : T := .nd false .lst [.str "BadConstraint"]
theorem MA : Qr (fG c ns ζ ζ (ξ (.str x)) (ξ (.str y)) ζ ζ) = ξ (.fl .next (fG c ns ζ ζ (ξ (.str x)) (ξ (.str y)) ζ (ξ Oo))) :=
 iV (i := 7) (bY (lC (aC (oK (t := .str "BadConstraint") rfl) aN) (eO (by simp))))
def JW (c : Cn) : List VD := [(av (aP (c.cl "Table") (bB [0, 1] 2 (ay 2 (az c))) [] (aa (av (bx ah)) ah))), (av (aP (c.cl "Table") (bB [0, 5, 1, 2, 3, 4] 6 (ay 2 (az c))) [] (aa (au (ae 4)) (aa (au (ae 5)) (aa (au (ae 4)) (aa (au (ae 5)) (aa (av (bx ah)) ah))))))), (av (aP (c.cl "Equal") (ay 1 (aE c)) [] ah)), (av (aP (c.cl "Equal") (ay 1 (aE c)) [] (aa (au (ae 4)) ah))), (av (aP (c.cl "Member") (bB [0, 1] 2 (ay 2 (aL c))) [] (aa (au (ae 1)) ah)))]
def JV (c : Cn) : List VD := [(av (aP (c.cl "Table") (bB [0, 4, 1, 2, 3] 5 (ay 2 (az c))) [] (aa (au (ae 4)) (aa (au (ae 5)) (aa (au (ae 4)) (aa (av (bx ah)) ah)))))), (av (aP (c.cl "Equal") (ay 1 (aE c)) [] (aa (au (ae 4)) (aa (au (ae 4)) ah)))), (av (aP (c.cl "Fixed") (bK c) [] (aa (au (ae 5)) (aa (au (aI (.int 0))) ah)))), (av (aP (c.cl "Equal") (ay 1 (aE c)) [] (aa (au (ae 4)) (aa (au (ae 5)) (aa (au (ae 4)) (aa (au (ae 5)) (aa (au (ae 4)) ah))))))), (av (aP (c.cl "Member") (bB [0, 6, 1, 2, 3, 4, 5] 7 (ay 2 (aL c))) [] (aa (au (ae 4)) (aa (au (ae 4)) (aa (au (ae 5)) (aa (au (ae 4)) (aa (au (ae 5)) (aa (au (ae 1)) ah))))))))]
theorem JB (ok : CnOk c) (xe : XE62 c) (hx : Nm x) (hy : Nm y) {p7 : Option T} : ∀ v ∈ JW c, ni (aM c) v (fG c ns ζ ζ (ξ (.str x)) (ξ (.str y)) ζ p7) = ξ (.ok Oo (fG c ns ζ ζ (ξ (.str x)) (ξ (.str y)) ζ p7)) := by
 have nx := NmB.of (c := c) ok hx
 have ny := NmB.of (c := c) ok hy
 have A4 : ∀ {as : VA} {ys : List T}, as (fG c ns ζ ζ (ξ (.str x)) (ξ (.str y)) ζ p7) = ξ (.ok ys (fG c ns ζ ζ (ξ (.str x)) (ξ (.str y)) ζ p7)) → aa (au (ae 4)) as (fG c ns ζ ζ (ξ (.str x)) (ξ (.str y)) ζ p7) = ξ (.ok (.str x :: ys) (fG c ns ζ ζ (ξ (.str x)) (ξ (.str y)) ζ p7)) := fun h => aV (i := 4) rfl rfl h
 have A5 : ∀ {as : VA} {ys : List T}, as (fG c ns ζ ζ (ξ (.str x)) (ξ (.str y)) ζ p7) = ξ (.ok ys (fG c ns ζ ζ (ξ (.str x)) (ξ (.str y)) ζ p7)) → aa (au (ae 5)) as (fG c ns ζ ζ (ξ (.str x)) (ξ (.str y)) ζ p7) = ξ (.ok (.str y :: ys) (fG c ns ζ ζ (ξ (.str x)) (ξ (.str y)) ζ p7)) := fun h => aV (i := 5) rfl rfl h
 have A1 : ∀ {as : VA} {ys : List T}, as (fG c ns ζ ζ (ξ (.str x)) (ξ (.str y)) ζ p7) = ξ (.ok ys (fG c ns ζ ζ (ξ (.str x)) (ξ (.str y)) ζ p7)) → aa (au (ae 1)) as (fG c ns ζ ζ (ξ (.str x)) (ξ (.str y)) ζ p7) = ξ (.ok (Jv c :: ys) (fG c ns ζ ζ (ξ (.str x)) (ξ (.str y)) ζ p7)) := fun h => aV (i := 1) rfl rfl h
 have e0 : ∀ {te : BV.TE}, av (bx ah) te = ξ (.ok BF te) := rfl
 have AE : ∀ {te : BV.TE}, aa (av (bx ah)) ah te = ξ (.ok [BF] te) := aC e0 aN
 have n0 : ∀ t ∈ ([] : List T), NmB c true t := fun t h => by cases h
 have n1 : ∀ t ∈ [T.str x], NmB c true t := fun t h => by rw [List.mem_singleton.mp h]; exact nx
 have n4 : ∀ t ∈ [T.str x, .str y, .str x, .str y], NmB c true t := fun t h => by
  simp only [List.mem_cons, List.not_mem_nil, or_false] at h
  rcases h with rfl | rfl | rfl | rfl <;> assumption
 intro v hv
 refine yj (R := .cnt) xe ?_ (fun z e => by cases e)
 simp only [JW, List.mem_cons, List.not_mem_nil, or_false] at hv
 rcases hv with rfl | rfl | rfl | rfl | rfl
 ·exact vr (ts := []) AE P9 rfl (by simp) (.cnt _ n0 .int (by rfl))
 ·exact vr (ts := [.str x, .str y, .str x, .str y]) (A4 (A5 (A4 (A5 AE)))) L3 rfl (by simp) (.cnt _ n4 .int (by rfl))
 ·exact yC (ts := []) aN rfl (by simp) (.cnt _ n0 .non (by rfl))
 ·exact yC (ts := [.str x]) (A4 aN) rfl (by simp) (.cnt _ n1 .non (by rfl))
 ·exact Ih (ts := []) (s := Jv c) (A1 aN) P9 rfl rfl (by simp) (.cnt _ n0 .non (by rfl))
theorem Fh (ok : CnOk c) (xe : XE62 c) (hx : Nm x) (hy : Nm y) {p7 : Option T} : ∀ v ∈ JV c, ni (aM c) v (fG c ns ζ ζ (ξ (.str x)) (ξ (.str y)) ζ p7) = ξ (.ok .non (fG c ns ζ ζ (ξ (.str x)) (ξ (.str y)) ζ p7)) := by
 have nx := NmB.of (c := c) ok hx
 have ny := NmB.of (c := c) ok hy
 have A4 : ∀ {as : VA} {ys : List T}, as (fG c ns ζ ζ (ξ (.str x)) (ξ (.str y)) ζ p7) = ξ (.ok ys (fG c ns ζ ζ (ξ (.str x)) (ξ (.str y)) ζ p7)) → aa (au (ae 4)) as (fG c ns ζ ζ (ξ (.str x)) (ξ (.str y)) ζ p7) = ξ (.ok (.str x :: ys) (fG c ns ζ ζ (ξ (.str x)) (ξ (.str y)) ζ p7)) := fun h => aV (i := 4) rfl rfl h
 have A5 : ∀ {as : VA} {ys : List T}, as (fG c ns ζ ζ (ξ (.str x)) (ξ (.str y)) ζ p7) = ξ (.ok ys (fG c ns ζ ζ (ξ (.str x)) (ξ (.str y)) ζ p7)) → aa (au (ae 5)) as (fG c ns ζ ζ (ξ (.str x)) (ξ (.str y)) ζ p7) = ξ (.ok (.str y :: ys) (fG c ns ζ ζ (ξ (.str x)) (ξ (.str y)) ζ p7)) := fun h => aV (i := 5) rfl rfl h
 have A1 : ∀ {as : VA} {ys : List T}, as (fG c ns ζ ζ (ξ (.str x)) (ξ (.str y)) ζ p7) = ξ (.ok ys (fG c ns ζ ζ (ξ (.str x)) (ξ (.str y)) ζ p7)) → aa (au (ae 1)) as (fG c ns ζ ζ (ξ (.str x)) (ξ (.str y)) ζ p7) = ξ (.ok (Jv c :: ys) (fG c ns ζ ζ (ξ (.str x)) (ξ (.str y)) ζ p7)) := fun h => aV (i := 1) rfl rfl h
 have e0 : ∀ {te : BV.TE}, av (bx ah) te = ξ (.ok BF te) := rfl
 have AE : ∀ {te : BV.TE}, aa (av (bx ah)) ah te = ξ (.ok [BF] te) := aC e0 aN
 have n1 : ∀ t ∈ [T.str y], NmB c true t := fun t h => by rw [List.mem_singleton.mp h]; exact ny
 have n2 : ∀ t ∈ [T.str x, .str x], NmB c true t := fun t h => by
  simp only [List.mem_cons, List.not_mem_nil, or_false] at h
  rcases h with rfl | rfl <;> assumption
 have n3 : ∀ t ∈ [T.str x, .str y, .str x], NmB c true t := fun t h => by
  simp only [List.mem_cons, List.not_mem_nil, or_false] at h
  rcases h with rfl | rfl | rfl <;> assumption
 have n5 : ∀ t ∈ [T.str x, .str y, .str x, .str y, .str x], NmB c true t := fun t h => by
  simp only [List.mem_cons, List.not_mem_nil, or_false] at h
  rcases h with rfl | rfl | rfl | rfl | rfl <;> assumption
 have m5 : ∀ t ∈ [T.str x, .str x, .str y, .str x, .str y], NmB c true t := fun t h => by
  simp only [List.mem_cons, List.not_mem_nil, or_false] at h
  rcases h with rfl | rfl | rfl | rfl | rfl <;> assumption
 intro v hv
 refine yj (R := .fine) xe ?_ (fun z e => by cases e)
 simp only [JV, List.mem_cons, List.not_mem_nil, or_false] at hv
 rcases hv with rfl | rfl | rfl | rfl | rfl
 ·exact vr (ts := [.str x, .str y, .str x]) (A4 (A5 (A4 AE))) P7 rfl (by simp) (.fine _ n3 .int (by rfl))
 ·exact yC (ts := [.str x, .str x]) (A4 (A4 aN)) rfl (by simp) (.fine _ n2 .non (by rfl))
 ·exact QF (x := .str y) (v := 0) (A5 (aC (oK (t := .int 0) rfl) aN)) rfl (.fine _ n1 .int (by rfl))
 ·exact yC (ts := [.str x, .str y, .str x, .str y, .str x]) (A4 (A5 (A4 (A5 (A4 aN))))) rfl (by simp) (.fine _ n5 .non (by rfl))
 ·exact Ih (ts := [.str x, .str x, .str y, .str x, .str y]) (s := Jv c) (A4 (A4 (A5 (A4 (A5 (A1 aN)))))) P6 rfl rfl (by simp) (.fine _ m5 .non (by rfl))
theorem Mz (ok : CnOk c) (xe : XE62 c) (hx : Nm x) (hy : Nm y) : Qq c (fG c ns ζ ζ (ξ (.str x)) (ξ (.str y)) ζ (ξ Oo)) = ξ (.fl .next (fG c ns ζ ζ (ξ (.str x)) (ξ (.str y)) ζ ζ)) := by
 have vb : Vl 2 1000 Oo := (Vl.lst (d := 1) (n := 132) (k := 1) (fun x hx => by rw [List.mem_singleton.mp hx]; exact Vl.str (n := 13) (by decide +kernel) (by decide +kernel)) (by simp)).mono (by decide) (by decide)
 have e := qL (VB := fun v => (lX x6 (av v) (ae 7))) (VF := aM c) (te := fG c ns ζ ζ (ξ (.str x)) (ξ (.str y)) ζ (ξ Oo)) (vs := JW c) (by simp [JW]) (fun v hv => by
  have co := bY (JB (c := c) (ns := ns) (p7 := ξ Oo) ok xe hx hy v hv)
  exact zy (z := .bl true) co (cO (i := 7) rfl) (v5 vb (by decide)) rfl)
 exact aH (zs := [7, 8, 9]) (gG (a := bA (au (aI (.bl false)))) (b := bf) (qE (kq e)) rfl)
theorem My (ok : CnOk c) (xe : XE62 c) (hx : Nm x) (hy : Nm y) : Qp c (fG c ns ζ ζ (ξ (.str x)) (ξ (.str y)) ζ ζ) = ξ (.fl .next (fG c ns ζ ζ ζ ζ ζ ζ)) := by
 have e := qL (VB := fun v => (lX iD (av v) (aI .non))) (VF := aM c) (te := fG c ns ζ ζ (ξ (.str x)) (ξ (.str y)) ζ ζ) (vs := JV c) (by simp [JV]) (fun v hv => by
  have co := bY (Fh (c := c) (ns := ns) (p7 := ζ) ok xe hx hy v hv)
  exact zy (z := .bl true) co (y := .non) rfl rfl rfl)
 exact aH (zs := [4, 5, 8, 9]) (gG (a := bA (au (aI (.bl false)))) (b := bf) (qE (kq e)) rfl)
def Qo (c : Cn) : bu := aA [2, 3, 4, 5, 6, 7, 8] (a5 (Qu c) (a5 (Qt c) (a5 (Qs c) (a5 Qr (a5 (Qq c) (Qp c))))))
theorem Mx (ok : CnOk c) (xe : XE62 c) {i : Nat} (hi : i < 100) : Qo c (fG c ns (ξ (.int (i : Nat))) ζ ζ ζ ζ ζ) = ξ (.fl .next (fG c ns ζ ζ ζ ζ ζ ζ)) := by
 obtain ⟨s, a, hs⟩ := MD (c := c) (ns := ns) hi
 obtain ⟨x, y, b, hx, hy⟩ := MC (c := c) (ns := ns) (n := 8) (hs.mono (by decide))
 exact aH (zs := [2, 3, 4, 5, 6, 7, 8]) (dD a (dD b (dD (MB ok xe hx) (dD MA (dD (Mz ok xe hx hy) (My ok xe hx hy))))))
theorem Iw (ok : CnOk c) (xe : XE62 c) (ns : List Int) : nU c [.scr ns] = ξ (.ok (.bl true) []) := by
 have a0 : cx (bj (ay 1 (bU c)) [] (aa (au (aI (.ob (c.cl "ClosedSet")))) ah)) (gName 1) (ξ (.scr ns) :: List.replicate 9 ζ) = ξ (.fl .next (fG c ns ζ ζ ζ ζ ζ ζ)) := iV (i := 1) Ju
 obtain ⟨k, hk, hk64⟩ : ∃ k : Nat, (au (bt zm (aw (aI (.int 1)) (aw (bt zl (aw (aI (.int 3)) (aw (bt cm (aw (ae 0) aK)) aK))) aK)))) (fG c ns ζ ζ ζ ζ ζ ζ) = ξ (VR.ok (T.int (k : Nat)) (fG c ns ζ ζ ζ ζ ζ ζ)) ∧ k ≤ 64 := by
  refine ⟨(max 1 (min 3 (ns.length : Int))).toNat, ?_, by omega⟩
  simp [fG]
  split <;> split <;> omega
 have it := Df hk (by omega)
 have e := nP (v := 2) (body := Qo c) (te := fG c ns ζ ζ ζ ζ ζ ζ) (us := (List.range k).map fun v : Nat => T.int (v : Nat)) (fun t ht => by
  obtain ⟨i, hi, rfl⟩ := List.mem_map.mp ht
  exact Mx ok xe (i := i) (by have := List.mem_range.mp hi; omega))
 have s1 := aH (zs := [0, 1, 2, 3, 4, 5, 6, 7, 8]) ((iS it).trans e)
 exact bC (n := 10) (b := lK c) rfl (dD a0 (dD s1 (cP (oK (t := .bl true) rfl)))) rfl
theorem plain62 (K : PySem.W.Frag) (xe : XE62 (cn K)) (ns : List Int) : nU (cn K) [.scr ns] = ξ (.ok (.bl true) []) := Iw (QO K) xe ns
end
end QP
end
open PySem PySem.W PySem.Calls PyProof.Rows
set_option maxHeartbeats 0 in
theorem PySem.Challenge.cw_keptbythree_k62_constraints_refused_holds : PySem.Challenge.rw_keptbythree_k62_constraints_refused.Holds := by
 w_on; o_law
 refine HandSHeadRun.head_any (r := OpenLaw.row PySem.Challenge.rw_keptbythree_k62_constraints_refused) (q := view (OpenLaw.row PySem.Challenge.rw_keptbythree_k62_constraints_refused).prog [52]) (H := K62.hk) (ob := K62.ob) (M := 12000) (loose := K62.loose) (d := HandSHeadRun.topDef (OpenLaw.row PySem.Challenge.rw_keptbythree_k62_constraints_refused).prog 52) (kwd := []) K62.ob_eq
  (by kernel_rfl) (fun s => by kernel_rfl) K62.run (by kernel_rfl) (by kernel_rfl) (by kernel_rfl) (by rfl) (by first | assumption | decide +kernel) (by decide +kernel) ⟨rfl, rfl, rfl, rfl, rfl, by decide +kernel⟩ ?hw ?hc
 case hw => w_witness2
 case hc =>
  refine SB.walk_zT (tf := K62.tf) (g := true) (l := PySem.Challenge.rw_keptbythree_k62_constraints_refused) (n := 63) (k := 10) (x := "_law_script") rfl (by decide) (by kernel_rfl) ⟨rfl, by decide, by decide⟩ ?F
  intro w mg fa h Y G hmg0
  obtain ⟨K, KX, c⟩ := Y
  have hmg : mg ("law" : PySem.Str) = ξ (.ref fa) := by
   have e : (HandSHeadRun.topDef (OpenLaw.row PySem.Challenge.rw_keptbythree_k62_constraints_refused).prog 52).name = ("law" : PySem.Str) := by kernel_rfl
   rw [← e]
   exact hmg0
  letI : SB.Tabs := SB.tabsK K K62.tf
  letI : SB.Reprs := ⟨rfl⟩
  letI : SB.Past := SB.noPast
  obtain ⟨T, fd, hb, hF⟩ := K62.facts (P := (PySem.Challenge.rw_keptbythree_k62_constraints_refused).prog) (w := w) KX G hmg c.z ⟨by kernel_rfl, by kernel_rfl⟩
  exact ⟨K, fd, KD.D_law_k62 K, KX, fun p hp => c.emp p.1 (List.mem_map.mpr ⟨p, hp, rfl⟩), fun p hp => c.out p.1 (List.mem_map.mpr ⟨p, hp, rfl⟩), fun p hp => PySem.W.codeHd_of_K KX (c.hd p.1 (List.mem_map.mpr ⟨p, hp, rfl⟩)), T.ap, hb, fun ns hl => BV.law_of KV.xd_law_k62 (QP.plain62 K ⟨T.enn, T.ecn, T.ecc, T.knv, T.kcv⟩ ns), fun base la => hF base (la _ (.head _)) (la _ (.tail _ (.head _)))⟩
