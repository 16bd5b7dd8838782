import PyProof.Rows.All
import Wide.All
import OpenK.AllK
import Wide.FinOn
import KE.KStateDown
import HandS.ForMost
import HandS.Exc
import HandS.TryOnly
import HandS.ExcOwn
import HandS.WordsExc
import HandS.Defaults
import HandS.Wide
import HandS.TupAny
import HandS.IsInst
import HandS.Text
import HandS.Conv
import HandS.Rev
import HandS.Zip
import HandS.ExcIs
import HandS.HeadHook1
import HandS.SortRule
import HandS.SortInts
import HandS.RevTup
import HandS.Iter
import HandS.Dict
import HandS.TupLen
import HandS.WordsDict
import HandS.SetFor
import HandS.Style
import HandS.Codes
import HandS.TupLe
import PyProof.Rows.InDataRows
import HandS.SetKeys
import HandS.More
import HandS.RevRange
import HandS.Strs
import HandS.TryMany
import KE.KRevSl
import HandS.DictSubView
import PyProof.DictWalks
import KE.LtSeq
import HandS.HotCalls
import PyProof.StrOps2
import HandS.ExcInit
import HandS.ExcField
import HandS.SortKw
import KE.DatumOrd
import PyProof.Rows.StrInSeq3
import KE.SortData
import HandS.Head0
import HandS.Head1
import HandS.Head2
import HandS.HeadEnd
import HandS.HeadHook2
import PySem.Challenge.RW_pocketmill_k18_wishes_refused
set_option Elab.async false
set_option linter.all false
set_option maxRecDepth 100000
set_option maxHeartbeats 3999999
namespace Pm
open PySem PySem.Spec PyProof.Rows L2 C8
open Classical
def excCB (K : PySem.W.Frag) (x : Str) : Bool :=
  He.eqO (PySem.W.findIn K (.ref (He.ga K x)) "__getattribute__") (some (some (.builtin "BaseException.__getattribute__"))) && (He.eqO (PySem.W.findIn K (.ref (He.ga K x)) "__getattr__") (some none) &&
  (decide (PySem.W.subIn K (.ref (He.ga K x)) (.type "BaseException") = some true) && (PySem.W.hasDictIn K (He.ga K x) && (He.eqO (PySem.W.findIn K (.ref (He.ga K x)) "__class__") (some (some (.builtin "object.__class__"))) &&
  (He.eqO (PySem.W.specialIn K (.builtin "object.__class__") "__get__") (some (some (.builtin "getset_descriptor.__get__"))) && (decide (PySem.W.takesIn K (.builtin "object.__class__") = some true) && decide (PySem.W.mroIn K (He.ga K x) (.type "object") = some true)))))))
def subsB (K : PySem.W.Frag) (X : Value) (tab : List (Str × Bool)) : Bool := tab.all fun q => decide (PySem.W.exmOne K (.ref (He.ga K q.1)) X = some q.2)
def isxB (K : PySem.W.Frag) (X : Value) (tab : List (Str × Bool)) : Bool := tab.all fun q => decide (PySem.W.kitOne K (.ref (He.ga K q.1)) X = some q.2)
def excB (K : PySem.W.Frag) (tab : List (Str × Bool)) : Bool := tab.all fun q => !q.2 || excCB K q.1
def insCB (K : PySem.W.Frag) (x : Str) : Bool :=
  He.eqO (PySem.W.findIn K (.ref (He.ga K x)) "__class__") (some (some (.builtin "object.__class__"))) && (He.eqO (PySem.W.specialIn K (.builtin "object.__class__") "__get__") (some (some (.builtin "getset_descriptor.__get__"))) &&
  (decide (PySem.W.takesIn K (.builtin "object.__class__") = some true) && (decide (PySem.W.mroIn K (He.ga K x) (.type "object") = some true) && decide (PySem.W.kitOne K (.ref (He.ga K x)) (.ref (He.ga K x)) = some true))))
def oexB (K : PySem.W.Frag) (x : Str) : Bool := (match K.lookup (He.ga K x) with
  | some ⟨.type "type", _, .cls cd, sl⟩ => (match cd.mro, sl.toList with
    | .ref C' :: bm, [_, _, _, _, some (.builtin n), _] => decide (C' = He.ga K x) && (decide (n = "ValueError.__new__") && (!cd.hasDel && (cd.hasDict && PySem.HandSPX.refsVE bm)))
    | _, _ => false)
  | _ => false) && (He.eqO (PySem.W.findIn K (.ref (He.ga K x)) "__setattr__") (some (some (.builtin "object.__setattr__"))) && (decide (PySem.W.subIn K (.ref (He.ga K x)) (.type "BaseException") = some true) &&
    (decide (PySem.W.typeIn K (.ref (He.ga K x)) = some (.type "type")) && (PySem.W.keepIn K (.ref (He.ga K x)) && He.eqO (PySem.W.findIn K (.ref (He.ga K x)) "row") (some none)))))
def binB (K : PySem.W.Frag) (x : Str) : Bool := PySem.W.readsIn K (He.ga K x) (.type "type") && (decide (PySem.W.specialIn K (.ref (He.ga K x)) "__getattribute__" = some (some (.builtin "type.__getattribute__"))) &&
  (match PySem.W.findCls K (.ref (He.ga K x)) (.type "type") "__init__" with
  | some (.val v) => decide (v = .builtin "ValueError.__init__")
  | _ => false))
def xrowB (K : PySem.W.Frag) (x : Str) : Bool := xfB K (He.ga K x) && decide (PySem.W.findIn K (.ref (He.ga K x)) "row" = some none)
def obX (facts : List He.Fa) (defs : List He.DefD) (more : PySem.W.Frag → Bool) (g : Addr → Option Obj) (n : Nat) : He.AlD × Bool :=
  (He.obsD facts defs (He.frG g (He.asD g n ++ [cStatics])), more (He.frG g (He.asD g n ++ [cStatics])))
def SaysX (facts : List He.Fa) (defs : List He.DefD) (more : PySem.W.Frag → Bool) (K : PySem.W.Frag) : Prop := He.SaysD facts defs K ∧ more K = true
def hookX (n : Nat) (facts : List He.Fa) (defs : List He.DefD) (more : PySem.W.Frag → Bool) : PySem.W.Hook where
  α := He.AlD × Bool
  obs := fun st => obX facts defs more st.heap.get? n
  val := fun _ => (He.valD defs, true)
  says := fun _ hp => ∃ K : PySem.W.Frag, K.In hp ∧ SaysX facts defs more K
  of := fun _ _ eq => ⟨_, He.frG_in, congrArg Prod.fst eq, congrArg Prod.snd eq⟩
  keeps := fun _ _ _ ⟨K, hIn, says⟩ kept => ⟨K, hIn.keeps kept, says⟩
theorem obX_eq {n : Nat} {facts : List He.Fa} {defs : List He.DefD} {more : PySem.W.Frag → Bool} {g : Addr → Option Obj} {st : Shared} (h : ∀ a, g a = st.heap.get? a) : obX facts defs more g n = (hookX n facts defs more).obs st := by
  have e : g = st.heap.get? := funext h
  subst e
  rfl
def obL (as : List Addr) (facts : List He.Fa) (defs : List He.DefD) (more : PySem.W.Frag → Bool) (g : Addr → Option Obj) : He.AlD × Bool :=
  (He.obsD facts defs (He.frG g as), more (He.frG g as))
def hookL (as : List Addr) (facts : List He.Fa) (defs : List He.DefD) (more : PySem.W.Frag → Bool) : PySem.W.Hook where
  α := He.AlD × Bool
  obs := fun st => obL as facts defs more st.heap.get?
  val := fun _ => (He.valD defs, true)
  says := fun _ hp => ∃ K : PySem.W.Frag, K.In hp ∧ SaysX facts defs more K
  of := fun _ _ eq => ⟨_, He.frG_in, congrArg Prod.fst eq, congrArg Prod.snd eq⟩
  keeps := fun _ _ _ ⟨K, hIn, says⟩ kept => ⟨K, hIn.keeps kept, says⟩
theorem obL_eq {as : List Addr} {facts : List He.Fa} {defs : List He.DefD} {more : PySem.W.Frag → Bool} {g : Addr → Option Obj} {st : Shared} (h : ∀ a, g a = st.heap.get? a) : obL as facts defs more g = (hookL as facts defs more).obs st := by
  have e : g = st.heap.get? := funext h
  subst e
  rfl
end Pm
namespace Pm
open PySem PySem.Spec PyProof.Rows L2 C8
/-! ### the text by places -/
def top (i : Nat) : Stmt := PySem.Challenge.pw_pocketmill_k18_wishes_refused.main.body.getD i (.Pass ⟨0, 0, 0, 0⟩)
abbrev s__wall : Stmt := top 0
abbrev s_BadText___init__ : Stmt := inClass (top 18) 0
abbrev s_look_at_groups : Stmt := top 21
abbrev s_group_levels : Stmt := top 22
abbrev s_Wish___init__ : Stmt := inClass (top 23) 0
abbrev s_Wish_levels : Stmt := inClass (top 23) 1
abbrev s_Wish_level_of : Stmt := inClass (top 23) 2
abbrev s_Wish_behind : Stmt := inClass (top 23) 3
abbrev s_Wish_breach : Stmt := inClass (top 23) 4
abbrev s_Wish_kept_by : Stmt := inClass (top 23) 5
abbrev s_Wish_one_order : Stmt := inClass (top 23) 6
abbrev s__law_parts : Stmt := top 25
abbrev s__law_poured : Stmt := top 26
abbrev s__law_letters : Stmt := top 27
abbrev s__law_groups : Stmt := top 28
abbrev s__law_copied : Stmt := top 29
abbrev s__law_levels : Stmt := top 30
abbrev s__law_places : Stmt := top 31
abbrev s__law_faulty : Stmt := top 32
abbrev s__law_good : Stmt := top 33
abbrev s__law_refused : Stmt := top 34
abbrev s_law : Stmt := top 35
/-! ### what the top has written -/
def tabS_MillError : List (Str × Bool) := [("MillError", true), ("BadMill", true), ("BadLate", true), ("BadWord", true), ("BadCode", true), ("BadSize", true), ("BadLetters", true), ("BadPlan", true), ("BadWish", true), ("BadCount", true), ("BadRow", true), ("BadPrices", true), ("NotOneOrder", true), ("NoRow", true), ("Shut", true), ("BadDeed", true), ("BadText", true)]
def tabI_BadCode : List (Str × Bool) := [("MillError", false), ("BadMill", false), ("BadLate", false), ("BadWord", false), ("BadCode", true), ("BadSize", false), ("BadLetters", false), ("BadPlan", false), ("BadWish", false), ("BadCount", false), ("BadRow", false), ("BadPrices", false), ("NotOneOrder", false), ("NoRow", false), ("Shut", false), ("BadDeed", false), ("BadText", false)]
def tabI_BadCount : List (Str × Bool) := [("MillError", false), ("BadMill", false), ("BadLate", false), ("BadWord", false), ("BadCode", false), ("BadSize", false), ("BadLetters", false), ("BadPlan", false), ("BadWish", false), ("BadCount", true), ("BadRow", false), ("BadPrices", false), ("NotOneOrder", false), ("NoRow", false), ("Shut", false), ("BadDeed", false), ("BadText", false)]
def tabI_BadDeed : List (Str × Bool) := [("MillError", false), ("BadMill", false), ("BadLate", false), ("BadWord", false), ("BadCode", false), ("BadSize", false), ("BadLetters", false), ("BadPlan", false), ("BadWish", false), ("BadCount", false), ("BadRow", false), ("BadPrices", false), ("NotOneOrder", false), ("NoRow", false), ("Shut", false), ("BadDeed", true), ("BadText", false)]
def tabI_BadLate : List (Str × Bool) := [("MillError", false), ("BadMill", false), ("BadLate", true), ("BadWord", false), ("BadCode", false), ("BadSize", false), ("BadLetters", false), ("BadPlan", false), ("BadWish", false), ("BadCount", false), ("BadRow", false), ("BadPrices", false), ("NotOneOrder", false), ("NoRow", false), ("Shut", false), ("BadDeed", false), ("BadText", false)]
def tabI_BadLetters : List (Str × Bool) := [("MillError", false), ("BadMill", false), ("BadLate", false), ("BadWord", false), ("BadCode", false), ("BadSize", false), ("BadLetters", true), ("BadPlan", false), ("BadWish", false), ("BadCount", false), ("BadRow", false), ("BadPrices", false), ("NotOneOrder", false), ("NoRow", false), ("Shut", false), ("BadDeed", false), ("BadText", false)]
def tabI_BadMill : List (Str × Bool) := [("MillError", false), ("BadMill", true), ("BadLate", false), ("BadWord", false), ("BadCode", false), ("BadSize", false), ("BadLetters", false), ("BadPlan", false), ("BadWish", false), ("BadCount", false), ("BadRow", false), ("BadPrices", false), ("NotOneOrder", false), ("NoRow", false), ("Shut", false), ("BadDeed", false), ("BadText", false)]
def tabI_BadPlan : List (Str × Bool) := [("MillError", false), ("BadMill", false), ("BadLate", false), ("BadWord", false), ("BadCode", false), ("BadSize", false), ("BadLetters", false), ("BadPlan", true), ("BadWish", false), ("BadCount", false), ("BadRow", false), ("BadPrices", false), ("NotOneOrder", false), ("NoRow", false), ("Shut", false), ("BadDeed", false), ("BadText", false)]
def tabI_BadPrices : List (Str × Bool) := [("MillError", false), ("BadMill", false), ("BadLate", false), ("BadWord", false), ("BadCode", false), ("BadSize", false), ("BadLetters", false), ("BadPlan", false), ("BadWish", false), ("BadCount", false), ("BadRow", false), ("BadPrices", true), ("NotOneOrder", false), ("NoRow", false), ("Shut", false), ("BadDeed", false), ("BadText", false)]
def tabI_BadRow : List (Str × Bool) := [("MillError", false), ("BadMill", false), ("BadLate", false), ("BadWord", false), ("BadCode", false), ("BadSize", false), ("BadLetters", false), ("BadPlan", false), ("BadWish", false), ("BadCount", false), ("BadRow", true), ("BadPrices", false), ("NotOneOrder", false), ("NoRow", false), ("Shut", false), ("BadDeed", false), ("BadText", false)]
def tabI_BadSize : List (Str × Bool) := [("MillError", false), ("BadMill", false), ("BadLate", false), ("BadWord", false), ("BadCode", false), ("BadSize", true), ("BadLetters", false), ("BadPlan", false), ("BadWish", false), ("BadCount", false), ("BadRow", false), ("BadPrices", false), ("NotOneOrder", false), ("NoRow", false), ("Shut", false), ("BadDeed", false), ("BadText", false)]
def tabI_BadText : List (Str × Bool) := [("MillError", false), ("BadMill", false), ("BadLate", false), ("BadWord", false), ("BadCode", false), ("BadSize", false), ("BadLetters", false), ("BadPlan", false), ("BadWish", false), ("BadCount", false), ("BadRow", false), ("BadPrices", false), ("NotOneOrder", false), ("NoRow", false), ("Shut", false), ("BadDeed", false), ("BadText", true)]
def tabI_BadWish : List (Str × Bool) := [("MillError", false), ("BadMill", false), ("BadLate", false), ("BadWord", false), ("BadCode", false), ("BadSize", false), ("BadLetters", false), ("BadPlan", false), ("BadWish", true), ("BadCount", false), ("BadRow", false), ("BadPrices", false), ("NotOneOrder", false), ("NoRow", false), ("Shut", false), ("BadDeed", false), ("BadText", false)]
def tabI_BadWord : List (Str × Bool) := [("MillError", false), ("BadMill", false), ("BadLate", false), ("BadWord", true), ("BadCode", false), ("BadSize", false), ("BadLetters", false), ("BadPlan", false), ("BadWish", false), ("BadCount", false), ("BadRow", false), ("BadPrices", false), ("NotOneOrder", false), ("NoRow", false), ("Shut", false), ("BadDeed", false), ("BadText", false)]
def tabI_NoRow : List (Str × Bool) := [("MillError", false), ("BadMill", false), ("BadLate", false), ("BadWord", false), ("BadCode", false), ("BadSize", false), ("BadLetters", false), ("BadPlan", false), ("BadWish", false), ("BadCount", false), ("BadRow", false), ("BadPrices", false), ("NotOneOrder", false), ("NoRow", true), ("Shut", false), ("BadDeed", false), ("BadText", false)]
def tabI_NotOneOrder : List (Str × Bool) := [("MillError", false), ("BadMill", false), ("BadLate", false), ("BadWord", false), ("BadCode", false), ("BadSize", false), ("BadLetters", false), ("BadPlan", false), ("BadWish", false), ("BadCount", false), ("BadRow", false), ("BadPrices", false), ("NotOneOrder", true), ("NoRow", false), ("Shut", false), ("BadDeed", false), ("BadText", false)]
def tabI_Shut : List (Str × Bool) := [("MillError", false), ("BadMill", false), ("BadLate", false), ("BadWord", false), ("BadCode", false), ("BadSize", false), ("BadLetters", false), ("BadPlan", false), ("BadWish", false), ("BadCount", false), ("BadRow", false), ("BadPrices", false), ("NotOneOrder", false), ("NoRow", false), ("Shut", true), ("BadDeed", false), ("BadText", false)]
def tabI_ValueError : List (Str × Bool) := [("MillError", true), ("BadMill", true), ("BadLate", true), ("BadWord", true), ("BadCode", true), ("BadSize", true), ("BadLetters", true), ("BadPlan", true), ("BadWish", true), ("BadCount", true), ("BadRow", true), ("BadPrices", true), ("NotOneOrder", true), ("NoRow", true), ("Shut", true), ("BadDeed", true), ("BadText", true)]
/-! ### the head -/
def d__wall : He.DefD := ⟨("_wall", none), "_wall", "_wall", defArgs s__wall, defBody s__wall, defScope s__wall, [], []⟩
def d_BadText___init__ : He.DefD := ⟨("BadText", some "__init__"), "__init__", "BadText.__init__", defArgs s_BadText___init__, defBody s_BadText___init__, defScope s_BadText___init__, [], []⟩
def d_look_at_groups : He.DefD := ⟨("look_at_groups", none), "look_at_groups", "look_at_groups", defArgs s_look_at_groups, defBody s_look_at_groups, defScope s_look_at_groups, [], []⟩
def d_group_levels : He.DefD := ⟨("group_levels", none), "group_levels", "group_levels", defArgs s_group_levels, defBody s_group_levels, defScope s_group_levels, [], []⟩
def d_Wish___init__ : He.DefD := ⟨("Wish", some "__init__"), "__init__", "Wish.__init__", defArgs s_Wish___init__, defBody s_Wish___init__, defScope s_Wish___init__, [], []⟩
def d_Wish_levels : He.DefD := ⟨("Wish", some "levels"), "levels", "Wish.levels", defArgs s_Wish_levels, defBody s_Wish_levels, defScope s_Wish_levels, [], []⟩
def d_Wish_level_of : He.DefD := ⟨("Wish", some "level_of"), "level_of", "Wish.level_of", defArgs s_Wish_level_of, defBody s_Wish_level_of, defScope s_Wish_level_of, [], []⟩
def d_Wish_behind : He.DefD := ⟨("Wish", some "behind"), "behind", "Wish.behind", defArgs s_Wish_behind, defBody s_Wish_behind, defScope s_Wish_behind, [], []⟩
def d_Wish_breach : He.DefD := ⟨("Wish", some "breach"), "breach", "Wish.breach", defArgs s_Wish_breach, defBody s_Wish_breach, defScope s_Wish_breach, [], []⟩
def d_Wish_kept_by : He.DefD := ⟨("Wish", some "kept_by"), "kept_by", "Wish.kept_by", defArgs s_Wish_kept_by, defBody s_Wish_kept_by, defScope s_Wish_kept_by, [], []⟩
def d_Wish_one_order : He.DefD := ⟨("Wish", some "one_order"), "one_order", "Wish.one_order", defArgs s_Wish_one_order, defBody s_Wish_one_order, defScope s_Wish_one_order, [], []⟩
def d__law_parts : He.DefD := ⟨("_law_parts", none), "_law_parts", "_law_parts", defArgs s__law_parts, defBody s__law_parts, defScope s__law_parts, [], []⟩
def d__law_poured : He.DefD := ⟨("_law_poured", none), "_law_poured", "_law_poured", defArgs s__law_poured, defBody s__law_poured, defScope s__law_poured, [], []⟩
def d__law_letters : He.DefD := ⟨("_law_letters", none), "_law_letters", "_law_letters", defArgs s__law_letters, defBody s__law_letters, defScope s__law_letters, [], []⟩
def d__law_groups : He.DefD := ⟨("_law_groups", none), "_law_groups", "_law_groups", defArgs s__law_groups, defBody s__law_groups, defScope s__law_groups, [], []⟩
def d__law_copied : He.DefD := ⟨("_law_copied", none), "_law_copied", "_law_copied", defArgs s__law_copied, defBody s__law_copied, defScope s__law_copied, [], []⟩
def d__law_levels : He.DefD := ⟨("_law_levels", none), "_law_levels", "_law_levels", defArgs s__law_levels, defBody s__law_levels, defScope s__law_levels, [], []⟩
def d__law_places : He.DefD := ⟨("_law_places", none), "_law_places", "_law_places", defArgs s__law_places, defBody s__law_places, defScope s__law_places, [], []⟩
def d__law_faulty : He.DefD := ⟨("_law_faulty", none), "_law_faulty", "_law_faulty", defArgs s__law_faulty, defBody s__law_faulty, defScope s__law_faulty, [], []⟩
def d__law_good : He.DefD := ⟨("_law_good", none), "_law_good", "_law_good", defArgs s__law_good, defBody s__law_good, defScope s__law_good, [], []⟩
def d__law_refused : He.DefD := ⟨("_law_refused", none), "_law_refused", "_law_refused", defArgs s__law_refused, defBody s__law_refused, defScope s__law_refused, [], []⟩
def d_law : He.DefD := ⟨("law", none), "law", "law", defArgs s_law, defBody s_law, defScope s_law, [], []⟩
def fnD : List He.DefD := [d__wall, d_BadText___init__, d_look_at_groups, d_group_levels, d_Wish___init__, d_Wish_levels, d_Wish_level_of, d_Wish_behind, d_Wish_breach, d_Wish_kept_by, d_Wish_one_order, d__law_parts, d__law_poured, d__law_letters, d__law_groups, d__law_copied, d__law_levels, d__law_places, d__law_faulty, d__law_good, d__law_refused, d_law]
def faD : List He.Fa := [.glo "_wall", .glo "look_at_groups", .glo "group_levels", .meth "Wish" "levels", .meth "Wish" "level_of", .meth "Wish" "behind", .meth "Wish" "breach", .meth "Wish" "kept_by", .meth "Wish" "one_order", .glo "_law_parts", .glo "_law_poured", .glo "_law_letters", .glo "_law_groups", .glo "_law_copied", .glo "_law_levels", .glo "_law_places", .glo "_law_faulty", .glo "_law_good", .glo "_law_refused", .glo "law", .glo "Wish", .cls "Wish", .mkr "Wish", .noat "Wish" "groups", .noat "Wish" "kept_levels", .noat "Wish" "numbers", .glo "MillError", .exc "MillError", .glo "BadMill", .exc "BadMill", .glo "BadLate", .exc "BadLate", .glo "BadWord", .exc "BadWord", .glo "BadCode", .exc "BadCode", .glo "BadSize", .exc "BadSize", .glo "BadLetters", .exc "BadLetters", .glo "BadPlan", .exc "BadPlan", .glo "BadWish", .exc "BadWish", .glo "BadCount", .exc "BadCount", .glo "BadRow", .exc "BadRow", .glo "BadPrices", .exc "BadPrices", .glo "NotOneOrder", .exc "NotOneOrder", .glo "NoRow", .exc "NoRow", .glo "Shut", .exc "Shut", .glo "BadDeed", .exc "BadDeed", .glo "BadText", .meth "BadText" "__init__", .glo "KINDS", .free "ValueError", .free "enumerate", .free "isinstance", .free "len", .free "list", .free "max", .free "range", .free "sorted"]
def moreD (K : PySem.W.Frag) : Bool := (He.lstB K "KINDS" [.str "any", .str "come", .str "row"] && (oexB K "BadText" && (binB K "MillError" && (subsB K (.ref (He.ga K "MillError")) tabS_MillError && (excB K tabS_MillError && (isxB K (.ref (He.ga K "BadCode")) tabI_BadCode && (isxB K (.ref (He.ga K "BadCount")) tabI_BadCount && (isxB K (.ref (He.ga K "BadDeed")) tabI_BadDeed && (isxB K (.ref (He.ga K "BadLate")) tabI_BadLate && (isxB K (.ref (He.ga K "BadLetters")) tabI_BadLetters && (isxB K (.ref (He.ga K "BadMill")) tabI_BadMill && (isxB K (.ref (He.ga K "BadPlan")) tabI_BadPlan && (isxB K (.ref (He.ga K "BadPrices")) tabI_BadPrices && (isxB K (.ref (He.ga K "BadRow")) tabI_BadRow && (isxB K (.ref (He.ga K "BadSize")) tabI_BadSize && (isxB K (.ref (He.ga K "BadText")) tabI_BadText && (isxB K (.ref (He.ga K "BadWish")) tabI_BadWish && (isxB K (.ref (He.ga K "BadWord")) tabI_BadWord && (isxB K (.ref (He.ga K "NoRow")) tabI_NoRow && (isxB K (.ref (He.ga K "NotOneOrder")) tabI_NotOneOrder && (isxB K (.ref (He.ga K "Shut")) tabI_Shut && (isxB K (.type "ValueError") tabI_ValueError && true))))))))))))))))))))))
abbrev R : PySem.W.OpenRow := PySem.W.OpenLaw.row PySem.Challenge.rw_pocketmill_k18_wishes_refused
abbrev hk : PySem.W.Hook := hookX 5 faD fnD moreD
def ob (s : PySem.W.SharedT) : He.AlD × Bool := obX faD fnD moreD (HandSHeadRun.getT s) 5
theorem ob_eq (s : PySem.W.SharedT) : ob s = hk.obs s.abs := obX_eq (HandSHeadRun.getT_eq s)
def looseD : List Str := (["_wall", "MillError", "BadMill", "BadLate", "BadWord", "BadCode", "BadSize", "BadLetters", "BadPlan", "BadWish", "BadCount", "BadRow", "BadPrices", "NotOneOrder", "NoRow", "Shut", "BadDeed", "BadText", "KINDS", "look_at_groups", "group_levels", "Wish", "_law_parts", "_law_poured", "_law_letters", "_law_groups", "_law_copied", "_law_levels", "_law_places", "_law_faulty"] : List Str) ++ (["_law_good", "_law_refused"] : List Str)
theorem run (w : World) : HandSHeadRun.RunEq R (PySem.W.view R.prog [35]) hk ob 30000 looseD w := by
  intro os
  kernel_rfl
end Pm
/-! the layer: data, ownership, worlds -/
namespace Pm
open PySem PySem.Spec PyProof.Rows L2
/-! ### data -/
inductive Dt where
  | non | bl (b : Bool) | int (i : Int) | str (x : Str)
  | lst (xs : List Dt) | scr (xs : List Dt) | tup (xs : List Dt) | ktp (xs : List Dt)
  | ins (C : Str) (ns : List Str) (ds : List Dt)
  | dic (ks : List Key) (ds : List Dt)
  | dit (ks : List (List Key)) (ds : List Dt)
inductive Mode where
  | F | L (m : Mode) | T (ms : List Mode) | I (ms : List Mode) | K (m : Mode)
inductive EM where
  | o (m : Mode) | B | S
/-- an exception: its class, the number that it bears -/
abbrev Xn := Str × Option Int
inductive Rs (α : Type) where
  | ok (a : α) | ex (c : Xn) | no
def Rs.bind {α β : Type} : Rs α → (α → Rs β) → Rs β
  | .ok a, f => f a
  | .ex c, _ => .ex c
  | .no, _ => .no
instance : Monad Rs where
  pure := .ok
  bind := Rs.bind
theorem ok_bind {α β : Type} (a : α) (f : α → Rs β) : (Rs.ok a >>= f) = f a := rfl
theorem ex_bind {α β : Type} (c : Xn) (f : α → Rs β) : ((Rs.ex c : Rs α) >>= f) = .ex c := rfl
theorem no_bind {α β : Type} (f : α → Rs β) : ((Rs.no : Rs α) >>= f) = .no := rfl
inductive Rs.Post {α : Type} (P : α → Prop) (E : Xn → Prop) : Rs α → Prop where
  | ok {a : α} : P a → Rs.Post P E (.ok a)
  | ex {c : Xn} : E c → Rs.Post P E (.ex c)
theorem Rs.Post.imp {α : Type} {r : Rs α} {P P' : α → Prop} {E E' : Xn → Prop} (h : Rs.Post P E r) (hp : ∀ a, r = .ok a → P a → P' a) (he : ∀ c, E c → E' c) : Rs.Post P' E' r := by
  cases h with
  | ok h => exact .ok (hp _ rfl h)
  | ex h => exact .ex (he _ h)
theorem Rs.Post.bind {α β : Type} {r : Rs α} {f : α → Rs β} {P : β → Prop} {E : Xn → Prop} (h : Rs.Post P E (r >>= f)) : Rs.Post (fun a => Rs.Post P E (f a)) E r := by
  cases r with
  | ok a => exact .ok h
  | ex c =>
    cases h with
    | ex h => exact .ex h
  | no => cases h
theorem Rs.Post.of_ok {α : Type} {P : α → Prop} {E : Xn → Prop} {a : α} (h : Rs.Post P E (.ok a)) : P a := by
  cases h with
  | ok h => exact h
theorem Rs.Post.of_ex {α : Type} {P : α → Prop} {E : Xn → Prop} {c : Xn} (h : Rs.Post P E (.ex c)) : E c := by
  cases h with
  | ex h => exact h
abbrev Ev := List (Option Dt)
/-- the exception's own dict -/
def XR (c : Xn) (dx : Option Addr) (H : Hp) : Prop := match c.2 with
  | none => dx = none
  | some n => ∃ d, dx = some d ∧ H d = some (.xd [("row", .int n)])
theorem _root_.L2.Same.rd {H H' : Hp} {a : Addr} {u : HO} (e : Same H H') (h : Rd H a u) : Rd H' a u := by
  rcases h with h | ⟨o, h⟩
  · exact Or.inl (e a _ h)
  · exact Or.inr ⟨o, e a _ h⟩
theorem _root_.L2.Same.sqt {K : PySem.W.Frag} {H H' : Hp} {a : Addr} {xs : List V} (e : Same H H') (h : SqT K H a xs) : SqT K H' a xs := by
  rcases h with h | h
  · exact Or.inl (Same.rd e h)
  · exact Or.inr h
theorem _root_.L2.Same.new {H : Hp} {p : Addr} {o : HO} (h : H p = none) : Same H (upd H p o) := fun a u e => by
  rw [upd_ne (ne_of_none e h)]
  exact e
section
variable (K : PySem.W.Frag) (ca : Str → Addr)
mutual
inductive Rp (H : Hp) : Dt → V → Prop
  | non : Rp H .non .non
  | bl (b : Bool) : Rp H (.bl b) (.bl b)
  | int (i : Int) : Rp H (.int i) (.int i)
  | str (x : Str) : Rp H (.str x) (.str x)
  | lst {a : Addr} {vs : List V} {ds : List Dt} : H a = some (.lst vs) → Rps H ds vs → Rp H (.lst ds) (.ref a)
  | scr {a : Addr} {vs : List V} {ds : List Dt} : SqL K H a vs → Rps H ds vs → Rp H (.scr ds) (.ref a)
  | tup {a : Addr} {vs : List V} {ds : List Dt} : H a = some (.tup vs) → Rps H ds vs → Rp H (.tup ds) (.ref a)
  | ktp {a : Addr} {vs : List V} {ds : List Dt} : SqT K H a vs → Rps H ds vs → Rp H (.ktp ds) (.ref a)
  | ins {C : Str} {a dx : Addr} {ns : List Str} {vs : List V} {ds : List Dt} : H a = some (.ins (ca C) dx (ns.zip vs)) → ns.length = vs.length → Rps H ds vs → Rp H (.ins C ns ds) (.ref a)
  | dic {a : Addr} {ks : List Key} {vs : List V} {ds : List Dt} : H a = some (.dK (ks.zip vs)) → ks.length = vs.length → Rps H ds vs → Rp H (.dic ks ds) (.ref a)
  | dicZ {a : Addr} {o : Obj} {ks : List Key} {vs : List V} {ds : List Dt} : H a = some (.frz o (.dK (ks.zip vs))) → ks.length = vs.length → Rps H ds vs → Rp H (.dic ks ds) (.ref a)
  | dit {a : Addr} {ks : List (List Key)} {vs : List V} {ds : List Dt} : H a = some (.dT (ks.zip vs)) → ks.length = vs.length → Rps H ds vs → Rp H (.dit ks ds) (.ref a)
inductive Rps (H : Hp) : List Dt → List V → Prop
  | nil : Rps H [] []
  | cons {d : Dt} {ds : List Dt} {v : V} {vs : List V} : Rp H d v → Rps H ds vs → Rps H (d :: ds) (v :: vs)
end
mutual
inductive Ow (G H : Hp) : Mode → Dt → V → (Addr → Prop) → Prop
  | F {d : Dt} {v : V} {P : Addr → Prop} : Rp K ca G d v → Ow G H .F d v P
  | NL {m : Mode} {P : Addr → Prop} : Ow G H (.L m) .non .non P
  | NT {ms : List Mode} {P : Addr → Prop} : Ow G H (.T ms) .non .non P
  | NI {ms : List Mode} {P : Addr → Prop} : Ow G H (.I ms) .non .non P
  | L {m : Mode} {a : Addr} {vs : List V} {ds : List Dt} {P : Addr → Prop} : H a = some (.lst vs) → G a = none → P a → Ows G H (List.replicate ds.length m) ds vs (fun b => P b ∧ b ≠ a) → Ow G H (.L m) (.lst ds) (.ref a) P
  | T {ms : List Mode} {a : Addr} {vs : List V} {ds : List Dt} {P : Addr → Prop} : H a = some (.tup vs) → G a = none → P a → Ows G H ms ds vs (fun b => P b ∧ b ≠ a) → Ow G H (.T ms) (.tup ds) (.ref a) P
  | TL {ms : List Mode} {a : Addr} {vs : List V} {ds : List Dt} {P : Addr → Prop} : H a = some (.lst vs) → G a = none → P a → Ows G H ms ds vs (fun b => P b ∧ b ≠ a) → Ow G H (.T ms) (.lst ds) (.ref a) P
  | I {ms : List Mode} {C : Str} {a dx : Addr} {ns : List Str} {vs : List V} {ds : List Dt} {P : Addr → Prop} : H a = some (.ins (ca C) dx (ns.zip vs)) → G a = none → P a → ns.length = vs.length → Ows G H ms ds vs (fun b => P b ∧ b ≠ a) → Ow G H (.I ms) (.ins C ns ds) (.ref a) P
  | K {m : Mode} {a : Addr} {ks : List Key} {vs : List V} {ds : List Dt} {P : Addr → Prop} : H a = some (.dK (ks.zip vs)) → G a = none → P a → ks.length = vs.length → Ows G H (List.replicate ds.length m) ds vs (fun b => P b ∧ b ≠ a) → Ow G H (.K m) (.dic ks ds) (.ref a) P
  | KT {m : Mode} {a : Addr} {ks : List (List Key)} {vs : List V} {ds : List Dt} {P : Addr → Prop} : H a = some (.dT (ks.zip vs)) → G a = none → P a → ks.length = vs.length → Ows G H (List.replicate ds.length m) ds vs (fun b => P b ∧ b ≠ a) → Ow G H (.K m) (.dit ks ds) (.ref a) P
inductive Ows (G H : Hp) : List Mode → List Dt → List V → (Addr → Prop) → Prop
  | nil {P : Addr → Prop} : Ows G H [] [] [] P
  | cons {m : Mode} {ms : List Mode} {d : Dt} {ds : List Dt} {v : V} {vs : List V} {P P1 P2 : Addr → Prop} : Ow G H m d v P1 → Ows G H ms ds vs P2 → (∀ b, P1 b → P b) → (∀ b, P2 b → P b) → (∀ b, P1 b → ¬ P2 b) → Ows G H (m :: ms) (d :: ds) (v :: vs) P
end
end
section
variable {K : PySem.W.Frag} {ca : Str → Addr} {H H' G G' : Hp}
theorem Rps.length : ∀ {ds : List Dt} {vs : List V}, Rps K ca H ds vs → ds.length = vs.length
  | [], _, h => by cases h; rfl
  | d :: ds, _, h => by
    cases h with
    | cons h1 h2 => rw [List.length_cons, List.length_cons, Rps.length h2]
mutual
theorem Rp.mono (e : Same H H') : ∀ {d : Dt} {v : V}, Rp K ca H d v → Rp K ca H' d v
  | .non, _, h => by cases h; exact .non
  | .bl b, _, h => by cases h; exact .bl b
  | .int i, _, h => by cases h; exact .int i
  | .str x, _, h => by cases h; exact .str x
  | .lst ds, _, h => by
    cases h with
    | lst h1 h2 => exact .lst (e _ _ h1) (Rps.mono e h2)
  | .scr ds, _, h => by
    cases h with
    | scr h1 h2 => exact .scr (L2.Same.seq e h1) (Rps.mono e h2)
  | .tup ds, _, h => by
    cases h with
    | tup h1 h2 => exact .tup (e _ _ h1) (Rps.mono e h2)
  | .ktp ds, _, h => by
    cases h with
    | ktp h1 h2 => exact .ktp (Same.sqt e h1) (Rps.mono e h2)
  | .ins C ns ds, _, h => by
    cases h with
    | ins h1 h2 h3 => exact .ins (e _ _ h1) h2 (Rps.mono e h3)
  | .dic ks ds, _, h => by
    cases h with
    | dic h1 h2 h3 => exact .dic (e _ _ h1) h2 (Rps.mono e h3)
    | dicZ h1 h2 h3 => exact .dicZ (e _ _ h1) h2 (Rps.mono e h3)
  | .dit ks ds, _, h => by
    cases h with
    | dit h1 h2 h3 => exact .dit (e _ _ h1) h2 (Rps.mono e h3)
theorem Rps.mono (e : Same H H') : ∀ {ds : List Dt} {vs : List V}, Rps K ca H ds vs → Rps K ca H' ds vs
  | [], _, h => by cases h; exact .nil
  | d :: ds, _, h => by
    cases h with
    | cons h1 h2 => exact .cons (Rp.mono e h1) (Rps.mono e h2)
end
theorem Rps.get : ∀ {ds : List Dt} {vs : List V} {i : Nat} {d : Dt}, Rps K ca H ds vs → ds[i]? = some d → ∃ v, vs[i]? = some v ∧ Rp K ca H d v
  | [], _, _, _, _, e => by simp at e
  | x :: ds, _, i, d, h, e => by
    cases h with
    | cons h1 h2 =>
      cases i with
      | zero =>
        have q : x = d := by simpa using e
        subst q
        exact ⟨_, by simp, h1⟩
      | succ i =>
        obtain ⟨v, q1, q2⟩ := Rps.get (i := i) h2 (by simpa using e)
        exact ⟨v, by simpa using q1, q2⟩
theorem Rps.append : ∀ {ds es : List Dt} {vs us : List V}, Rps K ca H ds vs → Rps K ca H es us → Rps K ca H (ds ++ es) (vs ++ us)
  | [], _, _, _, h, k => by cases h; exact k
  | d :: ds, _, _, _, h, k => by
    cases h with
    | cons h1 h2 => exact .cons h1 (Rps.append h2 k)
theorem Rps.drop : ∀ {ds : List Dt} {vs : List V} (n : Nat), Rps K ca H ds vs → Rps K ca H (ds.drop n) (vs.drop n)
  | [], _, n, h => by cases h; simp; exact .nil
  | d :: ds, _, 0, h => by simpa using h
  | d :: ds, _, n + 1, h => by
    cases h with
    | cons h1 h2 => simpa using Rps.drop n h2
theorem Rps.take : ∀ {ds : List Dt} {vs : List V} (n : Nat), Rps K ca H ds vs → Rps K ca H (ds.take n) (vs.take n)
  | [], _, n, h => by cases h; simp; exact .nil
  | d :: ds, _, 0, h => by simp; exact .nil
  | d :: ds, _, n + 1, h => by
    cases h with
    | cons h1 h2 => simpa using Rps.cons h1 (Rps.take n h2)
theorem Rps.reverse {ds : List Dt} : ∀ {vs : List V}, Rps K ca H ds vs → Rps K ca H ds.reverse vs.reverse := by
  induction ds with
  | nil => intro vs h; cases h; exact .nil
  | cons d ds ih =>
    intro vs h
    cases h with
    | cons h1 h2 =>
      rw [List.reverse_cons, List.reverse_cons]
      exact (ih h2).append (.cons h1 .nil)
/- the owned part as it was elsewhere -/
mutual
theorem Ow.carry (e : Same G G') : ∀ {d : Dt} {m : Mode} {v : V} {P : Addr → Prop}, (∀ b, P b → H' b = H b ∧ G' b = none) → Ow K ca G H m d v P → Ow K ca G' H' m d v P
  | d, m, v, P, hp, h => by
    cases h with
    | F h => exact .F (h.mono e)
    | NL => exact .NL
    | NT => exact .NT
    | NI => exact .NI
    | L h1 h2 h3 h4 => exact .L (by rw [(hp _ h3).1]; exact h1) (hp _ h3).2 h3 (Ows.carry e (fun b hb => hp b hb.1) h4)
    | T h1 h2 h3 h4 => exact .T (by rw [(hp _ h3).1]; exact h1) (hp _ h3).2 h3 (Ows.carry e (fun b hb => hp b hb.1) h4)
    | TL h1 h2 h3 h4 => exact .TL (by rw [(hp _ h3).1]; exact h1) (hp _ h3).2 h3 (Ows.carry e (fun b hb => hp b hb.1) h4)
    | I h1 h2 h3 h4 h5 => exact .I (by rw [(hp _ h3).1]; exact h1) (hp _ h3).2 h3 h4 (Ows.carry e (fun b hb => hp b hb.1) h5)
    | K h1 h2 h3 h4 h5 => exact .K (by rw [(hp _ h3).1]; exact h1) (hp _ h3).2 h3 h4 (Ows.carry e (fun b hb => hp b hb.1) h5)
    | KT h1 h2 h3 h4 h5 => exact .KT (by rw [(hp _ h3).1]; exact h1) (hp _ h3).2 h3 h4 (Ows.carry e (fun b hb => hp b hb.1) h5)
  termination_by d => sizeOf d
theorem Ows.carry (e : Same G G') : ∀ {ds : List Dt} {ms : List Mode} {vs : List V} {P : Addr → Prop}, (∀ b, P b → H' b = H b ∧ G' b = none) → Ows K ca G H ms ds vs P → Ows K ca G' H' ms ds vs P
  | [], ms, vs, P, hp, h => by
    cases h
    exact .nil
  | d :: ds, ms, vs, P, hp, h => by
    cases h with
    | cons h1 h2 q1 q2 q3 => exact .cons (Ow.carry e (fun b hb => hp b (q1 b hb)) h1) (Ows.carry e (fun b hb => hp b (q2 b hb)) h2) q1 q2 q3
  termination_by ds => sizeOf ds
end
theorem Ows.weaken {ds : List Dt} {ms : List Mode} {vs : List V} {P P' : Addr → Prop} (hp : ∀ b, P b → P' b) (h : Ows K ca G H ms ds vs P) : Ows K ca G H ms ds vs P' := by
  cases h with
  | nil => exact .nil
  | cons h1 h2 q1 q2 q3 => exact .cons h1 h2 (fun b hb => hp b (q1 b hb)) (fun b hb => hp b (q2 b hb)) q3
theorem Ow.weaken {d : Dt} {m : Mode} {v : V} {P P' : Addr → Prop} (hp : ∀ b, P b → P' b) (h : Ow K ca G H m d v P) : Ow K ca G H m d v P' := by
  cases h with
  | F h => exact .F h
  | NL => exact .NL
  | NT => exact .NT
  | NI => exact .NI
  | L h1 h2 h3 h4 => exact .L h1 h2 (hp _ h3) (h4.weaken fun b hb => ⟨hp b hb.1, hb.2⟩)
  | T h1 h2 h3 h4 => exact .T h1 h2 (hp _ h3) (h4.weaken fun b hb => ⟨hp b hb.1, hb.2⟩)
  | TL h1 h2 h3 h4 => exact .TL h1 h2 (hp _ h3) (h4.weaken fun b hb => ⟨hp b hb.1, hb.2⟩)
  | I h1 h2 h3 h4 h5 => exact .I h1 h2 (hp _ h3) h4 (h5.weaken fun b hb => ⟨hp b hb.1, hb.2⟩)
  | K h1 h2 h3 h4 h5 => exact .K h1 h2 (hp _ h3) h4 (h5.weaken fun b hb => ⟨hp b hb.1, hb.2⟩)
  | KT h1 h2 h3 h4 h5 => exact .KT h1 h2 (hp _ h3) h4 (h5.weaken fun b hb => ⟨hp b hb.1, hb.2⟩)
/- frozen: whatever heap holds the owned part too -/
mutual
theorem Ow.freeze (e : Same G G') : ∀ {d : Dt} {m : Mode} {v : V} {P : Addr → Prop}, (∀ b, P b → G' b = H b) → Ow K ca G H m d v P → Rp K ca G' d v
  | d, m, v, P, hp, h => by
    cases h with
    | F h => exact h.mono e
    | NL => exact .non
    | NT => exact .non
    | NI => exact .non
    | L h1 h2 h3 h4 => exact .lst (by rw [hp _ h3]; exact h1) (Ows.freeze e (fun b hb => hp b hb.1) h4)
    | T h1 h2 h3 h4 => exact .tup (by rw [hp _ h3]; exact h1) (Ows.freeze e (fun b hb => hp b hb.1) h4)
    | TL h1 h2 h3 h4 => exact .lst (by rw [hp _ h3]; exact h1) (Ows.freeze e (fun b hb => hp b hb.1) h4)
    | I h1 h2 h3 h4 h5 => exact .ins (by rw [hp _ h3]; exact h1) h4 (Ows.freeze e (fun b hb => hp b hb.1) h5)
    | K h1 h2 h3 h4 h5 => exact .dic (by rw [hp _ h3]; exact h1) h4 (Ows.freeze e (fun b hb => hp b hb.1) h5)
    | KT h1 h2 h3 h4 h5 => exact .dit (by rw [hp _ h3]; exact h1) h4 (Ows.freeze e (fun b hb => hp b hb.1) h5)
  termination_by d => sizeOf d
theorem Ows.freeze (e : Same G G') : ∀ {ds : List Dt} {ms : List Mode} {vs : List V} {P : Addr → Prop}, (∀ b, P b → G' b = H b) → Ows K ca G H ms ds vs P → Rps K ca G' ds vs
  | [], ms, vs, P, hp, h => by
    cases h
    exact .nil
  | d :: ds, ms, vs, P, hp, h => by
    cases h with
    | cons h1 h2 q1 q2 q3 => exact .cons (Ow.freeze e (fun b hb => hp b (q1 b hb)) h1) (Ows.freeze e (fun b hb => hp b (q2 b hb)) h2)
  termination_by ds => sizeOf ds
end
end
end Pm
namespace Pm
open PySem PySem.Spec PyProof.Rows L2
open Classical
/-! ### worlds -/
structure Ext (G H G' H' : Hp) : Prop where
  g : Same G G'
  h : Same H H'
  gh : Same G' H'
  base : ∀ a, H a ≠ none → G' a = G a
section
variable {G H G' H' G2 H2 : Hp}
theorem Ext.refl (e : Same G H) : Ext G H G H := ⟨Same.refl _, Same.refl _, e, fun _ _ => rfl⟩
theorem _root_.L2.Same.nn (e : Same H H') {a : Addr} (h : H a ≠ none) : H' a ≠ none := by
  cases q : H a with
  | none => exact absurd q h
  | some o => rw [e a o q]; exact fun z => by cases z
theorem _root_.L2.Same.at (e : Same H H') {a : Addr} (h : H a ≠ none) : H' a = H a := by
  cases q : H a with
  | none => exact absurd q h
  | some o => exact e a o q
theorem Ext.trans (a : Ext G H G' H') (b : Ext G' H' G2 H2) : Ext G H G2 H2 :=
  ⟨a.g.trans b.g, a.h.trans b.h, b.gh, fun x h => (b.base x (a.h.nn h)).trans (a.base x h)⟩
/-- the heap alone grows -/
theorem Ext.heap (e : Same G H) (h : Same H H') : Ext G H G H' := ⟨Same.refl _, h, e.trans h, fun _ _ => rfl⟩
/-- a new frozen object -/
theorem Ext.new {p : Addr} {o : HO} (e : Same G H) (hp : H p = none) : Ext G H (upd G p o) (upd H p o) := by
  refine ⟨Same.new (Same.free e hp), Same.new hp, fun a u q => ?_, fun a h => ?_⟩
  · by_cases z : a = p
    · rw [z, upd_same] at q ⊢
      exact q
    · rw [upd_ne z] at q ⊢
      exact e a u q
  · exact upd_ne fun z => h (by rw [z]; exact hp)
end
def Fr (G' H H' : Hp) (P : Addr → Prop) : Prop := ∀ b, P b → G' b = none ∧ H b = none ∧ H' b ≠ none
abbrev Pno : Addr → Prop := fun _ => False
theorem Fr.no {G H H' : Hp} : Fr G H H' Pno := fun _ h => h.elim
structure Jc where
  K : PySem.W.Frag
  ca : Str → Addr
  W : WX
  gx : Option (List Mode)
  gb : List Mode
  mr : Mode
  pin : List (Nat × V)
  xd : Option (Addr × Int)
  ln : List (Nat × Mode × V)
def pinB : List (Nat × V) → Nat → Bool
  | [], _ => true
  | q :: l, i => decide (q.1 ≠ i) && pinB l i
theorem pinB_ne : ∀ {l : List (Nat × V)} {i k : Nat} {v : V}, pinB l i = true → (k, v) ∈ l → k ≠ i
  | [], _, _, _, _, h => by cases h
  | q :: l, i, k, v, hb, h => by
    have hb : (decide (q.1 ≠ i) && pinB l i) = true := hb
    rw [Bool.and_eq_true] at hb
    rcases List.mem_cons.mp h with e | h
    · have := of_decide_eq_true hb.1
      rw [← e] at this
      exact this
    · exact pinB_ne hb.2 h
abbrev Jc.nw (J : Jc) : Jc := { J with W := fun _ _ _ _ => False, pin := [] }
/-- the slot i may be stored -/
abbrev Jc.free (J : Jc) (i : Nat) : Prop := pinB J.pin i = true
structure Wd (J : Jc) (G0 H0 : Hp) (Γ : List Mode) (ρ : Ev) (σ : L2.St) (G H : Hp) : Prop where
  x : Ext G0 H0 G H
  lg : Γ.length = ρ.length
  lr : ρ.length = σ.length
  env : ∃ Pf : Nat → Addr → Prop, (∀ i j a, i ≠ j → Pf i a → ¬ Pf j a) ∧ (∀ i a, Pf i a → G a = none ∧ H0 a = none ∧ H a ≠ none) ∧
    ∀ i d, ρ[i]? = some (some d) → ∃ v m, σ[i]? = some (some v) ∧ Γ[i]? = some m ∧ Ow J.K J.ca G H m d v (Pf i)
  pn : ∀ i v, (i, v) ∈ J.pin → σ[i]? = some (some v)
  xk : ∀ d n, J.xd = some (d, n) → G0 d = some (.xd [("row", .int n)]) ∨ H0 d = some (.xd [("row", .int n)])
section
variable {J : Jc} {G0 H0 G H G' H' : Hp} {Γ : List Mode} {ρ : Ev} {σ : L2.St}
theorem Wd.ext (w : Wd J G0 H0 Γ ρ σ G H) (e : Ext G H G' H') : Wd J G0 H0 Γ ρ σ G' H' := by
  obtain ⟨Pf, h1, h2, h3⟩ := w.env
  refine ⟨w.x.trans e, w.lg, w.lr, ⟨Pf, h1, fun i a q => ?_, fun i d q => ?_⟩, w.pn, w.xk⟩
  · obtain ⟨a1, a2, a3⟩ := h2 i a q
    exact ⟨by rw [e.base a a3]; exact a1, a2, e.h.nn a3⟩
  · obtain ⟨v, m, s1, s2, s3⟩ := h3 i d q
    refine ⟨v, m, s1, s2, s3.carry e.g fun b hb => ?_⟩
    obtain ⟨a1, a2, a3⟩ := h2 i b hb
    exact ⟨e.h.at a3, by rw [e.base b a3]; exact a1⟩
theorem Wd.gh (w : Wd J G0 H0 Γ ρ σ G H) : Same G H := w.x.gh
theorem Wd.heap (w : Wd J G0 H0 Γ ρ σ G H) (h : Same H H') : Wd J G0 H0 Γ ρ σ G H' := w.ext (Ext.heap w.gh h)
theorem Wd.get (w : Wd J G0 H0 Γ ρ σ G H) {i : Nat} {d : Dt} (h : ρ[i]? = some (some d)) : ∃ v m P, σ[i]? = some (some v) ∧ Γ[i]? = some m ∧ Ow J.K J.ca G H m d v P ∧ (∀ b, P b → G b = none ∧ H b ≠ none) := by
  obtain ⟨Pf, h1, h2, h3⟩ := w.env
  obtain ⟨v, m, s1, s2, s3⟩ := h3 i d h
  exact ⟨v, m, Pf i, s1, s2, s3, fun b hb => ⟨(h2 i b hb).1, (h2 i b hb).2.2⟩⟩
theorem Ow.view {m : Mode} {d : Dt} {v : V} {P : Addr → Prop} {K : PySem.W.Frag} {ca : Str → Addr} (e : Same G H) (h : Ow K ca G H m d v P) : Rp K ca H d v := h.freeze e fun _ _ => rfl
/-- a slot is stored -/
theorem Wd.set (w : Wd J G0 H0 Γ ρ σ G H) (e : Ext G H G' H') {m : Mode} {d : Dt} {v : V} {P : Addr → Prop} (o : Ow J.K J.ca G' H' m d v P) (f : Fr G' H H' P) (i : Nat) (hi : J.free i) :
    Wd J G0 H0 (Γ.set i m) (ρ.set i (some d)) (σ.set i (some v)) G' H' := by
  obtain ⟨Pf, h1, h2, h3⟩ := w.env
  have w' := w.ext e
  refine ⟨w'.x, by rw [List.length_set, List.length_set]; exact w.lg, by rw [List.length_set, List.length_set]; exact w.lr, ⟨fun j => if j = i then P else Pf j, fun j k a q r s => ?_, fun j a q => ?_, fun j c q => ?_⟩, fun k v hv => ?_, w.xk⟩
  · by_cases hj : j = i
    · by_cases hk : k = i
      · exact q (hj.trans hk.symm)
      · simp only [hj, if_true] at r
        simp only [hk, if_false] at s
        exact (h2 k a s).2.2 (f a r).2.1
    · simp only [hj, if_false] at r
      by_cases hk : k = i
      · simp only [hk, if_true] at s
        exact (h2 j a r).2.2 (f a s).2.1
      · simp only [hk, if_false] at s
        exact h1 j k a q r s
  · by_cases hj : j = i
    · simp only [hj, if_true] at q
      obtain ⟨a1, a2, a3⟩ := f a q
      exact ⟨a1, w.x.h.free a2, a3⟩
    · simp only [hj, if_false] at q
      obtain ⟨a1, a2, a3⟩ := h2 j a q
      exact ⟨by rw [e.base a a3]; exact a1, a2, e.h.nn a3⟩
  · by_cases hj : j = i
    · subst hj
      have hl : j < ρ.length := by
        have z := (List.getElem?_eq_some_iff.mp q).1
        simpa using z
      rw [List.getElem?_set_self hl] at q
      have hd : d = c := by simpa using q
      subst hd
      have hl2 : j < σ.length := by rw [← w.lr]; exact hl
      have hg : j < Γ.length := by rw [w.lg]; exact hl
      refine ⟨v, m, List.getElem?_set_self hl2, List.getElem?_set_self hg, ?_⟩
      simp only [if_true]
      exact o
    · rw [List.getElem?_set_ne (Ne.symm hj)] at q
      obtain ⟨v2, m2, s1, s2, s3⟩ := h3 j c q
      refine ⟨v2, m2, by rw [List.getElem?_set_ne (Ne.symm hj)]; exact s1, by rw [List.getElem?_set_ne (Ne.symm hj)]; exact s2, ?_⟩
      simp only [hj, if_false]
      refine s3.carry e.g fun b hb => ?_
      obtain ⟨a1, a2, a3⟩ := h2 j b hb
      exact ⟨e.h.at a3, by rw [e.base b a3]; exact a1⟩
  · have ne : k ≠ i := by
      exact pinB_ne hi hv
    rw [List.getElem?_set_ne (Ne.symm ne)]
    exact w.pn k v hv
end
end Pm
namespace Pm
open PySem PySem.Spec PyProof.Rows L2
open Classical
/-! ### results, readings -/
def isSq (K : PySem.W.Frag) (H : Hp) (d : Dt) (a : Addr) (vs : List V) (ds : List Dt) : Prop :=
  (d = .lst ds ∧ H a = some (.lst vs)) ∨ (d = .scr ds ∧ SqL K H a vs) ∨ (d = .tup ds ∧ H a = some (.tup vs))
def Res (K : PySem.W.Frag) (ca : Str → Addr) (G H : Hp) : EM → Dt → V → (Addr → Prop) → Prop
  | .o m, d, v, P => Ow K ca G H m d v P
  | .B, d, v, _ => Rp K ca H d v
  | .S, d, v, _ => Rp K ca H d v ∧ ∀ ds, (d = .lst ds ∨ d = .scr ds ∨ d = .tup ds) → ∃ a vs, v = .ref a ∧ isSq K H d a vs ds ∧ Rps K ca G ds vs
section
variable (J : Jc)
def SemE (Γ : List Mode) (em : EM) (F : Ev → Rs Dt) (te : TE) : Prop := ∀ ⦃G0 H0 G H : Hp⦄ ⦃ρ : Ev⦄ ⦃σ : L2.St⦄ ⦃Q : VK⦄, Wd J G0 H0 Γ ρ σ G H →
  Rs.Post (fun d => ∀ v G' H' P, Ext G H G' H' → Fr G' H H' P → Res J.K J.ca G' H' em d v P → Q v H') (fun c => ∀ H' dx, Same H H' → XR c dx H' → J.W (.ref (J.ca c.1)) dx σ H') (F ρ) → te σ H Q
def SemT (Γ : List Mode) (F : Ev → Rs Bool) (tt : TT) : Prop := ∀ ⦃G0 H0 G H : Hp⦄ ⦃ρ : Ev⦄ ⦃σ : L2.St⦄ ⦃Q : Bool → Hp → Prop⦄, Wd J G0 H0 Γ ρ σ G H →
  Rs.Post (fun b => ∀ G' H', Ext G H G' H' → Q b H') (fun c => ∀ H' dx, Same H H' → XR c dx H' → J.W (.ref (J.ca c.1)) dx σ H') (F ρ) → tt σ H Q
end
section
variable {J : Jc} {Γ : List Mode} {em : EM} {m : Mode} {F Fa Fb : Ev → Rs Dt} {te ta tb : TE} {G0 H0 G H G' H' : Hp} {ρ : Ev} {σ : L2.St}
/-! ### names, constants -/
def varE (i : Nat) (ρ : Ev) : Rs Dt := match ρ[i]? with
  | some (some d) => .ok d
  | _ => .no
def conE (d : Dt) (_ : Ev) : Rs Dt := .ok d
theorem varE_ok {i : Nat} {d : Dt} (h : varE i ρ = .ok d) : ρ[i]? = some (some d) := by
  unfold varE at h
  split at h
  · rename_i x e
    cases h
    exact e
  · cases h
theorem varE_post {i : Nat} {P : Dt → Prop} {E : Xn → Prop} (h : Rs.Post P E (varE i ρ)) : ∃ d, ρ[i]? = some (some d) ∧ P d := by
  cases q : varE i ρ with
  | ok d => rw [q] at h; exact ⟨d, varE_ok q, h.of_ok⟩
  | ex c => unfold varE at q; split at q <;> cases q
  | no => rw [q] at h; cases h
/-- a frozen name -/
theorem se_var {i : Nat} (hm : Γ[i]? = some .F) : SemE J Γ (.o .F) (varE i) (tVar i) := fun {_ _ _ _ _ _ _} w h => by
  obtain ⟨d, e, q⟩ := varE_post h
  obtain ⟨v, m, P, s1, s2, s3, _⟩ := w.get e
  rw [hm] at s2
  cases s2
  cases s3 with
  | F s3 => exact ⟨v, s1, q v _ _ Pno (Ext.refl w.gh) Fr.no (.F s3)⟩
/-- a name looked at -/
theorem se_varB {i : Nat} : SemE J Γ .B (varE i) (tVar i) := fun {_ _ _ _ _ _ _} w h => by
  obtain ⟨d, e, q⟩ := varE_post h
  obtain ⟨v, m, P, s1, s2, s3, _⟩ := w.get e
  exact ⟨v, s1, q v _ _ Pno (Ext.refl w.gh) Fr.no (s3.view w.gh)⟩
/-- the name of an owned list, tuple whose parts are frozen -/
theorem Ows.frozen {K : PySem.W.Frag} {ca : Str → Addr} : ∀ {ds : List Dt} {vs : List V} {P : Addr → Prop} {n : Nat}, Ows K ca G H (List.replicate n .F) ds vs P → Rps K ca G ds vs
  | [], _, _, n, h => by cases n <;> cases h; exact .nil
  | d :: ds, _, _, 0, h => by cases h
  | d :: ds, _, _, n + 1, h => by
    rw [List.replicate_succ] at h
    cases h with
    | cons h1 h2 _ _ _ =>
      cases h1 with
      | F h1 => exact .cons h1 (Ows.frozen h2)
theorem res_S {K : PySem.W.Frag} {ca : Str → Addr} {d : Dt} {v : V} {P P' : Addr → Prop} (e : Same G H) (h : Ow K ca G H (.L .F) d v P) : Res K ca G H .S d v P' := by
  refine ⟨h.view e, fun ds hd => ?_⟩
  cases h with
  | NL => rcases hd with hd | hd | hd <;> cases hd
  | L h1 h2 h3 h4 =>
    rcases hd with hd | hd | hd
    · cases hd
      exact ⟨_, _, rfl, .inl ⟨rfl, h1⟩, h4.frozen⟩
    · cases hd
    · cases hd
theorem res_SF {K : PySem.W.Frag} {ca : Str → Addr} {d : Dt} {v : V} {P' : Addr → Prop} (e : Same G H) (h : Rp K ca G d v) : Res K ca G H .S d v P' := by
  refine ⟨h.mono e, fun ds hd => ?_⟩
  rcases hd with hd | hd | hd
  · subst hd
    cases h with
    | lst h1 h2 => exact ⟨_, _, rfl, .inl ⟨rfl, e _ _ h1⟩, h2⟩
  · subst hd
    cases h with
    | scr h1 h2 => exact ⟨_, _, rfl, .inr (.inl ⟨rfl, L2.Same.seq e h1⟩), h2⟩
  · subst hd
    cases h with
    | tup h1 h2 => exact ⟨_, _, rfl, .inr (.inr ⟨rfl, e _ _ h1⟩), h2⟩
theorem se_varS {i : Nat} (hm : Γ[i]? = some (.L .F)) : SemE J Γ .S (varE i) (tVar i) := fun {_ _ _ _ _ _ _} w h => by
  obtain ⟨d, e, q⟩ := varE_post h
  obtain ⟨v, m, P, s1, s2, s3, _⟩ := w.get e
  rw [hm] at s2
  cases s2
  exact ⟨v, s1, q v _ _ Pno (Ext.refl w.gh) Fr.no (res_S w.gh s3)⟩
theorem se_con {d : Dt} {v : V} (r : ∀ G, Rp J.K J.ca G d v) : SemE J Γ (.o .F) (conE d) (tC v) := fun {_ _ _ _ _ _ _} w h => h.of_ok v _ _ Pno (Ext.refl w.gh) Fr.no (.F (r _))
theorem se_int {i : Int} : SemE J Γ (.o .F) (conE (.int i)) (tC (.int i)) := se_con fun _ => .int i
theorem se_str {x : Str} : SemE J Γ (.o .F) (conE (.str x)) (tC (.str x)) := se_con fun _ => .str x
theorem se_bl {b : Bool} : SemE J Γ (.o .F) (conE (.bl b)) (tC (.bl b)) := se_con fun _ => .bl b
/-! ### from mode to mode -/
/-- an owned result is frozen -/
theorem frz_ext {v : V} {d : Dt} {P : Addr → Prop} {K : PySem.W.Frag} {ca : Str → Addr} (e : Ext G H G' H') (f : Fr G' H H' P) (o : Ow K ca G' H' m d v P) : ∃ G2, Ext G H G2 H' ∧ Rp K ca G2 d v ∧ Same G' G2 := by
  have sg : Same G' (fun b => if P b then H' b else G' b) := fun a u q => by
    show (if P a then H' a else G' a) = some u
    by_cases z : P a
    · rw [if_pos z]; exact e.gh a u q
    · rw [if_neg z]; exact q
  refine ⟨fun b => if P b then H' b else G' b, ⟨e.g.trans sg, e.h, fun a u q => ?_, fun a h => ?_⟩, o.freeze sg fun b hb => if_pos hb, sg⟩
  · have q : (if P a then H' a else G' a) = some u := q
    by_cases z : P a
    · rw [if_pos z] at q; exact q
    · rw [if_neg z] at q; exact e.gh a u q
  · show (if P a then H' a else G' a) = G a
    rw [if_neg fun z => h (f a z).2.1]
    exact e.base a h
theorem se_frz (h : SemE J Γ (.o m) F te) : SemE J Γ (.o .F) F te := fun {_ _ _ _ _ _ _} w p => h w (p.imp (fun d _ q v G' H' P e f o => by
  obtain ⟨G2, e2, r, _⟩ := frz_ext e f o
  exact q v G2 H' Pno e2 Fr.no (.F r)) fun _ q => q)
theorem se_B (h : SemE J Γ (.o m) F te) : SemE J Γ .B F te := fun {_ _ _ _ _ _ _} w p => h w (p.imp (fun d _ q v G' H' P e f o => q v G' H' Pno e Fr.no (o.view e.gh)) fun _ q => q)
theorem se_SB (h : SemE J Γ .S F te) : SemE J Γ .B F te := fun {_ _ _ _ _ _ _} w p => h w (p.imp (fun d _ q v G' H' P e f o => q v G' H' Pno e Fr.no o.1) fun _ q => q)
theorem se_S (h : SemE J Γ (.o .F) F te) : SemE J Γ .S F te := fun {_ _ _ _ _ _ _} w p => h w (p.imp (fun d _ q v G' H' P e f o => q v G' H' Pno e Fr.no (by
  cases o with
  | F o => exact res_SF e.gh o)) fun _ q => q)
theorem se_LS (h : SemE J Γ (.o (.L .F)) F te) : SemE J Γ .S F te := fun {_ _ _ _ _ _ _} w p => h w (p.imp (fun d _ q v G' H' P e f o => q v G' H' Pno e Fr.no (res_S e.gh o)) fun _ q => q)
/-! ### operations -/
/-- data without parts -/
def scal : Dt → Bool
  | .non => true
  | .bl _ => true
  | .int _ => true
  | .str _ => true
  | _ => false
theorem scal_rp {K : PySem.W.Frag} {ca : Str → Addr} {d : Dt} {v : V} (s : scal d = true) (h : Rp K ca H d v) : Rp K ca G d v := by
  cases h with
  | non => exact .non
  | bl b => exact .bl b
  | int i => exact .int i
  | str x => exact .str x
  | _ => cases s
def op2E (g : Dt → Dt → Rs Dt) (Fa Fb : Ev → Rs Dt) (ρ : Ev) : Rs Dt := Fa ρ >>= fun a => Fb ρ >>= fun b => g a b
def op1E (g : Dt → Rs Dt) (Fa : Ev → Rs Dt) (ρ : Ev) : Rs Dt := Fa ρ >>= g
/-- an operation that looks at two and gives a scalar -/
def Rule2 (K : PySem.W.Frag) (ca : Str → Addr) (g : Dt → Dt → Rs Dt) (r : R2) : Prop := ∀ (H : Hp) (a b d : Dt) (x y : V) (Q : VK), Rp K ca H a x → Rp K ca H b y → g a b = .ok d → (∀ v, scal d = true → (∀ G, Rp K ca G d v) → Q v H) → r x y H Q
def NoEx2 (g : Dt → Dt → Rs Dt) : Prop := ∀ a b c, g a b ≠ .ex c
def Rule1 (K : PySem.W.Frag) (ca : Str → Addr) (g : Dt → Rs Dt) (r : V → Hp → VK → Prop) : Prop := ∀ (H : Hp) (a d : Dt) (x : V) (Q : VK), Rp K ca H a x → g a = .ok d → (∀ v, scal d = true → (∀ G, Rp K ca G d v) → Q v H) → r x H Q
theorem se_op2 {g : Dt → Dt → Rs Dt} {r : R2} (hr : Rule2 J.K J.ca g r) (hn : NoEx2 g) (ha : SemE J Γ .B Fa ta) (hb : SemE J Γ .B Fb tb) : SemE J Γ (.o .F) (op2E g Fa Fb) (tOp r ta tb) := fun {G0 H0 G H ρ σ Q} w p => by
  refine ha w (p.bind.imp (fun a _ p1 x G1 H1 _ e1 _ ra => ?_) fun _ q => q)
  refine hb (w.ext e1) (p1.bind.imp (fun b _ p2 y G2 H2 _ e2 _ rb => ?_) fun _ q H' dx s => q H' dx (e1.h.trans s))
  cases q : g a b with
  | ok d =>
    rw [q] at p2
    exact hr H2 a b d x y Q (Rp.mono e2.h ra) rb q fun v _ hv => p2.of_ok v G2 H2 Pno (e1.trans e2) Fr.no (.F (hv _))
  | ex c => exact absurd q (hn a b c)
  | no => rw [q] at p2; cases p2
theorem se_op1 {g : Dt → Rs Dt} {r : V → Hp → VK → Prop} (hr : Rule1 J.K J.ca g r) (hn : ∀ a c, g a ≠ .ex c) (ha : SemE J Γ .B Fa ta) : SemE J Γ (.o .F) (op1E g Fa) (tUn r ta) := fun {G0 H0 G H ρ σ Q} w p => by
  refine ha w (p.bind.imp (fun a _ p1 x G1 H1 _ e1 _ ra => ?_) fun _ q => q)
  cases q : g a with
  | ok d =>
    rw [q] at p1
    exact hr H1 a d x Q ra q fun v _ hv => p1.of_ok v G1 H1 Pno e1 Fr.no (.F (hv _))
  | ex c => exact absurd q (hn a c)
  | no => rw [q] at p1; cases p1
/-! the ints -/
def i2 (f : Int → Int → Rs Dt) : Dt → Dt → Rs Dt
  | .int a, .int b => f a b
  | _, _ => .no
theorem rule_i2 {K : PySem.W.Frag} {ca : Str → Addr} {f : Int → Int → Rs Dt} {r : R2} (h : ∀ i j d H Q, f i j = .ok d → (∀ v, scal d = true → (∀ G, Rp K ca G d v) → Q v H) → r (.int i) (.int j) H Q) : Rule2 K ca (i2 f) r := by
  intro H a b d x y Q ra rb q k
  cases ra with
  | int i =>
    cases rb with
    | int j => exact h i j d H Q q k
    | _ => cases q
  | _ => cases rb <;> cases q
theorem nx_i2 {f : Int → Int → Rs Dt} (h : ∀ i j c, f i j ≠ .ex c) : NoEx2 (i2 f) := by
  intro a b c
  unfold i2
  split
  · exact h _ _ _
  · exact fun q => by cases q
@[irreducible] def smallI (i : Int) : Bool := decide (-(2 ^ 64) < i) && decide (i < 2 ^ 64)
def addI (i j : Int) : Rs Dt := .ok (.int (i + j))
def subI (i j : Int) : Rs Dt := .ok (.int (i - j))
def mulI (i j : Int) : Rs Dt := if (smallI i || smallI j) = true then .ok (.int (i * j)) else .no
@[irreducible] def divOk (j : Int) : Bool := decide (0 < j) && decide (j.natAbs < 2 ^ 200)
@[irreducible] def powOk (i j : Int) : Bool := decide (0 ≤ j) && (decide (j ≤ 1000) && decide (i.natAbs < 2 ^ 64))
def divI (i j : Int) : Rs Dt := if divOk j = true then .ok (.int (i / j)) else .no
def modI (i j : Int) : Rs Dt := if decide (0 < j) = true then .ok (.int (i % j)) else .no
def powI (i j : Int) : Rs Dt := if powOk i j = true then .ok (.int (i ^ j.toNat)) else .no
def shlI (i j : Int) : Rs Dt := if powOk i j = true then .ok (.int (i * 2 ^ j.toNat)) else .no
def ltI (i j : Int) : Rs Dt := .ok (.bl (decide (i < j)))
def leI (i j : Int) : Rs Dt := .ok (.bl (decide (i ≤ j)))
def gtI (i j : Int) : Rs Dt := .ok (.bl (decide (j < i)))
def geI (i j : Int) : Rs Dt := .ok (.bl (decide (j ≤ i)))
def addE := op2E (i2 addI)
def subE := op2E (i2 subI)
def mulE := op2E (i2 mulI)
def divE := op2E (i2 divI)
def modE := op2E (i2 modI)
def powE := op2E (i2 powI)
def shlE := op2E (i2 shlI)
def ltE := op2E (i2 ltI)
def leE := op2E (i2 leI)
def gtE := op2E (i2 gtI)
def geE := op2E (i2 geI)
theorem nx_if {α : Type} {c : Prop} [Decidable c] {a b : Rs α} {e : Xn} (ha : a ≠ .ex e) (hb : b ≠ .ex e) : (if c then a else b) ≠ .ex e := by
  split
  · exact ha
  · exact hb
theorem ok_if {α : Type} {c : Prop} [Decidable c] {a : Rs α} {d : α} (h : (if c then a else .no) = .ok d) : c ∧ a = .ok d := by
  split at h
  · exact ⟨by assumption, h⟩
  · cases h
section
variable (ha : SemE J Γ .B Fa ta) (hb : SemE J Γ .B Fb tb)
include ha hb
theorem se_add : SemE J Γ (.o .F) (addE Fa Fb) (tOp (rI0 fun i j => .int (i + j)) ta tb) :=
  se_op2 (rule_i2 fun i j d H Q q k => by cases q; exact ⟨i, j, rfl, rfl, k _ rfl fun _ => .int _⟩) (nx_i2 fun _ _ _ q => by cases q) ha hb
theorem se_sub : SemE J Γ (.o .F) (subE Fa Fb) (tOp (rI0 fun i j => .int (i - j)) ta tb) :=
  se_op2 (rule_i2 fun i j d H Q q k => by cases q; exact ⟨i, j, rfl, rfl, k _ rfl fun _ => .int _⟩) (nx_i2 fun _ _ _ q => by cases q) ha hb
theorem se_mul : SemE J Γ (.o .F) (mulE Fa Fb) (tOp (rI CMul fun i j => .int (i * j)) ta tb) :=
  se_op2 (rule_i2 fun i j d H Q q k => by
    obtain ⟨c, q⟩ := ok_if q
    cases q
    refine ⟨i, j, rfl, rfl, ?_, k _ rfl fun _ => .int _⟩
    unfold smallI at c
    rw [Bool.or_eq_true, Bool.and_eq_true, Bool.and_eq_true] at c
    rcases c with ⟨c1, c2⟩ | ⟨c1, c2⟩
    · exact .inl ⟨of_decide_eq_true c1, of_decide_eq_true c2⟩
    · exact .inr ⟨of_decide_eq_true c1, of_decide_eq_true c2⟩) (nx_i2 fun _ _ _ => nx_if (fun q => by cases q) fun q => by cases q) ha hb
theorem se_div : SemE J Γ (.o .F) (divE Fa Fb) (tOp (rI CDivW fun i j => .int (i / j)) ta tb) :=
  se_op2 (rule_i2 fun i j d H Q q k => by
    obtain ⟨c, q⟩ := ok_if q
    cases q
    unfold divOk at c
    rw [Bool.and_eq_true] at c
    exact ⟨i, j, rfl, rfl, wide_div (of_decide_eq_true c.1) (of_decide_eq_true c.2) (by decide) (by decide), k _ rfl fun _ => .int _⟩) (nx_i2 fun _ _ _ => nx_if (fun q => by cases q) fun q => by cases q) ha hb
theorem se_mod : SemE J Γ (.o .F) (modE Fa Fb) (tOp (rI (fun _ j => 0 < j) fun i j => .int (i % j)) ta tb) :=
  se_op2 (rule_i2 fun i j d H Q q k => by
    obtain ⟨c, q⟩ := ok_if q
    cases q
    exact ⟨i, j, rfl, rfl, of_decide_eq_true c, k _ rfl fun _ => .int _⟩) (nx_i2 fun _ _ _ => nx_if (fun q => by cases q) fun q => by cases q) ha hb
theorem se_pow : SemE J Γ (.o .F) (powE Fa Fb) (tOp (rI CPow fun i j => .int (i ^ j.toNat)) ta tb) :=
  se_op2 (rule_i2 fun i j d H Q q k => by
    obtain ⟨c, q⟩ := ok_if q
    cases q
    unfold powOk at c
    rw [Bool.and_eq_true, Bool.and_eq_true] at c
    have c2 := of_decide_eq_true c.2.1
    exact ⟨i, j, rfl, rfl, ⟨of_decide_eq_true c.1, by omega, of_decide_eq_true c.2.2⟩, k _ rfl fun _ => .int _⟩) (nx_i2 fun _ _ _ => nx_if (fun q => by cases q) fun q => by cases q) ha hb
theorem se_lt : SemE J Γ (.o .F) (ltE Fa Fb) (tOp (rI0 fun i j => .bl (decide (i < j))) ta tb) :=
  se_op2 (rule_i2 fun i j d H Q q k => by cases q; exact ⟨i, j, rfl, rfl, k _ rfl fun _ => .bl _⟩) (nx_i2 fun _ _ _ q => by cases q) ha hb
theorem se_gt : SemE J Γ (.o .F) (gtE Fa Fb) (tOp (rI0 fun i j => .bl (decide (j < i))) ta tb) :=
  se_op2 (rule_i2 fun i j d H Q q k => by cases q; exact ⟨i, j, rfl, rfl, k _ rfl fun _ => .bl _⟩) (nx_i2 fun _ _ _ q => by cases q) ha hb
theorem se_ge : SemE J Γ (.o .F) (geE Fa Fb) (tOp (rI0 fun i j => .bl (decide (j ≤ i))) ta tb) :=
  se_op2 (rule_i2 fun i j d H Q q k => by cases q; exact ⟨i, j, rfl, rfl, k _ rfl fun _ => .bl _⟩) (nx_i2 fun _ _ _ q => by cases q) ha hb
end
end
end Pm
namespace Pm
open PySem PySem.Spec PyProof.Rows L2
open Classical
/-! ### == -/
mutual
def pyD : Dt → PyData
  | .non => .none
  | .bl b => .bool b
  | .int i => .int i
  | .str x => .str x
  | .lst ds => .list (pyDs ds)
  | .scr ds => .list (pyDs ds)
  | .tup ds => .tuple (pyDs ds)
  | .ktp ds => .tuple (pyDs ds)
  | .ins _ _ _ => .dict []
  | .dic _ _ => .dict []
  | .dit _ _ => .dict []
def pyDs : List Dt → List PyData
  | [] => []
  | d :: ds => pyD d :: pyDs ds
end
section
variable {K : PySem.W.Frag} {ca : Str → Addr} {H : Hp}
mutual
theorem Rp.dp : ∀ {d : Dt} {v : V}, (pyD d).canLay0 = true → Rp K ca H d v → Dp K H v (pyD d)
  | .non, _, _, h => by cases h; exact .non
  | .bl b, _, _, h => by cases h; exact .bl b
  | .int i, _, _, h => by cases h; exact .int i
  | .str x, _, _, h => by cases h; exact .str x
  | .lst ds, _, c, h => by
    cases h with
    | lst h1 h2 => exact .lst (.of h1) (Rps.dp (by simpa [pyD, PyData.canLay0] using c) h2)
  | .scr ds, _, c, h => by
    cases h with
    | scr h1 h2 => exact .lst h1 (Rps.dp (by simpa [pyD, PyData.canLay0] using c) h2)
  | .tup ds, _, c, h => by
    cases h with
    | tup h1 h2 => exact .tup (.of h1) (Rps.dp (by simpa [pyD, PyData.canLay0] using c) h2)
  | .ktp ds, _, c, h => by
    cases h with
    | ktp h1 h2 => exact .tup h1 (Rps.dp (by simpa [pyD, PyData.canLay0] using c) h2)
  | .ins _ _ _, _, c, _ => by simp [pyD, PyData.canLay0] at c
  | .dic _ _, _, c, _ => by simp [pyD, PyData.canLay0] at c
  | .dit _ _, _, c, _ => by simp [pyD, PyData.canLay0] at c
theorem Rps.dp : ∀ {ds : List Dt} {vs : List V}, PyData.canLayAll0 (pyDs ds) = true → Rps K ca H ds vs → DpAll K H vs (pyDs ds)
  | [], _, _, h => by cases h; exact .nil
  | d :: ds, _, c, h => by
    cases h with
    | cons h1 h2 =>
      have c2 : PyData.canLay0 (pyD d) = true ∧ PyData.canLayAll0 (pyDs ds) = true := by simpa [pyDs, PyData.canLayAll0] using c
      exact .cons (Rp.dp c2.1 h1) (Rps.dp c2.2 h2)
end
end
def eqOK (d : Dt) : Bool := SeqAt.shaped (pyD d)
def deq (a b : Dt) : Bool := PyData.eqv (pyD a) (pyD b)
def eqD (a b : Dt) : Rs Dt := if (eqOK a && eqOK b) = true then .ok (.bl (deq a b)) else .no
def neD (a b : Dt) : Rs Dt := if (eqOK a && eqOK b) = true then .ok (.bl (!deq a b)) else .no
def eqE := op2E eqD
def neE := op2E neD
def isNonD (d : Dt) : Bool := match d with
  | .non => true
  | _ => false
def isNE := op1E fun a => .ok (.bl (isNonD a))
def notNE := op1E fun a => .ok (.bl (!isNonD a))
def seqD : Dt → Option (List Dt)
  | .lst ds => some ds
  | .scr ds => some ds
  | .tup ds => some ds
  | _ => none
def kseqD : Dt → Option (List Dt)
  | .lst ds => some ds
  | .scr ds => some ds
  | .tup ds => some ds
  | .ktp ds => some ds
  | _ => none
def inD (a : Dt) (ds : List Dt) : Bool := ds.any fun y => deq y a
def memD (neg : Bool) (a b : Dt) : Rs Dt := match kseqD b with
  | some ds => if (scal a && ds.all scal) = true then .ok (.bl (if neg then !inD a ds else inD a ds)) else .no
  | none => .no
def inE := op2E (memD false)
def ninE := op2E (memD true)
@[irreducible] def strSz (x : Str) : Bool := decide (x.length ≤ 1000000)
theorem strSz_ok {x : Str} (h : strSz x = true) : x.length ≤ 1000000 := by
  unfold strSz at h
  exact of_decide_eq_true h
def lenD : Dt → Rs Dt
  | .lst ds => .ok (.int ds.length)
  | .scr ds => .ok (.int ds.length)
  | .tup ds => .ok (.int ds.length)
  | .ktp ds => .ok (.int ds.length)
  | .str x => if strSz x = true then .ok (.int x.length) else .no
  | _ => .no
def lenE := op1E lenD
def ixD : Dt → Dt → Rs Dt
  | .lst ds, .int i => (match atI ds i with | some d => .ok d | none => .no)
  | .scr ds, .int i => (match atI ds i with | some d => .ok d | none => .no)
  | .tup ds, .int i => (match atI ds i with | some d => .ok d | none => .no)
  | .str x, .int i => if strSz x = true then (match atI x.cps.toList i with | some c => .ok (.str ⟨#[c]⟩) | none => .no) else .no
  | _, _ => .no
def ixE := op2E ixD
section
variable {J : Jc} {Γ : List Mode} {em : EM} {m : Mode} {F Fa Fb : Ev → Rs Dt} {te ta tb : TE} {G0 H0 G H G' H' : Hp} {ρ : Ev} {σ : L2.St}
theorem sz1000000 {n : Nat} (h : n ≤ 1000000) : n ≤ sizeLine := Nat.le_trans h (by decide)
section
variable (ha : SemE J Γ .B Fa ta) (hb : SemE J Γ .B Fb tb)
include ha hb
theorem se_eq : SemE J Γ (.o .F) (eqE Fa Fb) (tOp (rEqD J.K) ta tb) := se_op2 (fun H a b d x y Q ra rb q k => by
  obtain ⟨c, q⟩ := ok_if q
  cases q
  rw [Bool.and_eq_true] at c
  exact ⟨_, _, ra.dp (SeqAt.canLay_of_shaped c.1), rb.dp (SeqAt.canLay_of_shaped c.2), c.1, c.2, k _ rfl fun _ => .bl _⟩) (fun _ _ _ => nx_if (fun q => by cases q) fun q => by cases q) ha hb
theorem se_ne : SemE J Γ (.o .F) (neE Fa Fb) (tOp (rNeD J.K) ta tb) := se_op2 (fun H a b d x y Q ra rb q k => by
  obtain ⟨c, q⟩ := ok_if q
  cases q
  rw [Bool.and_eq_true] at c
  exact ⟨_, _, ra.dp (SeqAt.canLay_of_shaped c.1), rb.dp (SeqAt.canLay_of_shaped c.2), c.1, c.2, k _ rfl fun _ => .bl _⟩) (fun _ _ _ => nx_if (fun q => by cases q) fun q => by cases q) ha hb
end
/-! ### in, len, items -/
theorem scal_flat {K : PySem.W.Frag} {ca : Str → Addr} {d : Dt} {v : V} (s : scal d = true) (h : Rp K ca H d v) : flatV v = true := by
  cases h <;> first | rfl | cases s
theorem eqV_deq {K : PySem.W.Frag} {ca : Str → Addr} {d e : Dt} {v u : V} (s : scal d = true) (s2 : scal e = true) (h : Rp K ca H d v) (k : Rp K ca H e u) : eqV v u = deq d e := by
  cases h <;> first | (cases s; done) | (cases k <;> first | (cases s2; done) | rfl)
theorem inV_inD {K : PySem.W.Frag} {ca : Str → Addr} {a : Dt} {x : V} (s : scal a = true) (ra : Rp K ca H a x) : ∀ {ds : List Dt} {vs : List V}, ds.all scal = true → Rps K ca H ds vs → vs.all flatV = true ∧ inV x vs = inD a ds
  | [], _, _, h => by cases h; exact ⟨rfl, rfl⟩
  | d :: ds, _, c, h => by
    cases h with
    | cons h1 h2 =>
      rw [List.all_cons, Bool.and_eq_true] at c
      obtain ⟨q1, q2⟩ := inV_inD s ra c.2 h2
      refine ⟨by rw [List.all_cons, scal_flat c.1 h1, q1]; rfl, ?_⟩
      unfold inV inD at q2 ⊢
      rw [List.any_cons, List.any_cons, q2, eqV_deq c.1 s h1 ra]
theorem seq_rp {K : PySem.W.Frag} {ca : Str → Addr} {b : Dt} {y : V} {ds : List Dt} (q : kseqD b = some ds) (rb : Rp K ca H b y) : ∃ a vs, y = .ref a ∧ (SqL K H a vs ∨ SqT K H a vs) ∧ Rps K ca H ds vs := by
  cases rb with
  | lst h1 h2 => cases q; exact ⟨_, _, rfl, .inl (.of h1), h2⟩
  | scr h1 h2 => cases q; exact ⟨_, _, rfl, .inl h1, h2⟩
  | tup h1 h2 => cases q; exact ⟨_, _, rfl, .inr (.of h1), h2⟩
  | ktp h1 h2 => cases q; exact ⟨_, _, rfl, .inr h1, h2⟩
  | _ => cases q
theorem rule_mem {K : PySem.W.Frag} {ca : Str → Addr} (neg : Bool) : Rule2 K ca (memD neg) (rIn K neg) := by
  intro H a b d x y Q ra rb q k
  unfold memD at q
  cases e : kseqD b with
  | none => rw [e] at q; cases q
  | some ds =>
    rw [e] at q
    obtain ⟨c, q⟩ := ok_if q
    cases q
    rw [Bool.and_eq_true] at c
    obtain ⟨p, vs, rfl, hs, hr⟩ := seq_rp e rb
    obtain ⟨f1, f2⟩ := inV_inD c.1 ra c.2 hr
    refine ⟨p, vs, rfl, hs, scal_flat c.1 ra, f1, ?_⟩
    rw [f2]
    exact k _ rfl fun _ => .bl _
theorem nx_mem (neg : Bool) : NoEx2 (memD neg) := by
  intro a b c
  unfold memD
  split
  · exact nx_if (fun q => by cases q) fun q => by cases q
  · exact fun q => by cases q
theorem se_nin (ha : SemE J Γ .B Fa ta) (hb : SemE J Γ .B Fb tb) : SemE J Γ (.o .F) (ninE Fa Fb) (tOp (rIn J.K true) ta tb) := se_op2 (rule_mem true) (nx_mem true) ha hb
/-- f(a) that looks at a and gives a scalar -/
theorem se_cb1 {g : Dt → Rs Dt} {r : List V → Hp → VK → Prop} (hr : ∀ (H : Hp) (a d : Dt) (x : V) (Q : VK), Rp J.K J.ca H a x → g a = .ok d → (∀ v, scal d = true → (∀ G, Rp J.K J.ca G d v) → Q v H) → r [x] H Q) (hn : ∀ a c, g a ≠ .ex c) (ha : SemE J Γ .B Fa ta) :
    SemE J Γ (.o .F) (op1E g Fa) (tCB r (tCons ta tNil)) := fun {G0 H0 G H ρ σ Q} w p => by
  refine ha w (p.bind.imp (fun a _ p1 x G1 H1 _ e1 _ ra => ?_) fun _ q => q)
  show r [x] H1 Q
  cases q : g a with
  | ok d =>
    rw [q] at p1
    exact hr H1 a d x Q ra q fun v _ hv => p1.of_ok v G1 H1 Pno e1 Fr.no (.F (hv _))
  | ex c => exact absurd q (hn a c)
  | no => rw [q] at p1; cases p1
theorem nx_len : ∀ a c, lenD a ≠ .ex c := by
  intro a c
  unfold lenD
  split <;> first | (intro q; cases q; done) | exact nx_if (fun q => by cases q) fun q => by cases q
theorem se_len (ha : SemE J Γ .B Fa ta) : SemE J Γ (.o .F) (lenE Fa) (tCB (fun xs H Q => ∃ x n, xs = [x] ∧ LenV J.K x H n ∧ Q (.int n) H) (tCons ta tNil)) :=
  se_cb1 (fun H a d x Q ra q k => by
    cases ra with
    | lst h1 h2 => cases q; exact ⟨_, _, rfl, .inl ⟨_, .of h1, rfl⟩, by rw [← h2.length]; exact k _ rfl fun _ => .int _⟩
    | scr h1 h2 => cases q; exact ⟨_, _, rfl, .inl ⟨_, h1, rfl⟩, by rw [← h2.length]; exact k _ rfl fun _ => .int _⟩
    | tup h1 h2 => cases q; exact ⟨_, _, rfl, .inr ⟨_, .of h1, rfl⟩, by rw [← h2.length]; exact k _ rfl fun _ => .int _⟩
    | ktp h1 h2 => cases q; exact ⟨_, _, rfl, .inr ⟨_, h1, rfl⟩, by rw [← h2.length]; exact k _ rfl fun _ => .int _⟩
    | str z =>
      obtain ⟨c, q⟩ := ok_if q
      cases q
      exact ⟨_, _, rfl, ⟨sz1000000 (strSz_ok c), rfl⟩, k _ rfl fun _ => .int _⟩
    | _ => cases q) nx_len ha
theorem nx_ix : NoEx2 ixD := by
  intro a b c
  unfold ixD
  split <;> first | (intro q; cases q; done) | (split <;> intro q <;> cases q; done) | (refine nx_if ?_ (fun q => by cases q); split <;> intro q <;> cases q)
theorem Rps.atI {K : PySem.W.Frag} {ca : Str → Addr} {ds : List Dt} {vs : List V} {i : Int} {d : Dt} (h : Rps K ca H ds vs) (e : L2.atI ds i = some d) : ∃ v, L2.atI vs i = some v ∧ Rp K ca H d v := by
  unfold L2.atI at e ⊢
  rw [← h.length]
  cases q : ixN ds.length i with
  | none => rw [q] at e; cases e
  | some j =>
    rw [q] at e
    obtain ⟨v, h1, h2⟩ := h.get (show ds[j]? = some d from e)
    exact ⟨v, h1, h2⟩
theorem mt_at {ds : List Dt} {i : Int} {d : Dt} (h : (match L2.atI ds i with | some d => (Rs.ok d : Rs Dt) | none => .no) = .ok d) : L2.atI ds i = some d := by
  cases q : L2.atI ds i with
  | none => rw [q] at h; cases h
  | some e => rw [q] at h; cases h; rfl
/-- an item of a list, tuple whose parts are frozen -/
theorem se_ix (ha : SemE J Γ .S Fa ta) (hb : SemE J Γ .B Fb tb) : SemE J Γ (.o .F) (ixE Fa Fb) (tOp (rIx J.K) ta tb) := fun {G0 H0 G H ρ σ Q} w p => by
  refine ha w (p.bind.imp (fun a _ p1 x G1 H1 _ e1 _ ra => ?_) fun _ q => q)
  refine hb (w.ext e1) (p1.bind.imp (fun b _ p2 y G2 H2 _ e2 _ rb => ?_) fun _ q H' dx s => q H' dx (e1.h.trans s))
  cases q : ixD a b with
  | ok d =>
    rw [q] at p2
    have fin : ∀ v, Rp J.K J.ca G2 d v → Q v H2 := fun v hv => p2.of_ok v G2 H2 Pno (e1.trans e2) Fr.no (.F hv)
    cases rb with
    | int i =>
      obtain ⟨rx, rs⟩ := ra
      cases a with
      | lst ds =>
        obtain ⟨p, vs, rfl, sq, hr⟩ := rs ds (.inl rfl)
        rcases sq with ⟨z, s⟩ | ⟨z, s⟩ | ⟨z, s⟩ <;> try cases z
        obtain ⟨v, e, r⟩ := hr.atI (mt_at q)
        exact .inl ⟨_, _, i, v, rfl, rfl, .of (e2.h _ _ s), e, fin v (r.mono e2.g)⟩
      | scr ds =>
        obtain ⟨p, vs, rfl, sq, hr⟩ := rs ds (.inr (.inl rfl))
        rcases sq with ⟨z, s⟩ | ⟨z, s⟩ | ⟨z, s⟩ <;> try cases z
        obtain ⟨v, e, r⟩ := hr.atI (mt_at q)
        exact .inl ⟨_, _, i, v, rfl, rfl, e2.h.seq s, e, fin v (r.mono e2.g)⟩
      | tup ds =>
        obtain ⟨p, vs, rfl, sq, hr⟩ := rs ds (.inr (.inr rfl))
        rcases sq with ⟨z, s⟩ | ⟨z, s⟩ | ⟨z, s⟩ <;> try cases z
        obtain ⟨v, e, r⟩ := hr.atI (mt_at q)
        exact .inr (.inl ⟨_, _, i, v, rfl, rfl, .of (e2.h _ _ s), e, fin v (r.mono e2.g)⟩)
      | str z =>
        cases rx with
        | str z =>
          obtain ⟨c, q⟩ := ok_if q
          cases e : L2.atI z.cps.toList i with
          | none => rw [e] at q; cases q
          | some w =>
            rw [e] at q
            cases q
            exact .inr (.inr ⟨z, i, w, rfl, rfl, sz1000000 (strSz_ok c), e, fin _ (.str _)⟩)
      | _ => cases q
    | _ => cases a <;> cases q
  | ex c => exact absurd q (nx_ix a b c)
  | no => rw [q] at p2; cases p2
/-! ### isinstance against the plain types -/
inductive Ty | none | bool | int | str | list | tuple | dict
  deriving DecidableEq
def Ty.nm : Ty → String
  | .none => "NoneType" | .bool => "bool" | .int => "int" | .str => "str" | .list => "list" | .tuple => "tuple" | .dict => "dict"
def tyD : Dt → Option Ty
  | .non => some .none
  | .bl _ => some .bool
  | .int _ => some .int
  | .str _ => some .str
  | .lst _ => some .list
  | .tup _ => some .tuple
  | _ => Option.none
def isTy (a b : Ty) : Bool := decide (a = b) || (decide (a = .bool) && decide (b = .int))
def isiD (c : Ty) (d : Dt) : Rs Dt := match tyD d with
  | some t => .ok (.bl (isTy t c))
  | Option.none => .no
def isiE (c : Ty) := op1E (isiD c)
end
end Pm
namespace Pm
open PySem PySem.Spec PyProof.Rows L2
open Classical
/-! ### tests -/
def asB : Dt → Rs Bool
  | .bl b => .ok b
  | _ => .no
def boolT (F : Ev → Rs Dt) (ρ : Ev) : Rs Bool := F ρ >>= asB
def notT (F : Ev → Rs Bool) (ρ : Ev) : Rs Bool := F ρ >>= fun b => .ok (!b)
def andT (Fa Fb : Ev → Rs Bool) (ρ : Ev) : Rs Bool := Fa ρ >>= fun b => if b = true then Fb ρ else .ok false
def orT (Fa Fb : Ev → Rs Bool) (ρ : Ev) : Rs Bool := Fa ρ >>= fun b => if b = true then .ok true else Fb ρ
def andE (Fa Fb : Ev → Rs Dt) (ρ : Ev) : Rs Dt := Fa ρ >>= fun a => asB a >>= fun b => if b = true then Fb ρ else .ok (.bl false)
def orE (Fa Fb : Ev → Rs Dt) (ρ : Ev) : Rs Dt := Fa ρ >>= fun a => asB a >>= fun b => if b = true then .ok (.bl true) else Fb ρ
def notE (Fa : Ev → Rs Dt) (ρ : Ev) : Rs Dt := Fa ρ >>= fun a => asB a >>= fun b => .ok (.bl (!b))
def ifE (Ft : Ev → Rs Bool) (Fa Fb : Ev → Rs Dt) (ρ : Ev) : Rs Dt := Ft ρ >>= fun b => if b = true then Fa ρ else Fb ρ
section
variable {J : Jc} {Γ : List Mode} {em : EM} {m : Mode} {F Fa Fb : Ev → Rs Dt} {Ft Fu : Ev → Rs Bool} {te ta tb : TE} {tt tu : TT} {G0 H0 G H G' H' : Hp} {ρ : Ev} {σ : L2.St}
theorem st_val (h : SemE J Γ .B F te) : SemT J Γ (boolT F) (tTest te) := fun {G0 H0 G H ρ σ Q} w p => h w (p.bind.imp (fun d _ q v G' H' P e _ r => by
  cases r with
  | bl b => exact ⟨b, rfl, q.of_ok G' H' e⟩
  | _ => cases q) fun _ q => q)
theorem st_valB (h : SemE J Γ .B F te) : SemT J Γ (boolT F) (tB te) := st_val h
theorem st_not (h : SemT J Γ Ft tt) : SemT J Γ (notT Ft) (tNot tt) := fun {G0 H0 G H ρ σ Q} w p => h w (p.bind.imp (fun d _ q G' H' e => q.of_ok G' H' e) fun _ q => q)
theorem st_and (h : SemT J Γ Ft tt) (k : SemT J Γ Fu tu) : SemT J Γ (andT Ft Fu) (tAnd tt tu) := fun {G0 H0 G H ρ σ Q} w p => h w (p.bind.imp (fun b _ q G' H' e => by
  cases b with
  | true => exact k (w.ext e) (Rs.Post.imp q (fun c _ r G2 H2 e2 => r G2 H2 (e.trans e2)) fun c r H2 dx s => r H2 dx (e.h.trans s))
  | false => exact Rs.Post.of_ok q G' H' e) fun _ q => q)
theorem st_or (h : SemT J Γ Ft tt) (k : SemT J Γ Fu tu) : SemT J Γ (orT Ft Fu) (tOr tt tu) := fun {G0 H0 G H ρ σ Q} w p => h w (p.bind.imp (fun b _ q G' H' e => by
  cases b with
  | false => exact k (w.ext e) (Rs.Post.imp q (fun c _ r G2 H2 e2 => r G2 H2 (e.trans e2)) fun c r H2 dx s => r H2 dx (e.h.trans s))
  | true => exact Rs.Post.of_ok q G' H' e) fun _ q => q)
/-- -a -/
def negD : Dt → Rs Dt
  | .int i => .ok (.int (-i))
  | _ => .no
def negE := op1E negD
theorem se_neg (ha : SemE J Γ .B Fa ta) : SemE J Γ (.o .F) (negE Fa) (tUn (rU fun i => .int (-i)) ta) := se_op1 (fun H a d x Q ra q k => by
  cases ra with
  | int i => cases q; exact ⟨i, rfl, k _ rfl fun _ => .int _⟩
  | _ => cases q) (fun a c => by unfold negD; split <;> intro q <;> cases q) ha
/-! ### argument lists -/
def argsE : List (Ev → Rs Dt) → Ev → Rs (List Dt)
  | [], _ => .ok []
  | f :: fs, ρ => f ρ >>= fun d => argsE fs ρ >>= fun ds => .ok (d :: ds)
theorem argsE_len : ∀ {fs : List (Ev → Rs Dt)} {ρ : Ev} {ds : List Dt}, argsE fs ρ = .ok ds → ds.length = fs.length
  | [], _, _, h => by cases h; rfl
  | f :: fs, ρ, ds, h => by
    unfold argsE at h
    cases q : f ρ with
    | ok d =>
      rw [q, ok_bind] at h
      cases q2 : argsE fs ρ with
      | ok es =>
        rw [q2, ok_bind] at h
        cases h
        rw [List.length_cons, List.length_cons, argsE_len q2]
      | ex c => rw [q2] at h; cases h
      | no => rw [q2] at h; cases h
    | ex c => rw [q] at h; cases h
    | no => rw [q] at h; cases h
end
def SemZ (J : Jc) (Γ : List Mode) (ms : List Mode) (Fs : List (Ev → Rs Dt)) (ta : TA) : Prop := ∀ ⦃G0 H0 G H : Hp⦄ ⦃ρ : Ev⦄ ⦃σ : L2.St⦄ ⦃Q : List V → Hp → Prop⦄, Wd J G0 H0 Γ ρ σ G H →
  Rs.Post (fun ds => ∀ vs G' H' P, Ext G H G' H' → Fr G' H H' P → Ows J.K J.ca G' H' ms ds vs P → Q vs H') (fun c => ∀ H' dx, Same H H' → XR c dx H' → J.W (.ref (J.ca c.1)) dx σ H') (argsE Fs ρ) → ta σ H Q
def SemBs (J : Jc) (Γ : List Mode) (Fs : List (Ev → Rs Dt)) (ta : TA) : Prop := ∀ ⦃G0 H0 G H : Hp⦄ ⦃ρ : Ev⦄ ⦃σ : L2.St⦄ ⦃Q : List V → Hp → Prop⦄, Wd J G0 H0 Γ ρ σ G H →
  Rs.Post (fun ds => ∀ vs G' H', Ext G H G' H' → Rps J.K J.ca H' ds vs → Q vs H') (fun c => ∀ H' dx, Same H H' → XR c dx H' → J.W (.ref (J.ca c.1)) dx σ H') (argsE Fs ρ) → ta σ H Q
/-- all F -/
def allF : List Mode → Bool
  | [] => true
  | .F :: ms => allF ms
  | _ => false
section
variable {J : Jc} {Γ : List Mode} {em : EM} {m : Mode} {ms : List Mode} {F Fa Fb : Ev → Rs Dt} {Fs : List (Ev → Rs Dt)} {te ta tb : TE} {tr : TA} {G0 H0 G H G' H' : Hp} {ρ : Ev} {σ : L2.St}
theorem Ows.allF {K : PySem.W.Frag} {ca : Str → Addr} : ∀ {ms : List Mode} {ds : List Dt} {vs : List V} {P : Addr → Prop}, Pm.allF ms = true → Ows K ca G H ms ds vs P → Rps K ca G ds vs
  | [], _, _, _, _, h => by cases h; exact .nil
  | m :: ms, _, _, _, c, h => by
    cases h with
    | cons h1 h2 _ _ _ =>
      cases m with
      | F =>
        cases h1 with
        | F h1 => exact .cons h1 (Ows.allF (by simpa [Pm.allF] using c) h2)
      | _ => simp [Pm.allF] at c
theorem sz_nil : SemZ J Γ [] [] tNil := fun {G0 H0 G H ρ σ Q} w p => p.of_ok [] G H Pno (Ext.refl w.gh) Fr.no .nil
theorem sz_cons (h : SemE J Γ (.o m) F te) (k : SemZ J Γ ms Fs tr) : SemZ J Γ (m :: ms) (F :: Fs) (tCons te tr) := fun {G0 H0 G H ρ σ Q} w p => by
  refine h w (p.bind.imp (fun d _ q v G1 H1 P1 e1 f1 o1 => ?_) fun _ q => q)
  refine k (w.ext e1) (q.bind.imp (fun ds _ q vs G2 H2 P2 e2 f2 o2 => ?_) fun _ q H' dx s => q H' dx (e1.h.trans s))
  refine q.of_ok (v :: vs) G2 H2 (fun b => P1 b ∨ P2 b) (e1.trans e2) (fun b hb => ?_) (.cons (o1.carry e2.g fun b hb => ?_) o2 (fun _ => .inl) (fun _ => .inr) fun b h1 h2 => ?_)
  · rcases hb with hb | hb
    · obtain ⟨a1, a2, a3⟩ := f1 b hb
      exact ⟨by rw [e2.base b a3]; exact a1, a2, e2.h.nn a3⟩
    · obtain ⟨a1, a2, a3⟩ := f2 b hb
      exact ⟨a1, e1.h.free a2, a3⟩
  · obtain ⟨a1, a2, a3⟩ := f1 b hb
    exact ⟨e2.h.at a3, by rw [e2.base b a3]; exact a1⟩
  · exact (f1 b h1).2.2 (f2 b h2).2.1
theorem sb_nil : SemBs J Γ [] tNil := fun {G0 H0 G H ρ σ Q} w p => p.of_ok [] G H (Ext.refl w.gh) .nil
theorem sb_cons (h : SemE J Γ .B F te) (k : SemBs J Γ Fs tr) : SemBs J Γ (F :: Fs) (tCons te tr) := fun {G0 H0 G H ρ σ Q} w p => by
  refine h w (p.bind.imp (fun d _ q v G1 H1 P1 e1 f1 o1 => ?_) fun _ q => q)
  refine k (w.ext e1) (q.bind.imp (fun ds _ q vs G2 H2 e2 o2 => ?_) fun _ q H' dx s => q H' dx (e1.h.trans s))
  exact q.of_ok (v :: vs) G2 H2 (e1.trans e2) (.cons (Rp.mono e2.h o1) o2)
theorem Fr.upd {p : Addr} {o : HO} {P : Addr → Prop} (e : Same G' H') (f : Fr G' H H' P) (hp : H' p = none) (hq : H p = none) : Fr G' H (upd H' p o) (fun b => b = p ∨ P b) := fun b hb => by
  by_cases z : b = p
  · subst z
    exact ⟨e.free hp, hq, by rw [upd_same]; exact fun w => by cases w⟩
  · rcases hb with hb | hb
    · exact absurd hb z
    · obtain ⟨a1, a2, a3⟩ := f b hb
      exact ⟨a1, a2, by rw [upd_ne z]; exact a3⟩
theorem Ext.upd {p : Addr} {o : HO} (e : Ext G H G' H') (hp : H' p = none) : Ext G H G' (upd H' p o) := e.trans (Ext.heap e.gh (Same.new hp))
theorem Ows.upd {K : PySem.W.Frag} {ca : Str → Addr} {p : Addr} {o : HO} {ms : List Mode} {ds : List Dt} {vs : List V} {P : Addr → Prop} (f : Fr G' H H' P) (hp : H' p = none) (h : Ows K ca G' H' ms ds vs P) : Ows K ca G' (L2.upd H' p o) ms ds vs (fun b => (b = p ∨ P b) ∧ b ≠ p) :=
  (h.carry (Same.refl _) fun b hb => by
    obtain ⟨a1, a2, a3⟩ := f b hb
    exact ⟨upd_ne fun z => a3 (by rw [z]; exact hp), a1⟩).weaken fun b hb => ⟨.inr hb, fun z => (f b hb).2.2 (by rw [z]; exact hp)⟩
/-- displays -/
def tupE (Fs : List (Ev → Rs Dt)) (ρ : Ev) : Rs Dt := argsE Fs ρ >>= fun ds => .ok (.tup ds)
def lstE (Fs : List (Ev → Rs Dt)) (ρ : Ev) : Rs Dt := argsE Fs ρ >>= fun ds => .ok (.lst ds)
theorem Ows.len {K : PySem.W.Frag} {ca : Str → Addr} : ∀ {ms : List Mode} {ds : List Dt} {vs : List V} {P : Addr → Prop}, Ows K ca G H ms ds vs P → ds.length = vs.length ∧ ms.length = ds.length
  | _, [], _, _, h => by cases h; exact ⟨rfl, rfl⟩
  | _, d :: ds, _, _, h => by
    cases h with
    | cons h1 h2 _ _ _ =>
      obtain ⟨a, b⟩ := Ows.len h2
      exact ⟨by rw [List.length_cons, List.length_cons, a], by rw [List.length_cons, List.length_cons, b]⟩
theorem se_tup (h : SemZ J Γ ms Fs tr) (hl : Fs.length ≤ 1000000 := by exact Nat.le_of_ble_eq_true rfl) : SemE J Γ (.o (.T ms)) (tupE Fs) (tTup tr) := fun {G0 H0 G H ρ σ Q} w p => by
  refine h w (p.bind.imp (fun ds hd q vs G1 H1 P1 e1 f1 o1 => ⟨?_, fun a ha => ?_⟩) fun _ q => q)
  · rw [← o1.len.1, argsE_len hd]; exact sz1000000 hl
  · exact q.of_ok (.ref a) G1 _ (fun b => b = a ∨ P1 b) (e1.upd ha) (f1.upd e1.gh ha (e1.h.free ha)) (.T upd_same (e1.gh.free ha) (.inl rfl) (o1.upd f1 ha))
theorem se_tupF (h : SemZ J Γ ms Fs tr) (hl : Fs.length ≤ 1000000 := by exact Nat.le_of_ble_eq_true rfl) : SemE J Γ (.o .F) (tupE Fs) (tTup tr) := se_frz (se_tup h hl)
theorem se_lst (h : SemZ J Γ ms Fs tr) (hm : ms = List.replicate Fs.length m := by rfl) (hl : Fs.length ≤ 1000000 := by exact Nat.le_of_ble_eq_true rfl) : SemE J Γ (.o (.L m)) (lstE Fs) (tLst tr) := fun {G0 H0 G H ρ σ Q} w p => by
  refine h w (p.bind.imp (fun ds hd q vs G1 H1 P1 e1 f1 o1 => ⟨?_, fun a ha => ?_⟩) fun _ q => q)
  · rw [← o1.len.1, argsE_len hd]; exact sz1000000 hl
  · refine q.of_ok (.ref a) G1 _ (fun b => b = a ∨ P1 b) (e1.upd ha) (f1.upd e1.gh ha (e1.h.free ha)) (.L upd_same (e1.gh.free ha) (.inl rfl) ?_)
    rw [argsE_len hd, ← hm]
    exact o1.upd f1 ha
/-! ### a new list, tuple of frozen parts -/
theorem Rps.own {K : PySem.W.Frag} {ca : Str → Addr} : ∀ {ds : List Dt} {vs : List V} {P : Addr → Prop}, Rps K ca G ds vs → Ows K ca G H (List.replicate ds.length .F) ds vs P
  | [], _, _, h => by cases h; exact .nil
  | d :: ds, _, _, h => by
    cases h with
    | cons h1 h2 => exact .cons (P1 := Pno) (P2 := Pno) (.F h1) (Rps.own h2) (fun _ z => z.elim) (fun _ z => z.elim) (fun _ z => z.elim)
theorem new_lst {K : PySem.W.Frag} {ca : Str → Addr} {a : Addr} {ds : List Dt} {vs : List V} (e : Same G H) (ha : H a = none) (h : Rps K ca G ds vs) : Ext G H G (upd H a (.lst vs)) ∧ Fr G H (upd H a (.lst vs)) (fun b => b = a) ∧ Ow K ca G (upd H a (.lst vs)) (.L .F) (.lst ds) (.ref a) (fun b => b = a) :=
  ⟨Ext.heap e (Same.new ha), fun b hb => by rw [hb, upd_same]; exact ⟨e.free ha, ha, fun w => by cases w⟩, .L upd_same (e.free ha) rfl h.own⟩
theorem new_tup {K : PySem.W.Frag} {ca : Str → Addr} {a : Addr} {ds : List Dt} {vs : List V} (e : Same G H) (ha : H a = none) (h : Rps K ca G ds vs) : Ext G H (upd G a (.tup vs)) (upd H a (.tup vs)) ∧ Rp K ca (upd G a (.tup vs)) (.tup ds) (.ref a) :=
  ⟨Ext.new e ha, .tup upd_same (h.mono (Same.new (e.free ha)))⟩
/-- what S says of a sequence -/
theorem S_seq {K : PySem.W.Frag} {ca : Str → Addr} {d : Dt} {v : V} {P : Addr → Prop} {ds : List Dt} (h : Res K ca G H .S d v P) (q : seqD d = some ds) : ∃ a vs, v = .ref a ∧ (SqL K H a vs ∨ SqT K H a vs) ∧ Rps K ca G ds vs := by
  have hd : d = .lst ds ∨ d = .scr ds ∨ d = .tup ds := by
    cases d <;> first | (cases q; exact .inl rfl) | (cases q; exact .inr (.inl rfl)) | (cases q; exact .inr (.inr rfl)) | cases q
  obtain ⟨a, vs, e, sq, r⟩ := h.2 ds hd
  refine ⟨a, vs, e, ?_, r⟩
  rcases sq with ⟨_, s⟩ | ⟨_, s⟩ | ⟨_, s⟩
  · exact .inl (.of s)
  · exact .inl s
  · exact .inr (.of s)
/-- list(x) -/
def listD (d : Dt) : Rs Dt := match seqD d with
  | some ds => .ok (.lst ds)
  | none => .no
def listE := op1E listD
theorem se_list (h : SemE J Γ .S F te) : SemE J Γ (.o (.L .F)) (listE F) (tCB (fun xs H Q => ∃ p ys, xs = [.ref p] ∧ (SqL J.K H p ys ∨ SqT J.K H p ys) ∧ ∀ l, H l = none → Q (.ref l) (upd H l (.lst ys))) (tCons te tNil)) := fun {G0 H0 G H ρ σ Q} w p => by
  refine h w (p.bind.imp (fun d _ q v G1 H1 P1 e1 _ r1 => ?_) fun _ q => q)
  unfold listD at q
  cases e : seqD d with
  | none => rw [e] at q; cases q
  | some ds =>
    rw [e] at q
    obtain ⟨a, vs, rfl, sq, r⟩ := S_seq r1 e
    refine ⟨a, vs, rfl, sq, fun l hl => ?_⟩
    obtain ⟨e2, f2, o2⟩ := new_lst e1.gh hl r
    exact q.of_ok (.ref l) G1 _ _ (e1.trans e2) (fun b hb => ⟨(f2 b hb).1, e1.h.free (f2 b hb).2.1, (f2 b hb).2.2⟩) o2
/-- tuple(x) -/
def tupleD (d : Dt) : Rs Dt := match seqD d with
  | some ds => .ok (.tup ds)
  | none => .no
def tupleE := op1E tupleD
/-- of a list looked at -/
def tupleLD : Dt → Rs Dt
  | .lst ds => .ok (.tup ds)
  | _ => .no
def tupleLE := op1E tupleLD
/-! ### slices -/
def noPart (_ : Ev) : Rs (Option Int) := .ok none
def asI : Dt → Rs (Option Int)
  | .int i => .ok (some i)
  | _ => .no
def partO (F : Ev → Rs Dt) (ρ : Ev) : Rs (Option Int) := F ρ >>= asI
def cutL {α : Type} (xs : List α) (lo hi : Option Int) : List α := (xs.drop (HT.sIx xs.length 0 lo)).take (HT.sIx xs.length xs.length hi - HT.sIx xs.length 0 lo)
def cutD : Dt → Option Int → Option Int → Rs Dt
  | .lst ds, lo, hi => .ok (.lst (cutL ds lo hi))
  | .scr ds, lo, hi => .ok (.lst (cutL ds lo hi))
  | .tup ds, lo, hi => .ok (.tup (cutL ds lo hi))
  | .str z, lo, hi => if strSz z = true then .ok (.str (cutS z lo hi)) else .no
  | _, _, _ => .no
def slcE (F : Ev → Rs Dt) (Fl Fh : Ev → Rs (Option Int)) (ρ : Ev) : Rs Dt := F ρ >>= fun d => Fl ρ >>= fun l => Fh ρ >>= fun u => cutD d l u
variable {Fl Fh : Ev → Rs (Option Int)} {tl th : TO}
/-- of a list looked at -/
def cutLD : Dt → Option Int → Option Int → Rs Dt
  | .lst ds, lo, hi => .ok (.lst (cutL ds lo hi))
  | .scr ds, lo, hi => .ok (.lst (cutL ds lo hi))
  | _, _, _ => .no
def slcLE (F : Ev → Rs Dt) (Fl Fh : Ev → Rs (Option Int)) (ρ : Ev) : Rs Dt := F ρ >>= fun d => Fl ρ >>= fun l => Fh ρ >>= fun u => cutLD d l u
/-! ### + of everything, list times int -/
theorem op_plus {X : Cx} : OpR X (binaryOp .Add) (fun x y H Q => rI0 (fun i j => .int (i + j)) x y H Q ∨ ((∃ i j, x = .str i ∧ y = .str j ∧ i.length + j.length ≤ sizeLine ∧ Q (.str (i ++ j)) H) ∨ (rCat x y H Q ∨ rCatA X.K x y H Q))) := op_add.or (op_add_str.or (op_cat.or op_catA))
@[irreducible] def lenSz (n : Nat) : Bool := decide (n ≤ 1000000)
theorem lenSz_le {n : Nat} (h : lenSz n = true) : n ≤ 1000000 := by
  unfold lenSz at h
  exact of_decide_eq_true h
def plusD : Dt → Dt → Rs Dt
  | .int i, .int j => .ok (.int (i + j))
  | .str i, .str j => if lenSz (i.length + j.length) = true then .ok (.str (i ++ j)) else .no
  | .lst a, .lst b => if lenSz (a.length + b.length) = true then .ok (.lst (a ++ b)) else .no
  | .tup a, .tup b => if lenSz (a.length + b.length) = true then .ok (.tup (a ++ b)) else .no
  | _, _ => .no
def plusE := op2E plusD
theorem lenSz_ok {n : Nat} (h : lenSz n = true) : n ≤ sizeLine := sz1000000 (lenSz_le h)
theorem Rps.nil_iff {K : PySem.W.Frag} {ca : Str → Addr} {ds : List Dt} {vs : List V} (h : Rps K ca H ds vs) : vs = [] ↔ ds = [] := by
  cases h with
  | nil => simp
  | cons _ _ => simp
theorem se_plus (ha : SemE J Γ (.o .F) Fa ta) (hb : SemE J Γ (.o .F) Fb tb) : SemE J Γ (.o .F) (plusE Fa Fb) (tOp (fun x y H Q => rI0 (fun i j => .int (i + j)) x y H Q ∨ ((∃ i j, x = .str i ∧ y = .str j ∧ i.length + j.length ≤ sizeLine ∧ Q (.str (i ++ j)) H) ∨ (rCat x y H Q ∨ rCatA J.K x y H Q))) ta tb) := fun {G0 H0 G H ρ σ Q} w p => by
  refine ha w (p.bind.imp (fun a _ p1 x G1 H1 _ e1 _ ra => ?_) fun _ q => q)
  refine hb (w.ext e1) (p1.bind.imp (fun b _ q y G2 H2 _ e2 _ rb => ?_) fun _ q H' dx s => q H' dx (e1.h.trans s))
  have e := e1.trans e2
  cases ra with
  | F ra =>
    cases rb with
    | F rb =>
      have ra := ra.mono e2.g
      cases ra with
      | int i =>
        cases rb with
        | int j => exact .inl ⟨i, j, rfl, rfl, q.of_ok _ G2 H2 Pno e Fr.no (.F (.int _))⟩
        | _ => cases q
      | str i =>
        cases rb with
        | str j =>
          by_cases c : lenSz (i.length + j.length) = true
          · have q : Rs.Post _ _ (if lenSz (i.length + j.length) = true then Rs.ok (Dt.str (i ++ j)) else Rs.no) := q
            rw [if_pos c] at q
            exact .inr (.inl ⟨i, j, rfl, rfl, lenSz_ok c, q.of_ok _ G2 H2 Pno e Fr.no (.F (.str _))⟩)
          · have q : Rs.Post _ _ (if lenSz (i.length + j.length) = true then Rs.ok (Dt.str (i ++ j)) else Rs.no) := q
            rw [if_neg c] at q; cases q
        | _ => cases q
      | @lst _ vs ds h1 h2 =>
        cases rb with
        | @lst _ us es k1 k2 =>
          by_cases c : lenSz (ds.length + es.length) = true
          · have q : Rs.Post _ _ (if lenSz (ds.length + es.length) = true then Rs.ok (Dt.lst (ds ++ es)) else Rs.no) := q
            rw [if_pos c] at q
            refine .inr (.inr (.inl ⟨_, _, _, _, rfl, rfl, e2.gh _ _ h1, e2.gh _ _ k1, by rw [← h2.length, ← k2.length]; exact lenSz_ok c, fun a ha => ?_⟩))
            obtain ⟨e4, f4, o4⟩ := new_lst e2.gh ha (h2.append k2)
            obtain ⟨G5, e5, r5, _⟩ := frz_ext e4 f4 o4
            exact q.of_ok _ _ _ Pno (e.trans e5) Fr.no (.F r5)
          · have q : Rs.Post _ _ (if lenSz (ds.length + es.length) = true then Rs.ok (Dt.lst (ds ++ es)) else Rs.no) := q
            rw [if_neg c] at q; cases q
        | _ => cases q
      | @tup _ vs ds h1 h2 =>
        cases rb with
        | @tup _ us es k1 k2 =>
          by_cases c : lenSz (ds.length + es.length) = true
          · have q : Rs.Post _ _ (if lenSz (ds.length + es.length) = true then Rs.ok (Dt.tup (ds ++ es)) else Rs.no) := q
            rw [if_pos c] at q
            refine .inr (.inr (.inr ⟨_, _, _, _, rfl, rfl, .of (e2.gh _ _ h1), .of (e2.gh _ _ k1), by rw [← h2.length, ← k2.length]; exact lenSz_ok c, fun z => ?_, fun z z2 => ?_, fun z z2 a ha => ?_⟩))
            · have z3 := h2.nil_iff.mp z
              subst z3
              exact q.of_ok _ G2 H2 Pno e Fr.no (.F (.tup k1 k2))
            · have z3 := k2.nil_iff.mp z2
              subst z3
              rw [List.append_nil] at q
              exact q.of_ok _ G2 H2 Pno e Fr.no (.F (.tup h1 h2))
            · obtain ⟨e4, o4⟩ := new_tup e2.gh ha (h2.append k2)
              exact q.of_ok _ _ _ Pno (e.trans e4) Fr.no (.F o4)
          · have q : Rs.Post _ _ (if lenSz (ds.length + es.length) = true then Rs.ok (Dt.tup (ds ++ es)) else Rs.no) := q
            rw [if_neg c] at q; cases q
        | _ => cases q
      | _ => cases rb <;> cases q
/-- list + list, looked at; list * int -/
def catD : Dt → Dt → Rs Dt
  | .lst a, .lst b => if lenSz (a.length + b.length) = true then .ok (.lst (a ++ b)) else .no
  | _, _ => .no
def catE := op2E catD
def repD : Dt → Dt → Rs Dt
  | .lst a, .int k => if (lenSz (a.length * k.toNat) && decide (k ≤ 1000000 ∧ -1000000 ≤ k)) = true then .ok (.lst (List.replicate k.toNat a).flatten) else .no
  | _, _ => .no
def repE := op2E repD
theorem S_lst {K : PySem.W.Frag} {ca : Str → Addr} {v : V} {P : Addr → Prop} {ds : List Dt} (h : Res K ca G H .S (.lst ds) v P) : ∃ a vs, v = .ref a ∧ H a = some (.lst vs) ∧ Rps K ca G ds vs := by
  obtain ⟨a, vs, e, sq, r⟩ := h.2 ds (.inl rfl)
  rcases sq with ⟨_, s⟩ | ⟨z, _⟩ | ⟨z, _⟩ <;> try cases z
  exact ⟨a, vs, e, s, r⟩
end
end Pm
namespace Pm
open PySem PySem.Spec PyProof.Rows L2 RZ RT
open Classical
/-! ### what is walked -/
structure Walk (K : PySem.W.Frag) (ca : Str → Addr) (J : It) (G : Hp) (ds : List Dt) : Prop where
  go : ∀ i d G1 H1, ds[i]? = some d → Same G G1 → Same G1 H1 → J.go i H1 ∧ ∀ x H2, J.yld i H1 x H2 → ∃ G2, Ext G1 H1 G2 H2 ∧ Rp K ca G2 d x
  stop : ∀ G1 H1, Same G G1 → Same G1 H1 → J.stop ds.length H1
def SemI (J : Jc) (Γ : List Mode) (F : Ev → Rs (List Dt)) (wi : TI) : Prop := ∀ ⦃G0 H0 G H : Hp⦄ ⦃ρ : Ev⦄ ⦃σ : L2.St⦄ ⦃R : It → Hp → Prop⦄, Wd J G0 H0 Γ ρ σ G H →
  Rs.Post (fun ds => ∀ it G' H', Ext G H G' H' → Walk J.K J.ca it G' ds → R it H') (fun c => ∀ H' dx, Same H H' → XR c dx H' → J.W (.ref (J.ca c.1)) dx σ H') (F ρ) → wi σ H R
section
variable {J : Jc} {Γ : List Mode} {em : EM} {m : Mode} {ms : List Mode} {F Fa Fb : Ev → Rs Dt} {Fs : List (Ev → Rs Dt)} {te ta tb : TE} {tr : TA} {G0 H0 G H G' H' : Hp} {ρ : Ev} {σ : L2.St}
theorem walk_list {K : PySem.W.Frag} {ca : Str → Addr} {a : Addr} {vs : List V} {ds : List Dt} (h : SqL K G a vs) (r : Rps K ca G ds vs) : Walk K ca (Itl K a) G ds := by
  refine ⟨fun i d G1 H1 e g1 g2 => ?_, fun G1 H1 g1 g2 => ⟨vs, g2.seq (g1.seq h), by rw [r.length]; exact Nat.le_refl _⟩⟩
  obtain ⟨v, hv, rv⟩ := r.get e
  refine ⟨⟨vs, v, g2.seq (g1.seq h), hv⟩, fun x H2 y => ?_⟩
  obtain ⟨y1, y2⟩ := y
  subst y1
  have z := y2 vs (g2.seq (g1.seq h))
  rw [hv] at z
  cases z
  exact ⟨G1, Ext.refl g2, rv.mono g1⟩
theorem walk_tup {K : PySem.W.Frag} {ca : Str → Addr} {a : Addr} {vs : List V} {ds : List Dt} (h : SqT K G a vs) (r : Rps K ca G ds vs) : Walk K ca (Itt K a) G ds := by
  refine ⟨fun i d G1 H1 e g1 g2 => ?_, fun G1 H1 g1 g2 => ⟨vs, g2.sqt (g1.sqt h), by rw [r.length]; exact Nat.le_refl _⟩⟩
  obtain ⟨v, hv, rv⟩ := r.get e
  refine ⟨⟨vs, v, g2.sqt (g1.sqt h), hv⟩, fun x H2 y => ?_⟩
  obtain ⟨y1, y2⟩ := y
  subst y1
  have z := y2 vs (g2.sqt (g1.sqt h))
  rw [hv] at z
  cases z
  exact ⟨G1, Ext.refl g2, rv.mono g1⟩
def seqI (F : Ev → Rs Dt) (ρ : Ev) : Rs (List Dt) := F ρ >>= fun d => match d with
  | .lst ds => .ok ds
  | .scr ds => .ok ds
  | .tup ds => .ok ds
  | _ => .no
/-- a list or a tuple walked -/
def iSeqA (K : PySem.W.Frag) (te : TE) : TI := fun σ H R => iList K te σ H R ∨ iTup K te σ H R
theorem pi_seqA {X : Cx} {tg e : Expr} {te : TE} (he : PE X e te) : PI X tg e (iSeqA X.K te) := by
  refine ⟨fun pins s σ H R I h => ?_⟩
  rcases h with h | h
  · exact (pi_list he).run pins s σ H R I h
  · exact (pi_tup he).run pins s σ H R I h
def tupI (F : Ev → Rs Dt) (ρ : Ev) : Rs (List Dt) := F ρ >>= fun d => match d with
  | .tup ds => .ok ds
  | _ => .no
theorem si_seq (h : SemE J Γ (.o .F) F te) : SemI J Γ (seqI F) (iSeqA J.K te) := fun {G0 H0 G H ρ σ R} w p => by
  cases z : F ρ with
  | ex c =>
    refine .inl (h w ?_)
    unfold seqI at p
    rw [z] at p ⊢
    cases p with
    | ex p => exact .ex p
  | no => unfold seqI at p; rw [z] at p; cases p
  | ok d =>
    unfold seqI at p
    rw [z] at p
    cases d with
    | lst ds =>
      refine .inl (h w ?_)
      rw [z]
      exact .ok fun v G1 H1 P1 e1 _ r1 => by
        cases r1 with
        | F r1 =>
          cases r1 with
          | lst h1 h2 => exact ⟨_, rfl, ⟨_, .of (e1.gh _ _ h1)⟩, Rs.Post.of_ok p _ G1 H1 e1 (walk_list (.of h1) h2)⟩
    | scr ds =>
      refine .inl (h w ?_)
      rw [z]
      exact .ok fun v G1 H1 P1 e1 _ r1 => by
        cases r1 with
        | F r1 =>
          cases r1 with
          | scr h1 h2 => exact ⟨_, rfl, ⟨_, e1.gh.seq h1⟩, Rs.Post.of_ok p _ G1 H1 e1 (walk_list h1 h2)⟩
    | tup ds =>
      refine .inr (h w ?_)
      rw [z]
      exact .ok fun v G1 H1 P1 e1 _ r1 => by
        cases r1 with
        | F r1 =>
          cases r1 with
          | tup h1 h2 => exact ⟨_, rfl, ⟨_, .of (e1.gh _ _ h1)⟩, Rs.Post.of_ok p _ G1 H1 e1 (walk_tup (.of h1) h2)⟩
    | _ => cases p
/-- ranges -/
def rangeL (lo : Int) (n : Nat) : List Dt := (List.range n).map fun i => Dt.int (lo + (i : Nat))
theorem walk_range {K : PySem.W.Frag} {ca : Str → Addr} (lo : Int) (n : Nat) : Walk K ca (Itr lo n) G (rangeL lo n) := by
  have hl : (rangeL lo n).length = n := by unfold rangeL; rw [List.length_map, List.length_range]
  refine ⟨fun i d G1 H1 e g1 g2 => ?_, fun G1 H1 g1 g2 => by rw [hl]; exact Nat.le_refl _⟩
  have hi : i < n := by have := (List.getElem?_eq_some_iff.mp e).1; rw [hl] at this; exact this
  refine ⟨hi, fun x H2 y => ?_⟩
  obtain ⟨y1, y2⟩ := y
  subst y1 y2
  have z : d = .int (lo + (i : Nat)) := by
    unfold rangeL at e
    rw [List.getElem?_map, List.getElem?_range hi] at e
    exact (Option.some.inj e).symm
  subst z
  exact ⟨G1, Ext.refl g2, .int _⟩
@[irreducible] def intSz (i : Int) : Bool := decide (-1000000000 ≤ i ∧ i ≤ 1000000000)
theorem intSz_ok {i : Int} (h : intSz i = true) : -1000000000 ≤ i ∧ i ≤ 1000000000 := by
  unfold intSz at h
  exact of_decide_eq_true h
def rng1I (Fs : List (Ev → Rs Dt)) (ρ : Ev) : Rs (List Dt) := argsE Fs ρ >>= fun ds => match ds with
  | [.int j] => if intSz j = true then .ok (rangeL 0 j.toNat) else .no
  | _ => .no
def rng2I (Fs : List (Ev → Rs Dt)) (ρ : Ev) : Rs (List Dt) := argsE Fs ρ >>= fun ds => match ds with
  | [.int i, .int j] => if (intSz i && intSz j) = true then .ok (rangeL i (j - i).toNat) else .no
  | _ => .no
theorem Rps.one {K : PySem.W.Frag} {ca : Str → Addr} {d : Dt} {vs : List V} (h : Rps K ca H [d] vs) : ∃ v, vs = [v] ∧ Rp K ca H d v := by
  cases h with
  | cons h1 h2 => cases h2; exact ⟨_, rfl, h1⟩
theorem Rps.two {K : PySem.W.Frag} {ca : Str → Addr} {d e : Dt} {vs : List V} (h : Rps K ca H [d, e] vs) : ∃ v u, vs = [v, u] ∧ Rp K ca H d v ∧ Rp K ca H e u := by
  cases h with
  | cons h1 h2 =>
    obtain ⟨u, rfl, h3⟩ := h2.one
    exact ⟨_, u, rfl, h1, h3⟩
theorem si_rng1 (h : SemBs J Γ Fs tr) : SemI J Γ (rng1I Fs) (iRng1 tr) := fun {G0 H0 G H ρ σ R} w p => by
  refine h w (p.bind.imp (fun ds _ q vs G1 H1 e1 r1 => ?_) fun _ q => q)
  split at q
  · rename_i j hj
    obtain ⟨v, rfl, r⟩ := r1.one
    cases r
    by_cases c : intSz j = true
    · rw [if_pos c] at q
      have c := intSz_ok c
      exact ⟨j, rfl, by omega, by omega, q.of_ok _ G1 H1 e1 (walk_range 0 _)⟩
    · rw [if_neg c] at q; cases q
  · cases q
/-- zip of two tuples, of two lists, as long as each other -/
def zipL : List Dt → List Dt → List Dt
  | a :: as, b :: bs => .tup [a, b] :: zipL as bs
  | _, _ => []
theorem walk_pairs {K : PySem.W.Frag} {ca : Str → Addr} {J : It} {ds : List Dt} (hgo : ∀ i d G1 H1, ds[i]? = some d → Same G G1 → Same G1 H1 → J.go i H1 ∧ ∀ x H2, J.yld i H1 x H2 → ∃ T a b u v, d = .tup [a, b] ∧ x = .ref T ∧ H1 T = none ∧ H2 = upd H1 T (.tup [u, v]) ∧ Rp K ca G1 a u ∧ Rp K ca G1 b v)
    (hs : ∀ G1 H1, Same G G1 → Same G1 H1 → J.stop ds.length H1) : Walk K ca J G ds := by
  refine ⟨fun i d G1 H1 e g1 g2 => ?_, hs⟩
  obtain ⟨h1, h2⟩ := hgo i d G1 H1 e g1 g2
  refine ⟨h1, fun x H2 y => ?_⟩
  obtain ⟨T, a, b, u, v, rfl, rfl, hT, rfl, ra, rb⟩ := h2 x H2 y
  obtain ⟨e2, o2⟩ := new_tup g2 hT (.cons ra (.cons rb .nil))
  exact ⟨_, e2, o2⟩
def zipI (Fs : List (Ev → Rs Dt)) (ρ : Ev) : Rs (List Dt) := argsE Fs ρ >>= fun ds => match ds with
  | [.lst a, .lst b] => .ok (zipL a b)
  | [.tup a, .tup b] => .ok (zipL a b)
  | _ => .no
/-- enumerate of a list -/
def enumL : Nat → List Dt → List Dt
  | _, [] => []
  | n, d :: ds => .tup [.int (n : Nat), d] :: enumL (n + 1) ds
theorem enumL_length : ∀ {n : Nat} {ds : List Dt}, (enumL n ds).length = ds.length
  | _, [] => rfl
  | n, d :: ds => by rw [enumL, List.length_cons, List.length_cons, enumL_length]
theorem enumL_get : ∀ {n : Nat} {ds : List Dt} {i : Nat} {d : Dt}, (enumL n ds)[i]? = some d → ∃ a, ds[i]? = some a ∧ d = .tup [.int ((n + i : Nat) : Int), a]
  | _, [], i, d, h => by simp [enumL] at h
  | n, a :: ds, 0, d, h => by
    have : Dt.tup [.int (n : Nat), a] = d := by simpa [enumL] using h
    exact ⟨a, rfl, this.symm⟩
  | n, a :: ds, i + 1, d, h => by
    obtain ⟨x, h1, h2⟩ := enumL_get (n := n + 1) (ds := ds) (i := i) (by simpa [enumL] using h)
    refine ⟨x, by simpa using h1, ?_⟩
    rw [h2]
    congr 3
    omega
def enumI (Fs : List (Ev → Rs Dt)) (ρ : Ev) : Rs (List Dt) := argsE Fs ρ >>= fun ds => match ds with
  | [.lst a] => .ok (enumL 0 a)
  | [.scr a] => .ok (enumL 0 a)
  | _ => .no
theorem walk_enum {K : PySem.W.Frag} {ca : Str → Addr} {a : Addr} {vs : List V} {ds : List Dt} (h : SqL K G a vs) (r : Rps K ca G ds vs) : Walk K ca (Ite K a) G (enumL 0 ds) := by
  refine walk_pairs (fun i d G1 H1 e g1 g2 => ?_) fun G1 H1 g1 g2 => ⟨vs, g2.seq (g1.seq h), by rw [enumL_length, r.length]; exact Nat.le_refl _⟩
  obtain ⟨x, e1, rfl⟩ := enumL_get e
  obtain ⟨v, hv, rv⟩ := r.get e1
  refine ⟨⟨vs, v, g2.seq (g1.seq h), hv⟩, fun z H2 q => ?_⟩
  obtain ⟨T, x', q1, q2, q3, q4⟩ := q
  have z4 := q4 vs (g2.seq (g1.seq h))
  rw [hv] at z4
  cases z4
  exact ⟨T, _, x, _, v, rfl, q1, q2, q3, by rw [Nat.zero_add]; exact .int _, rv.mono g1⟩
theorem si_enum (h : SemZ J Γ [.F] Fs tr) : SemI J Γ (enumI Fs) (iEnum J.K tr) := fun {G0 H0 G H ρ σ R} w p => by
  refine h w (p.bind.imp (fun ds _ q vs G1 H1 P1 e1 _ o1 => ?_) fun _ q => q)
  have r1 := o1.allF rfl
  split at q
  · obtain ⟨v, rfl, r⟩ := r1.one
    cases r with
    | lst h1 h2 => exact ⟨_, _, rfl, .of (e1.gh _ _ h1), q.of_ok _ G1 H1 e1 (walk_enum (.of h1) h2)⟩
  · obtain ⟨v, rfl, r⟩ := r1.one
    cases r with
    | scr h1 h2 => exact ⟨_, _, rfl, e1.gh.seq h1, q.of_ok _ G1 H1 e1 (walk_enum h1 h2)⟩
  · cases q
/-- reversed -/
def revI (F : Ev → Rs Dt) (ρ : Ev) : Rs (List Dt) := F ρ >>= fun d => match d with
  | .lst ds => .ok ds.reverse
  | .tup ds => .ok ds.reverse
  | _ => .no
end
end Pm
namespace Pm
open PySem PySem.Spec PyProof.Rows L2
open Classical
/-! ### targets -/
def SemG (J : Jc) (Γ : List Mode) (vs : List Nat) (FG : Dt → Ev → Option Ev) (g : TG) : Prop := ∀ ⦃G0 H0 G H : Hp⦄ ⦃ρ ρ' : Ev⦄ ⦃σ : L2.St⦄ ⦃Q : L2.St → Hp → Prop⦄ ⦃d : Dt⦄ ⦃v : V⦄, Wd J G0 H0 Γ ρ σ G H → Rp J.K J.ca G d v → FG d ρ = some ρ' →
  (∀ σ', wipe σ' vs = wipe σ vs → Wd J G0 H0 Γ ρ' σ' G H → Q σ' H) → g v σ H Q
def SemGs (J : Jc) (Γ : List Mode) (vs : List Nat) (FG : List Dt → Ev → Option Ev) (g : TGs) : Prop := ∀ ⦃G0 H0 G H : Hp⦄ ⦃ρ ρ' : Ev⦄ ⦃σ : L2.St⦄ ⦃Q : L2.St → Hp → Prop⦄ ⦃ds : List Dt⦄ ⦃us : List V⦄, Wd J G0 H0 Γ ρ σ G H → Rps J.K J.ca G ds us → FG ds ρ = some ρ' →
  (∀ σ', wipe σ' vs = wipe σ vs → Wd J G0 H0 Γ ρ' σ' G H → Q σ' H) → g us σ H Q
def nameG (i : Nat) (d : Dt) (ρ : Ev) : Option Ev := some (ρ.set i (some d))
def nilG : List Dt → Ev → Option Ev
  | [], ρ => some ρ
  | _, _ => none
def consG (f : Dt → Ev → Option Ev) (fs : List Dt → Ev → Option Ev) : List Dt → Ev → Option Ev
  | d :: ds, ρ => (f d ρ).bind fun ρ1 => fs ds ρ1
  | [], _ => none
def tupG (n : Nat) (fs : List Dt → Ev → Option Ev) (d : Dt) (ρ : Ev) : Option Ev := match d with
  | .tup ds => if ds.length = n then fs ds ρ else none
  | _ => none
theorem wipe_in {σ : L2.St} {i : Nat} : ∀ {vs : List Nat}, i ∈ vs → (wipe σ vs)[i]? = if i < σ.length then some none else none
  | [], h => by cases h
  | v :: vs, h => by
    show ((wipe σ vs).set v none)[i]? = _
    by_cases e : v = i
    · subst e
      rw [List.getElem?_set, wipe_length]
      simp
    · rw [List.getElem?_set_ne e]
      rcases List.mem_cons.mp h with q | q
      · exact absurd q.symm e
      · exact wipe_in q
theorem wipe_ext {σ τ : L2.St} {vs : List Nat} (hl : σ.length = τ.length) (h : ∀ j, j ∉ vs → σ[j]? = τ[j]?) : wipe σ vs = wipe τ vs := by
  refine List.ext_getElem? fun j => ?_
  by_cases hj : j ∈ vs
  · rw [wipe_in hj, wipe_in hj, hl]
  · rw [wipe_out hj, wipe_out hj]
    exact h j hj
theorem wipe_set {σ : L2.St} {i : Nat} {x : Option V} {vs : List Nat} (h : i ∈ vs) : wipe (σ.set i x) vs = wipe σ vs :=
  wipe_ext (List.length_set ..) fun j hj => List.getElem?_set_ne fun e => hj (by rw [← e]; exact h)
theorem wipe_wipe {σ : L2.St} {vs : List Nat} : wipe (wipe σ vs) vs = wipe σ vs := wipe_ext (wipe_length _ _) fun j hj => wipe_out hj
def wipeE (ρ : Ev) : List Nat → Ev
  | [] => ρ
  | v :: vs => (wipeE ρ vs).set v none
theorem wipeE_length (ρ : Ev) : ∀ vs : List Nat, (wipeE ρ vs).length = ρ.length
  | [] => rfl
  | v :: vs => by unfold wipeE; rw [List.length_set, wipeE_length ρ vs]
theorem wipeE_some {ρ : Ev} {i : Nat} {x : Dt} : ∀ {vs : List Nat}, (wipeE ρ vs)[i]? = some (some x) → ρ[i]? = some (some x) ∧ i ∉ vs
  | [], h => ⟨h, by simp⟩
  | v :: vs, h => by
    unfold wipeE at h
    by_cases hi : v = i
    · subst hi
      by_cases hv : v < (wipeE ρ vs).length
      · rw [List.getElem?_set_self hv] at h; cases h
      · rw [List.getElem?_eq_none (by simpa using hv)] at h; cases h
    · rw [List.getElem?_set_ne hi] at h
      obtain ⟨h1, h2⟩ := wipeE_some h
      exact ⟨h1, by simp only [List.mem_cons, not_or]; exact ⟨fun e => hi e.symm, h2⟩⟩
section
variable {J : Jc} {Γ : List Mode} {em : EM} {m : Mode} {ms : List Mode} {F Fa Fb : Ev → Rs Dt} {Fs : List (Ev → Rs Dt)} {te ta tb : TE} {tr : TA} {G0 H0 G H G' H' : Hp} {ρ : Ev} {σ : L2.St} {vs : List Nat}
theorem Wd.nw (w : Wd J G0 H0 Γ ρ σ G H) : Wd J.nw G0 H0 Γ ρ σ G H := ⟨w.x, w.lg, w.lr, w.env, (fun _ _ h => nomatch h), w.xk⟩
theorem Wd.wipe (w : Wd J G0 H0 Γ ρ σ G H) (vs : List Nat) (hp : J.pin = []) : Wd J G0 H0 Γ (wipeE ρ vs) (L2.wipe σ vs) G H := by
  obtain ⟨Pf, h1, h2, h3⟩ := w.env
  refine ⟨w.x, by rw [wipeE_length]; exact w.lg, by rw [wipeE_length, wipe_length]; exact w.lr, ⟨Pf, h1, h2, fun i d q => ?_⟩, (fun _ v h => by rw [hp] at h; cases h), w.xk⟩
  obtain ⟨q1, q2⟩ := wipeE_some q
  obtain ⟨v, m, s1, s2, s3⟩ := h3 i d q1
  exact ⟨v, m, by rw [wipe_out q2]; exact s1, s2, s3⟩
theorem set_same {Γ : List Mode} {i : Nat} (h : Γ[i]? = some m) : Γ.set i m = Γ := by
  refine List.ext_getElem? fun j => ?_
  rw [List.getElem?_set]
  split
  · rename_i e
    subst e
    have hl := (List.getElem?_eq_some_iff.mp h).1
    rw [if_pos hl, h]
  · rfl
theorem sg_name {i : Nat} (hm : Γ[i]? = some .F := by rfl) (hv : i ∈ vs := by decide) (hp : J.free i := by rfl) : SemG J Γ vs (nameG i) (gName i) := fun {G0 H0 G H ρ ρ' σ Q d v} w r e k => by
  cases e
  have w2 := w.set (Ext.refl w.gh) (.F (P := Pno) r) (Fr.no (G := G)) i hp
  rw [set_same hm] at w2
  exact k _ (wipe_set hv) w2
theorem sgs_nil : SemGs J Γ vs nilG gNil := fun {G0 H0 G H ρ ρ' σ Q ds us} w r e k => by
  cases ds with
  | nil =>
    cases e
    cases r
    exact ⟨rfl, k σ rfl w⟩
  | cons _ _ => cases e
theorem sgs_cons {f : Dt → Ev → Option Ev} {fs : List Dt → Ev → Option Ev} {g : TG} {gs : TGs} (h : SemG J Γ vs f g) (k : SemGs J Γ vs fs gs) : SemGs J Γ vs (consG f fs) (gCons g gs) := fun {G0 H0 G H ρ ρ' σ Q ds us} w r e l => by
  cases ds with
  | nil => cases e
  | cons d ds =>
    cases r with
    | cons r1 r2 =>
      have e : (f d ρ).bind (fun ρ1 => fs ds ρ1) = some ρ' := e
      cases q : f d ρ with
      | none => rw [q] at e; cases e
      | some ρ1 =>
        rw [q] at e
        refine ⟨_, _, rfl, h w r1 q fun σ1 z w1 => ?_⟩
        exact k w1 r2 e fun σ2 z2 w2 => l σ2 (z2.trans z) w2
theorem sg_tup {n : Nat} {fs : List Dt → Ev → Option Ev} {gs : TGs} (k : SemGs J Γ vs fs gs) : SemG J Γ vs (tupG n fs) (gTup J.K n gs) := fun {G0 H0 G H ρ ρ' σ Q d v} w r e l => by
  cases r with
  | @tup a us ds h1 h2 =>
    have e : (if ds.length = n then fs ds ρ else none) = some ρ' := e
    split at e
    · rename_i hn
      exact ⟨_, _, rfl, .of (w.gh _ _ h1), by rw [← h2.length]; exact hn, k w h2 e l⟩
    · cases e
  | _ => cases e
/-! ### comprehensions -/
def compL (FG : Dt → Ev → Option Ev) (Ft : Ev → Rs Bool) (Fe : Ev → Rs Dt) (ρ : Ev) : List Dt → Rs (List Dt)
  | [] => .ok []
  | d :: ds => match FG d ρ with
    | none => .no
    | some ρ1 => Ft ρ1 >>= fun b => if b = true then Fe ρ1 >>= fun y => compL FG Ft Fe ρ ds >>= fun ys => .ok (y :: ys) else compL FG Ft Fe ρ ds
def noEx {α : Type} : Rs α → Rs α
  | .ok a => .ok a
  | _ => .no
def compE (Fi : Ev → Rs (List Dt)) (vs : List Nat) (FG : Dt → Ev → Option Ev) (Ft : Ev → Rs Bool) (Fe : Ev → Rs Dt) (ρ : Ev) : Rs Dt := Fi ρ >>= fun ds => if lenSz ds.length = true then noEx (compL FG Ft Fe (wipeE ρ vs) ds) >>= fun ys => .ok (.lst ys) else .no
def yesT (_ : Ev) : Rs Bool := .ok true
theorem st_yes : SemT J Γ yesT tYes := fun {G0 H0 G H ρ σ Q} w p => p.of_ok G H (Ext.refl w.gh)
theorem Ows.append {K : PySem.W.Frag} {ca : Str → Addr} : ∀ {ds : List Dt} {es : List Dt} {ms ns : List Mode} {vs us : List V} {P1 P2 P : Addr → Prop}, Ows K ca G H ms ds vs P1 → Ows K ca G H ns es us P2 → (∀ b, P1 b → P b) → (∀ b, P2 b → P b) → (∀ b, P1 b → ¬ P2 b) → Ows K ca G H (ms ++ ns) (ds ++ es) (vs ++ us) P
  | [], es, ms, ns, vs, us, P1, P2, P, h, k, q1, q2, q3 => by
    cases h
    exact k.weaken q2
  | d :: ds, es, ms, ns, vs, us, P1, P2, P, h, k, q1, q2, q3 => by
    cases h with
    | @cons _ _ _ _ _ _ _ A B h1 h2 r1 r2 r3 =>
      refine .cons (P1 := A) (P2 := fun b => B b ∨ P2 b) h1 (Ows.append h2 k (fun _ => .inl) (fun _ => .inr) fun b hb => q3 b (r2 b hb)) (fun b hb => q1 b (r1 b hb)) (fun b hb => hb.elim (fun z => q1 b (r2 b z)) (q2 b)) fun b hb z => ?_
      rcases z with z | z
      · exact r3 b hb z
      · exact q3 b (r1 b hb) z
theorem Ext.mut {p : Addr} {o : HO} (e : Ext G H G' H') (hp : H p = none) (hg : G' p = none) : Ext G H G' (L2.upd H' p o) := by
  refine ⟨e.g, fun a u q => ?_, fun a u q => ?_, e.base⟩
  · rw [upd_ne fun z => by rw [z, hp] at q; cases q]
    exact e.h a u q
  · rw [upd_ne fun z => by rw [z, hg] at q; cases q]
    exact e.gh a u q
theorem bind_ok {α β : Type} {r : Rs α} {f : α → Rs β} {b : β} (h : (r >>= f) = .ok b) : ∃ a, r = .ok a ∧ f a = .ok b := by
  cases r with
  | ok a => exact ⟨a, rfl, h⟩
  | ex c => cases h
  | no => cases h
theorem noEx_ok {α : Type} {r : Rs α} {a : α} (h : noEx r = .ok a) : r = .ok a := by
  cases r with
  | ok b => exact h
  | ex c => cases h
  | no => cases h
variable {Fi : Ev → Rs (List Dt)} {wi : TI} {FG : Dt → Ev → Option Ev} {g : TG} {Ft : Ev → Rs Bool} {tt : TT} {Fe : Ev → Rs Dt}
/-- what is walked, from here on -/
structure WalkX (K : PySem.W.Frag) (ca : Str → Addr) (it : It) (G H : Hp) (ds : List Dt) : Prop where
  go : ∀ i d G1 H1, ds[i]? = some d → Ext G H G1 H1 → it.go i H1 ∧ ∀ x H2, it.yld i H1 x H2 → ∃ G2, Ext G1 H1 G2 H2 ∧ Rp K ca G2 d x
  stop : ∀ G1 H1, Ext G H G1 H1 → it.stop ds.length H1
def SemIX (J : Jc) (Γ : List Mode) (F : Ev → Rs (List Dt)) (wi : TI) : Prop := ∀ ⦃G0 H0 G H : Hp⦄ ⦃ρ : Ev⦄ ⦃σ : L2.St⦄ ⦃R : It → Hp → Prop⦄, Wd J G0 H0 Γ ρ σ G H →
  Rs.Post (fun ds => ∀ it G' H', Ext G H G' H' → WalkX J.K J.ca it G' H' ds → R it H') (fun c => ∀ H' dx, Same H H' → XR c dx H' → J.W (.ref (J.ca c.1)) dx σ H') (F ρ) → wi σ H R
theorem six (h : SemI J Γ Fi wi) : SemIX J Γ Fi wi := fun {G0 H0 G H ρ σ R} w p => h w (p.imp (fun ds _ q it G1 H1 e1 wk => q it G1 H1 e1 ⟨fun i d G2 H2 e E => wk.go i d G2 H2 e E.g E.gh, fun G2 H2 E => wk.stop G2 H2 E.g E.gh⟩) fun _ q => q)
theorem se_comp (hi : SemIX J Γ Fi wi) (hg : SemG J.nw Γ vs FG g) (ht : SemT J.nw Γ Ft tt) (he : SemE J.nw Γ (.o m) Fe te) : SemE J Γ (.o (.L m)) (compE Fi vs FG Ft Fe) (tLc wi g tt te vs) := fun {G0 H0 G H ρ σ Q} w p => by
  refine hi w (p.bind.imp (fun ds _ q it G1 H1 e1 wk D hD => ?_) fun _ q => q)
  by_cases c : lenSz ds.length = true
  case neg => rw [if_neg c] at q; cases q
  rw [if_pos c] at q
  have c := lenSz_le c
  cases hn : noEx (compL FG Ft Fe (wipeE ρ vs) ds) with
  | ex z => rw [hn] at q; cases hz : compL FG Ft Fe (wipeE ρ vs) ds <;> rw [hz] at hn <;> cases hn
  | no => rw [hn] at q; cases q
  | ok total =>
  rw [hn, ok_bind] at q
  have hn := noEx_ok hn
  have fin := q.of_ok
  let St : Nat → Hp → Prop := fun i Hi => ∃ (G2 : Hp) (aD : List Dt) (aV : List V) (P : Addr → Prop) (ys : List Dt), Ext G1 H1 G2 Hi ∧ Hi D = some (.lst aV) ∧ G2 D = none ∧ Ows J.K J.ca G2 Hi (List.replicate aD.length m) aD aV P ∧ (∀ b, P b → G2 b = none ∧ H1 b = none ∧ Hi b ≠ none ∧ b ≠ D) ∧
    aD.length ≤ i ∧ compL FG Ft Fe (wipeE ρ vs) (ds.drop i) = .ok ys ∧ aD ++ ys = total
  refine ⟨fun i n Hi => n = ds.length - i ∧ i ≤ ds.length ∧ St i Hi, ⟨ds.length, by simp, Nat.zero_le _, G1, [], [], Pno, total, ?_, upd_same, e1.gh.free hD, .nil, fun _ z => z.elim, Nat.le_refl _, by simpa using hn, rfl⟩, ?_⟩
  · exact (Ext.refl e1.gh).mut hD (e1.gh.free hD)
  rintro i n Hi ⟨rfl, hi, G2, aD, aV, P, ys, E, hDi, gD, own, pr, la, hc, tot⟩
  by_cases hlt : i < ds.length
  case neg =>
    have ei : i = ds.length := by omega
    subst ei
    refine .inl ⟨wk.stop G2 Hi E, ?_⟩
    have z : compL FG Ft Fe (wipeE ρ vs) (ds.drop ds.length) = .ok [] := by rw [List.drop_length]; rfl
    rw [z] at hc
    cases hc
    rw [List.append_nil] at tot
    subst tot
    refine fin _ G2 Hi (fun b => b = D ∨ P b) (e1.trans E) (fun b hb => ?_) (.L hDi gD (.inl rfl) (own.weaken fun b hb => ⟨.inr hb, (pr b hb).2.2.2⟩))
    rcases hb with rfl | hb
    · exact ⟨gD, e1.h.free hD, by rw [hDi]; exact fun z => by cases z⟩
    · exact ⟨(pr b hb).1, e1.h.free (pr b hb).2.1, (pr b hb).2.2.1⟩
  obtain ⟨go, step⟩ := wk.go i ds[i] G2 Hi (by simp [hlt]) E
  refine .inr ⟨go, fun H' => ∃ m', m' < ds.length - i ∧ (m' = ds.length - (i + 1) ∧ i + 1 ≤ ds.length ∧ St (i + 1) H'), fun H' z => z, fun x H3 y => ?_⟩
  obtain ⟨G3, e3, rx⟩ := step x H3 y
  have hdrop : ds.drop i = ds[i] :: ds.drop (i + 1) := List.drop_eq_getElem_cons hlt
  rw [hdrop] at hc
  have hc : (match FG ds[i] (wipeE ρ vs) with
    | none => Rs.no
    | some ρ1 => Ft ρ1 >>= fun b => if b = true then Fe ρ1 >>= fun y => compL FG Ft Fe (wipeE ρ vs) (ds.drop (i + 1)) >>= fun ys => .ok (y :: ys) else compL FG Ft Fe (wipeE ρ vs) (ds.drop (i + 1))) = .ok ys := hc
  cases hF : FG ds[i] (wipeE ρ vs) with
  | none => rw [hF] at hc; cases hc
  | some ρ1 =>
  rw [hF] at hc
  obtain ⟨b, hb, hc⟩ := bind_ok hc
  have w3 : Wd J.nw G0 H0 Γ (wipeE ρ vs) (L2.wipe σ vs) G3 H3 := ((w.ext e1).ext (E.trans e3)).nw.wipe vs rfl
  refine hg w3 rx hF fun σ2 hw w4 => ⟨hw.trans wipe_wipe, ?_⟩
  refine ht w4 ?_
  rw [hb]
  refine .ok fun G4 H4 e4 => ?_
  have E4 : Ext G1 H1 G4 H4 := (E.trans e3).trans e4
  have carry : ∀ {G5 H5 : Hp}, Ext G2 Hi G5 H5 → Ows J.K J.ca G5 H5 (List.replicate aD.length m) aD aV P ∧ (∀ b, P b → G5 b = none ∧ H1 b = none ∧ H5 b ≠ none ∧ b ≠ D) := fun {G5 H5} e5 =>
    ⟨own.carry e5.g fun b hb => ⟨e5.h.at (pr b hb).2.2.1, by rw [e5.base b (pr b hb).2.2.1]; exact (pr b hb).1⟩, fun b hb => ⟨by rw [e5.base b (pr b hb).2.2.1]; exact (pr b hb).1, (pr b hb).2.1, e5.h.nn (pr b hb).2.2.1, (pr b hb).2.2.2⟩⟩
  have hDi0 : Hi D ≠ none := by rw [hDi]; exact fun z => by cases z
  cases b with
  | false =>
    obtain ⟨o4, p4⟩ := carry (e3.trans e4)
    show ∃ m', _
    refine ⟨ds.length - (i + 1), by omega, rfl, hlt, G4, aD, aV, P, ys, E4, (e3.trans e4).h _ _ hDi, by rw [(e3.trans e4).base D hDi0]; exact gD, o4, p4, by omega, hc, tot⟩
  | true =>
    show te σ2 H4 _
    have hc : (Fe ρ1 >>= fun y => compL FG Ft Fe (wipeE ρ vs) (ds.drop (i + 1)) >>= fun ys => .ok (y :: ys)) = .ok ys := hc
    obtain ⟨yD, hy, hc⟩ := bind_ok hc
    obtain ⟨ys2, hys, hc⟩ := bind_ok hc
    cases hc
    refine he (w4.ext e4) ?_
    rw [hy]
    refine .ok fun v G5 H5 P5 e5 f5 o5 => ?_
    have e25 := (e3.trans e4).trans e5
    obtain ⟨o6, p6⟩ := carry e25
    have hD5 : H5 D = some (.lst aV) := e25.h _ _ hDi
    have gD5 : G5 D = none := by rw [e25.base D hDi0]; exact gD
    refine ⟨aV, hD5, ?_, ds.length - (i + 1), by omega, rfl, hlt, G5, aD ++ [yD], aV ++ [v], fun b => P b ∨ P5 b, ys2, (E.trans e25).mut hD gD5, upd_same, gD5, ?_, fun b hb => ?_, by rw [List.length_append, List.length_singleton]; omega, hys, by rw [List.append_assoc]; exact tot⟩
    · rw [← own.len.1]
      exact Nat.lt_of_lt_of_le (Nat.lt_of_le_of_lt la hlt) (sz1000000 c)
    · rw [List.length_append, List.length_singleton, List.replicate_succ']
      have nD5 : ∀ b, P5 b → b ≠ D := fun b hb z => by
        have := (f5 b hb).2.1
        rw [z, (e3.trans e4).h _ _ hDi] at this
        cases this
      refine Ows.append (P1 := P) (P2 := P5) (o6.carry (Same.refl _) fun b hb => ⟨upd_ne (p6 b hb).2.2.2, (p6 b hb).1⟩) (.cons (P1 := P5) (P2 := Pno) (o5.carry (Same.refl _) fun b hb => ⟨upd_ne (nD5 b hb), (f5 b hb).1⟩) .nil (fun _ z => z) (fun _ z => z.elim) (fun _ _ z => z)) (fun _ => .inl) (fun _ => .inr) fun b h1 h2 => ?_
      exact (pr b h1).2.2.1 ((e3.trans e4).h.free (f5 b h2).2.1)
    · rcases hb with hb | hb
      · obtain ⟨a1, a2, a3, a4⟩ := p6 b hb
        exact ⟨a1, a2, by rw [upd_ne a4]; exact a3, a4⟩
      · have nb : b ≠ D := fun z => by
          have := (f5 b hb).2.1
          rw [z, (e3.trans e4).h _ _ hDi] at this
          cases this
        exact ⟨(f5 b hb).1, E4.h.free (f5 b hb).2.1, by rw [upd_ne nb]; exact (f5 b hb).2.2, nb⟩
end
end Pm
namespace Pm
open PySem PySem.Spec PyProof.Rows L2
open Classical
/-! ### statements -/
inductive Ot where
  | nx (ρ : Ev) | rt (d : Dt) | bk (ρ : Ev) | ct (ρ : Ev) | ex (c : Xn) (ρ : Ev) | no
/-- what is told at a return: the value; where objects are lent, these too -/
def RtR (J : Jc) (G H : Hp) (d : Dt) (v : V) (P : Addr → Prop) : Prop := match J.ln with
  | [] => Ow J.K J.ca G H J.mr d v P
  | x :: l => ∃ r ds, d = .tup (r :: ds) ∧ Ows J.K J.ca G H (J.mr :: (x :: l).map fun y => y.2.1) (r :: ds) (v :: (x :: l).map fun y => y.2.2) P
theorem RtR.of {J : Jc} {G H : Hp} {d : Dt} {v : V} {P : Addr → Prop} (h : J.ln = []) (o : Ow J.K J.ca G H J.mr d v P) : RtR J G H d v P := by
  unfold RtR
  rw [h]
  exact o
inductive PostS (J : Jc) (G0 H0 Gs : Hp) (Γ' : List Mode) (D : Ends) : Ot → Prop where
  | nx {ρ' : Ev} : (∀ σ' G' H', Same Gs G' → Wd J G0 H0 Γ' ρ' σ' G' H' → D.nx σ' H') → PostS J G0 H0 Gs Γ' D (.nx ρ')
  | rt {d : Dt} : (∀ v G' H' P, Ext G0 H0 G' H' → Fr G' H0 H' P → RtR J G' H' d v P → D.rt v H') → PostS J G0 H0 Gs Γ' D (.rt d)
  | bk {ρ' : Ev} : (∀ σ' G' H', Same Gs G' → Wd J G0 H0 J.gb ρ' σ' G' H' → D.bk σ' H') → PostS J G0 H0 Gs Γ' D (.bk ρ')
  | ct {ρ' : Ev} : (∀ σ' G' H', Same Gs G' → Wd J G0 H0 J.gb ρ' σ' G' H' → D.ct σ' H') → PostS J G0 H0 Gs Γ' D (.ct ρ')
  | ex {c : Xn} {ρ' : Ev} : (∀ dx σ' H', Same H0 H' → XR c dx H' → (∀ Γ1, J.gx = some Γ1 → ∃ G', Same Gs G' ∧ Wd J G0 H0 Γ1 ρ' σ' G' H') → J.W (.ref (J.ca c.1)) dx σ' H') → PostS J G0 H0 Gs Γ' D (.ex c ρ')
def SemS (J : Jc) (Γ Γ' : List Mode) (F : Ev → Ot) (ts : TS) : Prop := ∀ ⦃G0 H0 G H : Hp⦄ ⦃ρ : Ev⦄ ⦃σ : L2.St⦄ ⦃D : Ends⦄, Wd J G0 H0 Γ ρ σ G H → PostS J G0 H0 G Γ' D (F ρ) → ts D σ H
def bindS {α : Type} (r : Rs α) (ρ : Ev) (k : α → Ot) : Ot := match r with
  | .ok a => k a
  | .ex c => .ex c ρ
  | .no => .no
theorem bindS_ok {α : Type} {a : α} {ρ : Ev} {k : α → Ot} : bindS (.ok a) ρ k = k a := rfl
def Gx (J : Jc) (Γ : List Mode) : Prop := J.gx = none ∨ J.gx = some Γ
section
variable {J : Jc} {Γ Γ' Γ1 Γ2 : List Mode} {em : EM} {m : Mode} {ms : List Mode} {Fe Fa Fb : Ev → Rs Dt} {Fs : List (Ev → Rs Dt)} {te ta tb : TE} {tr : TA} {G0 H0 Gs G H G' H' : Hp} {ρ : Ev} {σ : L2.St} {vs : List Nat}
  {F F1 F2 : Ev → Ot} {ts t1 t2 : TS} {D : Ends}
theorem exS {c : Xn} (w : Wd J G0 H0 Γ ρ σ G H) (hx : Gx J Γ) (p : PostS J G0 H0 G Γ' D (.ex c ρ)) : ∀ H1 dx, Same H H1 → XR c dx H1 → J.W (.ref (J.ca c.1)) dx σ H1 := fun H1 dx s xr => by
  cases p with
  | ex p =>
    refine p dx σ H1 (w.x.h.trans s) xr fun Γ1 z => ?_
    rcases hx with h | h
    · rw [h] at z; cases z
    · rw [h] at z
      cases z
      exact ⟨G, Same.refl _, w.heap s⟩
theorem PostS.bind {α : Type} {r : Rs α} {k : α → Ot} (w : Wd J G0 H0 Γ ρ σ G H) (hx : Gx J Γ) (p : PostS J G0 H0 G Γ' D (bindS r ρ k)) : Rs.Post (fun a => PostS J G0 H0 G Γ' D (k a)) (fun c => ∀ H1 dx, Same H H1 → XR c dx H1 → J.W (.ref (J.ca c.1)) dx σ H1) r := by
  cases r with
  | ok a => exact .ok p
  | ex c => exact .ex (exS w hx p)
  | no => cases p
theorem PostS.up {o : Ot} (e : Same Gs G') (p : PostS J G0 H0 Gs Γ' D o) : PostS J G0 H0 G' Γ' D o := by
  cases p with
  | nx p => exact .nx fun a b c d => p a b c (e.trans d)
  | rt p => exact .rt p
  | bk p => exact .bk fun a b c d => p a b c (e.trans d)
  | ct p => exact .ct fun a b c d => p a b c (e.trans d)
  | ex p => exact .ex fun a b c d x k => p a b c d x fun Γ1 z => (k Γ1 z).imp fun _ q => ⟨e.trans q.1, q.2⟩
theorem PostS.of_nx {ρ' : Ev} (p : PostS J G0 H0 Gs Γ' D (.nx ρ')) : ∀ σ' G' H', Same Gs G' → Wd J G0 H0 Γ' ρ' σ' G' H' → D.nx σ' H' := by
  cases p with
  | nx p => exact p
theorem PostS.of_rt {d : Dt} (p : PostS J G0 H0 Gs Γ' D (.rt d)) : ∀ v G' H' P, Ext G0 H0 G' H' → Fr G' H0 H' P → RtR J G' H' d v P → D.rt v H' := by
  cases p with
  | rt p => exact p
def nextS (ρ : Ev) : Ot := .nx ρ
def seqS (F1 F2 : Ev → Ot) (ρ : Ev) : Ot := match F1 ρ with
  | .nx ρ1 => F2 ρ1
  | o => o
theorem ss_next : SemS J Γ Γ nextS tNext := fun {G0 H0 G H ρ σ D} w p => p.of_nx σ G H (Same.refl _) w
theorem ss_seq (h : SemS J Γ Γ1 F1 t1) (k : SemS J Γ1 Γ2 F2 t2) : SemS J Γ Γ2 (seqS F1 F2) (tSeq t1 t2) := fun {G0 H0 G H ρ σ D} w p => by
  refine h (D := { D with nx := t2 D }) w ?_
  unfold seqS at p
  cases q : F1 ρ with
  | nx ρ1 =>
    rw [q] at p
    exact .nx fun σ' G' H' sg w' => k w' (p.up sg)
  | rt d =>
    rw [q] at p
    cases p with
    | rt p => exact .rt p
  | bk r =>
    rw [q] at p
    cases p with
    | bk p => exact .bk p
  | ct r =>
    rw [q] at p
    cases p with
    | ct p => exact .ct p
  | ex c r =>
    rw [q] at p
    cases p with
    | ex p => exact .ex p
  | no => rw [q] at p; cases p
/-- from here on a name is frozen -/
theorem ss_frz {i : Nat} (h : SemS J (Γ.set i .F) Γ' F ts) : SemS J Γ Γ' F ts := fun {G0 H0 G H ρ σ D} w p => by
  obtain ⟨Pf, h1, h2, h3⟩ := w.env
  have sg : Same G (fun b => if Pf i b then H b else G b) := fun a u q => by
    show (if Pf i a then H a else G a) = some u
    by_cases z : Pf i a
    · rw [if_pos z]; exact w.gh a u q
    · rw [if_neg z]; exact q
  refine h (G := fun b => if Pf i b then H b else G b) ⟨⟨w.x.g.trans sg, w.x.h, fun a u q => ?_, fun a q => ?_⟩, by rw [List.length_set]; exact w.lg, w.lr, ⟨fun j a => j ≠ i ∧ Pf j a, fun j k a q r s => h1 j k a q r.2 s.2, fun j a q => ?_, fun j d q => ?_⟩, w.pn, w.xk⟩ (p.up sg)
  · have q : (if Pf i a then H a else G a) = some u := q
    by_cases z : Pf i a
    · rw [if_pos z] at q; exact q
    · rw [if_neg z] at q; exact w.gh a u q
  · show (if Pf i a then H a else G a) = G0 a
    rw [if_neg fun z => q (h2 i a z).2.1]
    exact w.x.base a q
  · obtain ⟨q0, q⟩ := q
    refine ⟨?_, (h2 j a q).2⟩
    show (if Pf i a then H a else G a) = none
    rw [if_neg (h1 j i a q0 q)]
    exact (h2 j a q).1
  · obtain ⟨v, m, s1, s2, s3⟩ := h3 j d q
    by_cases hj : j = i
    · subst hj
      refine ⟨v, .F, s1, List.getElem?_set_self (List.getElem?_eq_some_iff.mp s2).1, .F (s3.freeze sg fun b hb => if_pos hb)⟩
    · refine ⟨v, m, s1, by rw [List.getElem?_set_ne (Ne.symm hj)]; exact s2, (s3.carry sg fun b hb => ⟨rfl, ?_⟩).weaken fun b hb => ⟨hj, hb⟩⟩
      show (if Pf i b then H b else G b) = none
      rw [if_neg (h1 j i b hj hb)]
      exact (h2 j b hb).1
def asgS (i : Nat) (Fe : Ev → Rs Dt) (ρ : Ev) : Ot := bindS (Fe ρ) ρ fun d => .nx (ρ.set i (some d))
theorem ss_asg {i : Nat} (h : SemE J Γ (.o m) Fe te) (hx : Gx J Γ) (hp : J.free i := by rfl) : SemS J Γ (Γ.set i m) (asgS i Fe) (tAsg te (gName i)) := fun {G0 H0 G H ρ σ D} w p =>
  h w ((p.bind w hx).imp (fun d _ q v G1 H1 P e f o => q.of_nx _ G1 H1 e.g (w.set e o f i hp)) fun _ q => q)
/-- the name frozen before stays frozen -/
theorem ss_asgF {i : Nat} (h : SemE J Γ (.o .F) Fe te) (hx : Gx J Γ) (hm : Γ[i]? = some .F := by rfl) (hp : J.free i := by rfl) : SemS J Γ Γ (asgS i Fe) (tAsg te (gName i)) := by
  have := ss_asg (i := i) h hx hp
  rw [set_same hm] at this
  exact this
def asgG (FG : Dt → Ev → Option Ev) (Fe : Ev → Rs Dt) (ρ : Ev) : Ot := bindS (Fe ρ) ρ fun d => match FG d ρ with
  | some ρ' => .nx ρ'
  | none => .no
def dropS (Fe : Ev → Rs Dt) (ρ : Ev) : Ot := bindS (Fe ρ) ρ fun _ => .nx ρ
theorem ss_drop (h : SemE J Γ em Fe te) (hx : Gx J Γ) : SemS J Γ Γ (dropS Fe) (tDrop te) := fun {G0 H0 G H ρ σ D} w p =>
  h w ((p.bind w hx).imp (fun d _ q v G1 H1 P e f o => q.of_nx σ G1 H1 e.g (w.ext e)) fun _ q => q)
def retS (Fe : Ev → Rs Dt) (ρ : Ev) : Ot := bindS (Fe ρ) ρ fun d => .rt d
theorem ss_ret (h : SemE J Γ (.o J.mr) Fe te) (hx : Gx J Γ) (hln : J.ln = [] := by rfl) : SemS J Γ Γ' (retS Fe) (tRet te) := fun {G0 H0 G H ρ σ D} w p =>
  h w ((p.bind w hx).imp (fun d _ q v G1 H1 P e f o => q.of_rt v G1 H1 P (w.x.trans e) (fun b hb => ⟨(f b hb).1, w.x.h.free (f b hb).2.1, (f b hb).2.2⟩) (.of hln o)) fun _ q => q)
/-- an owned name handed back -/
theorem ss_retV {i : Nat} (hm : Γ[i]? = some J.mr) (hln : J.ln = [] := by rfl) : SemS J Γ Γ' (retS (varE i)) (tRet (tVar i)) := fun {G0 H0 G H ρ σ D} w p => by
  unfold retS at p
  unfold varE at p
  cases q : ρ[i]? with
  | none => rw [q] at p; cases p
  | some o =>
  cases o with
  | none => rw [q] at p; cases p
  | some d =>
  rw [q] at p
  obtain ⟨Pf, h1, h2, h3⟩ := w.env
  obtain ⟨v, m', s1, s2, s3⟩ := h3 i d q
  rw [hm] at s2
  cases s2
  exact ⟨v, s1, PostS.of_rt p v G H (Pf i) w.x (fun b hb => h2 i b hb) (.of hln s3)⟩
def retN (_ : Ev) : Ot := .rt .non
def ifS (Ft : Ev → Rs Bool) (F1 F2 : Ev → Ot) (ρ : Ev) : Ot := bindS (Ft ρ) ρ fun b => if b = true then F1 ρ else F2 ρ
theorem ss_if {Ft : Ev → Rs Bool} {tt : TT} (h : SemT J Γ Ft tt) (k : SemS J Γ Γ' F1 t1) (l : SemS J Γ Γ' F2 t2) (hx : Gx J Γ) : SemS J Γ Γ' (ifS Ft F1 F2) (tIfS tt t1 t2) := fun {G0 H0 G H ρ σ D} w p =>
  h w ((p.bind w hx).imp (fun b _ q G1 H1 e => by
    cases b with
    | true => exact k (w.ext e) (PostS.up e.g q)
    | false => exact l (w.ext e) (PostS.up e.g q)) fun _ q => q)
def brkS (ρ : Ev) : Ot := .bk ρ
def cntS (ρ : Ev) : Ot := .ct ρ
def raiS (c : Str) (ρ : Ev) : Ot := .ex (c, none) ρ
theorem ss_rai {c : Str} (hx : Gx J Γ) : SemS J Γ Γ' (raiS c) (fun _ σ H => J.W (.ref (J.ca c)) none σ H) := fun {G0 H0 G H ρ σ D} w p => exS w hx p H none (Same.refl _) rfl
/-! ### for -/
def forL (FG : Dt → Ev → Option Ev) (Fb : Ev → Ot) : List Dt → Ev → Ot
  | [], ρ => .nx ρ
  | d :: ds, ρ => match FG d ρ with
    | none => .no
    | some ρ1 => match Fb ρ1 with
      | .nx ρ2 => forL FG Fb ds ρ2
      | .ct ρ2 => forL FG Fb ds ρ2
      | .bk ρ2 => .nx ρ2
      | o => o
def forS (Fi : Ev → Rs (List Dt)) (FG : Dt → Ev → Option Ev) (Fb : Ev → Ot) (ρ : Ev) : Ot := bindS (Fi ρ) ρ fun ds => forL FG Fb ds ρ
abbrev Jc.lp (J : Jc) (Γ : List Mode) : Jc := { J with gb := Γ }
theorem Wd.lp {Γb : List Mode} (w : Wd J G0 H0 Γ ρ σ G H) : Wd (J.lp Γb) G0 H0 Γ ρ σ G H := ⟨w.x, w.lg, w.lr, w.env, w.pn, w.xk⟩
theorem Wd.unlp {Γb : List Mode} (w : Wd (J.lp Γb) G0 H0 Γ ρ σ G H) : Wd J G0 H0 Γ ρ σ G H := ⟨w.x, w.lg, w.lr, w.env, w.pn, w.xk⟩
theorem ss_for {Fi : Ev → Rs (List Dt)} {wi : TI} {FG : Dt → Ev → Option Ev} {g : TG} (hi : SemI J Γ Fi wi) (hg : SemG (J.lp Γ) Γ vs FG g) (hb : SemS (J.lp Γ) Γ Γ F ts) (hx : Gx J Γ) : SemS J Γ Γ (forS Fi FG F) (tFor wi g ts) := fun {G0 H0 G H ρ σ D} w p => by
  refine hi w ((p.bind w hx).imp (fun ds _ q it G1 H1 e1 wk => ?_) fun _ q => q)
  refine ⟨fun i n σ' Hi => n = ds.length - i ∧ i ≤ ds.length ∧ ∃ G' ρ', Wd J G0 H0 Γ ρ' σ' G' Hi ∧ Same G1 G' ∧ PostS J G0 H0 G' Γ D (forL FG F (ds.drop i) ρ'), ⟨ds.length, by simp, Nat.zero_le _, G1, ρ, w.ext e1, Same.refl _, by simpa using PostS.up e1.g q⟩, ?_⟩
  rintro i n σ' Hi ⟨rfl, hi', G', ρ', w', sg, q'⟩
  by_cases hlt : i < ds.length
  case neg =>
    have ei : i = ds.length := by omega
    subst ei
    rw [List.drop_length] at q'
    exact .inl ⟨wk.stop G' Hi sg w'.gh, PostS.of_nx q' σ' G' Hi (Same.refl _) w'⟩
  obtain ⟨go, step⟩ := wk.go i ds[i] G' Hi (by simp [hlt]) sg w'.gh
  have hdrop : ds.drop i = ds[i] :: ds.drop (i + 1) := List.drop_eq_getElem_cons hlt
  rw [hdrop] at q'
  have q' : PostS J G0 H0 G' Γ D (match FG ds[i] ρ' with
    | none => .no
    | some ρ1 => match F ρ1 with
      | .nx ρ2 => forL FG F (ds.drop (i + 1)) ρ2
      | .ct ρ2 => forL FG F (ds.drop (i + 1)) ρ2
      | .bk ρ2 => .nx ρ2
      | o => o) := q'
  refine .inr ⟨go, fun σ2 H2 => ∃ m', m' < ds.length - i ∧ (m' = ds.length - (i + 1) ∧ i + 1 ≤ ds.length ∧ ∃ G' ρ', Wd J G0 H0 Γ ρ' σ2 G' H2 ∧ Same G1 G' ∧ PostS J G0 H0 G' Γ D (forL FG F (ds.drop (i + 1)) ρ')), fun σ2 H2 z => z, fun x H3 y => ?_⟩
  obtain ⟨G3, e3, rx⟩ := step x H3 y
  cases hF : FG ds[i] ρ' with
  | none => rw [hF] at q'; cases q'
  | some ρ1 =>
  rw [hF] at q'
  refine hg (w'.ext e3).lp rx hF fun σ2 _ w4 => ?_
  refine hb w4 ?_
  have q' : PostS J G0 H0 G' Γ D (match F ρ1 with
      | .nx ρ2 => forL FG F (ds.drop (i + 1)) ρ2
      | .ct ρ2 => forL FG F (ds.drop (i + 1)) ρ2
      | .bk ρ2 => .nx ρ2
      | o => o) := q'
  have q' := q'.up e3.g
  have nxt : ∀ ρ2, PostS J G0 H0 G3 Γ D (forL FG F (ds.drop (i + 1)) ρ2) → ∀ σ5 G5 H5, Same G3 G5 → Wd (J.lp Γ) G0 H0 Γ ρ2 σ5 G5 H5 → ∃ m', m' < ds.length - i ∧ (m' = ds.length - (i + 1) ∧ i + 1 ≤ ds.length ∧ ∃ G' ρ', Wd J G0 H0 Γ ρ' σ5 G' H5 ∧ Same G1 G' ∧ PostS J G0 H0 G' Γ D (forL FG F (ds.drop (i + 1)) ρ')) := fun ρ2 p σ5 G5 H5 s5 w5 =>
    ⟨ds.length - (i + 1), by omega, rfl, hlt, G5, ρ2, w5.unlp, (sg.trans e3.g).trans s5, p.up s5⟩
  cases hB : F ρ1 with
  | nx r =>
    rw [hB] at q'
    exact .nx (nxt r q')
  | rt d =>
    rw [hB] at q'
    cases q' with
    | rt p => exact .rt p
  | bk r =>
    rw [hB] at q'
    exact .bk fun σ5 G5 H5 s5 w5 => PostS.of_nx q' σ5 G5 H5 s5 w5.unlp
  | ct r =>
    rw [hB] at q'
    exact .ct (nxt r q')
  | ex c r =>
    rw [hB] at q'
    cases q' with
    | ex p => exact .ex fun dx σ5 H5 s5 x5 k5 => p dx σ5 H5 s5 x5 fun Γ1 z => (k5 Γ1 z).imp fun _ w5 => ⟨w5.1, w5.2.unlp⟩
  | no => rw [hB] at q'; cases q'
/-! ### while -/
def whlL (Ft : Ev → Rs Bool) (Fb : Ev → Ot) : Nat → Ev → Ot
  | 0, _ => .no
  | n + 1, ρ => bindS (Ft ρ) ρ fun b => if b = true then (match Fb ρ with
    | .nx ρ2 => whlL Ft Fb n ρ2
    | .ct ρ2 => whlL Ft Fb n ρ2
    | .bk ρ2 => .nx ρ2
    | o => o) else .nx ρ
theorem ss_whl {Ft : Ev → Rs Bool} {tt : TT} {n : Nat} (h : SemT J Γ Ft tt) (hb : SemS (J.lp Γ) Γ Γ F ts) (hx : Gx J Γ) : SemS J Γ Γ (whlL Ft F n) (tWhile tt ts) := fun {G0 H0 G H ρ σ D} w p => by
  refine ⟨fun k σ' Hi => ∃ G' ρ', Wd J G0 H0 Γ ρ' σ' G' Hi ∧ PostS J G0 H0 G' Γ D (whlL Ft F k ρ'), ⟨n, G, ρ, w, p⟩, ?_⟩
  rintro k σ' Hi ⟨G', ρ', w', q⟩
  cases k with
  | zero => cases q
  | succ k =>
    refine h w' ((PostS.bind w' hx q).imp (fun b _ q G1 H1 e => ?_) fun _ q => q)
    cases b with
    | false => exact PostS.of_nx q σ' G1 H1 e.g (w'.ext e)
    | true =>
      refine ⟨fun σ2 H2 => ∃ m', m' < k + 1 ∧ ∃ G' ρ', Wd J G0 H0 Γ ρ' σ2 G' H2 ∧ PostS J G0 H0 G' Γ D (whlL Ft F m' ρ'), fun σ2 H2 z => z, ?_⟩
      refine hb (w'.ext e).lp ?_
      have q : PostS J G0 H0 G' Γ D (match F ρ' with
        | .nx ρ2 => whlL Ft F k ρ2
        | .ct ρ2 => whlL Ft F k ρ2
        | .bk ρ2 => .nx ρ2
        | o => o) := q
      have q := q.up e.g
      have nxt : ∀ ρ2, PostS J G0 H0 G1 Γ D (whlL Ft F k ρ2) → ∀ σ5 G5 H5, Same G1 G5 → Wd (J.lp Γ) G0 H0 Γ ρ2 σ5 G5 H5 → ∃ m', m' < k + 1 ∧ ∃ G' ρ', Wd J G0 H0 Γ ρ' σ5 G' H5 ∧ PostS J G0 H0 G' Γ D (whlL Ft F m' ρ') := fun ρ2 p σ5 G5 H5 s5 w5 =>
        ⟨k, by omega, G5, ρ2, w5.unlp, p.up s5⟩
      cases hB : F ρ' with
      | nx r =>
        rw [hB] at q
        exact .nx (nxt r q)
      | rt d =>
        rw [hB] at q
        cases q with
        | rt p => exact .rt p
      | bk r =>
        rw [hB] at q
        exact .bk fun σ5 G5 H5 s5 w5 => PostS.of_nx q σ5 G5 H5 s5 w5.unlp
      | ct r =>
        rw [hB] at q
        exact .ct (nxt r q)
      | ex c r =>
        rw [hB] at q
        cases q with
        | ex p => exact .ex fun dx σ5 H5 s5 x5 k5 => p dx σ5 H5 s5 x5 fun Γ1 z => (k5 Γ1 z).imp fun _ w5 => ⟨w5.1, w5.2.unlp⟩
      | no => rw [hB] at q; cases q
end
end Pm
namespace Pm
open PySem PySem.Spec PyProof.Rows L2
open Classical
/-! ### places: an owned part of a name -/
structure EnvR (J : Jc) (H0 : Hp) (Γ : List Mode) (ρ : Ev) (σ : L2.St) (G H : Hp) : Prop where
  lg : Γ.length = ρ.length
  lr : ρ.length = σ.length
  env : ∃ Pf : Nat → Addr → Prop, (∀ i j a, i ≠ j → Pf i a → ¬ Pf j a) ∧ (∀ i a, Pf i a → G a = none ∧ H0 a = none ∧ H a ≠ none) ∧
    ∀ i d, ρ[i]? = some (some d) → ∃ v m, σ[i]? = some (some v) ∧ Γ[i]? = some m ∧ Ow J.K J.ca G H m d v (Pf i)
/-- the part stands at v, is d, owns P; what takes its place is put by put -/
structure Foc (J : Jc) (H0 : Hp) (Γ : List Mode) (σ : L2.St) (G H : Hp) (m : Mode) (d : Dt) (v : V) (put : Dt → Ev) : Prop where
  ex : ∃ P : Addr → Prop, Ow J.K J.ca G H m d v P ∧ (∀ b, P b → G b = none ∧ H0 b = none ∧ H b ≠ none) ∧
    ∀ G2 H2 d2 P2, Same G G2 → (∀ b, H b ≠ none → ¬ P b → H2 b = H b ∧ G2 b = G b) → Ow J.K J.ca G2 H2 m d2 v P2 → (∀ b, P2 b → (P b ∨ H b = none) ∧ G2 b = none ∧ H0 b = none ∧ H2 b ≠ none) → EnvR J H0 Γ (put d2) σ G2 H2
def SemP (J : Jc) (Γ : List Mode) (F : Ev → Rs (Dt × (Dt → Ev))) (m : Mode) (te : TE) : Prop := ∀ ⦃G0 H0 G H : Hp⦄ ⦃ρ : Ev⦄ ⦃σ : L2.St⦄ ⦃Q : VK⦄, Wd J G0 H0 Γ ρ σ G H →
  Rs.Post (fun x => ∀ v G' H', Ext G H G' H' → Foc J H0 Γ σ G' H' m x.1 v x.2 → Q v H') (fun c => ∀ H' dx, Same H H' → XR c dx H' → J.W (.ref (J.ca c.1)) dx σ H') (F ρ) → te σ H Q
section
variable {J : Jc} {Γ Γ' Γ1 Γ2 : List Mode} {em : EM} {m : Mode} {ms : List Mode} {Fe Fa Fb : Ev → Rs Dt} {Fs : List (Ev → Rs Dt)} {te ta tb : TE} {tr : TA} {G0 H0 Gs G H G' H' : Hp} {ρ : Ev} {σ : L2.St} {vs : List Nat}
  {F F1 F2 : Ev → Ot} {ts t1 t2 : TS} {D : Ends} {d : Dt} {v : V} {put : Dt → Ev}
theorem Foc.ext (f : Foc J H0 Γ σ G H m d v put) (e : Ext G H G' H') : Foc J H0 Γ σ G' H' m d v put := by
  obtain ⟨P, o, r, k⟩ := f.ex
  refine ⟨P, o.carry e.g fun b hb => ⟨e.h.at (r b hb).2.2, by rw [e.base b (r b hb).2.2]; exact (r b hb).1⟩, fun b hb => ⟨by rw [e.base b (r b hb).2.2]; exact (r b hb).1, (r b hb).2.1, e.h.nn (r b hb).2.2⟩, fun G2 H2 d2 P2 sg h1 o2 h2 => ?_⟩
  refine k G2 H2 d2 P2 (e.g.trans sg) (fun b hb hn => ?_) o2 fun b hb => ?_
  · obtain ⟨a1, a2⟩ := h1 b (e.h.nn hb) hn
    exact ⟨a1.trans (e.h.at hb), a2.trans (e.base b hb)⟩
  · obtain ⟨a1, a2⟩ := h2 b hb
    exact ⟨a1.imp id fun z => e.h.free z, a2⟩
def varP (i : Nat) (ρ : Ev) : Rs (Dt × (Dt → Ev)) := match ρ[i]? with
  | some (some d) => .ok (d, fun x => ρ.set i (some x))
  | _ => .no
theorem sp_var {i : Nat} (hm : Γ[i]? = some m) : SemP J Γ (varP i) m (tVar i) := fun {G0 H0 G H ρ σ Q} w p => by
  unfold varP at p
  cases hq : ρ[i]? with
  | none => rw [hq] at p; cases p
  | some o =>
  cases o with
  | none => rw [hq] at p; cases p
  | some d =>
  rw [hq] at p
  obtain ⟨Pf, h1, h2, h3⟩ := w.env
  obtain ⟨v, m', s1, s2, s3⟩ := h3 i d hq
  rw [hm] at s2
  cases s2
  refine ⟨v, s1, p.of_ok v G H (Ext.refl w.gh) ⟨Pf i, s3, h2 i, fun G2 H2 d2 P2 sg k1 o2 k2 => ?_⟩⟩
  have hl : i < ρ.length := (List.getElem?_eq_some_iff.mp hq).1
  refine ⟨by rw [List.length_set]; exact w.lg, by rw [List.length_set]; exact w.lr, fun j => if j = i then P2 else Pf j, fun j k a q r s => ?_, fun j a q => ?_, fun j c q => ?_⟩
  · by_cases hj : j = i
    · by_cases hk : k = i
      · exact q (hj.trans hk.symm)
      · simp only [hj, if_true] at r
        simp only [hk, if_false] at s
        rcases (k2 a r).1 with z | z
        · exact h1 k i a hk s z
        · exact (h2 k a s).2.2 z
    · simp only [hj, if_false] at r
      by_cases hk : k = i
      · simp only [hk, if_true] at s
        rcases (k2 a s).1 with z | z
        · exact h1 j i a hj r z
        · exact (h2 j a r).2.2 z
      · simp only [hk, if_false] at s
        exact h1 j k a q r s
  · by_cases hj : j = i
    · simp only [hj, if_true] at q
      exact (k2 a q).2
    · simp only [hj, if_false] at q
      obtain ⟨a1, a2, a3⟩ := h2 j a q
      obtain ⟨b1, b2⟩ := k1 a a3 (h1 j i a hj q)
      exact ⟨by rw [b2]; exact a1, a2, by rw [b1]; exact a3⟩
  · by_cases hj : j = i
    · subst hj
      rw [List.getElem?_set_self hl] at q
      have hd : d2 = c := by simpa using q
      subst hd
      refine ⟨v, m, s1, hm, ?_⟩
      simp only [if_true]
      exact o2
    · rw [List.getElem?_set_ne (Ne.symm hj)] at q
      obtain ⟨v2, m2, t1, t2, t3⟩ := h3 j c q
      refine ⟨v2, m2, t1, t2, ?_⟩
      simp only [hj, if_false]
      refine t3.carry sg fun b hb => ?_
      obtain ⟨a1, a2, a3⟩ := h2 j b hb
      obtain ⟨b1, b2⟩ := k1 b a3 (h1 j i b hj hb)
      exact ⟨b1, by rw [b2]; exact a1⟩
/-- into the parts of an owned row of parts -/
theorem Ows.focus {K : PySem.W.Frag} {ca : Str → Addr} : ∀ {ds : List Dt} {ms : List Mode} {us : List V} {P : Addr → Prop} {k : Nat} {m : Mode} {d : Dt}, Ows K ca G H ms ds us P → ms[k]? = some m → ds[k]? = some d →
    ∃ v Pk, us[k]? = some v ∧ Ow K ca G H m d v Pk ∧ (∀ b, Pk b → P b) ∧ ∀ G2 H2 d2 P2, Same G G2 → (∀ b, P b → ¬ Pk b → H2 b = H b ∧ G2 b = none) → Ow K ca G2 H2 m d2 v P2 → (∀ b, P2 b → Pk b ∨ ¬ P b) → Ows K ca G2 H2 ms (ds.set k d2) us (fun b => (P b ∧ ¬ Pk b) ∨ P2 b)
  | [], ms, us, P, k, m, d, h, hm, hd => by simp at hd
  | x :: ds, ms, us, P, 0, m, d, h, hm, hd => by
    cases h with
    | @cons m' ms _ _ v us _ P1 P2 h1 h2 q1 q2 q3 =>
      have e1 : m' = m := by simpa using hm
      have e2 : x = d := by simpa using hd
      subst e1 e2
      refine ⟨v, P1, rfl, h1, q1, fun G2 H2 d2 P2' sg c o c2 => ?_⟩
      refine .cons (P1 := P2') (P2 := fun b => P2 b) o (h2.carry sg fun b hb => c b (q2 b hb) fun z => q3 b z hb) (fun b hb => .inr hb) (fun b hb => .inl ⟨q2 b hb, fun z => q3 b z hb⟩) fun b hb z => ?_
      rcases c2 b hb with y | y
      · exact q3 b y z
      · exact y (q2 b z)
  | x :: ds, ms, us, P, k + 1, m, d, h, hm, hd => by
    cases h with
    | @cons m' ms _ _ v us _ P1 P2 h1 h2 q1 q2 q3 =>
      obtain ⟨w, Pk, e1, e2, e3, e4⟩ := Ows.focus (k := k) h2 (by simpa using hm) (by simpa using hd)
      refine ⟨w, Pk, by simpa using e1, e2, fun b hb => q2 b (e3 b hb), fun G2 H2 d2 P2' sg c o c2 => ?_⟩
      have r := e4 G2 H2 d2 (fun b => P2' b) sg (fun b hb hn => c b (q2 b hb) hn) o (fun b hb => (c2 b hb).imp id fun z y => z (q2 b y))
      rw [List.set_cons_succ]
      refine .cons (P1 := P1) (P2 := fun b => (P2 b ∧ ¬ Pk b) ∨ P2' b) (h1.carry sg fun b hb => c b (q1 b hb) fun z => q3 b hb (e3 b z)) r (fun b hb => .inl ⟨q1 b hb, fun z => q3 b hb (e3 b z)⟩) (fun b hb => hb.imp (fun z => ⟨q2 b z.1, z.2⟩) id) fun b hb z => ?_
      rcases z with z | z
      · exact q3 b hb z.1
      · rcases c2 b z with y | y
        · exact q3 b hb (e3 b y)
        · exact y (q1 b hb)
def ixP (Fp : Ev → Rs (Dt × (Dt → Ev))) (Fi : Ev → Rs Dt) (ρ : Ev) : Rs (Dt × (Dt → Ev)) := Fp ρ >>= fun x => Fi ρ >>= fun k => match x.1, k with
  | .lst ds, .int i => (match ixN ds.length i with
    | some j => (match ds[j]? with
      | some e => .ok (e, fun y => x.2 (.lst (ds.set j y)))
      | none => .no)
    | none => .no)
  | _, _ => .no
variable {Fp : Ev → Rs (Dt × (Dt → Ev))}
theorem Foc.item {ds : List Dt} {j : Nat} {e : Dt} (f : Foc J H0 Γ σ G H (.L m) (.lst ds) v put) (hj : ds[j]? = some e) : ∃ a us u, v = .ref a ∧ H a = some (.lst us) ∧ us[j]? = some u ∧ ds.length = us.length ∧ Foc J H0 Γ σ G H m e u (fun y => put (.lst (ds.set j y))) := by
  obtain ⟨P, o, r, k⟩ := f.ex
  cases o with
  | @L _ a us _ _ h1 h2 h3 h4 =>
    obtain ⟨u, Pk, q1, q2, q3, q4⟩ := h4.focus (k := j) (m := m) (by
      rw [List.getElem?_replicate, if_pos (List.getElem?_eq_some_iff.mp hj).1]) hj
    refine ⟨a, us, u, rfl, h1, q1, h4.len.1, Pk, q2, fun b hb => r b (q3 b hb).1, fun G2 H2 d2 P2 sg c o2 c2 => ?_⟩
    have ha : ¬ Pk a := fun z => (q3 a z).2 rfl
    have hna : H a ≠ none := by rw [h1]; exact fun z => by cases z
    have p2a : ∀ b, P2 b → b ≠ a := fun b hb z => by
      rcases (c2 b hb).1 with y | y
      · exact ha (z ▸ y)
      · exact hna (z ▸ y)
    have rest := q4 G2 H2 d2 P2 sg (fun b hb hn => ⟨(c b (r b hb.1).2.2 hn).1, by rw [(c b (r b hb.1).2.2 hn).2]; exact (r b hb.1).1⟩) o2 fun b hb => (c2 b hb).1.imp id fun z y => (r b y.1).2.2 z
    refine k G2 H2 (.lst (ds.set j d2)) (fun b => (P b ∧ ¬ Pk b) ∨ P2 b) sg (fun b hb hn => c b hb fun z => hn (q3 b z).1) (.L (by rw [(c a hna ha).1]; exact h1) (by rw [(c a hna ha).2]; exact h2) (.inl ⟨h3, ha⟩) ?_) fun b hb => ?_
    · rw [List.length_set]
      refine rest.weaken fun b hb => ?_
      rcases hb with ⟨⟨z1, z2⟩, z3⟩ | z
      · exact ⟨.inl ⟨z1, z3⟩, z2⟩
      · exact ⟨.inr z, p2a b z⟩
    · rcases hb with ⟨z1, z2⟩ | z
      · obtain ⟨a1, a2, a3⟩ := r b z1
        obtain ⟨b1, b2⟩ := c b a3 z2
        exact ⟨.inl z1, by rw [b2]; exact a1, a2, by rw [b1]; exact a3⟩
      · exact ⟨(c2 b z).1.imp (fun y => (q3 b y).1) id, (c2 b z).2⟩
theorem sp_ix {ti : TE} {Fi : Ev → Rs Dt} (h : SemP J Γ Fp (.L m) te) (k : SemE J Γ .B Fi ti) : SemP J Γ (ixP Fp Fi) m (tOp (rIx J.K) te ti) := fun {G0 H0 G H ρ σ Q} w p => by
  refine h w (p.bind.imp (fun x _ q v G1 H1 e1 f1 => ?_) fun _ q => q)
  refine k (w.ext e1) (Rs.Post.imp (Rs.Post.bind q) (fun i _ q u G2 H2 _ e2 _ ri => ?_) fun _ q H' dx s => q H' dx (e1.h.trans s))
  obtain ⟨xd, xp⟩ := x
  have f2 := f1.ext e2
  cases ri with
  | int i =>
    cases xd with
    | lst ds =>
      have q : Rs.Post _ _ (match ixN ds.length i with
        | some j => (match ds[j]? with
          | some e => Rs.ok (e, fun y => xp (.lst (ds.set j y)))
          | none => Rs.no)
        | none => Rs.no) := q
      cases hj : ixN ds.length i with
      | none => rw [hj] at q; cases q
      | some j =>
        rw [hj] at q
        cases he : ds[j]? with
        | none => simp only [he] at q; cases q
        | some e =>
          simp only [he] at q
          obtain ⟨a, us, z, rfl, h1, h2, h3, h4⟩ := f2.item he
          exact .inl ⟨a, us, i, z, rfl, rfl, .of h1, by unfold atI; rw [← h3, hj]; exact h2, q.of_ok z G2 H2 (e1.trans e2) h4⟩
    | _ => cases q
  | _ => cases xd <;> cases q
/-- an owned list is changed -/
theorem Foc.chg {ds : List Dt} (f : Foc J H0 Γ σ G H (.L m) (.lst ds) v put) (w : Wd J G0 H0 Γ ρ σ G H) (e : Ext G H G' H') : ∃ a us Pin, v = .ref a ∧ H' a = some (.lst us) ∧ Ows J.K J.ca G' H' (List.replicate ds.length m) ds us Pin ∧ (∀ b, Pin b → H b ≠ none ∧ b ≠ a ∧ G' b = none ∧ H' b ≠ none) ∧
    ∀ ds' us' Px, Ows J.K J.ca G' H' (List.replicate ds'.length m) ds' us' Px → (∀ b, Px b → b ≠ a ∧ (Pin b ∨ (H b = none ∧ G' b = none ∧ H' b ≠ none))) → Wd J G0 H0 Γ (put (.lst ds')) σ G' (upd H' a (.lst us')) := by
  obtain ⟨P, o, r, k⟩ := f.ex
  cases o with
  | @L _ a us _ _ h1 h2 h3 h4 =>
    have hna : H a ≠ none := by rw [h1]; exact fun z => by cases z
    have gpa : G' a = none := by rw [e.base a hna]; exact h2
    have c4 : Ows J.K J.ca G' H' (List.replicate ds.length m) ds us (fun b => P b ∧ b ≠ a) := h4.carry e.g fun b hb => ⟨e.h.at (r b hb.1).2.2, by rw [e.base b (r b hb.1).2.2]; exact (r b hb.1).1⟩
    refine ⟨a, us, fun b => P b ∧ b ≠ a, rfl, e.h _ _ h1, c4, fun b hb => ⟨(r b hb.1).2.2, hb.2, by rw [e.base b (r b hb.1).2.2]; exact (r b hb.1).1, e.h.nn (r b hb.1).2.2⟩, fun ds' us' Px o' c => ?_⟩
    have reg : ∀ b, (b = a ∨ Px b) → (P b ∨ H b = none) ∧ G' b = none ∧ H0 b = none ∧ (upd H' a (.lst us')) b ≠ none := fun b hb => by
      by_cases z : b = a
      · subst z
        exact ⟨.inl h3, gpa, (r b h3).2.1, by rw [upd_same]; exact fun z => by cases z⟩
      · rcases hb with hb | hb
        · exact absurd hb z
        · rw [upd_ne z]
          rcases (c b hb).2 with y | ⟨y1, y2, y3⟩
          · exact ⟨.inl y.1, by rw [e.base b (r b y.1).2.2]; exact (r b y.1).1, (r b y.1).2.1, e.h.nn (r b y.1).2.2⟩
          · exact ⟨.inr y1, y2, w.x.h.free y1, y3⟩
    have en := k G' (upd H' a (.lst us')) (.lst ds') (fun b => b = a ∨ Px b) e.g (fun b hb hn => ⟨by rw [upd_ne fun z => hn (by rw [z]; exact h3)]; exact e.h.at hb, e.base b hb⟩) (.L upd_same gpa (.inl rfl) ((o'.carry (Same.refl _) fun b hb => ⟨upd_ne (c b hb).1, ?_⟩).weaken fun b hb => ⟨.inr hb, (c b hb).1⟩)) reg
    · exact ⟨(w.x.trans e).mut (r a h3).2.1 gpa, en.lg, en.lr, en.env, w.pn, w.xk⟩
    · rcases (c b hb).2 with y | ⟨y1, y2, y3⟩
      · rw [e.base b (r b y.1).2.2]; exact (r b y.1).1
      · exact y2
/-! ### statements that change a list -/
def lstOf (d : Dt) : Rs (List Dt) := match d with
  | .lst ds => .ok ds
  | _ => .no
/-- P.append(e) -/
def appS (Fp : Ev → Rs (Dt × (Dt → Ev))) (Fe : Ev → Rs Dt) (ρ : Ev) : Ot := bindS (Fp ρ) ρ fun x => match x.1 with
  | .lst ds => bindS (Fe ρ) ρ fun y => if lenSz ds.length = true then .nx (x.2 (.lst (ds ++ [y]))) else .no
  | _ => .no
theorem lenSz_lt {n : Nat} (h : lenSz n = true) : n < sizeLine := Nat.lt_of_le_of_lt (lenSz_le h) (by decide)
theorem ss_app (h : SemP J Γ Fp (.L m) te) (k : SemE J Γ (.o m) Fe ta) (hx : Gx J Γ) : SemS J Γ Γ (appS Fp Fe) (tDrop (tBM J.K "list" rAppend te (tCons ta tNil))) := fun {G0 H0 G H ρ σ D} w p => by
  refine h w ((PostS.bind w hx p).imp (fun x _ q v G1 H1 e1 f1 => ?_) fun _ q => q)
  obtain ⟨xd, xp⟩ := x
  have w1 := w.ext e1
  cases xd with
  | lst ds =>
    have q : PostS J G0 H0 G1 Γ D (bindS (Fe ρ) ρ fun y => if lenSz ds.length = true then .nx (xp (.lst (ds ++ [y]))) else .no) := q.up e1.g
    obtain ⟨a, us, Pin, rfl, hu, _⟩ := f1.chg w1 (Ext.refl w1.gh)
    refine ⟨.inl ⟨rfl, us, .of hu⟩, ?_⟩
    refine k w1 ((PostS.bind w1 hx q).imp (fun y _ q y' G2 H2 P2 e2 f2 o2 => ?_) fun _ q => q)
    obtain ⟨a', us', Pin', ea, hu', own, pr, fin⟩ := f1.chg w1 e2
    cases ea
    have q : PostS J G0 H0 G1 Γ D (if lenSz ds.length = true then .nx (xp (.lst (ds ++ [y]))) else .no) := q
    by_cases c : lenSz ds.length = true
    case neg => rw [if_neg c] at q; cases q
    rw [if_pos c] at q
    refine ⟨a, us', y', rfl, rfl, hu', by rw [← own.len.1]; exact lenSz_lt c, ?_⟩
    refine q.of_nx σ G2 _ e2.g (fin (ds ++ [y]) (us' ++ [y']) (fun b => Pin' b ∨ P2 b) ?_ fun b hb => ?_)
    · rw [List.length_append, List.length_singleton, List.replicate_succ']
      refine Ows.append (P1 := Pin') (P2 := P2) own (.cons (P1 := P2) (P2 := Pno) o2 .nil (fun _ z => z) (fun _ z => z.elim) (fun _ _ z => z)) (fun _ => .inl) (fun _ => .inr) fun b h1 h2 => ?_
      exact (pr b h1).1 (f2 b h2).2.1
    · rcases hb with hb | hb
      · exact ⟨(pr b hb).2.1, .inl hb⟩
      · refine ⟨fun z => ?_, .inr ⟨(f2 b hb).2.1, (f2 b hb).1, (f2 b hb).2.2⟩⟩
        have := (f2 b hb).2.1
        rw [z] at this
        exact absurd (e1.h.free this) (by
          intro _
          rw [hu] at this
          cases this)
  | _ => cases q
end
end Pm
namespace Pm
open PySem PySem.Spec PyProof.Rows L2
open Classical
/-! ### P[e] = v, v frozen -/
def setS (Fe : Ev → Rs Dt) (Fp : Ev → Rs (Dt × (Dt → Ev))) (Fi : Ev → Rs Dt) (ρ : Ev) : Ot := bindS (Fe ρ) ρ fun y => bindS (Fp ρ) ρ fun x => bindS (Fi ρ) ρ fun k => match x.1, k with
  | .lst ds, .int i => (match ixN ds.length i with
    | some j => .nx (x.2 (.lst (ds.set j y)))
    | none => .no)
  | _, _ => .no
section
variable {J : Jc} {Γ Γ' Γ1 Γ2 : List Mode} {em : EM} {m : Mode} {ms : List Mode} {Fe Fa Fb Fi : Ev → Rs Dt} {Fs : List (Ev → Rs Dt)} {te ta tb ti : TE} {tr : TA} {G0 H0 Gs G H G' H' : Hp} {ρ : Ev} {σ : L2.St} {vs : List Nat}
  {F F1 F2 : Ev → Ot} {ts t1 t2 : TS} {D : Ends} {d : Dt} {v : V} {put : Dt → Ev} {Fp : Ev → Rs (Dt × (Dt → Ev))}
theorem Rps.set {K : PySem.W.Frag} {ca : Str → Addr} : ∀ {ds : List Dt} {us : List V} {j : Nat} {d : Dt} {v : V}, Rps K ca H ds us → Rp K ca H d v → Rps K ca H (ds.set j d) (us.set j v)
  | [], _, j, _, _, h, _ => by cases h; exact .nil
  | x :: ds, _, 0, d, v, h, r => by
    cases h with
    | cons h1 h2 => exact .cons r h2
  | x :: ds, _, j + 1, d, v, h, r => by
    cases h with
    | cons h1 h2 => exact .cons h1 (Rps.set h2 r)
theorem ss_set (h : SemE J Γ (.o .F) Fe te) (k : SemP J Γ Fp (.L .F) ta) (l : SemE J Γ .B Fi ti) (hx : Gx J Γ) : SemS J Γ Γ (setS Fe Fp Fi) (tAsg te (gSub ta ti rSetL)) := fun {G0 H0 G H ρ σ D} w p => by
  refine h w ((PostS.bind w hx p).imp (fun y _ q v G1 H1 _ e1 _ o1 => ?_) fun _ q => q)
  have w1 := w.ext e1
  refine k w1 ((PostS.bind w1 hx (PostS.up e1.g q)).imp (fun x _ q v2 G2 H2 e2 f2 => ?_) fun _ q => q)
  have w2 := w1.ext e2
  refine l w2 ((PostS.bind w2 hx (PostS.up e2.g q)).imp (fun i _ q v3 G3 H3 _ e3 _ o3 => ?_) fun _ q => q)
  obtain ⟨xd, xp⟩ := x
  cases o1 with
  | F o1 =>
  cases o3 with
  | int i =>
    cases xd with
    | lst ds =>
      have q : PostS J G0 H0 G2 Γ D (match ixN ds.length i with
        | some j => .nx (xp (.lst (ds.set j y)))
        | none => .no) := q
      cases hj : ixN ds.length i with
      | none => rw [hj] at q; cases q
      | some j =>
        rw [hj] at q
        obtain ⟨a, us, Pin, rfl, hu, own, pr, fin⟩ := f2.chg w2 e3
        refine ⟨a, us, i, j, rfl, rfl, hu, by rw [← own.len.1]; exact hj, ?_⟩
        exact q.of_nx σ G3 _ e3.g (fin (ds.set j y) (us.set j v) Pno (Rps.own ((own.frozen).set (o1.mono (e2.g.trans e3.g)))) fun b z => z.elim)
    | _ => cases q
  | _ => cases xd <;> cases q
/-! ### fields -/
def fix (f : Str) : List Str → Option Nat
  | [] => none
  | g :: r => if f = g then some 0 else (fix f r).map (· + 1)
theorem fix_lookup {f : Str} : ∀ {ns : List Str} {us : List V} {j : Nat} {u : V}, fix f ns = some j → us[j]? = some u → (ns.zip us).lookup f = some u
  | [], _, _, _, h, _ => by cases h
  | g :: r, [], j, u, h, e => by simp at e
  | g :: r, x :: us, j, u, h, e => by
    unfold fix at h
    show (match f == g with | true => some x | false => (r.zip us).lookup f) = some u
    by_cases q : f = g
    · rw [if_pos q] at h
      cases h
      rw [show (f == g) = true from beq_iff_eq.mpr q]
      simpa using e
    · rw [if_neg q] at h
      cases z : fix f r with
      | none => rw [z] at h; cases h
      | some i =>
        rw [z] at h
        cases h
        rw [show (f == g) = false from beq_eq_false_iff_ne.mpr q]
        exact fix_lookup z (by simpa using e)
theorem fix_putN {f : Str} {y : V} : ∀ {ns : List Str} {us : List V}, ns.length = us.length → fix f ns = none → putF f y (ns.zip us) = (ns ++ [f]).zip (us ++ [y])
  | [], [], _, _ => rfl
  | g :: r, x :: us, hl, h => by
    unfold fix at h
    by_cases q : f = g
    · rw [if_pos q] at h; cases h
    · rw [if_neg q] at h
      cases z : fix f r with
      | some i => rw [z] at h; cases h
      | none =>
        show (if g = f then (g, y) :: r.zip us else (g, x) :: putF f y (r.zip us)) = _
        rw [if_neg fun e => q e.symm, fix_putN (by simpa using hl) z]
        rfl
def fldD (C f : Str) (d : Dt) : Rs Dt := match d with
  | .ins C' ns ds => if C' = C then (match fix f ns with
    | some j => (match ds[j]? with | some e => .ok e | none => .no)
    | none => .no) else .no
  | _ => .no
def fldE (C f : Str) := op1E (fldD C f)
theorem fld_run {K : PySem.W.Frag} {ca : Str → Addr} {C f : Str} {d e : Dt} {v : V} (r : Rp K ca H d v) (q : fldD C f d = .ok e) : ∃ a dx fs u, v = .ref a ∧ H a = some (.ins (ca C) dx fs) ∧ fs.lookup f = some u ∧ Rp K ca H e u := by
  cases r with
  | @ins C' a dx ns us ds h1 h2 h3 =>
    replace q : (if C' = C then (match fix f ns with
      | some j => (match ds[j]? with | some e => Rs.ok e | none => .no)
      | none => .no) else .no) = .ok e := q
    split at q
    · rename_i hC
      subst hC
      cases z : fix f ns with
      | none => rw [z] at q; cases q
      | some j =>
        rw [z] at q
        cases z2 : ds[j]? with
        | none => simp only [z2] at q; cases q
        | some e' =>
          simp only [z2] at q
          cases q
          obtain ⟨u, hu, ru⟩ := h3.get z2
          exact ⟨a, dx, _, u, rfl, h1, fix_lookup z hu, ru⟩
    · cases q
  | _ => cases q
theorem nx_fld {C f : Str} : ∀ a c, fldD C f a ≠ .ex c := by
  intro a c
  unfold fldD
  split
  · split
    · split
      · split <;> intro q <;> cases q
      · intro q; cases q
    · intro q; cases q
  · intro q; cases q
theorem se_fld {C f : Str} (cl : Cls J.K (J.ca C)) (na : NoAttr J.K (J.ca C) f) (h : SemE J Γ (.o .F) Fe te) : SemE J Γ (.o .F) (fldE C f Fe) (tFld J.K te f) := fun {G0 H0 G H ρ σ Q} w p => by
  refine h w (p.bind.imp (fun d _ q v G1 H1 _ e1 _ r1 => ?_) fun _ q => q)
  cases r1 with
  | F r1 =>
    cases z : fldD C f d with
    | ok e =>
      rw [z] at q
      obtain ⟨a, dx, fs, u, rfl, h1, h2, h3⟩ := fld_run r1 z
      exact ⟨a, J.ca C, dx, fs, u, rfl, e1.gh _ _ h1, cl, na, h2, q.of_ok u G1 H1 Pno e1 Fr.no (.F h3)⟩
    | ex c => exact absurd z (nx_fld d c)
    | no => rw [z] at q; cases q
/-- a field of the owned self: a frozen one -/
def fldID (C f : Str) (j : Nat) (d : Dt) : Rs Dt := match d with
  | .ins C' ns ds => if C' = C then (if fix f ns = some j then (match ds[j]? with | some e => .ok e | none => .no) else .no) else .no
  | _ => .no
def fldIE (C f : Str) (j i : Nat) (ρ : Ev) : Rs Dt := varE i ρ >>= fldID C f j
theorem Ows.at {K : PySem.W.Frag} {ca : Str → Addr} {ds : List Dt} {us : List V} {P : Addr → Prop} {k : Nat} (h : Ows K ca G H ms ds us P) (hm : ms[k]? = some m) (hd : ds[k]? = some d) : ∃ v Pk, us[k]? = some v ∧ Ow K ca G H m d v Pk := by
  obtain ⟨v, Pk, a, b, _⟩ := h.focus hm hd
  exact ⟨v, Pk, a, b⟩
theorem fldI_run {C f : Str} {j i : Nat} (w : Wd J G0 H0 Γ ρ σ G H) (hm : Γ[i]? = some (.I ms)) {e : Dt} (q : fldIE C f j i ρ = .ok e) (hj : ms[j]? = some m) : ∃ a dx fs u P, σ[i]? = some (some (.ref a)) ∧ H a = some (.ins (J.ca C) dx fs) ∧ fs.lookup f = some u ∧ Ow J.K J.ca G H m e u P := by
  obtain ⟨d, q1, q2⟩ := bind_ok q
  obtain ⟨v, m', P, s1, s2, s3, _⟩ := w.get (varE_ok q1)
  rw [hm] at s2
  cases s2
  cases s3 with
  | NI => first | cases q2 | cases q | cases p | cases q5 | cases hq | contradiction
  | @I _ C' a dx ns us ds _ h1 h2 h3 h4 h5 =>
    replace q2 : (if C' = C then (if fix f ns = some j then (match ds[j]? with | some e => Rs.ok e | none => .no) else .no) else .no) = .ok e := q2
    split at q2
    · rename_i hC
      subst hC
      split at q2
      · rename_i hf
        cases z2 : ds[j]? with
        | none => simp only [z2] at q2; cases q2
        | some e' =>
          simp only [z2] at q2
          cases q2
          obtain ⟨u, Pk, hu, ou⟩ := h5.at hj z2
          exact ⟨a, dx, _, u, Pk, s1, h1, fix_lookup hf hu, ou⟩
      · cases q2
    · cases q2
theorem nx_fldI {C f : Str} {j i : Nat} : ∀ c, fldIE C f j i ρ ≠ .ex c := by
  intro c
  unfold fldIE varE
  split
  · show fldID _ _ _ _ ≠ _
    unfold fldID
    split
    · split
      · split
        · split <;> intro q <;> cases q
        · intro q; cases q
      · intro q; cases q
    · intro q; cases q
  · intro q; cases q
theorem se_fldI {C f : Str} {j i : Nat} (cl : Cls J.K (J.ca C)) (na : NoAttr J.K (J.ca C) f) (hm : Γ[i]? = some (.I ms)) (hj : ms[j]? = some .F) : SemE J Γ (.o .F) (fldIE C f j i) (tFld J.K (tVar i) f) := fun {G0 H0 G H ρ σ Q} w p => by
  cases z : fldIE C f j i ρ with
  | ok e =>
    rw [z] at p
    obtain ⟨a, dx, fs, u, P, s1, h1, h2, o⟩ := fldI_run w hm z hj
    cases o with
    | F o => exact ⟨_, s1, a, J.ca C, dx, fs, u, rfl, h1, cl, na, h2, p.of_ok u G H Pno (Ext.refl w.gh) Fr.no (.F o)⟩
  | ex c => exact absurd z (nx_fldI c)
  | no => rw [z] at p; cases p
/-- self.f = e, a new field of the owned self (slot i) -/
def newF0 (f : Str) (i : Nat) (Fe : Ev → Rs Dt) (ρ : Ev) : Ot := bindS (Fe ρ) ρ fun y => bindS (varE i ρ) ρ fun d => match d with
  | .ins C ns ds => if fix f ns = none ∧ ns.length < 100 then .nx (ρ.set i (some (.ins C (ns ++ [f]) (ds ++ [y])))) else .no
  | _ => .no
def newF (C f : Str) (i : Nat) (Fe : Ev → Rs Dt) (ρ : Ev) : Ot := bindS (varE i ρ) ρ fun d => match d with
  | .ins C' _ _ => if C' = C then newF0 f i Fe ρ else .no
  | _ => .no
theorem ss_newF {C f : Str} {i : Nat} (cl : Cls J.K (J.ca C)) (na : NoAttr J.K (J.ca C) f) (hm : Γ[i]? = some (.I ms)) (h : SemE J Γ (.o m) Fe te) (hx : Gx J Γ) :
    SemS J Γ (Γ.set i (.I (ms ++ [m]))) (newF C f i Fe) (sFld J.K (tVar i) te f) := fun {G0 H0 G H ρ σ D} w p => by
  replace p := PostS.bind w hx p
  cases hv : varE i ρ with
  | ex c => unfold varE at hv; split at hv <;> cases hv
  | no => rw [hv] at p; cases p
  | ok d =>
  rw [hv] at p
  replace p := p.of_ok
  have hq := varE_ok hv
  obtain ⟨Pf, h1, h2, h3⟩ := w.env
  obtain ⟨v, m', s1, s2, s3⟩ := h3 i d hq
  rw [hm] at s2
  cases s2
  cases s3 with
  | NI => first | cases q2 | cases q | cases p | cases q5 | cases hq | contradiction
  | @I _ C' a dx ns us ds _ k1 k2 k3 k4 k5 =>
    replace p : PostS J G0 H0 G (Γ.set i (.I (ms ++ [m]))) D (if C' = C then newF0 f i Fe ρ else .no) := p
    by_cases hC : C' = C
    case neg => rw [if_neg hC] at p; cases p
    rw [if_pos hC] at p
    subst hC
    unfold newF0 at p
    refine h w ((PostS.bind w hx p).imp (fun y _ q u G1 H1 P1 e1 f1 o1 => ?_) fun _ q => q)
    replace q : PostS J G0 H0 G (Γ.set i (.I (ms ++ [m]))) D (if fix f ns = none ∧ ns.length < 100 then .nx (ρ.set i (some (.ins C' (ns ++ [f]) (ds ++ [y])))) else .no) := by
      rw [hv] at q
      exact q
    by_cases hf : fix f ns = none ∧ ns.length < 100
    case neg => rw [if_neg hf] at q; cases q
    rw [if_pos hf] at q
    have hna : H a ≠ none := by rw [k1]; exact fun z => by cases z
    have ga : G1 a = none := by rw [e1.base a hna]; exact k2
    have hl : i < ρ.length := (List.getElem?_eq_some_iff.mp hq).1
    have zl : (ns.zip us).length = ns.length := by rw [List.length_zip, k4, Nat.min_self]
    refine ⟨_, s1, a, J.ca C', dx, ns.zip us, rfl, e1.h _ _ k1, cl, na, by rw [zl]; omega, ?_⟩
    rw [fix_putN k4 hf.1]
    have pa : ∀ b, P1 b → b ≠ a := fun b hb z => hna (by rw [← z]; exact (f1 b hb).2.1)
    have carry : ∀ b, H b ≠ none → b ≠ a → G b = none → (upd H1 a (.ins (J.ca C') dx ((ns ++ [f]).zip (us ++ [u])))) b = H b ∧ G1 b = none := fun b hb hn hg => ⟨by rw [upd_ne hn]; exact e1.h.at hb, by rw [e1.base b hb]; exact hg⟩
    refine q.of_nx σ G1 _ e1.g ⟨(w.x.trans e1).mut (h2 i a k3).2.1 ga, by rw [List.length_set, List.length_set]; exact w.lg, by rw [List.length_set]; exact w.lr, ⟨fun j b => if j = i then (Pf i b ∨ P1 b) else Pf j b, fun j k b q r s => ?_, fun j b q => ?_, fun j c q => ?_⟩, w.pn, w.xk⟩
    · by_cases hj : j = i
      · by_cases hk : k = i
        · exact q (hj.trans hk.symm)
        · simp only [hj, if_true] at r
          simp only [hk, if_false] at s
          rcases r with z | z
          · exact h1 k i b hk s z
          · exact (h2 k b s).2.2 (f1 b z).2.1
      · simp only [hj, if_false] at r
        by_cases hk : k = i
        · simp only [hk, if_true] at s
          rcases s with z | z
          · exact h1 j i b hj r z
          · exact (h2 j b r).2.2 (f1 b z).2.1
        · simp only [hk, if_false] at s
          exact h1 j k b q r s
    · have up : ∀ b, H1 b ≠ none → (upd H1 a (.ins (J.ca C') dx ((ns ++ [f]).zip (us ++ [u])))) b ≠ none := fun b hb => by
        by_cases z : b = a
        · rw [z, upd_same]; exact fun z => by cases z
        · rw [upd_ne z]; exact hb
      by_cases hj : j = i
      · simp only [hj, if_true] at q
        rcases q with q | q
        · obtain ⟨a1, a2, a3⟩ := h2 i b q
          exact ⟨by rw [e1.base b a3]; exact a1, a2, up b (e1.h.nn a3)⟩
        · exact ⟨(f1 b q).1, w.x.h.free (f1 b q).2.1, up b (f1 b q).2.2⟩
      · simp only [hj, if_false] at q
        obtain ⟨a1, a2, a3⟩ := h2 j b q
        exact ⟨by rw [e1.base b a3]; exact a1, a2, up b (e1.h.nn a3)⟩
    · by_cases hj : j = i
      · subst hj
        rw [List.getElem?_set_self hl] at q
        have hd : Dt.ins C' (ns ++ [f]) (ds ++ [y]) = c := by simpa using q
        subst hd
        refine ⟨_, .I (ms ++ [m]), s1, List.getElem?_set_self (by rw [w.lg]; exact hl), ?_⟩
        simp only [if_true]
        refine .I upd_same ga (.inl k3) (by rw [List.length_append, List.length_append, k4]; rfl) ?_
        refine Ows.append (P1 := fun b => Pf j b ∧ b ≠ a) (P2 := P1) (k5.carry e1.g fun b hb => carry b (h2 j b hb.1).2.2 hb.2 (h2 j b hb.1).1) (.cons (P1 := P1) (P2 := Pno) (o1.carry (Same.refl _) fun b hb => ⟨upd_ne (pa b hb), (f1 b hb).1⟩) .nil (fun _ z => z) (fun _ z => z.elim) (fun _ _ z => z)) (fun b hb => ⟨.inl hb.1, hb.2⟩) (fun b hb => ⟨.inr hb, pa b hb⟩) fun b q1 q2 => ?_
        exact (h2 j b q1.1).2.2 (f1 b q2).2.1
      · rw [List.getElem?_set_ne (Ne.symm hj)] at q
        obtain ⟨v2, m2, t1, t2, t3⟩ := h3 j c q
        refine ⟨v2, m2, t1, by rw [List.getElem?_set_ne (Ne.symm hj)]; exact t2, ?_⟩
        simp only [hj, if_false]
        exact t3.carry e1.g fun b hb => carry b (h2 j b hb).2.2 (fun z => h1 j i b hj hb (by rw [z]; exact k3)) (h2 j b hb).1
end
end Pm
namespace Pm
open PySem PySem.Spec PyProof.Rows L2
open Classical
/-! ### what a def promises -/
def spM (K : PySem.W.Frag) (ca : Str → Addr) (np : Nat) (m : Mode) (Fn : List Dt → Rs Dt) : Sp := fun vs H Q E => vs.length = np ∧ ∃ G ds, Same G H ∧ Rps K ca G ds vs ∧
  Rs.Post (fun d => ∀ v G' H' P, Ext G H G' H' → Fr G' H H' P → Ow K ca G' H' m d v P → Q v H') (fun c => ∀ dx H', Same H H' → XR c dx H' → E (.ref (ca c.1)) dx H') (Fn ds)
def isF : Mode → Bool
  | .F => true
  | _ => false
def outF (m : Mode) : Ot → Rs Dt
  | .nx _ => if isF m = true then .ok .non else .no
  | .rt d => .ok d
  | .ex c _ => .ex c
  | _ => .no
def defF (np nl : Nat) (m : Mode) (F : Ev → Ot) (ds : List Dt) : Rs Dt := if ds.length = np then outF m (F (ds.map some ++ List.replicate (nl - np) none)) else .no
section
variable {P : Program} {w : World} {K : PySem.W.Frag} {ca : Str → Addr} {mg : Str → Option Value} {base : Heap} {x qual : Str} {params : Arguments} {body : List Stmt} {scope : Scope} {f : Addr} {fd : FuncData} {N ps : List Str} {k : Nat} {m : Mode}
theorem fn_def {Fb : Ev → Ot} {Γ0 Γ1 : List Mode} (F : FunD K x qual params body scope [] [] f fd) (S : FnScope N ps scope) (hg : Γ0.length = N.length) (hp : ∀ i, i < ps.length → Γ0[i]? = some .F)
    (hb : ∀ (cdv : Value) (A : Around) (outer : List Env) (s : Shared) (H : Hp) (E : XK), Room k (A.deeper (envOfC qual scope s.heap.objs.size f cdv)) →
      ∃ t, PSs (cxOf (L2.CX P w) P w K mg base N qual scope f cdv A outer s H E) body t ∧ SemS ⟨K, ca, fun cls d _ H => E cls d H, none, [], m, [], none, []⟩ Γ0 Γ1 Fb t) :
    FnOk P w K mg base (L2.CX P w) (k + 1) f fd ps (spM K ca ps.length m (defF ps.length N.length m Fb)) := by
  refine F.ok S (fun vs H Q E h => h.1) fun cdv A outer s H vs Q E hr h => ?_
  obtain ⟨hl, G, ds, sg, r, p⟩ := h
  obtain ⟨t, ht, hs⟩ := hb cdv A outer s H E hr
  refine ⟨t, ht, ?_⟩
  have hpl : ps.length ≤ N.length := by have := congrArg List.length S.pre; rw [List.length_take] at this; omega
  have hdl : ds.length = ps.length := by rw [r.length]; exact hl
  have lgt : (ds.map some ++ List.replicate (N.length - ps.length) none : Ev).length = N.length := by
    rw [List.length_append, List.length_map, List.length_replicate, hdl]; omega
  refine hs (G0 := G) (H0 := H) (G := G) (H := H) (ρ := ds.map some ++ List.replicate (N.length - ps.length) none) (σ := L2.start N vs) (D := { nx := fun _ H' => Q .non H', rt := Q }) ⟨Ext.refl sg, by rw [lgt]; exact hg, ?_, ⟨fun _ => Pno, fun _ _ _ _ z => z.elim, fun _ _ z => z.elim, fun i d q => ?_⟩, (fun _ _ z => nomatch z), fun _ _ h => nomatch h⟩ ?_
  · unfold L2.start
    rw [lgt, List.length_append, List.length_map, List.length_replicate]
    omega
  · have hi : i < ds.length := by
      by_cases hi : i < ds.length
      · exact hi
      · rw [List.getElem?_append_right (by simpa using hi), List.getElem?_replicate] at q
        split at q <;> cases q
    rw [List.getElem?_append_left (by simpa using hi), List.getElem?_map] at q
    have e : ds[i]? = some d := by
      cases z : ds[i]? with
      | none => rw [z] at q; cases q
      | some e => rw [z] at q; cases q; rfl
    obtain ⟨v, hv, rv⟩ := r.get e
    refine ⟨v, .F, ?_, hp i (by omega), .F rv⟩
    unfold L2.start
    rw [List.getElem?_append_left (by rw [List.length_map]; omega), List.getElem?_map, hv]
    rfl
  · unfold defF at p
    rw [if_pos hdl] at p
    cases q : Fb (ds.map some ++ List.replicate (N.length - ps.length) none) with
    | nx ρ' =>
      rw [q] at p
      refine .nx fun σ' G' H' _ w' => ?_
      replace p : Rs.Post _ _ (if isF m = true then Rs.ok Dt.non else Rs.no) := p
      by_cases c : isF m = true
      · rw [if_pos c] at p
        have hm : m = .F := by cases m <;> first | rfl | cases c
        subst hm
        exact p.of_ok .non G' H' Pno w'.x Fr.no (.F .non)
      · rw [if_neg c] at p; cases p
    | rt d =>
      rw [q] at p
      exact .rt p.of_ok
    | bk _ => rw [q] at p; cases p
    | ct _ => rw [q] at p; cases p
    | ex c ρ' =>
      rw [q] at p
      exact .ex fun dx σ' H' s x _ => p.of_ex dx H' s x
    | no => rw [q] at p; cases p
end
/-! ### calls -/
def tMethS (C : Addr) (m : Str) (sp : Sp) (E : L2.St → XK) (ta : TE) (t : TA) : TE := fun σ H Q => ta σ H fun x H1 => ∃ a dx fs, x = .ref a ∧ H1 a = some (.ins C dx fs) ∧ fs.lookup m = none ∧ t σ H1 fun vs H2 => sp (x :: vs) H2 Q (E σ)
def tMakeS (C : Addr) (sp : Sp) (E : L2.St → XK) (t : TA) : TE := fun σ H Q => t σ H fun vs H1 => ∀ x dx, H1 x = none → H1 dx = none → dx ≠ x →
  sp (.ref x :: vs) (upd (upd H1 dx (.own x)) x (.ins C dx [])) (fun v H2 => v = .non ∧ Q (.ref x) H2) (E σ)
section
variable {X : Cx} {CX : CXT} {k : Nat} {f C : Addr} {fd : FuncData} {ps : List Str} {sp : Sp} {E : L2.St → XK} {x m : Str} {p pos apos : Pos} {e o : Expr} {es : List Expr} {ta : TE} {t : TA}
theorem pe_methS0 {pl : Sem Bool} (he : PE X o ta) (c : Cls X.K C) (hm : Meth X.K C m f) (F : FnOk X.prog X.w X.K X.mg X.base CX k f fd ps sp) (hr : Room k X.A) (hb : Binds X.K fd ps []) (hx : ∀ σ, PassesAt CX X σ (E σ))
    (ht : eval (.Call (.Attribute o m apos) [] [] pos) X.env = (do
      let ov ← eval o X.env
      standAt apos.atName
      let (f, first) ← holding [ov] (getMethod ov m pl)
      callWith pos f first (backTo pos (starEach [] X.env)) (backToKw pos (keywordEach [] X.env))) := by rfl) :
    PE X (.Call (.Attribute o m apos) [] [] pos) (tMethS C m sp E ta tNil) := by
  refine ⟨fun pins s σ H Q I h => ?_⟩
  refine PySem.W.methodCall_KW (pl := pl) (thn (he.run pins s σ H _ I h) fun u s1 ⟨x, H1, I1, rx, a, dx, fs, ex, ea, l, q⟩ => ?_) ht
  subst ex
  obtain rfl : u = Value.ref a := rx
  refine getmeth_ok I1 ea c hm l ?_
  exact PySem.W.callWith_K0 (first := [.ref a]) I1.kIn hm.kp (run_fnS (us := [.ref a]) (vs := [.ref a]) F hr hb (hx σ) I1 (.cons rfl .nil) q)
theorem run_makeS {pins : List (Addr × Obj)} {σ : L2.St} {H : Hp} {s : Shared} {Q : VK} {us : List Value} {vs : List V} (M : Mk X.K C f) (F : FnOk X.prog X.w X.K X.mg X.base CX k f fd ps sp) (hr : Room (k + 1) X.A) (hb : Binds X.K fd ps []) (hx : PassesAt CX X σ (E σ))
    (I : Inv X pins σ H s) (r : Vals vs us)
    (h : ∀ x dx, H x = none → H dx = none → dx ≠ x → sp (.ref x :: vs) (upd (upd H dx (.own x)) x (.ins C dx [])) (fun v H2 => v = .non ∧ Q (.ref x) H2) (E σ)) :
    wpAny (model X.prog X.w) X.A (call (.ref C) us) (EP X pins σ Q) X.xe s := by
  have hq := h (s.heap.objs.size + 1) s.heap.objs.size (I.hok.fresh (Nat.le_succ _)) (I.hok.fresh (Nat.le_refl _)) (Nat.ne_of_lt (Nat.lt_succ_self _))
  have I2 := Inv.made (C := C) I
  have r2 : Vals (V.ref (s.heap.objs.size + 1) :: vs) (Value.ref (s.heap.objs.size + 1) :: us) := .cons rfl r
  have hl : (Value.ref (s.heap.objs.size + 1) :: us).length = ps.length := by
    have e := r2.length
    rw [F.len _ _ _ _ hq] at e
    exact e.symm
  have b := hb _ (Value.ref (s.heap.objs.size + 1) :: us) I2.kIn (by rw [List.append_nil]; exact hl)
  rw [List.append_nil] at b
  refine wpAny_call (make_map (f := f) I.kIn M.makes M.init (beq_iff_eq.mp M.fn) (codeAny_mono (F.run _ X.stack _ _ ⟨Value.ref (s.heap.objs.size + 1) :: us, []⟩ (Value.ref (s.heap.objs.size + 1) :: us) _ _ (E σ) (hr.make C us [])
    (I2.env0.make C us []) b r2 hq) fun r s' hq' => ?_))
  cases r with
  | error e => exact hx pins _ _ e s' I2 hq'
  | ok fl =>
    cases fl with
    | ret u =>
      obtain ⟨v, H', I3, rv, ev, q3⟩ := I2.after hq'
      subst ev
      exact ⟨rv, ⟨V.ref (s.heap.objs.size + 1), H', I3, rfl, q3⟩⟩
    | next => exact False.elim hq'
    | brk => exact False.elim hq'
    | cont => exact False.elim hq'
theorem pe_makeS (M : Mk X.K C f) (F : FnOk X.prog X.w X.K X.mg X.base CX k f fd ps sp) (hr : Room (k + 1) X.A) (hg : Gl X x) (hm : X.mg x = some (.ref C)) (hb : Binds X.K fd ps []) (hx : ∀ σ, PassesAt CX X σ (E σ))
    (ha : PA X (e :: es) t) (hdb : (x == ("__debug__" : Str)) = false := by decide) (he : starEach (e :: es) X.env = (false, eval e X.env) :: starEach es X.env := by rfl) (hpl : (backTo pos (starEach es X.env)).any (·.1) = false := by rfl) :
    PE X (.Call (.Name x p) (e :: es) [] pos) (tMakeS C sp E t) := by
  refine ⟨fun pins s σ H Q I h => ?_⟩
  refine wpAny_Call_Name_kw (ld_glob I hg hm ?_ hdb)
  refine PySem.W.callWith_K (h₀ := X.base) I.ok.mod.kin M.kp (thn (ha.run pos pins s σ H _ I h) fun us s1 ⟨vs, H1, I1, r, q⟩ => ⟨I1.kIn, ?_⟩) he hpl
  exact run_makeS M F hr hb (hx σ) I1 r q
end
section
variable {J : Jc} {Γ Γ' Γ1 Γ2 : List Mode} {em : EM} {m : Mode} {ms : List Mode} {Fe Fa Fb Fi : Ev → Rs Dt} {Fs : List (Ev → Rs Dt)} {te ta tb ti : TE} {tr : TA} {G0 H0 Gs G H G' H' : Hp} {ρ : Ev} {σ : L2.St} {vs : List Nat} {Fn : List Dt → Rs Dt} {np : Nat}
def callE (Fn : List Dt → Rs Dt) (Fs : List (Ev → Rs Dt)) (ρ : Ev) : Rs Dt := argsE Fs ρ >>= Fn
theorem se_call (h : SemZ J Γ ms Fs tr) (hF : allF ms = true := by rfl) (hl : Fs.length = np := by rfl) : SemE J Γ (.o m) (callE Fn Fs) (tCallS (spM J.K J.ca np m Fn) (WE J.W) tr) := fun {G0 H0 G H ρ σ Q} w p => by
  refine h w (p.bind.imp (fun ds hd q us G1 H1 P1 e1 f1 o1 => ?_) fun _ q => q)
  have r := o1.allF hF
  refine ⟨by rw [← r.length, argsE_len hd]; exact hl, G1, ds, e1.gh, r, q.imp (fun d _ q v G2 H2 P2 e2 f2 o2 => ?_) fun c q dx H2 s => q H2 dx (e1.h.trans s)⟩
  exact q v G2 H2 P2 (e1.trans e2) (fun b hb => ⟨(f2 b hb).1, e1.h.free (f2 b hb).2.1, (f2 b hb).2.2⟩) o2
/-- arguments looked at alone, a scalar handed back -/
def scalR (r : Rs Dt) : Rs Dt := r >>= fun d => if scal d = true then .ok d else .no
def callBE (Fn : List Dt → Rs Dt) (Fs : List (Ev → Rs Dt)) (ρ : Ev) : Rs Dt := argsE Fs ρ >>= fun ds => scalR (Fn ds)
/-- o.m(..), o frozen -/
def noMeth (C m : Str) (d : Dt) : Rs Dt := match d with
  | .ins C' ns ds => if C' = C ∧ fix m ns = none then .ok d else .no
  | _ => .no
def methE (C m : Str) (Fn : List Dt → Rs Dt) (Fo : Ev → Rs Dt) (Fs : List (Ev → Rs Dt)) (ρ : Ev) : Rs Dt := Fo ρ >>= fun s => noMeth C m s >>= fun _ => argsE Fs ρ >>= fun ds => Fn (s :: ds)
def methBE (C m : Str) (Fn : List Dt → Rs Dt) (Fo : Ev → Rs Dt) (Fs : List (Ev → Rs Dt)) (ρ : Ev) : Rs Dt := Fo ρ >>= fun s => noMeth C m s >>= fun _ => argsE Fs ρ >>= fun ds => scalR (Fn (s :: ds))
theorem fix_none {f : Str} : ∀ {ns : List Str} {us : List V}, fix f ns = none → (ns.zip us).lookup f = none
  | [], _, _ => rfl
  | g :: r, [], _ => rfl
  | g :: r, x :: us, h => by
    unfold fix at h
    by_cases q : f = g
    · rw [if_pos q] at h; cases h
    · rw [if_neg q] at h
      cases z : fix f r with
      | some i => rw [z] at h; cases h
      | none =>
        show (match f == g with | true => some x | false => (r.zip us).lookup f) = none
        rw [show (f == g) = false from beq_eq_false_iff_ne.mpr q]
        exact fix_none z
theorem noMeth_run {K : PySem.W.Frag} {ca : Str → Addr} {C m : Str} {d e : Dt} {v : V} (r : Rp K ca H d v) (q : noMeth C m d = .ok e) : ∃ a dx fs, v = .ref a ∧ H a = some (.ins (ca C) dx fs) ∧ fs.lookup m = none := by
  cases r with
  | @ins C' a dx ns us ds h1 h2 h3 =>
    replace q : (if C' = C ∧ fix m ns = none then Rs.ok (Dt.ins C' ns ds) else .no) = .ok e := q
    split at q
    · rename_i hC
      obtain ⟨hC, hf⟩ := hC
      subst hC
      exact ⟨a, dx, _, rfl, h1, fix_none hf⟩
    · cases q
  | _ => cases q
theorem nx_noMeth {C m : Str} {d : Dt} {c : Xn} : noMeth C m d ≠ .ex c := by
  unfold noMeth
  split
  · split <;> intro q <;> cases q
  · intro q; cases q
theorem se_meth {C mm : Str} (ho : SemE J Γ (.o .F) Fa ta) (h : SemZ J Γ ms Fs tr) (hF : allF ms = true := by rfl) (hl : Fs.length + 1 = np := by rfl) : SemE J Γ (.o m) (methE C mm Fn Fa Fs) (tMethS (J.ca C) mm (spM J.K J.ca np m Fn) (WE J.W) ta tr) := fun {G0 H0 G H ρ σ Q} w p => by
  refine ho w (p.bind.imp (fun s _ q v G1 H1 _ e1 _ o1 => ?_) fun _ q => q)
  cases o1 with
  | F o1 =>
  cases z : noMeth C mm s with
  | ex c => exact absurd z nx_noMeth
  | no => rw [z] at q; cases q
  | ok s' =>
    rw [z] at q
    obtain ⟨a, dx, fs, rfl, h1, h2⟩ := noMeth_run o1 z
    refine ⟨a, dx, fs, rfl, e1.gh _ _ h1, h2, h (w.ext e1) ((Rs.Post.bind (r := argsE Fs ρ) q).imp (fun ds hd q us G2 H2 P2 e2 f2 o2 => ?_) fun _ q H' dx s => q H' dx (e1.h.trans s))⟩
    have r := o2.allF hF
    have e := e1.trans e2
    refine ⟨by rw [List.length_cons, ← r.length, argsE_len hd]; exact hl, G2, s :: ds, e2.gh, .cons (o1.mono e2.g) r, Rs.Post.imp q (fun d _ q v G3 H3 P3 e3 f3 o3 => ?_) fun c q dx H2 s => q H2 dx (e.h.trans s)⟩
    exact q v G3 H3 P3 (e.trans e3) (fun b hb => ⟨(f3 b hb).1, e.h.free (f3 b hb).2.1, (f3 b hb).2.2⟩) o3
/-! ### __init__, C(..) -/
def spI (K : PySem.W.Frag) (ca : Str → Addr) (C : Str) (np : Nat) (ms : List Mode) (Fn : List Dt → Rs Dt) : Sp := fun vs H Q E => vs.length = np ∧ ∃ (Hb G : Hp) (ds : List Dt) (x dx : Addr) (us : List V), vs = .ref x :: us ∧ Same Hb H ∧ Hb x = none ∧ H x = some (.ins (ca C) dx []) ∧ Same G Hb ∧ Rps K ca G ds us ∧
  Rs.Post (fun d => ∀ G' H' P, Ext G Hb G' H' → Fr G' Hb H' P → Ow K ca G' H' (.I ms) d (.ref x) P → Q .non H') (fun c => ∀ dx H', Same Hb H' → XR c dx H' → E (.ref (ca c.1)) dx H') (Fn ds)
def outI : Ot → Rs Dt
  | .nx ρ => (match ρ[0]? with
    | some (some d) => .ok d
    | _ => .no)
  | .ex c _ => .ex c
  | _ => .no
def initF (C : Str) (np nl : Nat) (F : Ev → Ot) (ds : List Dt) : Rs Dt := if ds.length + 1 = np then outI (F (some (.ins C [] []) :: ds.map some ++ List.replicate (nl - np) none)) else .no
end
section
variable {P : Program} {w : World} {K : PySem.W.Frag} {ca : Str → Addr} {mg : Str → Option Value} {base : Heap} {x qual : Str} {params : Arguments} {body : List Stmt} {scope : Scope} {f : Addr} {fd : FuncData} {N ps : List Str} {k : Nat} {ms : List Mode}
theorem fn_init {C : Str} {Fb : Ev → Ot} {Γ0 Γ1 : List Mode} (F : FunD K x qual params body scope [] [] f fd) (S : FnScope N ps scope) (hg : (Mode.I [] :: Γ0).length = N.length) (hp : ∀ i, i + 1 < ps.length → Γ0[i]? = some .F) (h1 : Γ1[0]? = some (.I ms))
    (hb : ∀ (cdv : Value) (A : Around) (outer : List Env) (s : Shared) (H : Hp) (E : XK) (xv : V), Room k (A.deeper (envOfC qual scope s.heap.objs.size f cdv)) →
      ∃ t, PSs (cxOf (L2.CX P w) P w K mg base N qual scope f cdv A outer s H E) body t ∧ SemS ⟨K, ca, fun cls d _ H => E cls d H, none, [], .F, [(0, xv)], none, []⟩ (.I [] :: Γ0) Γ1 Fb t) :
    FnOk P w K mg base (L2.CX P w) (k + 1) f fd ps (spI K ca C ps.length ms (initF C ps.length N.length Fb)) := by
  refine F.ok S (fun vs H Q E h => h.1) fun cdv A outer s H vs Q E hr h => ?_
  obtain ⟨hl, Hb, G, ds, x, dx, us, rfl, sh, hx, hX, sg, r, p⟩ := h
  obtain ⟨t, ht, hs⟩ := hb cdv A outer s H E (.ref x) hr
  refine ⟨t, ht, ?_⟩
  have hpl : ps.length ≤ N.length := by have := congrArg List.length S.pre; rw [List.length_take] at this; omega
  have hdl : ds.length + 1 = ps.length := by rw [r.length]; exact hl
  have lgt : (some (.ins C [] []) :: ds.map some ++ List.replicate (N.length - ps.length) none : Ev).length = N.length := by
    rw [List.length_append, List.length_cons, List.length_map, List.length_replicate]; omega
  refine hs (G0 := G) (H0 := Hb) (G := G) (H := H) (ρ := some (.ins C [] []) :: ds.map some ++ List.replicate (N.length - ps.length) none) (σ := L2.start N (.ref x :: us)) (D := { nx := fun _ H' => Q .non H', rt := Q })
    ⟨⟨Same.refl _, sh, sg.trans sh, fun _ _ => rfl⟩, by rw [lgt]; exact hg, ?_, ⟨fun i b => i = 0 ∧ b = x, fun i j a q z1 z2 => q (z1.1.trans z2.1.symm), fun i a z => ?_, fun i d q => ?_⟩, (fun i v z => by cases (List.mem_singleton.mp z); rfl), fun _ _ h => nomatch h⟩ ?_
  · unfold L2.start
    rw [lgt, List.length_append, List.length_map, List.length_replicate]
    omega
  · rw [z.2]
    exact ⟨sg.free hx, hx, by rw [hX]; exact fun z => by cases z⟩
  · cases i with
    | zero =>
      have e : Dt.ins C [] [] = d := by simpa using q
      subst e
      exact ⟨.ref x, .I [], rfl, rfl, .I (vs := []) hX (sg.free hx) ⟨rfl, rfl⟩ rfl .nil⟩
    | succ i =>
      have q : (ds.map some ++ List.replicate (N.length - ps.length) none : Ev)[i]? = some (some d) := by simpa using q
      have hi : i < ds.length := by
        by_cases hi : i < ds.length
        · exact hi
        · rw [List.getElem?_append_right (by simpa using hi), List.getElem?_replicate] at q
          split at q <;> cases q
      rw [List.getElem?_append_left (by simpa using hi), List.getElem?_map] at q
      have e : ds[i]? = some d := by
        cases z : ds[i]? with
        | none => rw [z] at q; cases q
        | some e => rw [z] at q; cases q; rfl
      obtain ⟨v, hv, rv⟩ := r.get e
      have hlu : i < us.length := by rw [← r.length]; exact hi
      refine ⟨v, .F, ?_, hp i (by omega), .F rv⟩
      show (some (V.ref x) :: us.map some ++ List.replicate (N.length - (V.ref x :: us).length) none : L2.St)[i + 1]? = _
      rw [List.cons_append, List.getElem?_cons_succ, List.getElem?_append_left (by rw [List.length_map]; exact hlu), List.getElem?_map, hv]
      rfl
  · unfold initF at p
    rw [if_pos hdl] at p
    cases q : Fb (some (.ins C [] []) :: ds.map some ++ List.replicate (N.length - ps.length) none) with
    | nx ρ' =>
      rw [q] at p
      refine .nx fun σ' G' H' _ w' => ?_
      cases z : ρ'[0]? with
      | none => simp only [outI, z] at p; cases p
      | some o =>
      cases o with
      | none => simp only [outI, z] at p; cases p
      | some d =>
        simp only [outI, z] at p
        obtain ⟨Pf, k1, k2, k3⟩ := w'.env
        obtain ⟨v, m, s1, s2, s3⟩ := k3 0 d z
        rw [w'.pn 0 (.ref x) List.mem_cons_self] at s1
        cases s1
        rw [h1] at s2
        cases s2
        exact p.of_ok G' H' (Pf 0) w'.x (fun b hb => k2 0 b hb) s3
    | rt d => rw [q] at p; cases p
    | bk _ => rw [q] at p; cases p
    | ct _ => rw [q] at p; cases p
    | ex c ρ' =>
      rw [q] at p
      exact .ex fun dx σ' H' s x _ => p.of_ex dx H' s x
    | no => rw [q] at p; cases p
end
section
variable {J : Jc} {Γ : List Mode} {ms : List Mode} {ns : List Mode} {Fs : List (Ev → Rs Dt)} {tr : TA} {Fn : List Dt → Rs Dt} {np : Nat}
theorem se_make {C : Str} (h : SemZ J Γ ms Fs tr) (hF : allF ms = true := by rfl) (hl : Fs.length + 1 = np := by rfl) : SemE J Γ (.o (.I ns)) (callE Fn Fs) (tMakeS (J.ca C) (spI J.K J.ca C np ns Fn) (WE J.W) tr) := fun {G0 H0 G H ρ σ Q} w p => by
  refine h w (p.bind.imp (fun ds hd q us G1 H1 P1 e1 f1 o1 => ?_) fun _ q => q)
  have r := o1.allF hF
  intro x dx hx hdx ne
  have s1 : Same H1 (upd (upd H1 dx (.own x)) x (.ins (J.ca C) dx [])) := fun b o e => by
    rw [upd_ne (ne_of_none e hx), upd_ne (ne_of_none e hdx)]
    exact e
  refine ⟨by rw [List.length_cons, ← r.length, argsE_len hd]; exact hl, H1, G1, ds, x, dx, us, rfl, s1, hx, upd_same, e1.gh, r, q.imp (fun d _ q G2 H2 P2 e2 f2 o2 => ⟨rfl, ?_⟩) fun c q dx H2 s => q H2 dx (e1.h.trans s)⟩
  exact q (.ref x) G2 H2 P2 (e1.trans e2) (fun b hb => ⟨(f2 b hb).1, e1.h.free (f2 b hb).2.1, (f2 b hb).2.2⟩) o2
end
end Pm
namespace Pm
open PySem PySem.Spec PyProof.Rows L2
open Classical
/-! ### small helpers for the printed texts -/
theorem hpF : ∀ {Γ : List Mode} {n : Nat}, allF (Γ.take n) = true → n ≤ Γ.length → ∀ i, i < n → Γ[i]? = some .F
  | [], n, _, h, i, hi => by simp at h; omega
  | m :: Γ, 0, _, _, i, hi => by omega
  | m :: Γ, n + 1, h, hl, i, hi => by
    rw [List.take_succ_cons] at h
    cases m with
    | F =>
      cases i with
      | zero => rfl
      | succ i => rw [List.getElem?_cons_succ]; exact hpF (n := n) h (by simpa using hl) i (by omega)
    | _ => cases h
/-- lists of bools, of ints -/
def blsOf : List Dt → Option (List Bool)
  | [] => some []
  | .bl b :: ds => (blsOf ds).map (b :: ·)
  | _ => none
def intsOf : List Dt → Option (List Int)
  | [] => some []
  | .int i :: ds => (intsOf ds).map (i :: ·)
  | _ => none
section
variable {K : PySem.W.Frag} {ca : Str → Addr} {H : Hp}
theorem rps_ints : ∀ {ds : List Dt} {bs : List Int} {vs : List V}, intsOf ds = some bs → Rps K ca H ds vs → vs = bs.map V.int
  | [], bs, vs, h, r => by cases h; cases r; rfl
  | d :: ds, bs, vs, h, r => by
    cases r with
    | cons r1 r2 =>
      cases d with
      | int b =>
        cases q : intsOf ds with
        | none => simp [intsOf, q] at h
        | some cs =>
          have e : b :: cs = bs := by simpa [intsOf, q] using h
          subst e
          cases r1
          rw [rps_ints q r2]; rfl
      | _ => simp [intsOf] at h
end
theorem intsOf_map (bs : List Int) : intsOf (bs.map Dt.int) = some bs := by
  induction bs with
  | nil => rfl
  | cons b bs ih => rw [List.map_cons, intsOf, ih]; rfl
def lisD : Dt → Option (List Dt)
  | .lst ds => some ds
  | .scr ds => some ds
  | _ => none
def allD (d : Dt) : Rs Dt := match lisD d with
  | some ds => (match blsOf ds with | some bs => .ok (.bl (bs.all id)) | none => .no)
  | none => .no
def anyD (d : Dt) : Rs Dt := match lisD d with
  | some ds => (match blsOf ds with | some bs => .ok (.bl (bs.any id)) | none => .no)
  | none => .no
def sumD (d : Dt) : Rs Dt := match lisD d with
  | some ds => (match intsOf ds with | some bs => .ok (.int bs.sum) | none => .no)
  | none => .no
def maxL : List Int → Int
  | [] => 0
  | a :: r => r.foldl max a
theorem foldl_max_le : ∀ (l : List Int) (a : Int), a ≤ l.foldl max a ∧ (∀ y ∈ l, y ≤ l.foldl max a) ∧ (l.foldl max a = a ∨ l.foldl max a ∈ l)
  | [], a => ⟨Int.le_refl _, fun y h => (by cases h), .inl rfl⟩
  | b :: l, a => by
    obtain ⟨h1, h2, h3⟩ := foldl_max_le l (max a b)
    rw [List.foldl_cons]
    refine ⟨by omega, fun y hy => ?_, ?_⟩
    · rcases List.mem_cons.mp hy with rfl | hy
      · omega
      · exact h2 y hy
    · rcases h3 with h3 | h3
      · by_cases q : a ≤ b
        · right; rw [h3, Int.max_eq_right q]; exact List.mem_cons_self
        · left; rw [h3, Int.max_eq_left (by omega)]
      · right; exact List.mem_cons_of_mem _ h3
def maxD (d : Dt) : Rs Dt := match lisD d with
  | some ds => (match intsOf ds with | some (a :: r) => .ok (.int (maxL (a :: r))) | _ => .no)
  | none => .no
def allE := op1E allD
def anyE := op1E anyD
def sumE := op1E sumD
def maxE := op1E maxD
theorem lis_rp {K : PySem.W.Frag} {ca : Str → Addr} {H : Hp} {b : Dt} {y : V} {ds : List Dt} (q : lisD b = some ds) (rb : Rp K ca H b y) : ∃ a vs, y = .ref a ∧ SqL K H a vs ∧ Rps K ca H ds vs := by
  cases rb with
  | lst h1 h2 => cases q; exact ⟨_, _, rfl, .of h1, h2⟩
  | scr h1 h2 => cases q; exact ⟨_, _, rfl, h1, h2⟩
  | _ => cases q
section
variable {J : Jc} {Γ : List Mode} {Fa Fb : Ev → Rs Dt} {ta tb : TE}
theorem nx_lis {g : List Dt → Rs Dt} (h : ∀ ds c, g ds ≠ .ex c) : ∀ a c, (match lisD a with | some ds => g ds | none => Rs.no) ≠ .ex c := by
  intro a c
  split
  · exact h _ _
  · intro q; cases q
theorem se_max (ha : SemE J Γ .B Fa ta) : SemE J Γ (.o .F) (maxE Fa) (tCB (rMax J.K) (tCons ta tNil)) := se_cb1 (fun H a d x Q ra q k => by
  unfold maxD at q
  cases e : lisD a with
  | none => rw [e] at q; cases q
  | some ds =>
    simp only [e] at q
    cases e2 : intsOf ds with
    | none => rw [e2] at q; cases q
    | some bs =>
      cases bs with
      | nil => simp only [e2] at q; cases q
      | cons b r' =>
      simp only [e2] at q
      cases q
      obtain ⟨p, vs, rfl, hs, r⟩ := lis_rp e ra
      refine ⟨p, b :: r', rfl, by rw [← rps_ints e2 r]; exact hs, by simp, fun m hm hle => ?_⟩
      obtain ⟨h1, h2, h3⟩ := foldl_max_le r' b
      have em : m = maxL (b :: r') := by
        have a1 : m ≤ maxL (b :: r') := by
          rcases List.mem_cons.mp hm with z | z
          · rw [z]; exact h1
          · exact h2 m z
        have a2 : maxL (b :: r') ≤ m := hle _ (by
          show r'.foldl max b ∈ b :: r'
          rcases h3 with z | z
          · rw [z]; exact List.mem_cons_self
          · exact List.mem_cons_of_mem _ z)
        omega
      rw [em]
      exact k _ rfl fun _ => .int _) (nx_lis fun ds c => by split <;> intro q <;> cases q) ha
/-- max(a, b), min(a, b) of ints -/
def max2E := op2E (i2 fun i j => .ok (.int (if j > i then j else i)))
def min2E := op2E (i2 fun i j => .ok (.int (if j < i then j else i)))
end
end Pm
namespace Pm
open PySem PySem.Spec PyProof.Rows L2
open Classical
/-! ### try .. except X -/
abbrev Jc.tr (J : Jc) (W : WX) (Γ : List Mode) : Jc := { J with W := W, gx := some Γ }
/-- in the suite nothing is raised -/
abbrev Jc.nx (J : Jc) (p : List (Nat × V)) : Jc := { J with W := fun _ _ _ _ => False, pin := p }
def noX : Ot → Ot
  | .ex _ _ => .no
  | o => o
def tryS (subs : List (Str × Bool)) (Fb Fh : Ev → Ot) (ρ : Ev) : Ot := match Fb ρ with
  | .ex c ρ' => (match subs.lookup c.1 with
    | some true => noX (Fh ρ')
    | some false => .ex c ρ'
    | none => .no)
  | o => o
def tTryA (K : PySem.W.Frag) (c : Value) (i : Nat) (th : Addr → Value → Option Addr → TS) (W : WX) (tb : WX → TS) : TS := fun D σ H => tb (wAs K c i th W D) D σ H
section
variable {X : Cx} {x n : Str} {c : Value} {i : Nat} {body suite : List Stmt} {b₀ : Stmt} {np pos pos' : Pos} {tb : WX → TS} {ts : Addr → Value → Option Addr → TS} {Wout : WX}
theorem pm_tryA (hs : X.stack = X.env :: X.outer) (hf : X.env.frame = some X.env.locals) (hN : X.N.Nodup) (hi : X.N[i]? = some n) (hln : X.env.kindOf n = some .local) (hc : Names X x c) (tk : Takes X Wout)
    (hb : ∀ (W : WX) (pn : List (Addr × Obj)) (xe : Value → Shared → Prop), Takes (X.tr pn xe) W → PassesOwn (model X.prog X.w) X.A X.env xe → PSs (X.tr pn xe) body (tb W))
    (su : ∀ (a : Addr) (oe : Obj) (cls : Value) (d : Option Addr) (pn : List (Addr × Obj)), Zc cls d oe → (∃ vs, oe.data = .fields vs) → PSs (X.suite a ((a, oe) :: pn)) (b₀ :: suite) (ts a cls d)) :
    PS X (.Try body [.ExceptHandler (some (.Name x np)) (some n) (b₀ :: suite) pos'] [] [] pos) (tTryA X.K c i ts Wout tb) := ps_try_as hs hf hN hi hln hc tk hb su
end
section
variable {J : Jc} {Γ Γ' Γx : List Mode} {G0 H0 Gs G H G' H' : Hp} {ρ : Ev} {σ : L2.St} {W : WX} {Fb Fh : Ev → Ot} {tb : WX → TS} {th : TS} {D : Ends}
theorem Wd.tr (w : Wd J G0 H0 Γ ρ σ G H) : Wd (J.tr W Γx) G0 H0 Γ ρ σ G H := ⟨w.x, w.lg, w.lr, w.env, w.pn, w.xk⟩
theorem Wd.untr (w : Wd (J.tr W Γx) G0 H0 Γ ρ σ G H) : Wd J G0 H0 Γ ρ σ G H := ⟨w.x, w.lg, w.lr, w.env, w.pn, w.xk⟩
theorem Wd.unnx {p : List (Nat × V)} (hp : J.pin = p ∨ J.pin = []) (w : Wd (J.nx p) G0 H0 Γ ρ σ G H) : Wd J G0 H0 Γ ρ σ G H := ⟨w.x, w.lg, w.lr, w.env, (fun i v h => by
  rcases hp with hp | hp
  · exact w.pn i v (by rw [← hp]; exact h)
  · rw [hp] at h; cases h), w.xk⟩
theorem PostS.tr {o : Ot} (hn : ∀ c ρ', o ≠ .ex c ρ') (p : PostS J G0 H0 Gs Γ' D o) : PostS (J.tr W Γx) G0 H0 Gs Γ' D o := by
  cases p with
  | nx p => exact .nx fun a b c d e => p a b c d e.untr
  | rt p => exact .rt p
  | bk p => exact .bk fun a b c d e => p a b c d e.untr
  | ct p => exact .ct fun a b c d e => p a b c d e.untr
  | @ex c ρ' p => exact absurd rfl (hn c ρ')
/-- what a class is to another -/
def Subs (K : PySem.W.Frag) (ca : Str → Addr) (X : Value) (subs : List (Str × Bool)) : Prop := ∀ c b, subs.lookup c = some b → PySem.W.exmOne K (.ref (ca c)) X = some b
end
/-! ### try .. except X as n -/
def clrO (i : Nat) : Ot → Ot
  | .nx ρ => .nx (ρ.set i none)
  | .bk ρ => .bk (ρ.set i none)
  | .ct ρ => .ct (ρ.set i none)
  | .rt d => .rt d
  | _ => .no
def tryA (i : Nat) (subs : List (Str × Bool)) (Fb : Ev → Ot) (Fh : Str → Ev → Ot) (ρ : Ev) : Ot := match Fb ρ with
  | .ex c ρ' => (match subs.lookup c.1 with
    | some true => (match c.2 with
      | none => clrO i (Fh c.1 (ρ'.set i none))
      | some _ => .no)
    | some false => .ex c ρ'
    | none => .no)
  | o => o
/-- the suite's reading, by the class that came -/
def tSuite (ca : Str → Addr) (subs : List (Str × Bool)) (th : Addr → Str → TS) (a : Addr) (cls : Value) (d : Option Addr) : TS := fun D σ H => ∃ c, subs.lookup c = some true ∧ cls = .ref (ca c) ∧ d = none ∧ th a c D σ H
section
variable {J : Jc} {Γ Γ' Γx : List Mode} {G0 H0 Gs G H G' H' : Hp} {ρ : Ev} {σ : L2.St} {W : WX} {Fb : Ev → Ot} {Fh : Str → Ev → Ot} {tb : WX → TS} {th : Addr → Str → TS} {D : Ends}
theorem Wd.clr {i : Nat} (w : Wd J G0 H0 Γ ρ σ G H) (x : Option V) (hi : J.free i) : Wd J G0 H0 Γ (ρ.set i none) (σ.set i x) G H := by
  obtain ⟨Pf, h1, h2, h3⟩ := w.env
  refine ⟨w.x, by rw [List.length_set]; exact w.lg, by rw [List.length_set, List.length_set]; exact w.lr, ⟨Pf, h1, h2, fun j c q => ?_⟩, fun k v hv => ?_, w.xk⟩
  · by_cases hj : j = i
    · subst hj
      by_cases hl : j < ρ.length
      · rw [List.getElem?_set_self hl] at q; cases q
      · rw [List.getElem?_eq_none (by rw [List.length_set]; omega)] at q; cases q
    · rw [List.getElem?_set_ne (Ne.symm hj)] at q
      obtain ⟨v, m, s1, s2, s3⟩ := h3 j c q
      exact ⟨v, m, by rw [List.getElem?_set_ne (Ne.symm hj)]; exact s1, s2, s3⟩
  · have ne : k ≠ i := by
      exact pinB_ne hi hv
    rw [List.getElem?_set_ne (Ne.symm ne)]
    exact w.pn k v hv
theorem Wd.pinned {i : Nat} {a : Addr} (w : Wd J G0 H0 Γ ρ σ G H) (hi : i < ρ.length) (hp : J.pin = []) : Wd (J.nx [(i, .ref a)]) G0 H0 Γ (ρ.set i none) (σ.set i (some (.ref a))) G H := by
  have w2 := w.clr (some (.ref a)) (show pinB J.pin i = true by rw [hp]; rfl)
  refine ⟨w2.x, w2.lg, w2.lr, w2.env, fun k v h => ?_, w2.xk⟩
  have e : (k, v) = (i, V.ref a) := List.mem_singleton.mp h
  cases e
  exact List.getElem?_set_self (by rw [← w.lr]; exact hi)
theorem PostS.clr {i : Nat} {a : Addr} {o : Ot} (hp : J.pin = []) (p : PostS J G0 H0 Gs Γ' D (clrO i o)) : PostS (J.nx [(i, .ref a)]) G0 H0 Gs Γ' { nx := fun σ' H' => D.nx (σ'.set i none) H', rt := D.rt, bk := fun σ' H' => D.bk (σ'.set i none) H', ct := fun σ' H' => D.ct (σ'.set i none) H' } o := by
  have fr : J.free i := by show pinB J.pin i = true; rw [hp]; rfl
  cases o with
  | nx r => cases p with | nx p => exact .nx fun a b c d e => p _ b c d ((e.unnx (.inr hp)).clr none fr)
  | rt r => cases p with | rt p => exact .rt p
  | bk r => cases p with | bk p => exact .bk fun a b c d e => p _ b c d ((e.unnx (.inr hp)).clr none fr)
  | ct r => cases p with | ct p => exact .ct fun a b c d e => p _ b c d ((e.unnx (.inr hp)).clr none fr)
  | ex c r => cases p
  | no => cases p
theorem ss_tryA {X : Value} {i : Nat} {subs : List (Str × Bool)} (hs : Subs J.K J.ca X subs) (hb : ∀ W, SemS (J.tr W Γx) Γ Γ' Fb (tb W)) (hh : ∀ a c, subs.lookup c = some true → SemS (J.nx [(i, .ref a)]) Γx Γ' (Fh c) (th a c)) (hx : J.gx = none) (hp : J.pin = []) (hi : i < Γx.length) :
    SemS J Γ Γ' (tryA i subs Fb Fh) (tTryA J.K X i (tSuite J.ca subs th) J.W tb) := fun {G0 H0 G H ρ σ D} w p => by
  refine hb _ w.tr ?_
  unfold tryA at p
  cases q : Fb ρ with
  | ex c ρ' =>
    rw [q] at p
    refine .ex fun dx σ' H' s xr k => ?_
    obtain ⟨G', sg, w2⟩ := k Γx rfl
    have p : PostS J G0 H0 G Γ' D (match subs.lookup c.1 with
      | some true => (match c.2 with
        | none => clrO i (Fh c.1 (ρ'.set i none))
        | some _ => .no)
      | some false => .ex c ρ'
      | none => .no) := p
    cases z : subs.lookup c.1 with
    | none => rw [z] at p; cases p
    | some b =>
      refine ⟨b, hs _ _ z, fun hb a ha => ?_, fun hb => ?_⟩
      · subst hb
        rw [z] at p
        have p : PostS J G0 H0 G Γ' D (match c.2 with
          | none => clrO i (Fh c.1 (ρ'.set i none))
          | some _ => .no) := p
        cases z2 : c.2 with
        | some n => rw [z2] at p; cases p
        | none =>
          rw [z2] at p
          have dxn : dx = none := by
            unfold XR at xr
            rw [z2] at xr
            exact xr
          refine ⟨c.1, z, rfl, dxn, ?_⟩
          exact hh a c.1 z (w2.untr.pinned (by rw [← w2.lg]; exact hi) hp) ((PostS.clr hp p).up sg)
      · subst hb
        rw [z] at p
        cases p with
        | ex p => exact p dx σ' H' s xr fun Γ1 e => by rw [hx] at e; cases e
  | nx r => rw [q] at p; exact p.tr (fun _ _ z => by cases z)
  | rt r => rw [q] at p; exact p.tr (fun _ _ z => by cases z)
  | bk r => rw [q] at p; exact p.tr (fun _ _ z => by cases z)
  | ct r => rw [q] at p; exact p.tr (fun _ _ z => by cases z)
  | no => rw [q] at p; cases p
end
/-- the suite, whatever class came -/
theorem pss_suite {X : Cx} {b : List Stmt} {ca : Str → Addr} {subs : List (Str × Bool)} {th : Addr → Str → TS} {a : Addr} {cls : Value} {d : Option Addr} (h : ∀ c, subs.lookup c = some true → cls = .ref (ca c) → d = none → PSs X b (th a c)) : PSs X b (tSuite ca subs th a cls d) := by
  refine ⟨fun pins s σ H D I q => ?_⟩
  obtain ⟨c, h1, h2, h3, h4⟩ := q
  exact (h c h1 h2 h3).run pins s σ H D I h4
/-! ### isinstance of the caught exception -/
def isxE (tab : List (Str × Bool)) (c : Str) (_ : Ev) : Rs Dt := match tab.lookup c with
  | some b => .ok (.bl b)
  | none => .no
def Isx (K : PySem.W.Frag) (ca : Str → Addr) (cv : Value) (tab : List (Str × Bool)) : Prop := ∀ c b, tab.lookup c = some b → PySem.W.kitOne K (.ref (ca c)) cv = some b
theorem se_isx {J : Jc} {Γ : List Mode} {i : Nat} {a : Addr} {c : Str} {cv : Value} {v : V} {tab : List (Str × Bool)} (hp : (i, V.ref a) ∈ J.pin) (hv : ∀ u, RelV v u → u = cv) (ht : Isx J.K J.ca cv tab) : SemE J Γ (.o .F) (isxE tab c) (tCB (rIsE J.K (J.ca c) a) (tCons (tVar i) (tCons (tC v) tNil))) := fun {G0 H0 G H ρ σ Q} w p => by
  unfold isxE at p
  cases z : tab.lookup c with
  | none => rw [z] at p; cases p
  | some b =>
    rw [z] at p
    refine ⟨_, w.pn i _ hp, v, cv, b, rfl, hv, ht c b z, ?_⟩
    exact p.of_ok (.bl b) G H Pno (Ext.refl w.gh) Fr.no (.F (.bl b))
/-! the facts, as Bools -/
theorem excCB_ok {K : PySem.W.Frag} {x : Str} (h : excCB K x = true) : ExcC K (He.ga K x) := by
  unfold excCB at h
  obtain ⟨h1, h⟩ := He.ba h
  obtain ⟨h2, h⟩ := He.ba h
  obtain ⟨h3, h⟩ := He.ba h
  obtain ⟨h4, h⟩ := He.ba h
  obtain ⟨h5, h⟩ := He.ba h
  obtain ⟨h6, h⟩ := He.ba h
  obtain ⟨h7, h8⟩ := He.ba h
  exact ⟨He.eqO_ok h1, He.eqO_ok h2, of_decide_eq_true h3, h4, He.eqO_ok h5, He.eqO_ok h6, of_decide_eq_true h7, of_decide_eq_true h8⟩
theorem lookup_in {α : Type} {c : Str} {b : α} : ∀ {tab : List (Str × α)}, tab.lookup c = some b → (c, b) ∈ tab
  | [], h => by cases h
  | (x, y) :: r, h => by
    have h : (match c == x with | true => some y | false => r.lookup c) = some b := h
    cases q : (c == x) with
    | true =>
      rw [q] at h
      rw [beq_iff_eq.mp q, Option.some.inj h]
      exact List.mem_cons_self
    | false =>
      rw [q] at h
      exact List.mem_cons_of_mem _ (lookup_in h)
theorem subsB_ok {K : PySem.W.Frag} {X : Value} {tab : List (Str × Bool)} (h : subsB K X tab = true) : Subs K (He.ga K) X tab := fun c b e => of_decide_eq_true (List.all_eq_true.mp h _ (lookup_in e))
theorem isxB_ok {K : PySem.W.Frag} {X : Value} {tab : List (Str × Bool)} (h : isxB K X tab = true) : Isx K (He.ga K) X tab := fun c b e => of_decide_eq_true (List.all_eq_true.mp h _ (lookup_in e))
theorem excB_ok {K : PySem.W.Frag} {tab : List (Str × Bool)} (h : excB K tab = true) : ∀ c, tab.lookup c = some true → ExcC K (He.ga K c) := fun c e => by
  have := List.all_eq_true.mp h _ (lookup_in e)
  exact excCB_ok (by simpa using this)
end Pm
namespace Pm
open PySem PySem.Spec PyProof.Rows L2
open Classical
/-! ### more changes of a list -/
section
variable {J : Jc} {Γ Γ' Γ1 Γ2 : List Mode} {em : EM} {m : Mode} {ms : List Mode} {Fe Fa Fb Fi : Ev → Rs Dt} {Fs : List (Ev → Rs Dt)} {te ta tb ti : TE} {tr : TA} {G0 H0 Gs G H G' H' : Hp} {ρ : Ev} {σ : L2.St} {vs : List Nat}
  {F F1 F2 : Ev → Ot} {ts t1 t2 : TS} {D : Ends} {d : Dt} {v : V} {put : Dt → Ev} {Fp : Ev → Rs (Dt × (Dt → Ev))}
theorem Ows.split {K : PySem.W.Frag} {ca : Str → Addr} : ∀ {ds : List Dt} {us : List V} {P : Addr → Prop} (n : Nat), Ows K ca G H (List.replicate ds.length m) ds us P → ∃ P1 P2 : Addr → Prop, Ows K ca G H (List.replicate (ds.take n).length m) (ds.take n) (us.take n) P1 ∧ Ows K ca G H (List.replicate (ds.drop n).length m) (ds.drop n) (us.drop n) P2 ∧ (∀ b, P1 b → P b) ∧ (∀ b, P2 b → P b) ∧ ∀ b, P1 b → ¬ P2 b
  | [], us, P, n, h => by
    cases h
    simp
    exact ⟨Pno, .nil, Pno, .nil, fun _ z => z.elim, fun _ z => z.elim, fun _ z => z.elim⟩
  | d :: ds, us, P, 0, h => ⟨Pno, P, .nil, h, fun _ z => z.elim, fun _ z => z, fun _ z => z.elim⟩
  | d :: ds, us, P, n + 1, h => by
    rw [List.length_cons, List.replicate_succ] at h
    cases h with
    | @cons _ _ _ _ v us _ A B h1 h2 q1 q2 q3 =>
      obtain ⟨P1, P2, o1, o2, r1, r2, r3⟩ := Ows.split n h2
      refine ⟨fun b => A b ∨ P1 b, P2, ?_, o2, fun b hb => hb.elim (q1 b) fun z => q2 b (r1 b z), fun b hb => q2 b (r2 b hb), fun b hb z => ?_⟩
      · rw [List.take_succ_cons, List.length_cons, List.replicate_succ, List.take_succ_cons]
        exact .cons h1 o1 (fun _ => .inl) (fun _ => .inr) fun b ha hp => q3 b ha (r1 b hp)
      · rcases hb with hb | hb
        · exact q3 b hb (r2 b z)
        · exact r3 b hb z
/-- P.insert(i, e) -/
def insD (ds : List Dt) (as : List Dt) : Option (List Dt) := match as with
  | [.int i, y] => if (lenSz ds.length && (decide (0 ≤ i) && intSz i)) = true then some (ds.take i.toNat ++ [y] ++ ds.drop i.toNat) else none
  | _ => none
theorem insD_some {ds as es : List Dt} (h : insD ds as = some es) : ∃ i y, as = [.int i, y] ∧ (lenSz ds.length && (decide (0 ≤ i) && intSz i)) = true ∧ es = ds.take i.toNat ++ [y] ++ ds.drop i.toNat := by
  unfold insD at h
  split at h
  · split at h
    · cases h
      exact ⟨_, _, rfl, by assumption, rfl⟩
    · cases h
  · cases h
def chgS (f : List Dt → List Dt → Option (List Dt)) (Fp : Ev → Rs (Dt × (Dt → Ev))) (Fs : List (Ev → Rs Dt)) (ρ : Ev) : Ot := bindS (Fp ρ) ρ fun x => match x.1 with
  | .lst ds => bindS (argsE Fs ρ) ρ fun as => match f ds as with
    | some es => .nx (x.2 (.lst es))
    | none => .no
  | _ => .no
abbrev insS := chgS insD
theorem ss_ins (h : SemP J Γ Fp (.L m) te) (k : SemZ J Γ [.F, m] Fs tr) (hx : Gx J Γ) : SemS J Γ Γ (insS Fp Fs) (tDrop (tBM J.K "list" (fun x vs H Q => ∃ (l : Addr) (xs : List V) (i : Int) (y : V), x = .ref l ∧ vs = [.int i, y] ∧ H l = some (.lst xs) ∧ xs.length < sizeLine ∧ 0 ≤ i ∧ i < 2 ^ 63 ∧ Q .non (upd H l (.lst (xs.take i.toNat ++ [y] ++ xs.drop i.toNat)))) te tr)) := fun {G0 H0 G H ρ σ D} w p => by
  refine h w ((PostS.bind w hx p).imp (fun x _ q v G1 H1 e1 f1 => ?_) fun _ q => q)
  obtain ⟨xd, xp⟩ := x
  have w1 := w.ext e1
  cases xd with
  | lst ds =>
    have q : PostS J G0 H0 G1 Γ D (bindS (argsE Fs ρ) ρ fun as => match insD ds as with
      | some es => .nx (xp (.lst es))
      | none => .no) := q.up e1.g
    obtain ⟨a, us, Pin, rfl, hu, _⟩ := f1.chg w1 (Ext.refl w1.gh)
    refine ⟨.inl ⟨rfl, us, .of hu⟩, ?_⟩
    refine k w1 ((PostS.bind w1 hx q).imp (fun as _ q ys G2 H2 P2 e2 f2 o2 => ?_) fun _ q => q)
    obtain ⟨a', us', Pin', ea, hu', own, pr, fin⟩ := f1.chg w1 e2
    cases ea
    have q : PostS J G0 H0 G1 Γ D (match insD ds as with
      | some es => .nx (xp (.lst es))
      | none => .no) := q
    cases z : insD ds as with
    | none => rw [z] at q; cases q
    | some es =>
      rw [z] at q
      obtain ⟨i, y, rfl, c, rfl⟩ := insD_some z
      cases o2 with
      | @cons _ _ _ _ vi vs2 _ A B oi o3 q1 q2 q3 =>
        cases o3 with
        | @cons _ _ _ _ vy vs3 _ A2 B2 oy o4 r1 r2 r3 =>
          cases o4
          cases oi with
          | F oi =>
            cases oi
            rw [Bool.and_eq_true, Bool.and_eq_true] at c
            have i0 := of_decide_eq_true c.2.1
            have i1 := (intSz_ok c.2.2).2
            have hlen := own.len.1
            refine ⟨a, us', i, vy, rfl, rfl, hu', by rw [← hlen]; exact lenSz_lt c.1, i0, by omega, ?_⟩
            obtain ⟨P1, P3, s1, s2, t1, t2, t3⟩ := own.split i.toNat
            have A2P : ∀ b, A2 b → P2 b := fun b hb => q2 b (r1 b hb)
            refine q.of_nx σ G2 _ e2.g (fin (ds.take i.toNat ++ [y] ++ ds.drop i.toNat) (us'.take i.toNat ++ [vy] ++ us'.drop i.toNat) (fun b => Pin' b ∨ A2 b) ?_ fun b hb => ?_)
            · rw [show List.replicate (ds.take i.toNat ++ [y] ++ ds.drop i.toNat).length m = (List.replicate (ds.take i.toNat).length m ++ [m]) ++ List.replicate (ds.drop i.toNat).length m by
                rw [List.length_append, List.length_append, ← List.replicate_append_replicate, ← List.replicate_append_replicate]
                rfl]
              refine Ows.append (P1 := fun b => P1 b ∨ A2 b) (P2 := P3) (Ows.append (P1 := P1) (P2 := A2) s1 (.cons (P1 := A2) (P2 := Pno) oy .nil (fun _ z => z) (fun _ z => z.elim) (fun _ _ z => z)) (fun _ => .inl) (fun _ => .inr) fun b hb z => ?_) s2 (fun b hb => hb.imp (t1 b) id) (fun b hb => .inl (t2 b hb)) fun b hb z => ?_
              · exact (pr b (t1 b hb)).1 (f2 b (A2P b z)).2.1
              · rcases hb with hb | hb
                · exact t3 b hb z
                · exact (pr b (t2 b z)).1 (f2 b (A2P b hb)).2.1
            · rcases hb with hb | hb
              · exact ⟨(pr b hb).2.1, .inl hb⟩
              · have f := f2 b (A2P b hb)
                refine ⟨fun z => ?_, .inr ⟨f.2.1, f.1, f.2.2⟩⟩
                rw [z, hu] at f
                cases f.2.1
  | _ => cases q
/-- P.extend(e), e's parts frozen -/
def extD (ds : List Dt) (e : Dt) : Option (List Dt) := match e with
  | .lst es => if lenSz (ds.length + es.length) = true then some (ds ++ es) else none
  | _ => none
def chg1S (f : List Dt → Dt → Option (List Dt)) (Fp : Ev → Rs (Dt × (Dt → Ev))) (Fe : Ev → Rs Dt) (ρ : Ev) : Ot := bindS (Fp ρ) ρ fun x => match x.1 with
  | .lst ds => bindS (Fe ρ) ρ fun e => match f ds e with
    | some es => .nx (x.2 (.lst es))
    | none => .no
  | _ => .no
abbrev extS := chg1S extD
theorem ss_ext (h : SemP J Γ Fp (.L .F) te) (k : SemE J Γ .S Fe ta) (hx : Gx J Γ) : SemS J Γ Γ (extS Fp Fe) (tDrop (tBM J.K "list" rExtend te (tCons ta tNil))) := fun {G0 H0 G H ρ σ D} w p => by
  refine h w ((PostS.bind w hx p).imp (fun x _ q v G1 H1 e1 f1 => ?_) fun _ q => q)
  obtain ⟨xd, xp⟩ := x
  have w1 := w.ext e1
  cases xd with
  | lst ds =>
    have q : PostS J G0 H0 G1 Γ D (bindS (Fe ρ) ρ fun e => match extD ds e with
      | some es => .nx (xp (.lst es))
      | none => .no) := q.up e1.g
    obtain ⟨a, us, Pin, rfl, hu, _⟩ := f1.chg w1 (Ext.refl w1.gh)
    refine ⟨.inl ⟨rfl, us, .of hu⟩, ?_⟩
    refine k w1 ((PostS.bind w1 hx q).imp (fun y _ q vy G2 H2 P2 e2 f2 o2 => ?_) fun _ q => q)
    obtain ⟨a', us', Pin', ea, hu', own, pr, fin⟩ := f1.chg w1 e2
    cases ea
    have q : PostS J G0 H0 G1 Γ D (match extD ds y with
      | some es => .nx (xp (.lst es))
      | none => .no) := q
    cases y with
    | lst es =>
      obtain ⟨b, zs, rfl, hz, rz⟩ := S_lst o2
      have q : PostS J G0 H0 G1 Γ D (match (if lenSz (ds.length + es.length) = true then some (ds ++ es) else none) with
        | some es => .nx (xp (.lst es))
        | none => .no) := q
      by_cases c : lenSz (ds.length + es.length) = true
      case neg => rw [if_neg c] at q; cases q
      rw [if_pos c] at q
      refine ⟨a, b, us', zs, rfl, rfl, hu', hz, by rw [← own.len.1, ← rz.length]; exact lenSz_ok c, ?_⟩
      exact q.of_nx σ G2 _ e2.g (fin (ds ++ es) (us' ++ zs) Pno (Rps.own ((own.frozen).append rz)) fun b z => z.elim)
    | _ => cases q
  | _ => cases q
/-- P.reverse(), P.clear() -/
def chg0S (f : List Dt → List Dt) (Fp : Ev → Rs (Dt × (Dt → Ev))) (ρ : Ev) : Ot := bindS (Fp ρ) ρ fun x => match x.1 with
  | .lst ds => .nx (x.2 (.lst (f ds)))
  | _ => .no
end
end Pm
namespace Pm
open PySem PySem.Spec PyProof.Rows L2
open Classical
/-! ### sorted -/
def sortI (ns : List Int) : List Int := ns.mergeSort fun a b => decide (a ≤ b)
theorem sortI_perm (ns : List Int) : (sortI ns).Perm ns := List.mergeSort_perm _ _
theorem sortI_le (ns : List Int) : (sortI ns).Pairwise (· ≤ ·) := by
  have := List.pairwise_mergeSort (le := fun a b : Int => decide (a ≤ b)) (fun a b c h1 h2 => by
    have := of_decide_eq_true h1
    have := of_decide_eq_true h2
    exact decide_eq_true (by omega)) (fun a b => by
    rw [Bool.or_eq_true]
    rcases Int.le_total a b with h | h
    · exact .inl (decide_eq_true h)
    · exact .inr (decide_eq_true h)) ns
  exact this.imp fun h => of_decide_eq_true h
theorem sortI_uniq {ns ms : List Int} (hp : ms.Perm ns) (hs : ms.Pairwise (· ≤ ·)) : ms = sortI ns :=
  List.Perm.eq_of_pairwise (fun a b _ _ h1 h2 => Int.le_antisymm h1 h2) hs (sortI_le ns) (hp.trans (sortI_perm ns).symm)
def leP (p q : Int × Int) : Bool := decide (p.1 < q.1 ∨ (p.1 = q.1 ∧ p.2 ≤ q.2))
theorem leP_iff {p q : Int × Int} : leP p q = true ↔ p.1 < q.1 ∨ (p.1 = q.1 ∧ p.2 ≤ q.2) := decide_eq_true_iff
def sortP (ps : List (Int × Int)) : List (Int × Int) := ps.mergeSort leP
theorem sortP_perm (ps : List (Int × Int)) : (sortP ps).Perm ps := List.mergeSort_perm _ _
theorem sortP_le (ps : List (Int × Int)) : (sortP ps).Pairwise fun p q => leP p q = true :=
  List.pairwise_mergeSort (fun a b c h1 h2 => by
    rw [leP_iff] at h1 h2 ⊢
    omega) (fun a b => by
    rw [Bool.or_eq_true, leP_iff, leP_iff]
    omega) ps
theorem leP_anti {p q : Int × Int} (h1 : leP p q = true) (h2 : leP q p = true) : p = q := by
  rw [leP_iff] at h1 h2
  exact Prod.ext (by omega) (by omega)
theorem sortP_uniq {ps qs : List (Int × Int)} (hp : qs.Perm ps) (hs : qs.Pairwise fun p q => leP p q = true) : qs = sortP ps :=
  List.Perm.eq_of_pairwise (fun a b _ _ h1 h2 => leP_anti h1 h2) hs (sortP_le ps) (hp.trans (sortP_perm ps).symm)
def prD (p : Int × Int) : Dt := .tup [.int p.1, .int p.2]
def prsOf : List Dt → Option (List (Int × Int))
  | [] => some []
  | .tup [.int i, .int j] :: ds => (prsOf ds).map ((i, j) :: ·)
  | _ => none
theorem prsOf_map (ps : List (Int × Int)) : prsOf (ps.map prD) = some ps := by
  induction ps with
  | nil => rfl
  | cons p ps ih => rw [List.map_cons, prD, prsOf, ih]; rfl
theorem prsOf_some : ∀ {ds : List Dt} {ps : List (Int × Int)}, prsOf ds = some ps → ds = ps.map prD
  | [], ps, h => by cases h; rfl
  | d :: ds, ps, h => by
    unfold prsOf at h
    split at h
    · rename_i e
      cases e
    · rename_i i j ds' e
      cases e
      cases q : prsOf ds with
      | none => rw [q] at h; cases h
      | some qs =>
        rw [q] at h
        cases h
        rw [prsOf_some q]
        rfl
    · cases h
def sortID (d : Dt) : Rs Dt := match lisD d with
  | some ds => (match intsOf ds with
    | some ns => .ok (.lst ((sortI ns).map .int))
    | none => .no)
  | none => .no
def sortIE := op1E sortID
def sortPD (d : Dt) : Rs Dt := match d with
  | .lst ds => (match prsOf ds with
    | some ps => .ok (.lst ((sortP ps).map prD))
    | none => .no)
  | _ => .no
def sortPE := op1E sortPD
section
variable {J : Jc} {Γ : List Mode} {F : Ev → Rs Dt} {te : TE} {G0 H0 G H G' H' : Hp} {ρ : Ev} {σ : L2.St}
theorem rps_intsV {K : PySem.W.Frag} {ca : Str → Addr} : ∀ ns : List Int, Rps K ca G (ns.map Dt.int) (ns.map V.int)
  | [] => .nil
  | n :: ns => .cons (.int n) (rps_intsV ns)
theorem se_sortI (h : SemE J Γ .S F te) : SemE J Γ (.o (.L .F)) (sortIE F) (tCB (rSortedI J.K) (tCons te tNil)) := fun {G0 H0 G H ρ σ Q} w p => by
  refine h w (p.bind.imp (fun d _ q v G1 H1 P1 e1 _ r1 => ?_) fun _ q => q)
  have go : ∀ ds, (d = .lst ds ∨ d = .scr ds) → lisD d = some ds → (rSortedI J.K) [v] H1 Q := fun ds hd hl => by
    unfold sortID at q
    rw [hl] at q
    have q : Rs.Post _ _ (match intsOf ds with
      | some ns => Rs.ok (Dt.lst ((sortI ns).map .int))
      | none => Rs.no) := q
    cases z : intsOf ds with
    | none => rw [z] at q; cases q
    | some ns =>
      rw [z] at q
      obtain ⟨a, vs, rfl, sq, r⟩ := r1.2 ds (hd.elim .inl fun x => .inr (.inl x))
      have ev := rps_ints z r
      subst ev
      have sl : SqL J.K H1 a (ns.map V.int) := by
        rcases sq with ⟨_, s⟩ | ⟨_, s⟩ | ⟨e, _⟩
        · exact .of s
        · exact s
        · rcases hd with hd | hd <;> rw [hd] at e <;> cases e
      refine ⟨a, ns, rfl, sl, fun ns' p hp hs hn => ?_⟩
      rw [sortI_uniq hp hs]
      obtain ⟨e2, f2, o2⟩ := new_lst e1.gh hn (rps_intsV (K := J.K) (ca := J.ca) (G := G1) (sortI ns))
      exact q.of_ok (.ref p) G1 _ _ (e1.trans e2) (fun b hb => ⟨(f2 b hb).1, e1.h.free (f2 b hb).2.1, (f2 b hb).2.2⟩) o2
  cases d with
  | lst ds => exact go ds (.inl rfl) rfl
  | scr ds => exact go ds (.inr rfl) rfl
  | _ => unfold sortID at q; cases q
noncomputable def keyV (H : Hp) (x : V) : Int × Int := if h : ∃ p : Int × Int, ∃ t, x = .ref t ∧ H t = some (.tup [.int p.1, .int p.2]) then h.choose else (0, 0)
theorem keyV_eq {H : Hp} {t : Addr} {p : Int × Int} (h : H t = some (.tup [.int p.1, .int p.2])) : keyV H (.ref t) = p := by
  have ex : ∃ p : Int × Int, ∃ t', V.ref t = .ref t' ∧ H t' = some (.tup [.int p.1, .int p.2]) := ⟨p, t, rfl, h⟩
  unfold keyV
  rw [dif_pos ex]
  obtain ⟨t', e, h'⟩ := ex.choose_spec
  cases e
  rw [h] at h'
  simp only [Option.some.injEq, HO.tup.injEq, List.cons.injEq, V.int.injEq, and_true] at h'
  exact Prod.ext h'.1.symm h'.2.symm
theorem rps_pairs {K : PySem.W.Frag} {ca : Str → Addr} : ∀ {ps : List (Int × Int)} {vs : List V}, Rps K ca G (ps.map prD) vs → (∀ x ∈ vs, ∃ t, x = V.ref t ∧ G t = some (.tup [.int (keyV G x).1, .int (keyV G x).2])) ∧ vs.map (keyV G) = ps
  | [], vs, h => by cases h; exact ⟨fun x hx => absurd hx (by simp), rfl⟩
  | p :: ps, vs, h => by
    cases h with
    | @cons _ _ v vs h1 h2 =>
      obtain ⟨i1, i2⟩ := rps_pairs h2
      cases h1 with
      | tup k1 k2 =>
        obtain ⟨a, b, rfl, ra, rb⟩ := k2.two
        cases ra
        cases rb
        have e := keyV_eq k1
        refine ⟨fun x hx => ?_, by rw [List.map_cons, e, i2]⟩
        rcases List.mem_cons.mp hx with rfl | hx
        · exact ⟨_, rfl, by rw [e]; exact k1⟩
        · exact i1 x hx
theorem rps_of {K : PySem.W.Frag} {ca : Str → Addr} : ∀ {ys : List V}, (∀ x ∈ ys, ∃ t, x = V.ref t ∧ G t = some (.tup [.int (keyV G x).1, .int (keyV G x).2])) → Rps K ca G ((ys.map (keyV G)).map prD) ys
  | [], _ => .nil
  | y :: ys, h => by
    obtain ⟨t, e, ht⟩ := h y List.mem_cons_self
    refine .cons ?_ (rps_of fun x hx => h x (List.mem_cons_of_mem _ hx))
    generalize hk : keyV G y = k at ht
    subst e
    exact .tup ht (.cons (.int _) (.cons (.int _) .nil))
theorem se_sortP (h : SemE J Γ .S F te) : SemE J Γ (.o (.L .F)) (sortPE F) (tCB (rSortedPO J.K) (tCons te tNil)) := fun {G0 H0 G H ρ σ Q} w p => by
  refine h w (p.bind.imp (fun d _ q v G1 H1 P1 e1 _ r1 => ?_) fun _ q => q)
  cases d with
  | lst ds =>
    have q : Rs.Post _ _ (match prsOf ds with
      | some ps => Rs.ok (Dt.lst ((sortP ps).map prD))
      | none => Rs.no) := q
    cases z : prsOf ds with
    | none => rw [z] at q; cases q
    | some ps =>
      rw [z] at q
      obtain ⟨a, vs, rfl, hs, r⟩ := S_lst r1
      rw [prsOf_some z] at r
      obtain ⟨c1, c2⟩ := rps_pairs r
      refine ⟨a, vs, keyV G1, rfl, .of hs, fun x hx => ?_, fun ys l hsrt hstb hl => ?_⟩
      · obtain ⟨t, e, ht⟩ := c1 x hx
        exact ⟨t, e, e1.gh _ _ ht⟩
      · have hmem : ∀ x ∈ ys, ∃ t, x = V.ref t ∧ G1 t = some (.tup [.int (keyV G1 x).1, .int (keyV G1 x).2]) := fun x hx => c1 x (hstb.perm.mem_iff.mp hx)
        have hps : ys.map (keyV G1) = sortP ps := by
          refine sortP_uniq ?_ ?_
          · rw [← c2]
            exact hstb.perm.map _
          · rw [List.pairwise_map]
            refine List.Pairwise.imp (fun {x y} hxy => ?_) hsrt
            have hxy := SrtO.lexB_no.mp hxy
            rw [leP_iff]
            omega
        obtain ⟨e2, f2, o2⟩ := new_lst e1.gh hl (rps_of (K := J.K) (ca := J.ca) hmem)
        rw [hps] at o2
        exact q.of_ok (.ref l) G1 _ _ (e1.trans e2) (fun b hb => ⟨(f2 b hb).1, e1.h.free (f2 b hb).2.1, (f2 b hb).2.2⟩) o2
  | _ => cases q
end
end Pm
namespace RT
open PySem PySem.Spec PyProof.Rows
open AutoSeq1 (wpAny_loadPart')
/-! ### list(reversed(a list)) -/
section
variable {prog : Program} {w : World} {A : Around} {E : Value → Shared → Prop} {s : Shared}
end
end RT
namespace Pm
open PySem PySem.Spec PyProof.Rows L2 RT
section
variable {X : Cx}
end
/-! readings -/
section
variable {J : Jc} {Γ : List Mode} {em : EM} {m : Mode} {Fs : List (Ev → Rs Dt)} {F Fa Fb : Ev → Rs Dt} {te ta tb : TE} {tr : TA} {G0 H0 G H G' H' : Hp} {ρ : Ev} {σ : L2.St}
def lrevD (d : Dt) : Rs Dt := match lisD d with
  | some ds => .ok (.lst ds.reverse)
  | none => .no
def lrevE := op1E lrevD
def trevD (d : Dt) : Rs Dt := match lisD d with
  | some ds => .ok (.tup ds.reverse)
  | none => .no
def tupRevE := op1E trevD
/-- list(range(..)) -/
def lrng1E (F : Ev → Rs Dt) (ρ : Ev) : Rs Dt := F ρ >>= fun d => match d with
  | .int j => if intSz j = true then (if lenSz j.toNat = true then .ok (.lst (rangeL 0 j.toNat)) else .no) else .no
  | _ => .no
theorem rps_rg {K : PySem.W.Frag} {ca : Str → Addr} (a b : Int) : Rps K ca G (rangeL a (b - a).toNat) (rgV a b) := by
  unfold rangeL rgV
  generalize (b - a).toNat = n
  have : ∀ l : List Nat, Rps K ca G (l.map fun i => Dt.int (a + (i : Nat))) (l.map fun i => V.int (a + (i : Nat))) := fun l => by
    induction l with
    | nil => exact .nil
    | cons x l ih => exact .cons (.int _) ih
  exact this _
theorem se_lrng1 (h : SemE J Γ .B F te) : SemE J Γ (.o (.L .F)) (lrng1E F) (tLstRg (tRg1 te)) := fun {G0 H0 G H ρ σ Q} w p => by
  refine h w (p.bind.imp (fun d _ q v G1 H1 P1 e1 _ r1 => ?_) fun _ q => q)
  cases r1 with
  | int j =>
    have q : Rs.Post _ _ (if intSz j = true then (if lenSz j.toNat = true then Rs.ok (Dt.lst (rangeL 0 j.toNat)) else .no) else .no) := q
    by_cases c : intSz j = true
    case neg => rw [if_neg c] at q; cases q
    rw [if_pos c] at q
    by_cases c2 : lenSz j.toNat = true
    case neg => rw [if_neg c2] at q; cases q
    rw [if_pos c2] at q
    have b1 := intSz_ok c
    have b2 := lenSz_le c2
    refine ⟨j, rfl, ⟨by omega, by omega, by omega, by omega, by rw [Int.sub_zero]; omega⟩, fun l hl => ?_⟩
    have r := rps_rg (K := J.K) (ca := J.ca) (G := G1) 0 j
    rw [Int.sub_zero] at r
    obtain ⟨e2, f2, o2⟩ := new_lst e1.gh hl r
    exact q.of_ok (.ref l) G1 _ _ (e1.trans e2) (fun b hb => ⟨(f2 b hb).1, e1.h.free (f2 b hb).2.1, (f2 b hb).2.2⟩) o2
  | _ => cases q
/-- divmod -/
@[irreducible] def dvmOk (j : Int) : Bool := decide (0 < j) && decide (j < 1073741824)
def dvmD : Dt → Dt → Rs Dt
  | .int i, .int j => if dvmOk j = true then .ok (.tup [.int (i / j), .int (i % j)]) else .no
  | _, _ => .no
def divmodE := op2E dvmD
end
end Pm
namespace Pm
open PySem PySem.Spec PyProof.Rows L2
open Classical
/-! ### dicts whose values are frozen -/
section
variable {κ : Type} [DecidableEq κ] {α β : Type}
def lookK (ks : List κ) (ds : List α) (k : κ) : Option α := ((ks.zip ds).find? fun q => decide (q.1 = k)).map (·.2)
def hasK (ks : List κ) (k : κ) : Bool := ks.any fun q => decide (q = k)
def putKs (ks : List κ) (k : κ) : List κ := if hasK ks k = true then ks else ks ++ [k]
def putDs (ks : List κ) (ds : List α) (k : κ) (d : α) : List α := if hasK ks k = true then (ks.zip ds).map (fun q => if q.1 = k then d else q.2) else ds ++ [d]
theorem hasK_zip : ∀ {ks : List κ} {ds : List α} {k : κ}, ks.length = ds.length → ((ks.zip ds).any fun q => decide (q.1 = k)) = hasK ks k
  | [], _, _, _ => rfl
  | _ :: _, [], _, h => by cases h
  | a :: ks, d :: ds, k, h => by
    show (decide (a = k) || (ks.zip ds).any fun q => decide (q.1 = k)) = (decide (a = k) || hasK ks k)
    rw [hasK_zip (by simpa using h)]
theorem map_zip_fst {ks : List κ} {ds : List α} {k : κ} {d : α} (h : ks.length = ds.length) : (ks.zip ds).map (fun q => if q.1 = k then (q.1, d) else q) = ks.zip ((ks.zip ds).map fun q => if q.1 = k then d else q.2) := by
  induction ks generalizing ds with
  | nil => rfl
  | cons a ks ih =>
    cases ds with
    | nil => cases h
    | cons b ds =>
      rw [List.zip_cons_cons, List.map_cons, List.map_cons, List.zip_cons_cons, ih (by simpa using h)]
      congr 1
      split <;> rfl
theorem putK_zip {ks : List κ} {vs : List V} {k : κ} {v : V} (h : ks.length = vs.length) : putK (ks.zip vs) k v = (putKs ks k).zip (putDs ks vs k v) := by
  unfold putK putKs putDs
  rw [hasK_zip h]
  cases hasK ks k with
  | true =>
    rw [if_pos rfl, if_pos rfl, if_pos rfl]
    exact map_zip_fst h
  | false =>
    rw [if_neg (by simp), if_neg (by simp), if_neg (by simp), List.zip_append h]
    rfl
theorem putL_length {ks : List κ} {ds : List α} {k : κ} {d : α} (h : ks.length = ds.length) : (putKs ks k).length = (putDs ks ds k d).length := by
  unfold putKs putDs
  split
  · rw [List.length_map, List.length_zip, h, Nat.min_self]
  · rw [List.length_append, List.length_append, h]; rfl
variable {K : PySem.W.Frag} {ca : Str → Addr} {H : Hp}
theorem lookK_rps : ∀ {ks : List κ} {ds : List Dt} {vs : List V} {k : κ}, Rps K ca H ds vs → ks.length = vs.length → (∃ d v, lookK ks ds k = some d ∧ valV (ks.zip vs) k = some v ∧ Rp K ca H d v) ∨ (lookK ks ds k = none ∧ valV (ks.zip vs) k = none)
  | [], _, _, _, _, _ => .inr ⟨rfl, rfl⟩
  | a :: ks, [], vs, k, h, hl => by cases h; cases hl
  | a :: ks, d :: ds, vs, k, h, hl => by
    cases h with
    | @cons _ _ v vs h1 h2 =>
      by_cases e : a = k
      · left
        refine ⟨d, v, ?_, ?_, h1⟩
        · unfold lookK
          rw [List.zip_cons_cons, List.find?_cons_of_pos (by simpa using e)]
          rfl
        · rw [List.zip_cons_cons]
          exact valV_pos e
      · have ih := lookK_rps (ks := ks) (k := k) h2 (by simpa using hl)
        have e1 : lookK (a :: ks) (d :: ds) k = lookK ks ds k := by
          unfold lookK
          rw [List.zip_cons_cons, List.find?_cons_of_neg (by simpa using e)]
        have e2 : valV ((a :: ks).zip (v :: vs)) k = valV (ks.zip vs) k := by
          rw [List.zip_cons_cons]
          exact valV_neg e
        rw [e1, e2]
        exact ih
theorem mapK_rps {k : κ} {d : Dt} {v : V} (r : Rp K ca H d v) : ∀ {ks : List κ} {ds : List Dt} {vs : List V}, Rps K ca H ds vs → Rps K ca H ((ks.zip ds).map fun q => if q.1 = k then d else q.2) ((ks.zip vs).map fun q => if q.1 = k then v else q.2)
  | [], _, _, _ => .nil
  | a :: ks, [], _, h => by cases h; exact .nil
  | a :: ks, d' :: ds, _, h => by
    cases h with
    | cons h1 h2 =>
      rw [List.zip_cons_cons, List.zip_cons_cons, List.map_cons, List.map_cons]
      refine .cons ?_ (mapK_rps r h2)
      show Rp K ca H (if a = k then d else d') (if a = k then v else _)
      split
      · exact r
      · exact h1
theorem putDs_rps {ks : List κ} {ds : List Dt} {vs : List V} {k : κ} {d : Dt} {v : V} (h : Rps K ca H ds vs) (hl : ks.length = vs.length) (r : Rp K ca H d v) : Rps K ca H (putDs ks ds k d) (putDs ks vs k v) := by
  unfold putDs
  split
  · exact mapK_rps r h
  · exact h.append (.cons r .nil)
end
def flatKs : List Dt → Option (List Key)
  | [] => some []
  | .int i :: ds => (flatKs ds).map (.inl i :: ·)
  | .str x :: ds => (flatKs ds).map (.inr x :: ·)
  | _ => none
def keyD : Dt → Option (Key ⊕ List Key)
  | .int i => some (.inl (.inl i))
  | .str x => some (.inl (.inr x))
  | .tup ds => (flatKs ds).map .inr
  | _ => none
section
variable {K : PySem.W.Frag} {ca : Str → Addr} {H : Hp}
theorem flatKs_rps : ∀ {ds : List Dt} {ks : List Key} {vs : List V}, flatKs ds = some ks → Rps K ca H ds vs → vs = ks.map kV
  | [], ks, vs, h, r => by cases h; cases r; rfl
  | d :: ds, ks, vs, h, r => by
    cases r with
    | cons r1 r2 =>
      cases d with
      | int i =>
        cases q : flatKs ds with
        | none => simp [flatKs, q] at h
        | some l =>
          have e : Sum.inl i :: l = ks := by simpa [flatKs, q] using h
          subst e
          cases r1
          rw [flatKs_rps q r2]
          rfl
      | str i =>
        cases q : flatKs ds with
        | none => simp [flatKs, q] at h
        | some l =>
          have e : Sum.inr i :: l = ks := by simpa [flatKs, q] using h
          subst e
          cases r1
          rw [flatKs_rps q r2]
          rfl
      | _ => simp [flatKs] at h
def dgetD (d k : Dt) : Rs (Option Dt) := match d, keyD k with
  | .dic ks ds, some (.inl x) => .ok (lookK ks ds x)
  | .dit ks ds, some (.inr x) => .ok (lookK ks ds x)
  | _, _ => .no
theorem keyL {k : Dt} {x : Key} {y : V} (h : keyD k = some (.inl x)) (r : Rp K ca H k y) : y = kV x := by
  cases r with
  | int i => cases h; rfl
  | str i => cases h; rfl
  | @tup _ _ ds _ _ => cases q : flatKs ds <;> simp [keyD, q] at h
  | _ => simp [keyD] at h
theorem keyR {k : Dt} {x : List Key} {y : V} (h : keyD k = some (.inr x)) (r : Rp K ca H k y) : ∃ b, y = .ref b ∧ H b = some (.tup (x.map kV)) := by
  cases r with
  | int i => simp [keyD] at h
  | str i => simp [keyD] at h
  | @tup a vs ds h1 h2 =>
    cases q : flatKs ds with
    | none => simp [keyD, q] at h
    | some l =>
      have e : l = x := by simpa [keyD, q] using h
      subst e
      rw [flatKs_rps q h2] at h1
      exact ⟨a, rfl, h1⟩
  | _ => simp [keyD] at h
theorem DGet.kR {H : Hp} {a : Addr} {kvs : List (Key × V)} {k : Key} (e : Rd H a (.dK kvs)) : DGet H a (kV k) (valV kvs k) := .inl ⟨kvs, k, e, rfl, rfl⟩
theorem Rp.dicR {ks : List Key} {ds : List Dt} {v : V} (h : Rp K ca H (.dic ks ds) v) : ∃ a vs, v = .ref a ∧ Rd H a (.dK (ks.zip vs)) ∧ ks.length = vs.length ∧ Rps K ca H ds vs := by
  cases h with
  | @dic a _ vs _ h1 h2 h3 => exact ⟨a, vs, rfl, .inl h1, h2, h3⟩
  | @dicZ a o _ vs _ h1 h2 h3 => exact ⟨a, vs, rfl, .inr ⟨o, h1⟩, h2, h3⟩
/-- what stands at a key -/
theorem dget_run {d k : Dt} {o : Option Dt} {x y : V} (q : dgetD d k = .ok o) (rd : Rp K ca H d x) (rk : Rp K ca H k y) : ∃ a, x = .ref a ∧ ((∃ e v, o = some e ∧ DGet H a y (some v) ∧ Rp K ca H e v) ∨ (o = none ∧ DGet H a y none)) := by
  cases d with
  | dic ks ds =>
    obtain ⟨a, vs, rfl, h1, h2, h3⟩ := rd.dicR
    cases z : keyD k with
    | none => simp [dgetD, z] at q
    | some s =>
      cases s with
      | inr l => simp [dgetD, z] at q
      | inl l =>
        have e : lookK ks ds l = o := by simpa [dgetD, z] using q
        subst e
        have ey := keyL z rk
        subst ey
        have dg := DGet.kR (k := l) h1
        refine ⟨a, rfl, ?_⟩
        rcases lookK_rps (k := l) h3 h2 with ⟨e, v, e1, e2, r⟩ | ⟨e1, e2⟩
        · rw [e2] at dg
          exact .inl ⟨e, v, e1, dg, r⟩
        · rw [e2] at dg
          exact .inr ⟨e1, dg⟩
  | dit ks ds =>
    cases rd with
    | @dit a _ vs _ h1 h2 h3 =>
    cases z : keyD k with
    | none => simp [dgetD, z] at q
    | some s =>
      cases s with
      | inl l => simp [dgetD, z] at q
      | inr l =>
        have e : lookK ks ds l = o := by simpa [dgetD, z] using q
        subst e
        obtain ⟨b, rfl, hb⟩ := keyR z rk
        have dg := DGet.t (k := l) h1 hb
        refine ⟨a, rfl, ?_⟩
        rcases lookK_rps (k := l) h3 h2 with ⟨e, v, e1, e2, r⟩ | ⟨e1, e2⟩
        · rw [e2] at dg
          exact .inl ⟨e, v, e1, dg, r⟩
        · rw [e2] at dg
          exact .inr ⟨e1, dg⟩
  | _ => simp [dgetD] at q
end
section
variable {J : Jc} {Γ Γ' Γ1 : List Mode} {em : EM} {m : Mode} {ms : List Mode} {F Fa Fb Fk Fd : Ev → Rs Dt} {te ta tb : TE} {G0 H0 Gs G H G' H' : Hp} {ρ : Ev} {σ : L2.St} {D : Ends} {v : V} {put : Dt → Ev} {Fp : Ev → Rs (Dt × (Dt → Ev))} {ts : TS} {Fs : Ev → Ot}
def dnewE (_ : Ev) : Rs Dt := .ok (.dic [] [])
def dnewTE (_ : Ev) : Rs Dt := .ok (.dit [] [])
theorem se_dnew : SemE J Γ (.o (.K m)) dnewE tDNewK := fun {G0 H0 G H ρ σ Q} w p a ha => by
  refine p.of_ok (.ref a) G _ (fun b => b = a) (Ext.heap w.gh (Same.new ha)) (fun b hb => ?_) (.K (ks := []) (vs := []) upd_same (w.gh.free ha) rfl rfl .nil)
  rw [hb, upd_same]
  exact ⟨w.gh.free ha, ha, fun z => by cases z⟩
def dinE (neg : Bool) (Fk Fd : Ev → Rs Dt) (ρ : Ev) : Rs Dt := Fk ρ >>= fun k => Fd ρ >>= fun d => dgetD d k >>= fun o => .ok (.bl (if neg = true then !o.isSome else o.isSome))
theorem nx_dget {d k : Dt} {c : Xn} : dgetD d k ≠ .ex c := by
  unfold dgetD
  split <;> intro q <;> cases q
theorem se_din (hk : SemE J Γ .B Fk ta) (hd : SemE J Γ .B Fd tb) : SemE J Γ (.o .F) (dinE false Fk Fd) (tDIn ta tb) := fun {G0 H0 G H ρ σ Q} w p => by
  refine hk w (p.bind.imp (fun k _ p1 y G1 H1 _ e1 _ rk => ?_) fun _ q => q)
  refine hd (w.ext e1) (p1.bind.imp (fun d _ q x G2 H2 _ e2 _ rd => ?_) fun _ q H' dx s => q H' dx (e1.h.trans s))
  cases z : dgetD d k with
  | ex c => exact absurd z nx_dget
  | no => rw [z] at q; cases q
  | ok o =>
    rw [z] at q
    obtain ⟨a, rfl, hg⟩ := dget_run z rd (Rp.mono e2.h rk)
    rcases hg with ⟨e, v, rfl, g, _⟩ | ⟨rfl, g⟩
    · exact ⟨a, some v, rfl, g, q.of_ok _ G2 H2 Pno (e1.trans e2) Fr.no (.F (.bl _))⟩
    · exact ⟨a, none, rfl, g, q.of_ok _ G2 H2 Pno (e1.trans e2) Fr.no (.F (.bl _))⟩
def dgetE (Fd Fk : Ev → Rs Dt) (ρ : Ev) : Rs Dt := Fd ρ >>= fun d => Fk ρ >>= fun k => dgetD d k >>= fun o => match o with
  | some e => .ok e
  | none => .no
theorem se_dgetB (hd : SemE J Γ .B Fd ta) (hk : SemE J Γ .B Fk tb) : SemE J Γ .B (dgetE Fd Fk) (tDGet ta tb) := fun {G0 H0 G H ρ σ Q} w p => by
  refine hd w (p.bind.imp (fun d _ p1 x G1 H1 _ e1 _ rd => ?_) fun _ q => q)
  refine hk (w.ext e1) (p1.bind.imp (fun k _ q y G2 H2 _ e2 _ rk => ?_) fun _ q H' dx s => q H' dx (e1.h.trans s))
  cases z : dgetD d k with
  | ex c => exact absurd z nx_dget
  | no => rw [z] at q; cases q
  | ok o =>
    rw [z] at q
    obtain ⟨a, rfl, hg⟩ := dget_run z (Rp.mono e2.h rd) rk
    rcases hg with ⟨e, v, rfl, g, r⟩ | ⟨rfl, g⟩
    · exact ⟨a, v, rfl, g, q.of_ok v G2 H2 Pno (e1.trans e2) Fr.no r⟩
    · cases q
/-- something looked at that has no parts -/
def scalE (F : Ev → Rs Dt) (ρ : Ev) : Rs Dt := F ρ >>= fun d => if scal d = true then .ok d else .no
theorem se_scal (h : SemE J Γ .B F te) : SemE J Γ (.o .F) (scalE F) te := fun {G0 H0 G H ρ σ Q} w p => by
  refine h w (p.bind.imp (fun d _ q v G1 H1 P1 e1 _ r1 => ?_) fun _ q => q)
  cases c : scal d with
  | false => rw [c] at q; cases q
  | true => rw [c] at q; exact q.of_ok v G1 H1 Pno e1 Fr.no (.F (scal_rp c r1))
def dlenD (d : Dt) : Rs Dt := match d with
  | .dic ks _ => .ok (.int ks.length)
  | _ => .no
def dlenTD (d : Dt) : Rs Dt := match d with
  | .dit ks _ => .ok (.int ks.length)
  | _ => .no
def dlenE := op1E dlenD
def dlenTE := op1E dlenTD
theorem zip_len {κ α : Type} {ks : List κ} {vs : List α} (h : ks.length = vs.length) : (ks.zip vs).length = ks.length := by rw [List.length_zip, h, Nat.min_self]
theorem call_lenDR {X : Cx} : CallR X (.builtin "len") (fun xs H Q => ∃ a kvs, xs = [V.ref a] ∧ Rd H a (.dK kvs) ∧ Q (.int kvs.length) H) := by
  intro pins s σ H xs us Q I r h
  obtain ⟨a, kvs, rfl, ha, q⟩ := h
  obtain ⟨u, rfl, ru⟩ := vals1 r
  cases ru
  exact d_len I ha fun t s' I' => ⟨.int kvs.length, H, I', ⟨t, rfl⟩, q⟩
theorem se_dlen (ha : SemE J Γ .B Fa ta) : SemE J Γ (.o .F) (dlenE Fa) (tCB (fun xs H Q => ∃ a kvs, xs = [V.ref a] ∧ Rd H a (.dK kvs) ∧ Q (.int kvs.length) H) (tCons ta tNil)) := fun {G0 H0 G H ρ σ Q} w p => by
  refine ha w (p.bind.imp (fun a _ p1 x G1 H1 _ e1 _ ra => ?_) fun _ q => q)
  cases a with
  | dic ks ds =>
    obtain ⟨a, vs, rfl, h1, h2, h3⟩ := ra.dicR
    refine ⟨a, _, rfl, h1, ?_⟩
    rw [zip_len h2]
    exact Rs.Post.of_ok p1 _ G1 H1 Pno e1 Fr.no (.F (.int _))
  | _ => cases p1
theorem room1 {k : Nat} {A : Around} (r : Room k A) : A.units + 1 < cLine := by
  have := r.units
  omega
/-! the place of a dict -/
theorem Foc.chgK {ks : List Key} {ds : List Dt} (f : Foc J H0 Γ σ G H (.K .F) (.dic ks ds) v put) (w : Wd J G0 H0 Γ ρ σ G H) (e : Ext G H G' H') : ∃ a vs, v = .ref a ∧ H' a = some (.dK (ks.zip vs)) ∧ ks.length = vs.length ∧ Rps J.K J.ca G' ds vs ∧
    ∀ ks' ds' vs', ks'.length = vs'.length → Rps J.K J.ca G' ds' vs' → Wd J G0 H0 Γ (put (.dic ks' ds')) σ G' (upd H' a (.dK (ks'.zip vs'))) := by
  obtain ⟨P, o, r, k⟩ := f.ex
  cases o with
  | @K _ a _ vs _ _ h1 h2 h3 h4 h5 =>
    have hna : H a ≠ none := by rw [h1]; exact fun z => by cases z
    have gpa : G' a = none := by rw [e.base a hna]; exact h2
    refine ⟨a, vs, rfl, e.h _ _ h1, h4, (h5.frozen).mono e.g, fun ks' ds' vs' hl rp => ?_⟩
    have en := k G' (upd H' a (.dK (ks'.zip vs'))) (.dic ks' ds') (fun b => b = a) e.g (fun b hb hn => ⟨by rw [upd_ne fun z => hn (by rw [z]; exact h3)]; exact e.h.at hb, e.base b hb⟩) (.K upd_same gpa rfl hl (Rps.own rp)) fun b hb => by
      rw [hb, upd_same]
      exact ⟨.inl h3, gpa, (r a h3).2.1, fun z => by cases z⟩
    exact ⟨(w.x.trans e).mut (r a h3).2.1 gpa, en.lg, en.lr, en.env, w.pn, w.xk⟩
theorem Foc.chgT {ks : List (List Key)} {ds : List Dt} (f : Foc J H0 Γ σ G H (.K .F) (.dit ks ds) v put) (w : Wd J G0 H0 Γ ρ σ G H) (e : Ext G H G' H') : ∃ a vs, v = .ref a ∧ H' a = some (.dT (ks.zip vs)) ∧ ks.length = vs.length ∧ Rps J.K J.ca G' ds vs ∧
    ∀ ks' ds' vs', ks'.length = vs'.length → Rps J.K J.ca G' ds' vs' → Wd J G0 H0 Γ (put (.dit ks' ds')) σ G' (upd H' a (.dT (ks'.zip vs'))) := by
  obtain ⟨P, o, r, k⟩ := f.ex
  cases o with
  | @KT _ a _ vs _ _ h1 h2 h3 h4 h5 =>
    have hna : H a ≠ none := by rw [h1]; exact fun z => by cases z
    have gpa : G' a = none := by rw [e.base a hna]; exact h2
    refine ⟨a, vs, rfl, e.h _ _ h1, h4, (h5.frozen).mono e.g, fun ks' ds' vs' hl rp => ?_⟩
    have en := k G' (upd H' a (.dT (ks'.zip vs'))) (.dit ks' ds') (fun b => b = a) e.g (fun b hb hn => ⟨by rw [upd_ne fun z => hn (by rw [z]; exact h3)]; exact e.h.at hb, e.base b hb⟩) (.KT upd_same gpa rfl hl (Rps.own rp)) fun b hb => by
      rw [hb, upd_same]
      exact ⟨.inl h3, gpa, (r a h3).2.1, fun z => by cases z⟩
    exact ⟨(w.x.trans e).mut (r a h3).2.1 gpa, en.lg, en.lr, en.env, w.pn, w.xk⟩
def dputD (d k y : Dt) : Option Dt := match d, keyD k with
  | .dic ks ds, some (.inl x) => if lenSz ks.length = true then some (.dic (putKs ks x) (putDs ks ds x y)) else none
  | .dit ks ds, some (.inr x) => if lenSz ks.length = true then some (.dit (putKs ks x) (putDs ks ds x y)) else none
  | _, _ => none
def dputS (Fv : Ev → Rs Dt) (Fp : Ev → Rs (Dt × (Dt → Ev))) (Fk : Ev → Rs Dt) (ρ : Ev) : Ot := bindS (Fv ρ) ρ fun y => bindS (Fp ρ) ρ fun x => bindS (Fk ρ) ρ fun k => match dputD x.1 k y with
  | some d => .nx (x.2 d)
  | none => .no
theorem ss_dput (h : SemE J Γ (.o .F) F te) (k : SemP J Γ Fp (.K .F) ta) (l : SemE J Γ .B Fk tb) (hx : Gx J Γ) : SemS J Γ Γ (dputS F Fp Fk) (sDPut ta tb te) := fun {G0 H0 G H ρ σ D} w p => by
  refine h w ((PostS.bind w hx p).imp (fun y _ q v G1 H1 _ e1 _ o1 => ?_) fun _ q => q)
  have w1 := w.ext e1
  refine k w1 ((PostS.bind w1 hx (PostS.up e1.g q)).imp (fun x _ q v2 G2 H2 e2 f2 => ?_) fun _ q => q)
  have w2 := w1.ext e2
  refine l w2 ((PostS.bind w2 hx (PostS.up e2.g q)).imp (fun i _ q v3 G3 H3 _ e3 _ o3 => ?_) fun _ q => q)
  obtain ⟨xd, xp⟩ := x
  cases o1 with
  | F o1 =>
  have q : PostS J G0 H0 G2 Γ D (match dputD xd i y with
    | some d => .nx (xp d)
    | none => .no) := q
  cases z : dputD xd i y with
  | none => rw [z] at q; cases q
  | some d =>
    rw [z] at q
    have oy := o1.mono (e2.g.trans e3.g)
    cases xd with
    | dic ks ds =>
      cases z2 : keyD i with
      | none => simp [dputD, z2] at z
      | some s =>
        cases s with
        | inr s => simp [dputD, z2] at z
        | inl s =>
          have z : (if lenSz ks.length = true then some (Dt.dic (putKs ks s) (putDs ks ds s y)) else none) = some d := by simpa [dputD, z2] using z
          split at z
          · rename_i c
            cases z
            have ey := keyL z2 o3
            subst ey
            obtain ⟨a, vs, rfl, hd, hl, rp, fin⟩ := f2.chgK w2 e3
            refine ⟨a, _, rfl, DPut.k hd (by rw [zip_len hl]; exact lenSz_lt c), ?_⟩
            rw [putK_zip hl]
            exact q.of_nx σ G3 _ e3.g (fin _ _ _ (putL_length hl) (putDs_rps rp hl oy))
          · cases z
    | dit ks ds =>
      cases z2 : keyD i with
      | none => simp [dputD, z2] at z
      | some s =>
        cases s with
        | inl s => simp [dputD, z2] at z
        | inr s =>
          have z : (if lenSz ks.length = true then some (Dt.dit (putKs ks s) (putDs ks ds s y)) else none) = some d := by simpa [dputD, z2] using z
          split at z
          · rename_i c
            cases z
            obtain ⟨b, rfl, hb⟩ := keyR z2 o3
            obtain ⟨a, vs, rfl, hd, hl, rp, fin⟩ := f2.chgT w2 e3
            refine ⟨a, _, rfl, DPut.t hd hb (by rw [zip_len hl]; exact lenSz_lt c), ?_⟩
            rw [putK_zip hl]
            exact q.of_nx σ G3 _ e3.g (fin _ _ _ (putL_length hl) (putDs_rps rp hl oy))
          · cases z
    | _ => simp [dputD] at z
end
end Pm
namespace Pm
open PySem PySem.Spec PyProof.Rows L2
open Classical
/-! ### the place of a field, of a tuple's item -/
section
variable {J : Jc} {Γ Γ' Γ1 : List Mode} {em : EM} {m : Mode} {ms : List Mode} {F Fa Fb Fi : Ev → Rs Dt} {te ta tb ti : TE} {G0 H0 Gs G H G' H' : Hp} {ρ : Ev} {σ : L2.St} {D : Ends} {v : V} {put : Dt → Ev} {Fp : Ev → Rs (Dt × (Dt → Ev))} {ts : TS} {Fs : Ev → Ot}
theorem Foc.fld {C : Str} {ns : List Str} {ds : List Dt} {j : Nat} {e : Dt} (f : Foc J H0 Γ σ G H (.I ms) (.ins C ns ds) v put) (hm : ms[j]? = some m) (hj : ds[j]? = some e) : ∃ a dx us u, v = .ref a ∧ H a = some (.ins (J.ca C) dx (ns.zip us)) ∧ us[j]? = some u ∧ ns.length = us.length ∧ Foc J H0 Γ σ G H m e u (fun y => put (.ins C ns (ds.set j y))) := by
  obtain ⟨P, o, r, k⟩ := f.ex
  cases o with
  | @I _ _ a dx _ us _ _ h1 h2 h3 h4 h5 =>
    obtain ⟨u, Pk, q1, q2, q3, q4⟩ := h5.focus (k := j) (m := m) hm hj
    refine ⟨a, dx, us, u, rfl, h1, q1, h4, Pk, q2, fun b hb => r b (q3 b hb).1, fun G2 H2 d2 P2 sg c o2 c2 => ?_⟩
    have ha : ¬ Pk a := fun z => (q3 a z).2 rfl
    have hna : H a ≠ none := by rw [h1]; exact fun z => by cases z
    have p2a : ∀ b, P2 b → b ≠ a := fun b hb z => by
      rcases (c2 b hb).1 with y | y
      · exact ha (z ▸ y)
      · exact hna (z ▸ y)
    have rest := q4 G2 H2 d2 P2 sg (fun b hb hn => ⟨(c b (r b hb.1).2.2 hn).1, by rw [(c b (r b hb.1).2.2 hn).2]; exact (r b hb.1).1⟩) o2 fun b hb => (c2 b hb).1.imp id fun z y => (r b y.1).2.2 z
    refine k G2 H2 (.ins C ns (ds.set j d2)) (fun b => (P b ∧ ¬ Pk b) ∨ P2 b) sg (fun b hb hn => c b hb fun z => hn (q3 b z).1) (.I (by rw [(c a hna ha).1]; exact h1) (by rw [(c a hna ha).2]; exact h2) (.inl ⟨h3, ha⟩) h4 ?_) fun b hb => ?_
    · refine rest.weaken fun b hb => ?_
      rcases hb with ⟨⟨z1, z2⟩, z3⟩ | z
      · exact ⟨.inl ⟨z1, z3⟩, z2⟩
      · exact ⟨.inr z, p2a b z⟩
    · rcases hb with ⟨z1, z2⟩ | z
      · obtain ⟨a1, a2, a3⟩ := r b z1
        obtain ⟨b1, b2⟩ := c b a3 z2
        exact ⟨.inl z1, by rw [b2]; exact a1, a2, by rw [b1]; exact a3⟩
      · exact ⟨(c2 b z).1.imp (fun y => (q3 b y).1) id, (c2 b z).2⟩
def fldP (C f : Str) (j : Nat) (Fp : Ev → Rs (Dt × (Dt → Ev))) (ρ : Ev) : Rs (Dt × (Dt → Ev)) := Fp ρ >>= fun x => match x.1 with
  | .ins C' ns ds => if C' = C ∧ fix f ns = some j then (match ds[j]? with
    | some e => .ok (e, fun y => x.2 (.ins C' ns (ds.set j y)))
    | none => .no) else .no
  | _ => .no
theorem sp_fld {C f : Str} {j : Nat} (cl : Cls J.K (J.ca C)) (na : NoAttr J.K (J.ca C) f) (h : SemP J Γ Fp (.I ms) te) (hm : ms[j]? = some m) : SemP J Γ (fldP C f j Fp) m (tFld J.K te f) := fun {G0 H0 G H ρ σ Q} w p => by
  refine h w (p.bind.imp (fun x _ q v G1 H1 e1 f1 => ?_) fun _ q => q)
  obtain ⟨xd, xp⟩ := x
  cases xd with
  | ins C' ns ds =>
    by_cases hc : C' = C ∧ fix f ns = some j
    case neg =>
      have e : (if C' = C ∧ fix f ns = some j then (match ds[j]? with
        | some e => (Rs.ok (e, fun y => xp (.ins C' ns (ds.set j y))) : Rs (Dt × (Dt → Ev)))
        | none => .no) else .no) = .no := if_neg hc
      have q2 := e ▸ (show Rs.Post _ _ (if C' = C ∧ fix f ns = some j then (match ds[j]? with
        | some e => (Rs.ok (e, fun y => xp (.ins C' ns (ds.set j y))) : Rs (Dt × (Dt → Ev)))
        | none => .no) else .no) from q)
      clear q
      cases q2
    case pos =>
      have e : (if C' = C ∧ fix f ns = some j then (match ds[j]? with
        | some e => (Rs.ok (e, fun y => xp (.ins C' ns (ds.set j y))) : Rs (Dt × (Dt → Ev)))
        | none => .no) else .no) = (match ds[j]? with
        | some e => (Rs.ok (e, fun y => xp (.ins C' ns (ds.set j y))) : Rs (Dt × (Dt → Ev)))
        | none => .no) := if_pos hc
      have q2 := e ▸ (show Rs.Post _ _ (if C' = C ∧ fix f ns = some j then (match ds[j]? with
        | some e => (Rs.ok (e, fun y => xp (.ins C' ns (ds.set j y))) : Rs (Dt × (Dt → Ev)))
        | none => .no) else .no) from q)
      clear q e
      obtain ⟨hC, hf⟩ := hc
      subst hC
      cases he : ds[j]? with
      | none => simp only [he] at q2; cases q2
      | some e =>
        simp only [he] at q2
        obtain ⟨a, dx, us, u, rfl, h1, h2, h3, h4⟩ := f1.fld hm he
        exact ⟨a, J.ca C', dx, _, u, rfl, h1, cl, na, fix_lookup hf h2, q2.of_ok u G1 H1 e1 h4⟩
  | _ => cases q
theorem Foc.tix {ds : List Dt} {j : Nat} {e : Dt} (f : Foc J H0 Γ σ G H (.T ms) (.tup ds) v put) (hm : ms[j]? = some m) (hj : ds[j]? = some e) : ∃ a us u, v = .ref a ∧ H a = some (.tup us) ∧ us[j]? = some u ∧ ds.length = us.length ∧ Foc J H0 Γ σ G H m e u (fun y => put (.tup (ds.set j y))) := by
  obtain ⟨P, o, r, k⟩ := f.ex
  cases o with
  | @T _ a us _ _ h1 h2 h3 h4 =>
    obtain ⟨u, Pk, q1, q2, q3, q4⟩ := h4.focus (k := j) (m := m) hm hj
    refine ⟨a, us, u, rfl, h1, q1, h4.len.1, Pk, q2, fun b hb => r b (q3 b hb).1, fun G2 H2 d2 P2 sg c o2 c2 => ?_⟩
    have ha : ¬ Pk a := fun z => (q3 a z).2 rfl
    have hna : H a ≠ none := by rw [h1]; exact fun z => by cases z
    have p2a : ∀ b, P2 b → b ≠ a := fun b hb z => by
      rcases (c2 b hb).1 with y | y
      · exact ha (z ▸ y)
      · exact hna (z ▸ y)
    have rest := q4 G2 H2 d2 P2 sg (fun b hb hn => ⟨(c b (r b hb.1).2.2 hn).1, by rw [(c b (r b hb.1).2.2 hn).2]; exact (r b hb.1).1⟩) o2 fun b hb => (c2 b hb).1.imp id fun z y => (r b y.1).2.2 z
    refine k G2 H2 (.tup (ds.set j d2)) (fun b => (P b ∧ ¬ Pk b) ∨ P2 b) sg (fun b hb hn => c b hb fun z => hn (q3 b z).1) (.T (by rw [(c a hna ha).1]; exact h1) (by rw [(c a hna ha).2]; exact h2) (.inl ⟨h3, ha⟩) ?_) fun b hb => ?_
    · refine rest.weaken fun b hb => ?_
      rcases hb with ⟨⟨z1, z2⟩, z3⟩ | z
      · exact ⟨.inl ⟨z1, z3⟩, z2⟩
      · exact ⟨.inr z, p2a b z⟩
    · rcases hb with ⟨z1, z2⟩ | z
      · obtain ⟨a1, a2, a3⟩ := r b z1
        obtain ⟨b1, b2⟩ := c b a3 z2
        exact ⟨.inl z1, by rw [b2]; exact a1, a2, by rw [b1]; exact a3⟩
      · exact ⟨(c2 b z).1.imp (fun y => (q3 b y).1) id, (c2 b z).2⟩
def tixP (j : Nat) (Fp : Ev → Rs (Dt × (Dt → Ev))) (ρ : Ev) : Rs (Dt × (Dt → Ev)) := Fp ρ >>= fun x => match x.1 with
  | .tup ds => (match ds[j]? with
    | some e => .ok (e, fun y => x.2 (.tup (ds.set j y)))
    | none => .no)
  | _ => .no
theorem sp_tix {j : Nat} (h : SemP J Γ Fp (.T ms) te) (hm : ms[j]? = some m) : SemP J Γ (tixP j Fp) m (tOp (rIx J.K) te (tC (.int (j : Nat)))) := fun {G0 H0 G H ρ σ Q} w p => by
  refine h w (p.bind.imp (fun x _ q v G1 H1 e1 f1 => ?_) fun _ q => q)
  obtain ⟨xd, xp⟩ := x
  cases xd with
  | tup ds =>
    have q : Rs.Post _ _ (match ds[j]? with
      | some e => Rs.ok (e, fun y => xp (.tup (ds.set j y)))
      | none => .no) := q
    cases he : ds[j]? with
    | none => simp only [he] at q; cases q
    | some e =>
      simp only [he] at q
      obtain ⟨a, us, u, rfl, h1, h2, h3, h4⟩ := f1.tix hm he
      refine .inr (.inl ⟨a, us, (j : Nat), u, rfl, rfl, .of h1, ?_, q.of_ok u G1 H1 e1 h4⟩)
      unfold atI ixN
      have hl := (List.getElem?_eq_some_iff.mp h2).1
      rw [if_pos (by omega), if_pos (by omega)]
      simpa using h2
  | _ => cases q
/-! ### a field is frozen -/
theorem Ows.frzAt {K : PySem.W.Frag} {ca : Str → Addr} : ∀ {ds : List Dt} {ms : List Mode} {us : List V} {P : Addr → Prop} (j : Nat), Ows K ca G H ms ds us P → ∃ Pk : Addr → Prop, (∀ b, Pk b → P b) ∧ ∀ G2, Same G G2 → (∀ b, Pk b → G2 b = H b) → (∀ b, P b → ¬ Pk b → G2 b = none) → Ows K ca G2 H (ms.set j .F) ds us (fun b => P b ∧ ¬ Pk b)
  | [], ms, us, P, j, h => by
    cases h
    exact ⟨Pno, fun _ z => z.elim, fun G2 _ _ _ => .nil⟩
  | d :: ds, _, _, P, 0, h => by
    cases h with
    | @cons _ ms _ _ v us _ A B h1 h2 q1 q2 q3 =>
      refine ⟨A, q1, fun G2 sg c1 c2 => ?_⟩
      rw [List.set_cons_zero]
      refine .cons (P1 := Pno) (P2 := B) (.F (h1.freeze sg c1)) (h2.carry sg fun b hb => ⟨rfl, c2 b (q2 b hb) fun z => q3 b z hb⟩) (fun _ z => z.elim) (fun b hb => ⟨q2 b hb, fun z => q3 b z hb⟩) (fun _ z => z.elim)
  | d :: ds, _, _, P, j + 1, h => by
    cases h with
    | @cons _ ms _ _ v us _ A B h1 h2 q1 q2 q3 =>
      obtain ⟨Pk, r1, r2⟩ := Ows.frzAt j h2
      refine ⟨Pk, fun b hb => q2 b (r1 b hb), fun G2 sg c1 c2 => ?_⟩
      rw [List.set_cons_succ]
      refine .cons (P1 := A) (P2 := fun b => B b ∧ ¬ Pk b) (h1.carry sg fun b hb => ⟨rfl, c2 b (q1 b hb) fun z => q3 b hb (r1 b z)⟩) (r2 G2 sg c1 fun b hb hn => c2 b (q2 b hb) hn) (fun b hb => ⟨q1 b hb, fun z => q3 b hb (r1 b z)⟩) (fun b hb => ⟨q2 b hb.1, hb.2⟩) fun b hb z => q3 b hb z.1
/-- from here on the field j of the owned slot i is frozen -/
theorem ss_frzI {i j : Nat} (hm : Γ[i]? = some (.I ms)) (h : SemS J (Γ.set i (.I (ms.set j .F))) Γ' Fs ts) : SemS J Γ Γ' Fs ts := fun {G0 H0 G H ρ σ D} w p => by
  obtain ⟨Pf, h1, h2, h3⟩ := w.env
  by_cases hd : ∃ d, ρ[i]? = some (some d)
  case neg =>
    refine h ⟨w.x, by rw [List.length_set]; exact w.lg, w.lr, ⟨Pf, h1, h2, fun k c q => ?_⟩, w.pn, w.xk⟩ p
    obtain ⟨v, m', s1, s2, s3⟩ := h3 k c q
    refine ⟨v, m', s1, ?_, s3⟩
    rw [List.getElem?_set_ne fun z => hd ⟨c, by rw [z]; exact q⟩]
    exact s2
  obtain ⟨d, hd⟩ := hd
  obtain ⟨v, m', s1, s2, s3⟩ := h3 i d hd
  rw [hm] at s2
  cases s2
  cases s3 with
  | NI =>
    refine h ⟨w.x, by rw [List.length_set]; exact w.lg, w.lr, ⟨Pf, h1, h2, fun k c q => ?_⟩, w.pn, w.xk⟩ p
    obtain ⟨v, m', s4, s5, s6⟩ := h3 k c q
    by_cases hk : k = i
    · subst hk
      rw [hd] at q
      cases q
      refine ⟨_, .I (ms.set j .F), s1, List.getElem?_set_self (by rw [w.lg]; exact (List.getElem?_eq_some_iff.mp hd).1), .NI⟩
    · refine ⟨v, m', s4, ?_, s6⟩
      rw [List.getElem?_set_ne (Ne.symm hk)]
      exact s5
  | @I _ C a dx ns us ds _ k1 k2 k3 k4 k5 =>
    obtain ⟨Pk, r1, r2⟩ := k5.frzAt j
    have pk : ∀ b, Pk b → Pf i b := fun b hb => (r1 b hb).1
    have sg : Same G (fun b => if Pk b then H b else G b) := fun x u q => by
      show (if Pk x then H x else G x) = some u
      by_cases z : Pk x
      · rw [if_pos z]; exact w.gh x u q
      · rw [if_neg z]; exact q
    have old : ∀ b, ¬ Pk b → (if Pk b then H b else G b) = G b := fun b hb => if_neg hb
    refine h (G := fun b => if Pk b then H b else G b) ⟨⟨w.x.g.trans sg, w.x.h, fun x u q => ?_, fun x q => ?_⟩, by rw [List.length_set]; exact w.lg, w.lr, ⟨fun k b => Pf k b ∧ ¬ Pk b, fun k l b q r s => h1 k l b q r.1 s.1, fun k b q => ?_, fun k c q => ?_⟩, w.pn, w.xk⟩ (p.up sg)
    · have q : (if Pk x then H x else G x) = some u := q
      by_cases z : Pk x
      · rw [if_pos z] at q; exact q
      · rw [if_neg z] at q; exact w.gh x u q
    · show (if Pk x then H x else G x) = G0 x
      rw [if_neg fun z => q (h2 i x (pk x z)).2.1]
      exact w.x.base x q
    · refine ⟨?_, (h2 k b q.1).2⟩
      show (if Pk b then H b else G b) = none
      rw [if_neg q.2]
      exact (h2 k b q.1).1
    · by_cases hk : k = i
      · subst hk
        rw [hd] at q
        cases q
        refine ⟨_, .I (ms.set j .F), s1, List.getElem?_set_self (by rw [w.lg]; exact (List.getElem?_eq_some_iff.mp hd).1), ?_⟩
        have ha : ¬ Pk a := fun z => (r1 a z).2 rfl
        refine .I k1 (by show (if Pk a then H a else G a) = none; rw [if_neg ha]; exact k2) ⟨k3, ha⟩ k4 ?_
        refine (r2 _ sg (fun b hb => if_pos hb) fun b hb hn => ?_).weaken fun b hb => ⟨⟨hb.1.1, hb.2⟩, hb.1.2⟩
        show (if Pk b then H b else G b) = none
        rw [if_neg hn]
        exact (h2 k b hb.1).1
      · obtain ⟨v2, m2, t1, t2, t3⟩ := h3 k c q
        refine ⟨v2, m2, t1, by rw [List.getElem?_set_ne (Ne.symm hk)]; exact t2, (t3.carry sg fun b hb => ⟨rfl, ?_⟩).weaken fun b hb => ⟨hb, fun z => h1 k i b hk hb (pk b z)⟩⟩
        show (if Pk b then H b else G b) = none
        rw [if_neg fun z => h1 k i b hk hb (pk b z)]
        exact (h2 k b hb).1
end
end Pm
namespace Pm
open PySem PySem.Spec PyProof.Rows L2
open Classical
/-! ### names that are read no more -/
section
variable {J : Jc} {Γ Γ' : List Mode} {G0 H0 G H : Hp} {ρ : Ev} {σ : L2.St} {F : Ev → Ot} {ts : TS} {vs : List Nat}
theorem Wd.fgt (w : Wd J G0 H0 Γ ρ σ G H) (vs : List Nat) : Wd J G0 H0 Γ (wipeE ρ vs) σ G H := by
  obtain ⟨Pf, h1, h2, h3⟩ := w.env
  exact ⟨w.x, by rw [wipeE_length]; exact w.lg, by rw [wipeE_length]; exact w.lr, ⟨Pf, h1, h2, fun i d q => h3 i d (wipeE_some q).1⟩, w.pn, w.xk⟩
def fgtS (vs : List Nat) (F : Ev → Ot) (ρ : Ev) : Ot := F (wipeE ρ vs)
theorem ss_fgt (h : SemS J Γ Γ' F ts) : SemS J Γ Γ' (fgtS vs F) ts := fun {G0 H0 G H ρ σ D} w p => h (w.fgt vs) p
end
end Pm
namespace Pm
open PySem PySem.Spec PyProof.Rows L2 C8
open Classical
/-! ### int(x), isinstance of own classes, of tuples of classes -/
def intD : Dt → Rs Dt
  | .int i => .ok (.int i)
  | .bl b => .ok (.int (if b = true then 1 else 0))
  | _ => .no
def intE := op1E intD
def isCD (C : Str) : Dt → Rs Dt
  | .ins C' _ _ => if C' = C then .ok (.bl true) else .no
  | _ => .no
def isCE (C : Str) := op1E (isCD C)
section
variable {J : Jc} {Γ Γ' Γ1 Γ2 : List Mode} {em : EM} {m : Mode} {ms : List Mode} {Fe Fa Fb Fi : Ev → Rs Dt} {Fs : List (Ev → Rs Dt)} {te ta tb ti : TE} {tr : TA} {G0 H0 Gs G H G' H' : Hp} {ρ : Ev} {σ : L2.St} {vs : List Nat}
  {F F1 F2 : Ev → Ot} {ts t1 t2 : TS} {D : Ends} {d : Dt} {v : V} {put : Dt → Ev} {Fp : Ev → Rs (Dt × (Dt → Ev))}
/-! ### index, count -/
def ixOf (y : Dt) : List Dt → Option Nat
  | [] => none
  | d :: ds => if deq d y = true then some 0 else (ixOf y ds).map (· + 1)
def indexD (ds : List Dt) (b : Dt) : Rs Dt := if (scal b && ds.all scal) = true then (match ixOf b ds with
    | some j => .ok (.int (j : Nat))
    | none => .no) else .no
def countD (ds : List Dt) (b : Dt) : Rs Dt := if (scal b && ds.all scal) = true then .ok (.int ((ds.countP fun d => deq d b : Nat) : Int)) else .no
def bm1E (g : List Dt → Dt → Rs Dt) (Fa Fb : Ev → Rs Dt) (ρ : Ev) : Rs Dt := Fa ρ >>= fun a => lstOf a >>= fun ds => Fb ρ >>= fun b => g ds b
def indexE := bm1E indexD
def countE := bm1E countD
theorem lstOf_ok {d : Dt} {ds : List Dt} (h : lstOf d = .ok ds) : d = .lst ds := by
  unfold lstOf at h
  split at h
  · cases h; rfl
  · cases h
theorem nx_lstOf {d : Dt} {c : Xn} : lstOf d ≠ .ex c := by
  unfold lstOf
  split <;> intro q <;> cases q
/-! ### pop of frozen items -/
theorem Rps.erase {K : PySem.W.Frag} {ca : Str → Addr} : ∀ {ds : List Dt} {us : List V} (j : Nat), Rps K ca H ds us → Rps K ca H (ds.eraseIdx j) (us.eraseIdx j)
  | [], _, j, h => by cases h; simp; exact .nil
  | d :: ds, _, 0, h => by
    cases h with
    | cons h1 h2 => simpa using h2
  | d :: ds, _, j + 1, h => by
    cases h with
    | cons h1 h2 => simpa using Rps.cons h1 (Rps.erase j h2)
/-- P.pop(e): what goes, what is left -/
def popD (ds : List Dt) (k : Dt) : Rs (Dt × List Dt) := match k with
  | .int i => (match ixN ds.length i with
    | some j => (match ds[j]? with
      | some y => if intSz i = true then .ok (y, ds.eraseIdx j) else .no
      | none => .no)
    | none => .no)
  | _ => .no
theorem popD_run {K : PySem.W.Frag} {ca : Str → Addr} {ds : List Dt} {us : List V} {k y : Dt} {es : List Dt} {v : V} (q : popD ds k = .ok (y, es)) (r : Rps K ca G ds us) (rk : Rp K ca H k v) : ∃ (i : Int) (j : Nat) (u : V), v = .int i ∧ -(2 ^ 63) ≤ i ∧ i < 2 ^ 63 ∧ seqIndex? i us.length = some j ∧ us[j]? = some u ∧ Rp K ca G y u ∧ es = ds.eraseIdx j := by
  cases rk with
  | int i =>
    have q : (match ixN ds.length i with
      | some j => (match ds[j]? with
        | some y => if intSz i = true then Rs.ok (y, ds.eraseIdx j) else .no
        | none => .no)
      | none => .no) = .ok (y, es) := q
    cases hj : ixN ds.length i with
    | none => rw [hj] at q; cases q
    | some j =>
      rw [hj] at q
      cases he : ds[j]? with
      | none => simp only [he] at q; cases q
      | some e =>
        simp only [he] at q
        obtain ⟨c, q⟩ := ok_if q
        cases q
        have c := intSz_ok c
        obtain ⟨u, hu, ru⟩ := r.get he
        refine ⟨i, j, u, rfl, by omega, by omega, ?_, hu, ru, rfl⟩
        rw [← r.length]
        exact (ixN_seq hj).1
  | _ => cases q
theorem nx_pop {ds : List Dt} {k : Dt} {c : Xn} : popD ds k ≠ .ex c := by
  unfold popD
  split
  · split
    · split
      · exact nx_if (fun q => by cases q) fun q => by cases q
      · intro q; cases q
    · intro q; cases q
  · intro q; cases q
/-- P.pop(e) as a statement -/
def popS (Fp : Ev → Rs (Dt × (Dt → Ev))) (Fe : Ev → Rs Dt) (ρ : Ev) : Ot := bindS (Fp ρ) ρ fun x => bindS (lstOf x.1) ρ fun ds => bindS (Fe ρ) ρ fun k => bindS (popD ds k) ρ fun y => .nx (x.2 (.lst y.2))
theorem PostS.bindx {α : Type} {r : Rs α} {k : α → Ot} (hn : ∀ c, r ≠ .ex c) (p : PostS J G0 H0 G Γ' D (bindS r ρ k)) : ∃ a, r = .ok a ∧ PostS J G0 H0 G Γ' D (k a) := by
  cases r with
  | ok a => exact ⟨a, rfl, p⟩
  | ex c => exact absurd rfl (hn c)
  | no => cases p
/-- n = P.pop(e) -/
def asgPopS (i : Nat) (Fp : Ev → Rs (Dt × (Dt → Ev))) (Fe : Ev → Rs Dt) (ρ : Ev) : Ot := bindS (Fp ρ) ρ fun x => bindS (lstOf x.1) ρ fun ds => bindS (Fe ρ) ρ fun k => bindS (popD ds k) ρ fun y => .nx ((x.2 (.lst y.2)).set i (some y.1))
/-- P.append(n.pop(e)), n a name -/
def appPopS (Fp : Ev → Rs (Dt × (Dt → Ev))) (j : Nat) (Fe : Ev → Rs Dt) (ρ : Ev) : Ot := bindS (Fp ρ) ρ fun x => bindS (lstOf x.1) ρ fun ds => bindS (varE j ρ) ρ fun q => bindS (lstOf q) ρ fun xs => bindS (Fe ρ) ρ fun k => bindS (popD xs k) ρ fun y =>
  bindS (varE j (x.2 (.lst (ds ++ [y.1])))) ρ fun q2 => bindS (lstOf q2) ρ fun xs2 => bindS (popD xs2 k) ρ fun y2 => if (lenSz ds.length && decide (xs2.length = xs.length)) = true then .nx ((x.2 (.lst (ds ++ [y.1]))).set j (some (.lst y2.2))) else .no
theorem upd_comm {H : Hp} {a l : Addr} {x y : HO} (h : a ≠ l) : upd (upd H a x) l y = upd (upd H l y) a x := by
  funext b
  by_cases h1 : b = a
  · subst h1
    rw [upd_ne h, upd_same, upd_same]
  · by_cases h2 : b = l
    · subst h2
      rw [upd_same, upd_ne h1, upd_same]
    · rw [upd_ne h2, upd_ne h1, upd_ne h1, upd_ne h2]
theorem nx_varE {i : Nat} {c : Xn} : varE i ρ ≠ .ex c := by
  unfold varE
  split <;> intro q <;> cases q
theorem ss_appPop {j : Nat} (h : SemP J Γ Fp (.L .F) te) (hj : Γ[j]? = some (.L .F)) (k : SemE J Γ .B Fe ta) (hx : Gx J Γ) :
    SemS J Γ Γ (appPopS Fp j Fe) (tDrop (tBM J.K "list" rAppend te (tCons (tBM J.K "list" rPopAt (tVar j) (tCons ta tNil)) tNil))) := fun {G0 H0 G H ρ σ D} w p => by
  refine h w ((PostS.bind w hx p).imp (fun x _ q v G1 H1 e1 f1 => ?_) fun _ q => q)
  obtain ⟨xd, xp⟩ := x
  have w1 := w.ext e1
  obtain ⟨ds, hz, p1⟩ := q.bindx (fun _ => nx_lstOf)
  clear q
  have ed : xd = .lst ds := lstOf_ok hz
  subst ed
  obtain ⟨a, us, Pin, rfl, hu, _⟩ := f1.chg w1 (Ext.refl w1.gh)
  refine ⟨.inl ⟨rfl, us, .of hu⟩, ?_⟩
  obtain ⟨qd, hq, p2⟩ := p1.bindx (fun _ => nx_varE)
  clear p1
  obtain ⟨xs, hz2, p3⟩ := p2.bindx (fun _ => nx_lstOf)
  clear p2
  have eq : qd = .lst xs := lstOf_ok hz2
  subst eq
  obtain ⟨vl, ml, Pl, s1, s2, s3, s4⟩ := w1.get (varE_ok hq)
  rw [hj] at s2
  cases s2
  cases s3 with
  | @L _ l xus _ _ k1 k2 k3 k4 =>
  refine ⟨_, s1, .inl ⟨rfl, xus, .of k1⟩, ?_⟩
  refine k w1 ((PostS.bind w1 hx (p3.up e1.g)).imp (fun y _ q y' G2 H2 P2 e2 f2 o2 => ?_) fun _ q => q)
  obtain ⟨⟨z, es⟩, hz3, p4⟩ := PostS.bindx (fun _ => nx_pop) q
  clear q
  have r1 : Rps J.K J.ca G2 xs xus := (k4.frozen).mono e2.g
  have hl2 : H2 l = some (.lst xus) := e2.h _ _ k1
  obtain ⟨i, n, u, rfl, i1, i2, i3, i4, i5, i6⟩ := popD_run hz3 r1 o2
  obtain ⟨a', us', Pin', ea, hu', own, pr, fin⟩ := f1.chg w1 e2
  cases ea
  obtain ⟨q2, hq2, p5⟩ := PostS.bindx (fun _ => nx_varE) p4
  clear p4
  obtain ⟨xs2, hz4, p6⟩ := PostS.bindx (fun _ => nx_lstOf) p5
  clear p5
  have eq2 : q2 = .lst xs2 := lstOf_ok hz4
  subst eq2
  obtain ⟨⟨z2, es2⟩, hz5, p7⟩ := PostS.bindx (fun _ => nx_pop) p6
  clear p6
  have p8 : PostS J G0 H0 G1 Γ D (if (lenSz ds.length && decide (xs2.length = xs.length)) = true then .nx ((xp (.lst (ds ++ [z]))).set j (some (.lst es2))) else .no) := p7
  clear p7
  by_cases c : (lenSz ds.length && decide (xs2.length = xs.length)) = true
  case neg =>
    rw [if_neg c] at p8
    cases p8
  rw [if_pos c] at p8
  rw [Bool.and_eq_true] at c
  have hlen := of_decide_eq_true c.2
  -- the world with the item put first
  have wa : Wd J G0 H0 Γ (xp (.lst (ds ++ [z]))) σ G2 (upd H2 a (.lst (us' ++ [u]))) := fin (ds ++ [z]) (us' ++ [u]) Pno (Rps.own ((own.frozen).append (.cons i5 .nil))) fun b z => z.elim
  obtain ⟨vl2, ml2, Pl2, t1, t2, t3, t4⟩ := wa.get (varE_ok hq2)
  rw [hj] at t2
  cases t2
  rw [s1] at t1
  cases t1
  cases t3 with
  | @L _ _ xus2 _ _ m1 m2 m3 m4 =>
  have ne : a ≠ l := fun e => by
    subst e
    rw [upd_same] at m1
    cases m1
    have z1 := m4.frozen.length
    have z2 := r1.length
    rw [hl2] at hu'
    cases hu'
    rw [List.length_append, List.length_singleton] at z1
    omega
  rw [upd_ne (Ne.symm ne), hl2] at m1
  cases m1
  refine ⟨l, xus, i, n, u, rfl, rfl, hl2, i1, i2, i3, i4, ?_⟩
  refine ⟨a, us', u, rfl, rfl, by rw [upd_ne ne]; exact hu', by rw [← own.len.1]; exact lenSz_lt c.1, ?_⟩
  rw [← upd_comm ne]
  -- and then the other list shortened
  obtain ⟨i', n', u', e1', _, _, e2', _, _, e3'⟩ := popD_run hz5 m4.frozen o2
  cases e1'
  rw [e2'] at i3
  cases i3
  subst e3'
  have hv : varP j (xp (.lst (ds ++ [z]))) = .ok (.lst xs2, fun x => (xp (.lst (ds ++ [z]))).set j (some x)) := by
    unfold varP
    rw [varE_ok hq2]
  have fo : SemP J Γ (varP j) (.L .F) (tVar j) := sp_var hj
  obtain ⟨v3, g1, G3, g2, g3⟩ := fo (Q := fun v H' => ∃ G3, Ext G2 (upd H2 a (.lst (us' ++ [u]))) G3 H' ∧ Foc J H0 Γ σ G3 H' (.L .F) (.lst xs2) v fun x => (xp (.lst (ds ++ [z]))).set j (some x)) wa (by
    rw [hv]
    exact .ok fun v G3 H3 e3 f3 => ⟨G3, e3, f3⟩)
  rw [s1] at g1
  cases g1
  have w3 := wa.ext g2
  obtain ⟨l', us3, Pin3, el, hu3, own3, pr3, fin3⟩ := g3.chg w3 (Ext.refl w3.gh)
  cases el
  rw [upd_ne (Ne.symm ne), hl2] at hu3
  cases hu3
  exact p8.of_nx σ G3 _ (e2.g.trans g2.g) (fin3 (xs2.eraseIdx n) (xus.eraseIdx n) Pno (Rps.own ((own3.frozen).erase n)) fun b z => z.elim)
/-! ### results owned, arguments looked at -/
mutual
def leafOk : Mode → Dt → Bool
  | .F, d => scal d
  | .L _, .non => true
  | .T _, .non => true
  | .L m, .lst ds => leafAll m ds
  | .T ms, .tup ds => leafsOk ms ds
  | .T ms, .lst ds => leafsOk ms ds
  | .K m, .dic _ ds => leafAll m ds
  | .K m, .dit _ ds => leafAll m ds
  | .I ms, .ins _ _ ds => leafsOk ms ds
  | _, _ => false
def leafAll (m : Mode) : List Dt → Bool
  | [] => true
  | d :: ds => leafOk m d && leafAll m ds
def leafsOk : List Mode → List Dt → Bool
  | [], [] => true
  | m :: ms, d :: ds => leafOk m d && leafsOk ms ds
  | _, _ => false
end
def leafR (m : Mode) (r : Rs Dt) : Rs Dt := r >>= fun d => if leafOk m d = true then .ok d else .no
def callLE (m : Mode) (Fn : List Dt → Rs Dt) (Fs : List (Ev → Rs Dt)) (ρ : Ev) : Rs Dt := argsE Fs ρ >>= fun ds => leafR m (Fn ds)
variable {Fn : List Dt → Rs Dt} {np : Nat}
def methLE (m : Mode) (C mm : Str) (Fn : List Dt → Rs Dt) (Fo : Ev → Rs Dt) (Fs : List (Ev → Rs Dt)) (ρ : Ev) : Rs Dt := Fo ρ >>= fun s => noMeth C mm s >>= fun _ => argsE Fs ρ >>= fun ds => leafR m (Fn (s :: ds))
/-! ### isinstance(e, (A, B, ..)) of the caught exception -/
def clsA : List V → TA
  | [] => tNil
  | v :: vs => tCons (tC v) (clsA vs)
theorem clsA_run : ∀ {vs : List V} {Q : List V → Hp → Prop}, Q vs H → clsA vs σ H Q
  | [], _, h => h
  | v :: vs, Q, h => clsA_run (vs := vs) (Q := fun xs H2 => Q (v :: xs) H2) h
def rIsET (K : PySem.W.Frag) (D a : Addr) : List V → Hp → VK → Prop := fun xs H Q => ∃ (tp : Addr) (cs : List V) (us : List Value) (b : Bool), xs = [.ref a, .ref tp] ∧ H tp = some (.tup cs) ∧ Paired ClsV cs us ∧ PySem.W.kitAny K (.ref D) us = some b ∧ Q (.bl b) H
theorem call_isET {X : Cx} {a D : Addr} {oe : Obj} {pn : List (Addr × Obj)} (C : ExcC X.K D) (hz : Zc (.ref D) none oe) (hf : ∃ vs, oe.data = .fields vs) : CallR (X.suite a ((a, oe) :: pn)) (.builtin "isinstance") (rIsET X.K D a) := by
  intro pins s σ H xs us Q I r h
  obtain ⟨tp, cs, ws, b, rfl, hT, k, e, q⟩ := h
  cases r with
  | cons rx rr =>
    cases rr with
    | cons rt rr =>
      cases rr
      cases rx
      rename_i u2
      cases (show u2 = Value.ref tp from rt)
      obtain ⟨hget, _⟩ := I.pin (a, oe) (List.mem_append.mpr (.inl List.mem_cons_self))
      obtain ⟨vs, hv⟩ := hf
      have J : PySem.W.InstAt s.heap a oe D none := by
        obtain ⟨oc, od, oda, osl⟩ := oe
        obtain ⟨h1, h2⟩ := hz
        dsimp only at h1 h2 hv
        subst h1 h2 hv
        exact ⟨hget, rfl, rfl, trivial⟩
      obtain ⟨_, its, rv, o, h1, h2, n, h3⟩ := (show ObjOk X.prog X.w H s.heap tp (.tup cs) from I.hok tp _ hT)
      have e3 := ClsV.all k rv
      subst e3
      obtain ⟨oc, od, dt, sl⟩ := o
      simp only at h2 h3
      subst h2 h3
      exact PySem.W.kia_tup (PySem.W.handS_kitx_exc C.hg C.hk C.hs C.hd C.ha C.hn C.ht C.hm) I.kIn J h1 e (fun z => nomatch z) fun tk => ⟨.bl b, H, I.kept (t' := tk) fun _ _ z => z, rfl, q⟩
def isxTE (tabs : List (List (Str × Bool))) (c : Str) (_ : Ev) : Rs Dt := match tabs.mapM fun t => t.lookup c with
  | some bs => .ok (.bl (bs.any id))
  | none => .no
/-- classes, their values, what they are to whom -/
inductive IsxT (K : PySem.W.Frag) (ca : Str → Addr) : List V → List Value → List (List (Str × Bool)) → Prop
  | nil : IsxT K ca [] [] []
  | cons {v : V} {cv : Value} {tab : List (Str × Bool)} {vs : List V} {us : List Value} {ts : List (List (Str × Bool))} : ClsV v cv → Isx K ca cv tab → IsxT K ca vs us ts → IsxT K ca (v :: vs) (cv :: us) (tab :: ts)
theorem IsxT.paired {K : PySem.W.Frag} {ca : Str → Addr} : ∀ {vs : List V} {us : List Value} {ts : List (List (Str × Bool))}, IsxT K ca vs us ts → Paired ClsV vs us
  | _, _, _, .nil => .nil
  | _, _, _, .cons h _ t => .cons h t.paired
theorem IsxT.any {K : PySem.W.Frag} {ca : Str → Addr} {c : Str} : ∀ {vs : List V} {us : List Value} {ts : List (List (Str × Bool))} {bs : List Bool}, IsxT K ca vs us ts → (ts.mapM fun t => t.lookup c) = some bs → PySem.W.kitAny K (.ref (ca c)) us = some (bs.any id)
  | _, _, _, bs, .nil, e => by
    have e : some ([] : List Bool) = some bs := e
    cases e
    rfl
  | _, _, _, bs, .cons (tab := tab) (ts := ts) h k t, e => by
    rw [List.mapM_cons] at e
    cases z : tab.lookup c with
    | none => rw [z] at e; cases e
    | some b =>
      rw [z] at e
      cases z2 : (ts.mapM fun t => t.lookup c) with
      | none => rw [z2] at e; cases e
      | some cs =>
        rw [z2] at e
        have e : some (b :: cs) = some bs := e
        cases e
        refine kitAny_cons (k c b z) (fun hb => ?_) fun hb => ?_
        · rw [IsxT.any t z2, hb]; rfl
        · rw [hb]; rfl
theorem se_isxT {i : Nat} {a : Addr} {c : Str} {vs : List V} {us : List Value} {tabs : List (List (Str × Bool))} (hp : (i, V.ref a) ∈ J.pin) (ht : IsxT J.K J.ca vs us tabs) (hl : vs.length ≤ 1000000 := by exact Nat.le_of_ble_eq_true rfl) : SemE J Γ (.o .F) (isxTE tabs c) (tCB (rIsET J.K (J.ca c) a) (tCons (tVar i) (tCons (tTup (clsA vs)) tNil))) := fun {G0 H0 G H ρ σ Q} w p => by
  unfold isxTE at p
  cases z : (tabs.mapM fun t => t.lookup c) with
  | none => rw [z] at p; cases p
  | some bs =>
    rw [z] at p
    refine ⟨_, w.pn i _ hp, ?_⟩
    refine clsA_run ⟨sz1000000 hl, fun tp htp => ?_⟩
    refine ⟨tp, vs, us, _, rfl, upd_same, ht.paired, ht.any z, ?_⟩
    exact p.of_ok (.bl (bs.any id)) G _ Pno (Ext.heap w.gh (Same.new htp)) Fr.no (.F (.bl _))
/-! ### x is True, False -/
def isBD (c : Bool) : Dt → Rs Dt
  | .bl b => .ok (.bl (decide (b = c)))
  | _ => .no
def isBE (c : Bool) := op1E (isBD c)
end
/-! the facts of a class whose instances are asked -/
end Pm
/-! ### sorted of pairs of tuples of ints -/
namespace SrtO
open PySem PyProof.Rows Srt L2
/-- x before y: by the first tuples, then by the second ones -/
def lexN (p q : List Int × List Int) : Bool := if p.1 = q.1 then HT.lexLt p.2 q.2 else HT.lexLt p.1 q.1
def IsNest (h : Heap) (v : Value) (k : List Int × List Int) : Prop := ∃ a o fa wa n fi wi, v = Value.ref a ∧ h.get? a = some o ∧ o.cls = .type "tuple" ∧ o.data = .seq #[.ref fa, .ref wa] n ∧ IsTup h fa fi ∧ IntsAre fi.toList k.1 ∧ IsTup h wa wi ∧ IntsAre wi.toList k.2
theorem IsNest.keeps {h h' : Heap} {v : Value} {k : List Int × List Int} (p : IsNest h v k) (kp : ∀ b o, h.get? b = some o → o.cls = .type "tuple" → h'.get? b = some o) : IsNest h' v k := by
  obtain ⟨a, o, fa, wa, n, fi, wi, e, ho, hc, hd, ⟨o1, h1, c1, d1⟩, i1, ⟨o2, h2, c2, d2⟩, i2⟩ := p
  exact ⟨a, o, fa, wa, n, fi, wi, e, kp _ _ ho hc, hc, hd, ⟨o1, kp _ _ h1 c1, c1, d1⟩, i1, ⟨o2, kp _ _ h2 c2, c2, d2⟩, i2⟩
section
variable {prog : Program} {w : World} {A : Around} {E : Value → Shared → Prop} {s : Shared}
end
end SrtO
namespace L2
open PySem PySem.Spec PyProof.Rows
section
variable {X : Cx}
end
end L2
namespace Pm
open PySem PySem.Spec PyProof.Rows L2
open Classical
abbrev Nst := List Int × List Int
def leN (p q : Nst) : Bool := !SrtO.lexN q p
def sortN (ps : List Nst) : List Nst := ps.mergeSort leN
def nsD (p : Nst) : Dt := .tup [.tup (p.1.map .int), .tup (p.2.map .int)]
def nstsOf : List Dt → Option (List Nst)
  | [] => some []
  | .tup [.tup a, .tup b] :: ds => (match intsOf a, intsOf b with
    | some ns, some ms => (nstsOf ds).map ((ns, ms) :: ·)
    | _, _ => none)
  | _ => none
def sortND (d : Dt) : Rs Dt := match d with
  | .lst ds => (match nstsOf ds with
    | some ps => .ok (.lst ((sortN ps).map nsD))
    | none => .no)
  | _ => .no
def sortNE := op1E sortND
section
variable {J : Jc} {Γ : List Mode} {F Fa Fb : Ev → Rs Dt} {te ta tb : TE} {G0 H0 G H G' H' : Hp} {ρ : Ev} {σ : L2.St}
/-! ### a < b of tuples of ints -/
def tupLtD (a b : Dt) : Rs Dt := match a, b with
  | .tup xs, .tup ys => (match intsOf xs, intsOf ys with
    | some ns, some ms => .ok (.bl (HT.lexLt ns ms))
    | _, _ => .no)
  | _, _ => .no
def ltTE := op2E tupLtD
def tupGtD (a b : Dt) : Rs Dt := tupLtD b a
def gtTE := op2E tupGtD
end
/-! ### x in a list, by data -/
section
open PySem PySem.Spec PyProof.Rows
end
section
variable {J : Jc} {Γ : List Mode} {Fa Fb : Ev → Rs Dt} {ta tb : TE}
def inDD (a b : Dt) : Rs Dt := match b with
  | .lst ds => if (eqOK a && eqOK (.lst ds)) = true then .ok (.bl (inD a ds)) else .no
  | _ => .no
def inDE := op2E inDD
end
end Pm
namespace Pm
open PySem PySem.Spec PyProof.Rows L2
open Classical
/-! ### more readings -/
section
variable {J : Jc} {Γ Γ' Γ1 Γ2 Γb : List Mode} {em : EM} {m M : Mode} {ms : List Mode} {F Fe Fa Fb Fd Fk Fi : Ev → Rs Dt} {Fs : List (Ev → Rs Dt)} {te ta tb ti : TE} {tr : TA} {G0 H0 Gs G H G' H' : Hp} {ρ : Ev} {σ : L2.St} {vs : List Nat}
  {ts t1 t2 : TS} {D : Ends} {d : Dt} {v : V} {put : Dt → Ev} {Fp : Ev → Rs (Dt × (Dt → Ev))}
/-! x is not True, False -/
def notBD (c : Bool) : Dt → Rs Dt
  | .bl b => .ok (.bl (!decide (b = c)))
  | _ => .no
def notBE (c : Bool) := op1E (notBD c)
/-! an owned item of an owned list -/
/-! what stands in a frozen dict -/
/-! ### d.setdefault(k, []).append(x) -/
def posK : List Key → Key → Option Nat
  | [], _ => none
  | q :: ks, z => if q = z then some 0 else (posK ks z).map (· + 1)
def sdAppD (ks : List Key) (ds : List Dt) (z : Key) (y : Dt) : Option Dt := if lenSz ks.length = true then (match posK ks z with
    | some j => (match ds[j]? with
      | some (.lst es) => if lenSz es.length = true then some (.dic ks (ds.set j (.lst (es ++ [y])))) else none
      | _ => none)
    | none => some (.dic (ks ++ [z]) (ds ++ [.lst [y]]))) else none
def sdAppK (x : Dt × (Dt → Ev)) (ks : List Key) (ds : List Dt) (k y : Dt) : Ot := match keyD k with
  | some (.inl z) => (match sdAppD ks ds z y with
    | some d => .nx (x.2 d)
    | none => .no)
  | _ => .no
def sdAppS (Fp : Ev → Rs (Dt × (Dt → Ev))) (Fk : Ev → Rs Dt) (i : Nat) (ρ : Ev) : Ot := bindS (Fp ρ) ρ fun x => match x.1 with
  | .dic ks ds => bindS (Fk ρ) ρ fun k => bindS (varE i ρ) ρ fun y => sdAppK x ks ds k y
  | _ => .no
/-! sorted(d), whole numbers as keys -/
def intKs : List Key → Option (List Int)
  | [] => some []
  | .inl i :: ks => (intKs ks).map fun l => i :: l
  | _ :: _ => none
def sortDI (d : Dt) : Rs Dt := match d with
  | .dic ks _ => (match intKs ks with
    | some ns => if decide (ns.length < 64) = true then .ok (.lst ((sortI ns).map .int)) else .no
    | none => .no)
  | _ => .no
def sortDIE := op1E sortDI
/-! displays of what is looked at -/
/-! ### for x in P, where x is changed in place: the item is lent to the name -/
def tgetD : Option Nat → Dt → Option Dt
  | none, d => some d
  | some k, .tup ds => ds[k]?
  | some k, .lst ds => ds[k]?
  | some _, _ => none
def tputD : Option Nat → Dt → Dt → Dt
  | none, _, y => y
  | some k, .tup ds, y => .tup (ds.set k y)
  | some k, .lst ds, y => .lst (ds.set k y)
  | some _, d, _ => d
def tmode : Option Nat → Mode → Option Mode
  | none, M => some M
  | some k, .T ms => ms[k]?
  | some _, _ => none
def stQ (H : Hp) (v : V) (a : Addr) (P : Addr → Prop) : Option Nat → Prop
  | none => v = .ref a
  | some k => ∃ b ws, v = .ref b ∧ (H b = some (.tup ws) ∨ H b = some (.lst ws)) ∧ ws[k]? = some (.ref a) ∧ P b
theorem Ow.lensL {K : PySem.W.Frag} {ca : Str → Addr} {G H : Hp} {m : Mode} {v : V} {P : Addr → Prop} {ds : List Dt} {i : Nat} {e : Dt} (o : Ow K ca G H (.L m) (.lst ds) v P) (hi : ds[i]? = some e) :
    ∃ a us u Pk, v = .ref a ∧ H a = some (.lst us) ∧ us[i]? = some u ∧ ds.length = us.length ∧ P a ∧ ¬ Pk a ∧ Ow K ca G H m e u Pk ∧ (∀ b, Pk b → P b) ∧ ∀ G2 H2 d2 P2, Same G G2 → (∀ b, P b → ¬ Pk b → H2 b = H b ∧ G2 b = none) → Ow K ca G2 H2 m d2 u P2 → (∀ b, P2 b → Pk b ∨ ¬ P b) → Ow K ca G2 H2 (.L m) (.lst (ds.set i d2)) v (fun b => (P b ∧ ¬ Pk b) ∨ P2 b) := by
  cases o with
  | @L _ a us _ _ h1 h2 h3 h4 =>
    obtain ⟨u, Pk, q1, q2, q3, q4⟩ := h4.focus (k := i) (m := m) (by rw [List.getElem?_replicate, if_pos (List.getElem?_eq_some_iff.mp hi).1]) hi
    have na : ¬ Pk a := fun z => (q3 a z).2 rfl
    refine ⟨a, us, u, Pk, rfl, h1, q1, h4.len.1, h3, na, q2, fun b hb => (q3 b hb).1, fun G2 H2 d2 P2 sg c o2 c2 => ?_⟩
    have ca2 := c a h3 na
    have p2a : ∀ b, P2 b → b ≠ a := fun b hb z => by
      rcases c2 b hb with y | y
      · exact na (z ▸ y)
      · exact y (z ▸ h3)
    refine .L (by rw [ca2.1]; exact h1) ca2.2 (.inl ⟨h3, na⟩) ?_
    rw [List.length_set]
    refine (q4 G2 H2 d2 P2 sg (fun b hb hn => c b hb.1 hn) o2 fun b hb => (c2 b hb).imp id fun z y => z y.1).weaken fun b hb => ?_
    rcases hb with ⟨⟨z1, z2⟩, z3⟩ | z
    · exact ⟨.inl ⟨z1, z3⟩, z2⟩
    · exact ⟨.inr z, p2a b z⟩
/-- down to the list, then to one of its items -/
theorem Ow.lens {K : PySem.W.Frag} {ca : Str → Addr} {G H : Hp} {m M : Mode} {pth : Option Nat} {d : Dt} {v : V} {P : Addr → Prop} {ds : List Dt} {i : Nat} {e : Dt} (o : Ow K ca G H M d v P) (hM : tmode pth M = some (.L m)) (hd : tgetD pth d = some (.lst ds)) (hi : ds[i]? = some e) :
    ∃ a us u Pk, H a = some (.lst us) ∧ us[i]? = some u ∧ ds.length = us.length ∧ P a ∧ ¬ Pk a ∧ stQ H v a (fun b => P b ∧ ¬ Pk b) pth ∧ Ow K ca G H m e u Pk ∧ (∀ b, Pk b → P b) ∧
      ∀ G2 H2 d2 P2, Same G G2 → (∀ b, P b → ¬ Pk b → H2 b = H b ∧ G2 b = none) → Ow K ca G2 H2 m d2 u P2 → (∀ b, P2 b → Pk b ∨ ¬ P b) → Ow K ca G2 H2 M (tputD pth d (.lst (ds.set i d2))) v (fun b => (P b ∧ ¬ Pk b) ∨ P2 b) := by
  cases pth with
  | none =>
    cases hM
    cases hd
    obtain ⟨a, us, u, Pk, e1, h1, q1, hl, pa, na, q2, q3, q4⟩ := o.lensL hi
    exact ⟨a, us, u, Pk, h1, q1, hl, pa, na, e1, q2, q3, q4⟩
  | some k =>
    cases o with
    | @T ms b ws ds0 _ h1 h2 h3 h4 =>
      have hM : ms[k]? = some (.L m) := hM
      have hd : ds0[k]? = some (.lst ds) := hd
      obtain ⟨w, Pw, r1, r2, r3, r4⟩ := h4.focus (k := k) hM hd
      obtain ⟨a, us, u, Pk, e1, g1, q1, hl, pa, na, q2, q3, q4⟩ := r2.lensL hi
      subst e1
      have nb : ¬ Pk b := fun z => (r3 b (q3 b z)).2 rfl
      refine ⟨a, us, u, Pk, g1, q1, hl, (r3 a pa).1, na, ⟨b, ws, rfl, .inl h1, r1, h3, nb⟩, q2, fun x hx => (r3 x (q3 x hx)).1, fun G2 H2 d2 P2 sg c o2 c2 => ?_⟩
      have cb2 := c b h3 nb
      have inner := q4 G2 H2 d2 P2 sg (fun x hx hn => c x (r3 x hx).1 hn) o2 fun x hx => (c2 x hx).imp id fun z y => z (r3 x y).1
      have p2b : ∀ x, P2 x → x ≠ b := fun x hx z => by
        rcases c2 x hx with y | y
        · exact nb (z ▸ y)
        · exact y (z ▸ h3)
      refine .T (by rw [cb2.1]; exact h1) cb2.2 (.inl ⟨h3, nb⟩) ?_
      refine (r4 G2 H2 (.lst (ds.set i d2)) (fun x => (Pw x ∧ ¬ Pk x) ∨ P2 x) sg (fun x hx hn => c x hx.1 fun z => hn (q3 x z)) inner fun x hx => ?_).weaken fun x hx => ?_
      · rcases hx with z | z
        · exact .inl z.1
        · rcases c2 x z with y | y
          · exact .inl (q3 x y)
          · exact .inr fun t => y t.1
      · rcases hx with ⟨⟨z1, z2⟩, z3⟩ | ⟨z1, z2⟩ | z
        · exact ⟨.inl ⟨z1, fun t => z3 (q3 x t)⟩, z2⟩
        · exact ⟨.inl ⟨(r3 x z1).1, z2⟩, (r3 x z1).2⟩
        · exact ⟨.inr z, p2b x z⟩
    | @TL ms b ws ds0 _ h1 h2 h3 h4 =>
      have hM : ms[k]? = some (.L m) := hM
      have hd : ds0[k]? = some (.lst ds) := hd
      obtain ⟨w, Pw, r1, r2, r3, r4⟩ := h4.focus (k := k) hM hd
      obtain ⟨a, us, u, Pk, e1, g1, q1, hl, pa, na, q2, q3, q4⟩ := r2.lensL hi
      subst e1
      have nb : ¬ Pk b := fun z => (r3 b (q3 b z)).2 rfl
      refine ⟨a, us, u, Pk, g1, q1, hl, (r3 a pa).1, na, ⟨b, ws, rfl, .inr h1, r1, h3, nb⟩, q2, fun x hx => (r3 x (q3 x hx)).1, fun G2 H2 d2 P2 sg c o2 c2 => ?_⟩
      have cb2 := c b h3 nb
      have inner := q4 G2 H2 d2 P2 sg (fun x hx hn => c x (r3 x hx).1 hn) o2 fun x hx => (c2 x hx).imp id fun z y => z (r3 x y).1
      have p2b : ∀ x, P2 x → x ≠ b := fun x hx z => by
        rcases c2 x hx with y | y
        · exact nb (z ▸ y)
        · exact y (z ▸ h3)
      refine .TL (by rw [cb2.1]; exact h1) cb2.2 (.inl ⟨h3, nb⟩) ?_
      refine (r4 G2 H2 (.lst (ds.set i d2)) (fun x => (Pw x ∧ ¬ Pk x) ∨ P2 x) sg (fun x hx hn => c x hx.1 fun z => hn (q3 x z)) inner fun x hx => ?_).weaken fun x hx => ?_
      · rcases hx with z | z
        · exact .inl z.1
        · rcases c2 x z with y | y
          · exact .inl (q3 x y)
          · exact .inr fun t => y t.1
      · rcases hx with ⟨⟨z1, z2⟩, z3⟩ | ⟨z1, z2⟩ | z
        · exact ⟨.inl ⟨z1, fun t => z3 (q3 x t)⟩, z2⟩
        · exact ⟨.inl ⟨(r3 x z1).1, z2⟩, (r3 x z1).2⟩
        · exact ⟨.inr z, p2b x z⟩
    | _ => first | (cases hd; done) | (simp [tmode] at hM; done) | (simp [tgetD] at hd)
def forML (j : Nat) (pth : Option Nat) (x : Nat) (Fb : Ev → Ot) : Nat → Nat → Ev → Ot
  | 0, _, ρ => .nx ρ
  | n + 1, i, ρ => match ρ[j]? with
    | some (some d) => match tgetD pth d with
      | some (.lst ds) => match ds[i]? with
        | some e => match Fb ((ρ.set j none).set x (some e)) with
          | .nx ρ2 => (match ρ2[x]? with
            | some (some e') => forML j pth x Fb n (i + 1) ((ρ2.set x none).set j (some (tputD pth d (.lst (ds.set i e')))))
            | _ => .no)
          | .ct ρ2 => (match ρ2[x]? with
            | some (some e') => forML j pth x Fb n (i + 1) ((ρ2.set x none).set j (some (tputD pth d (.lst (ds.set i e')))))
            | _ => .no)
          | .bk ρ2 => (match ρ2[x]? with
            | some (some e') => .nx ((ρ2.set x none).set j (some (tputD pth d (.lst (ds.set i e')))))
            | _ => .no)
          | .rt d => .rt d
          | _ => .no
        | none => .no
      | _ => .no
    | _ => .no
def forM (j : Nat) (pth : Option Nat) (x : Nat) (Fb : Ev → Ot) (ρ : Ev) : Ot := match ρ[j]? with
  | some (some d) => match tgetD pth d with
    | some (.lst ds) => forML j pth x Fb ds.length 0 ρ
    | _ => .no
  | _ => .no
end
/-! ### parts given up at a return -/
section
variable {J : Jc} {Γ Γ' : List Mode} {m : Mode} {ms us : List Mode} {F : Ev → Rs Dt} {Fs : List (Ev → Rs Dt)} {te : TE} {tr : TA} {G0 H0 G H G' H' : Hp} {ρ : Ev} {σ : L2.St}
def EnvP (J : Jc) (H0 : Hp) (Γ : List Mode) (ρ : Ev) (σ : L2.St) (G H : Hp) (Pf : Nat → Addr → Prop) : Prop := (∀ i j a, i ≠ j → Pf i a → ¬ Pf j a) ∧ (∀ i a, Pf i a → G a = none ∧ H0 a = none ∧ H a ≠ none) ∧ ∀ i d, ρ[i]? = some (some d) → ∃ v m, σ[i]? = some (some v) ∧ Γ[i]? = some m ∧ Ow J.K J.ca G H m d v (Pf i)
theorem EnvP.ext {Pf : Nat → Addr → Prop} (w : EnvP J H0 Γ ρ σ G H Pf) (e : Ext G H G' H') : EnvP J H0 Γ ρ σ G' H' Pf := by
  obtain ⟨h1, h2, h3⟩ := w
  refine ⟨h1, fun i a q => ?_, fun i d q => ?_⟩
  · obtain ⟨a1, a2, a3⟩ := h2 i a q
    exact ⟨by rw [e.base a a3]; exact a1, a2, e.h.nn a3⟩
  · obtain ⟨v, m, s1, s2, s3⟩ := h3 i d q
    refine ⟨v, m, s1, s2, s3.carry e.g fun b hb => ?_⟩
    obtain ⟨a1, a2, a3⟩ := h2 i b hb
    exact ⟨e.h.at a3, by rw [e.base b a3]; exact a1⟩
/-! ### a op b op c -/
def chE (g1 g2 : Dt → Dt → Rs Dt) (Fa Fb Fc : Ev → Rs Dt) (ρ : Ev) : Rs Dt := Fa ρ >>= fun a => Fb ρ >>= fun b => g1 a b >>= fun z => match z with
  | .bl true => Fc ρ >>= fun c => g2 b c
  | .bl false => .ok (.bl false)
  | _ => .no
/-! ### a list in an owned tuple, read -/
/-! ### reversed(range(n)) -/
def rrgI (F : Ev → Rs Dt) (ρ : Ev) : Rs (List Dt) := F ρ >>= fun d => match d with
  | .int j => if intSz j = true then .ok (rangeL 0 j.toNat).reverse else .no
  | _ => .no
/-! ### r.append(i), where i is owned and given up -/
def appVS (r i : Nat) (ρ : Ev) : Ot := match ρ[r]?, ρ[i]? with
  | some (some (.lst ds)), some (some y) => if lenSz ds.length = true then .nx ((ρ.set r (some (.lst (ds ++ [y])))).set i none) else .no
  | _, _ => .no
end
/-! ### owned results of calls on owned lists of frozen items -/
mutual
def flatD : Dt → Bool
  | .non => true
  | .bl _ => true
  | .int _ => true
  | .str _ => true
  | .tup ds => flatDs ds
  | _ => false
def flatDs : List Dt → Bool
  | [] => true
  | d :: ds => flatD d && flatDs ds
end
mutual
theorem Rp.flat {K : PySem.W.Frag} {ca : Str → Addr} {G2 G1 : Hp} (hg : ∀ b o, G2 b = some o → (∀ vs, o ≠ .lst vs) → G1 b = some o) : ∀ {d : Dt} {v : V}, flatD d = true → Rp K ca G2 d v → Rp K ca G1 d v
  | .non, _, _, h => by cases h; exact .non
  | .bl b, _, _, h => by cases h; exact .bl b
  | .int i, _, _, h => by cases h; exact .int i
  | .str x, _, _, h => by cases h; exact .str x
  | .tup ds, _, c, h => by
    cases h with
    | tup h1 h2 => exact .tup (hg _ _ h1 fun vs z => by cases z) (Rps.flat hg (by simpa only [flatD] using c) h2)
  | .lst _, _, c, _ => by simp [flatD] at c
  | .scr _, _, c, _ => by simp [flatD] at c
  | .ktp _, _, c, _ => by simp [flatD] at c
  | .ins _ _ _, _, c, _ => by simp [flatD] at c
  | .dic _ _, _, c, _ => by simp [flatD] at c
  | .dit _ _, _, c, _ => by simp [flatD] at c
theorem Rps.flat {K : PySem.W.Frag} {ca : Str → Addr} {G2 G1 : Hp} (hg : ∀ b o, G2 b = some o → (∀ vs, o ≠ .lst vs) → G1 b = some o) : ∀ {ds : List Dt} {vs : List V}, flatDs ds = true → Rps K ca G2 ds vs → Rps K ca G1 ds vs
  | [], _, _, h => by cases h; exact .nil
  | d :: ds, _, c, h => by
    have c : flatD d = true ∧ flatDs ds = true := by simpa only [flatDs, Bool.and_eq_true] using c
    cases h with
    | cons h1 h2 => exact .cons (Rp.flat hg c.1 h1) (Rps.flat hg c.2 h2)
end
/-- a list of flat things, or a flat thing -/
def flatOk : Mode → Dt → Bool
  | .F, d => flatD d
  | .L .F, .lst ds => flatDs ds
  | _, _ => false
theorem Rps.ofF {K : PySem.W.Frag} {ca : Str → Addr} {G1 G2 H2 : Hp} (hg : ∀ b o, G2 b = some o → (∀ vs, o ≠ .lst vs) → G1 b = some o) : ∀ {ds : List Dt} {vs : List V} {P : Addr → Prop}, flatDs ds = true → Ows K ca G2 H2 (List.replicate ds.length .F) ds vs P → Ows K ca G1 H2 (List.replicate ds.length .F) ds vs P
  | [], _, _, _, h => by cases h; exact .nil
  | d :: ds, _, P, c, h => by
    have c : flatD d = true ∧ flatDs ds = true := by simpa only [flatDs, Bool.and_eq_true] using c
    rw [List.length_cons, List.replicate_succ] at h ⊢
    cases h with
    | cons h1 h2 q1 q2 q3 =>
      cases h1 with
      | F h1 => exact .cons (.F (Rp.flat hg c.1 h1)) (Rps.ofF hg c.2 h2) q1 q2 q3
theorem Ow.flat {K : PySem.W.Frag} {ca : Str → Addr} {G1 G2 H2 : Hp} (hg : ∀ b o, G2 b = some o → (∀ vs, o ≠ .lst vs) → G1 b = some o) {m : Mode} {d : Dt} {v : V} {P : Addr → Prop} (c : flatOk m d = true) (hp : ∀ b, P b → G1 b = none) (h : Ow K ca G2 H2 m d v P) : Ow K ca G1 H2 m d v P := by
  cases h with
  | F h => exact .F (Rp.flat hg (by simpa only [flatOk] using c) h)
  | NL => exact .NL
  | NT => exact .NT
  | NI => exact .NI
  | @L m a vs ds _ h1 h2 h3 h4 =>
    cases m with
    | F => exact .L h1 (hp _ h3) h3 (Rps.ofF hg (by simpa only [flatOk] using c) h4)
    | _ => simp [flatOk] at c
  | T => simp [flatOk] at c
  | TL => simp [flatOk] at c
  | I => simp [flatOk] at c
  | K => simp [flatOk] at c
  | KT => simp [flatOk] at c
section
variable {J : Jc} {Γ : List Mode} {m : Mode} {F : Ev → Rs Dt} {Fs : List (Ev → Rs Dt)} {te : TE} {tr : TA} {G0 H0 G H G' H' : Hp} {ρ : Ev} {σ : L2.St}
def lstA (F : Ev → Rs Dt) (ρ : Ev) : Rs Dt := F ρ >>= fun d => match d with
  | .lst ds => .ok (.lst ds)
  | _ => .no
def flatR (m : Mode) (r : Rs Dt) : Rs Dt := r >>= fun d => if flatOk m d = true then .ok d else .no
def callSE (m : Mode) (Fn : List Dt → Rs Dt) (Fs : List (Ev → Rs Dt)) (ρ : Ev) : Rs Dt := argsE Fs ρ >>= fun ds => flatR m (Fn ds)
variable {Fn : List Dt → Rs Dt} {np : Nat}
/-! ### an item of an owned list of lists, read -/
end
end Pm
/-! sorted(set(xs)), xs a list of ints, fewer than 64 -/
namespace L2
open PySem PySem.Spec PyProof.Rows
section
variable {P : Program} {w : World} {A : Around} {E : Value → Shared → Prop} {s : Shared}
end
end L2
namespace Pm
open PySem PySem.Spec PyProof.Rows L2
open Classical
section
variable {X : Cx}
end
/-- the least first, each once -/
def insU (x : Int) : List Int → List Int
  | [] => [x]
  | y :: ys => if x < y then x :: y :: ys else if x = y then y :: ys else y :: insU x ys
def sortU (ns : List Int) : List Int := ns.foldr insU []
def sortUD (d : Dt) : Rs Dt := match lisD d with
  | some ds => (match intsOf ds with
    | some ns => if ns.length < 64 then .ok (.lst ((sortU ns).map .int)) else .no
    | none => .no)
  | none => .no
def sortUE := op1E sortUD
section
variable {J : Jc} {Γ : List Mode} {F : Ev → Rs Dt} {te : TE}
end
theorem v_sortU {Fa : Ev → Rs Dt} {ρ : Ev} : sortUE Fa ρ = (Fa ρ >>= sortUD) := rfl
/-! ### x not in a list, by data -/
section
open PySem PySem.Spec PyProof.Rows
end
section
variable {J : Jc} {Γ : List Mode} {Fa Fb : Ev → Rs Dt} {ta tb : TE} {ρ : Ev}
def ninDD (a b : Dt) : Rs Dt := match b with
  | .lst ds => if (eqOK a && eqOK (.lst ds)) = true then .ok (.bl (!inD a ds)) else .no
  | _ => .no
def ninDE := op2E ninDD
theorem v_ninD : ninDE Fa Fb ρ = (Fa ρ >>= fun a => Fb ρ >>= fun b => ninDD a b) := rfl
end
end Pm
/-! several clauses 'except X as n', all with the same n (turned from the kit's rules for one such clause and for many without a name) -/
namespace L2
open PySem PySem.Spec PyProof.Rows
section
variable {X : Cx} {n : Str} {i : Nat} {body : List Stmt} {h₀ : ExceptHandler} {hds : List ExceptHandler} {l : List (Value × (Addr → Value → Option Addr → TS))} {pos : Pos} {tb : WX → TS} {Wout : WX}
end
end L2
namespace Pm
open PySem PySem.Spec PyProof.Rows L2
open Classical
/-- one clause after the other; a clause raises nothing -/
def goA (i : Nat) : List (List (Str × Bool) × (Str → Ev → Ot)) → Xn → Ev → Ot
  | [], c, ρ => .ex c ρ
  | (subs, Fh) :: r, c, ρ => match subs.lookup c.1 with
    | some true => (match c.2 with
      | none => clrO i (Fh c.1 (ρ.set i none))
      | some _ => .no)
    | some false => goA i r c ρ
    | none => .no
def tryM (i : Nat) (hs : List (List (Str × Bool) × (Str → Ev → Ot))) (Fb : Ev → Ot) (ρ : Ev) : Ot := match Fb ρ with
  | .ex c ρ' => goA i hs c ρ'
  | o => o
section
variable {J : Jc} {Γ Γ' Γx : List Mode} {Fb : Ev → Ot} {tb : WX → TS}
end
section
variable {X : Cx} {n : Str} {i : Nat} {body : List Stmt} {h₀ : ExceptHandler} {hds : List ExceptHandler} {l : List (Value × (Addr → Value → Option Addr → TS))} {pos : Pos} {tb : WX → TS} {Wout : WX}
end
end Pm
namespace Pm
open PySem PySem.Spec PyProof.Rows L2
open Classical
/-! ### a list of unlike parts; names for the parts of an owned tuple -/
section
variable {J : Jc} {Γ Γ' : List Mode} {m : Mode} {ms : List Mode} {F Fe : Ev → Rs Dt} {Fs : List (Ev → Rs Dt)} {te : TE} {tr : TA} {G0 H0 G H G' H' : Hp} {ρ : Ev} {σ : L2.St}
def setsE (Γ : Ev) (l : List Nat) (ms : List Dt) : Ev := match l with
  | [] => Γ
  | i :: l => match ms with
    | [] => Γ
    | m :: ms => setsE (Γ.set i (some m)) l ms
termination_by structural l
theorem EnvP.set {Pf : Nat → Addr → Prop} (en : EnvP J H0 Γ ρ σ G H Pf) (lg : Γ.length = ρ.length) (lr : ρ.length = σ.length) {d : Dt} {v : V} {P : Addr → Prop} (o : Ow J.K J.ca G H m d v P) (f : ∀ b, P b → G b = none ∧ H0 b = none ∧ H b ≠ none) (dis : ∀ k b, Pf k b → ¬ P b) (i : Nat) :
    EnvP J H0 (Γ.set i m) (ρ.set i (some d)) (σ.set i (some v)) G H (fun k => if k = i then P else Pf k) := by
  obtain ⟨h1, h2, h3⟩ := en
  refine ⟨fun j k a q r s => ?_, fun j a q => ?_, fun j c q => ?_⟩
  · by_cases hj : j = i
    · by_cases hk : k = i
      · exact q (hj.trans hk.symm)
      · simp only [hj, if_true] at r
        simp only [hk, if_false] at s
        exact dis k a s r
    · simp only [hj, if_false] at r
      by_cases hk : k = i
      · simp only [hk, if_true] at s
        exact dis j a r s
      · simp only [hk, if_false] at s
        exact h1 j k a q r s
  · by_cases hj : j = i
    · simp only [hj, if_true] at q
      exact f a q
    · simp only [hj, if_false] at q
      exact h2 j a q
  · by_cases hj : j = i
    · subst hj
      have hl : j < ρ.length := by
        have z := (List.getElem?_eq_some_iff.mp q).1
        simpa using z
      rw [List.getElem?_set_self hl] at q
      have hd : d = c := by simpa using q
      subst hd
      refine ⟨v, m, List.getElem?_set_self (by rw [← lr]; exact hl), List.getElem?_set_self (by rw [lg]; exact hl), ?_⟩
      simp only [if_true]
      exact o
    · rw [List.getElem?_set_ne (Ne.symm hj)] at q
      obtain ⟨v2, m2, s1, s2, s3⟩ := h3 j c q
      refine ⟨v2, m2, by rw [List.getElem?_set_ne (Ne.symm hj)]; exact s1, by rw [List.getElem?_set_ne (Ne.symm hj)]; exact s2, ?_⟩
      simp only [hj, if_false]
      exact s3
def asgT (l : List Nat) (Fe : Ev → Rs Dt) (ρ : Ev) : Ot := bindS (Fe ρ) ρ fun d => match d with
  | .tup ds => if ds.length = l.length then .nx (setsE ρ l ds) else .no
  | _ => .no
end
end Pm
/-! max(xs), xs a list of pairs of ints (the kit's proof for max, turned: what the comparisons need is told of the heap) -/
namespace PySem
open Sem (wp)
section
variable {prog : Program} {w : World} {A : Around} {R : Result → Shared → Prop} {I : Addr} {fp wr : List Addr} {n : Nat} {P : Nat → Value → Prop} {St : Nat → Heap → Prop}
end
section
variable {prog : Program} {w : World} {A : Around} {E : Value → Shared → Prop} {s : Shared}
end
end PySem
namespace L2
open PySem PySem.Spec PyProof.Rows
abbrev pltB (p q : Int × Int) : Bool := HT.lexLt [p.1, p.2] [q.1, q.2]
section
variable {X : Cx}
end
end L2
namespace Pm
open PySem PySem.Spec PyProof.Rows L2
open Classical
def bigP (p q : Int × Int) : Int × Int := if pltB p q = true then q else p
def maxPs : List (Int × Int) → Int × Int
  | [] => (0, 0)
  | p :: r => r.foldl bigP p
def maxPD (d : Dt) : Rs Dt := match d with
  | .lst ds => (match prsOf ds with
    | some (p :: r) => .ok (prD (maxPs (p :: r)))
    | _ => .no)
  | _ => .no
def maxPE := op1E maxPD
section
variable {J : Jc} {Γ : List Mode} {F : Ev → Rs Dt} {te : TE}
end
end Pm
namespace Pm
open PySem PySem.Spec PyProof.Rows L2
open Classical
/-! ### owned items of an owned list: left out, put otherwise -/
section
variable {J : Jc} {Γ Γ' : List Mode} {m : Mode} {Fe Fa Fi : Ev → Rs Dt} {Fp : Ev → Rs (Dt × (Dt → Ev))} {te ta ti : TE} {G0 H0 G H G' H' : Hp} {ρ : Ev} {σ : L2.St}
end
end Pm
namespace Pm
open PySem PySem.Spec PyProof.Rows L2
open Classical
/-! ### for k, x in P, where x, a part of an owned pair, is changed in place: the part is lent to the name -/
def pairD : Dt → Option (Dt × Dt)
  | .tup [k, e] => some (k, e)
  | _ => none
def forTL (j : Nat) (pth : Option Nat) (kd x : Nat) (Fb : Ev → Ot) : Nat → Nat → Ev → Ot
  | 0, _, ρ => .nx ρ
  | n + 1, i, ρ => match ρ[j]? with
    | some (some d) => match tgetD pth d with
      | some (.lst ds) => match (ds[i]?).bind pairD with
        | some (k, e) => match Fb (((ρ.set j none).set x (some e)).set kd (some k)) with
          | .nx ρ2 => (match ρ2[x]? with
            | some (some e') => forTL j pth kd x Fb n (i + 1) ((ρ2.set x none).set j (some (tputD pth d (.lst (ds.set i (.tup [k, e']))))))
            | _ => .no)
          | .ct ρ2 => (match ρ2[x]? with
            | some (some e') => forTL j pth kd x Fb n (i + 1) ((ρ2.set x none).set j (some (tputD pth d (.lst (ds.set i (.tup [k, e']))))))
            | _ => .no)
          | .bk ρ2 => (match ρ2[x]? with
            | some (some e') => .nx ((ρ2.set x none).set j (some (tputD pth d (.lst (ds.set i (.tup [k, e']))))))
            | _ => .no)
          | .rt d => .rt d
          | _ => .no
        | none => .no
      | _ => .no
    | _ => .no
def forT (j : Nat) (pth : Option Nat) (kd x : Nat) (Fb : Ev → Ot) (ρ : Ev) : Ot := match ρ[j]? with
  | some (some d) => match tgetD pth d with
    | some (.lst ds) => forTL j pth kd x Fb ds.length 0 ρ
    | _ => .no
  | _ => .no
section
variable {J : Jc} {Γ Γ' Γ1 Γ2 Γb : List Mode} {em : EM} {m M : Mode} {ms : List Mode} {F Fe Fa Fb Fd Fk Fi : Ev → Rs Dt} {Fs : List (Ev → Rs Dt)} {te ta tb ti : TE} {tr : TA} {G0 H0 Gs G H G' H' : Hp} {ρ : Ev} {σ : L2.St} {vs : List Nat}
  {ts t1 t2 : TS} {D : Ends} {d : Dt} {v : V} {put : Dt → Ev} {Fp : Ev → Rs (Dt × (Dt → Ev))}
/-- down to the list, to one of its pairs, to the pair's second part -/
theorem Ow.lens2 {K : PySem.W.Frag} {ca : Str → Addr} {G H : Hp} {m M : Mode} {pth : Option Nat} {d : Dt} {v : V} {P : Addr → Prop} {ds : List Dt} {i : Nat} {k e : Dt} (o : Ow K ca G H M d v P) (hM : tmode pth M = some (.L (.T [.F, m]))) (hd : tgetD pth d = some (.lst ds)) (hi : ds[i]? = some (.tup [k, e])) :
    ∃ a us c vk u Pk, H a = some (.lst us) ∧ us[i]? = some (.ref c) ∧ ds.length = us.length ∧ P a ∧ ¬ Pk a ∧ stQ H v a (fun b => P b ∧ ¬ Pk b) pth ∧ H c = some (.tup [vk, u]) ∧ P c ∧ ¬ Pk c ∧ Rp K ca G k vk ∧ Ow K ca G H m e u Pk ∧ (∀ b, Pk b → P b) ∧
      ∀ G2 H2 d2 P2, Same G G2 → (∀ b, P b → ¬ Pk b → H2 b = H b ∧ G2 b = none) → Ow K ca G2 H2 m d2 u P2 → (∀ b, P2 b → Pk b ∨ ¬ P b) → Ow K ca G2 H2 M (tputD pth d (.lst (ds.set i (.tup [k, d2])))) v (fun b => (P b ∧ ¬ Pk b) ∨ P2 b) := by
  obtain ⟨a, us, ui, PI, g1, g2, g3, g4, g5, g6, g7, g8, g9⟩ := o.lens hM hd hi
  cases g7 with
  | @T _ c vs _ _ h1 h2 h3 h4 =>
    cases h4 with
    | @cons _ _ _ _ vk vs1 _ A B0 hk hr q1 q2 q3 =>
      cases hr with
      | @cons _ _ _ _ u vs2 _ B C0 he hn r1 r2 r3 =>
        cases hn
        cases hk with
        | F rk =>
          have bI : ∀ b, B b → PI b ∧ b ≠ c := fun b hb => q2 b (r1 b hb)
          have nc : ¬ B c := fun z => (bI c z).2 rfl
          have na : ¬ B a := fun z => g5 (bI a z).1
          refine ⟨a, us, c, vk, u, B, g1, g2, g3, g4, na, ?_, h1, g8 c h3, nc, rk, he, fun b hb => g8 b (bI b hb).1, fun G2 H2 d2 P2 sg cc o2 c2 => ?_⟩
          · cases pth with
            | none => exact g6
            | some n =>
              obtain ⟨b, ws, x1, x2, x3, x4, x5⟩ := g6
              exact ⟨b, ws, x1, x2, x3, x4, fun z => x5 (bI b z).1⟩
          · have cc2 := cc c (g8 c h3) nc
            have p2c : ∀ b, P2 b → b ≠ c := fun b hb z => by
              rcases c2 b hb with y | y
              · exact nc (z ▸ y)
              · exact y (z ▸ g8 c h3)
            have item : Ow K ca G2 H2 (.T [.F, m]) (.tup [k, d2]) (.ref c) (fun b => (PI b ∧ ¬ B b) ∨ P2 b) := by
              refine .T (by rw [cc2.1]; exact h1) cc2.2 (.inl ⟨h3, nc⟩) ?_
              exact .cons (P1 := Pno) (P2 := P2) (.F (rk.mono sg)) (.cons (P1 := P2) (P2 := Pno) o2 .nil (fun _ z => z) (fun _ z => z.elim) (fun _ _ z => z)) (fun _ z => z.elim) (fun b hb => ⟨.inr hb, p2c b hb⟩) fun _ z => z.elim
            refine (g9 G2 H2 (.tup [k, d2]) (fun b => (PI b ∧ ¬ B b) ∨ P2 b) sg (fun b hb hn => cc b hb fun z => hn (bI b z).1) item fun b hb => ?_).weaken fun b hb => ?_
            · rcases hb with hb | hb
              · exact .inl hb.1
              · exact (c2 b hb).imp (fun z => (bI b z).1) id
            · rcases hb with ⟨z1, z2⟩ | ⟨z1, z2⟩ | z
              · exact .inl ⟨z1, fun t => z2 (bI b t).1⟩
              · exact .inl ⟨g8 b z1, z2⟩
              · exact .inr z
end
end Pm
namespace Pm
open PySem PySem.Spec PyProof.Rows L2
open Classical
section
variable {J : Jc} {Γ Γ' : List Mode} {m : Mode} {ns : List Mode} {Fe Fa Fi : Ev → Rs Dt} {Fs : List (Ev → Rs Dt)} {Fn : List Dt → Rs Dt} {np : Nat} {Fp : Ev → Rs (Dt × (Dt → Ev))} {te ta ti : TE} {tr : TA} {G0 H0 G H G' H' : Hp} {ρ : Ev} {σ : L2.St}
end
end Pm
/-! min(xs), xs a list of pairs of ints; <= of tuples; xs[::-1] -/
namespace PySem
open Sem (wp)
section
variable {prog : Program} {w : World} {A : Around} {R : Result → Shared → Prop} {I : Addr} {fp wr : List Addr} {n : Nat} {P : Nat → Value → Prop} {St : Nat → Heap → Prop}
end
section
variable {prog : Program} {w : World} {A : Around} {E : Value → Shared → Prop} {s : Shared}
end
end PySem
namespace L2
open PySem PySem.Spec PyProof.Rows
section
variable {X : Cx}
end
end L2
namespace L2
open PySem PySem.Spec PyProof.Rows
section
variable {X : Cx} {e k : Expr} {te : TE} {tk : TO} {pos p2 : Pos}
end
end L2
namespace Pm
open PySem PySem.Spec PyProof.Rows L2
open Classical
def smlP (p q : Int × Int) : Int × Int := if pltB q p = true then q else p
def minPs : List (Int × Int) → Int × Int
  | [] => (0, 0)
  | p :: r => r.foldl smlP p
def minPD (d : Dt) : Rs Dt := match d with
  | .lst ds => (match prsOf ds with
    | some (p :: r) => .ok (prD (minPs (p :: r)))
    | _ => .no)
  | _ => .no
def minPE := op1E minPD
section
variable {J : Jc} {Γ : List Mode} {F : Ev → Rs Dt} {te : TE}
end
/-! <= of tuples of ints -/
def lexLe2 (ns ms : List Int) : Bool := Ob.lexAt (fun j => decide (ns.getD j 0 = ms.getD j 0)) (fun j => decide (ns.getD j 0 ≤ ms.getD j 0)) (decide (ns.length ≤ ms.length)) 0 (min ns.length ms.length)
def tupLeD (a b : Dt) : Rs Dt := match a, b with
  | .tup as, .tup bs => (match intsOf as, intsOf bs with
    | some ns, some ms => .ok (.bl (lexLe2 ns ms))
    | _, _ => .no)
  | _, _ => .no
def leTE := op2E tupLeD
/-! xs[::-1] -/
def revLD (d k : Dt) : Rs Dt := match d, k with
  | .lst ds, .int i => if i = -1 then .ok (.lst ds.reverse) else .no
  | _, _ => .no
def revSE := op2E revLD
section
variable {J : Jc} {Γ : List Mode} {Fa Fb F : Ev → Rs Dt} {ta tb te : TE}
end
end Pm
namespace Pm
open PySem PySem.Spec PyProof.Rows L2
open Classical
/-! ### a dict gone through by its keys -/
section
variable {K : PySem.W.Frag} {ca : Str → Addr} {G H G' H' G2 H2 : Hp} {a : Addr} {o : Obj} {kvs : List (Key × V)}
/- the owned part stays, the frozen parts are carried as told -/
end
section
variable {J : Jc} {Γ Γ' Γ1 : List Mode} {em : EM} {m : Mode} {ms : List Mode} {Fe Fa Fb Fk Fd : Ev → Rs Dt} {F : Ev → Ot} {te ta tb : TE} {G0 H0 Gs G H G' H' : Hp} {ρ : Ev} {σ : L2.St} {D : Ends} {v : V} {vs : List Nat} {ts : TS} {FG : Dt → Ev → Option Ev} {g : TG} {Ft : Ev → Rs Bool} {tt : TT}
def keyDt : Key → Dt
  | .inl i => .int i
  | .inr x => .str x
def forK (j : Nat) (FG : Dt → Ev → Option Ev) (Fb : Ev → Ot) (ρ : Ev) : Ot := match varE j ρ with
  | .ok (.dic ks _) => (match forL FG Fb (ks.map keyDt) ρ with
    | .nx ρ2 => .nx ρ2
    | _ => .no)
  | _ => .no
def scalL : Dt → Bool
  | .lst ds => ds.all scal
  | _ => false
def compK (j : Nat) (vs : List Nat) (FG : Dt → Ev → Option Ev) (Ft : Ev → Rs Bool) (Fe : Ev → Rs Dt) (ρ : Ev) : Rs Dt := varE j ρ >>= fun d => match d with
  | .dic ks _ => compE (fun _ => .ok (ks.map keyDt)) vs FG Ft Fe ρ >>= fun r => if scalL r = true then .ok r else .no
  | _ => .no
theorem Rps.scal {K : PySem.W.Frag} {ca : Str → Addr} {G G' : Hp} : ∀ {ds : List Dt} {vs : List V}, ds.all scal = true → Rps K ca G ds vs → Rps K ca G' ds vs
  | [], _, _, h => by cases h; exact .nil
  | d :: ds, _, c, h => by
    cases h with
    | cons h1 h2 =>
      rw [List.all_cons, Bool.and_eq_true] at c
      exact .cons (scal_rp c.1 h1) (Rps.scal c.2 h2)
end
/-! the greatest of the values -/
section
variable {X : Cx}
end
section
variable {J : Jc} {Γ : List Mode} {m : Mode} {Fa : Ev → Rs Dt} {ta : TE}
def maxVD (d : Dt) : Rs Dt := match d with
  | .dic _ ds => maxD (.lst ds)
  | _ => .no
def maxVE (j : Nat) (ρ : Ev) : Rs Dt := varE j ρ >>= maxVD
/-! a dict of one written pair -/
def dconE (k : Key) (d : Dt) (_ : Ev) : Rs Dt := .ok (.dic [k] [d])
end
/-! an owned thing handed from name to name -/
section
variable {J : Jc} {Γ : List Mode} {m : Mode}
def mvS (i k : Nat) (ρ : Ev) : Ot := bindS (varE k ρ) ρ fun d => .nx ((ρ.set k none).set i (some d))
end
end Pm
namespace Pm
open PySem PySem.Spec PyProof.Rows L2
open Classical
/-! ### methods that change their self -/
section
variable {G H G' H' : Hp} {K : PySem.W.Frag} {ca : Str → Addr}
theorem Ows.two : ∀ {ds : List Dt} {ms : List Mode} {us : List V} {P : Addr → Prop} {j k : Nat} {m n : Mode} {d e : Dt}, Ows K ca G H ms ds us P → j ≠ k → ms[j]? = some m → ms[k]? = some n → ds[j]? = some d → ds[k]? = some e →
    ∃ v w Pj Pk, us[j]? = some v ∧ us[k]? = some w ∧ Ow K ca G H m d v Pj ∧ Ow K ca G H n e w Pk ∧ (∀ b, Pj b → P b) ∧ (∀ b, Pk b → P b) ∧ ∀ b, Pj b → ¬ Pk b
  | [], ms, us, P, j, k, m, n, d, e, h, ne, a1, a2, b1, b2 => by simp at b1
  | x :: ds, ms, us, P, j, k, m, n, d, e, h, ne, a1, a2, b1, b2 => by
    cases h with
    | @cons _ _ _ _ _ _ _ P1 P2 h1 h2 q1 q2 q3 =>
      cases j with
      | zero =>
        cases k with
        | zero => exact absurd rfl ne
        | succ k =>
          cases a1
          cases b1
          obtain ⟨w, Pk, c1, c2, c3, _⟩ := h2.focus (k := k) (by simpa using a2) (by simpa using b2)
          exact ⟨_, w, P1, Pk, rfl, by simpa using c1, h1, c2, q1, fun b hb => q2 b (c3 b hb), fun b hb z => q3 b hb (c3 b z)⟩
      | succ j =>
        cases k with
        | zero =>
          cases a2
          cases b2
          obtain ⟨w, Pk, c1, c2, c3, _⟩ := h2.focus (k := j) (by simpa using a1) (by simpa using b1)
          exact ⟨w, _, Pk, P1, by simpa using c1, rfl, c2, h1, fun b hb => q2 b (c3 b hb), q1, fun b hb z => q3 b z (c3 b hb)⟩
        | succ k =>
          obtain ⟨v, w, Pj, Pk, c1, c2, c3, c4, c5, c6, c7⟩ := Ows.two (j := j) (k := k) h2 (fun z => ne (by rw [z])) (by simpa using a1) (by simpa using a2) (by simpa using b1) (by simpa using b2)
          exact ⟨v, w, Pj, Pk, by simpa using c1, by simpa using c2, c3, c4, fun b hb => q2 b (c5 b hb), fun b hb => q2 b (c6 b hb), c7⟩
end
section
variable {J : Jc} {Γ Γ' Γ1 : List Mode} {m : Mode} {ms : List Mode} {Fe : Ev → Rs Dt} {te ta : TE} {G0 H0 G H G' H' : Hp} {ρ : Ev} {σ : L2.St} {D : Ends} {v : V} {Fs : List (Ev → Rs Dt)} {tr : TA} {Fn : List Dt → Rs Dt} {np : Nat}
/-- the owned object of a slot is changed -/
theorem Wd.put {i : Nat} {d d' : Dt} {v : V} {Pf : Nat → Addr → Prop} {P : Addr → Prop} (w : Wd J G0 H0 Γ ρ σ G H) (h1 : ∀ i j a, i ≠ j → Pf i a → ¬ Pf j a) (h2 : ∀ i a, Pf i a → G a = none ∧ H0 a = none ∧ H a ≠ none)
    (h3 : ∀ i d, ρ[i]? = some (some d) → ∃ v m, σ[i]? = some (some v) ∧ Γ[i]? = some m ∧ Ow J.K J.ca G H m d v (Pf i)) (hq : ρ[i]? = some (some d)) (hm : Γ[i]? = some m) (hs : σ[i]? = some (some v)) (o : Ow J.K J.ca G' H' m d' v P)
    (e : Ext G0 H0 G' H') (sg : Same G G') (hp : ∀ b, P b → (Pf i b ∨ H b = none) ∧ G' b = none ∧ H0 b = none ∧ H' b ≠ none) (hc : ∀ b, H b ≠ none → ¬ Pf i b → H' b = H b ∧ G' b = G b) : Wd J G0 H0 Γ (ρ.set i (some d')) σ G' H' := by
  have hl : i < ρ.length := (List.getElem?_eq_some_iff.mp hq).1
  refine ⟨e, by rw [List.length_set]; exact w.lg, by rw [List.length_set]; exact w.lr, ⟨fun j b => if j = i then P b else Pf j b, fun j k b n q r => ?_, fun j b q => ?_, fun j c q => ?_⟩, w.pn, w.xk⟩
  · dsimp only at q r
    by_cases q1 : j = i
    · have q2 : k ≠ i := fun z => n (q1.trans z.symm)
      simp only [q1, if_true] at q
      simp only [q2, if_false] at r
      rcases (hp b q).1 with z | z
      · exact h1 k i b q2 r z
      · exact (h2 k b r).2.2 z
    · simp only [q1, if_false] at q
      by_cases q2 : k = i
      · simp only [q2, if_true] at r
        rcases (hp b r).1 with z | z
        · exact h1 j i b q1 q z
        · exact (h2 j b q).2.2 z
      · simp only [q2, if_false] at r
        exact h1 j k b n q r
  · dsimp only at q
    by_cases q1 : j = i
    · simp only [q1, if_true] at q
      exact (hp b q).2
    · simp only [q1, if_false] at q
      obtain ⟨a1, a2, a3⟩ := h2 j b q
      obtain ⟨c1, c2⟩ := hc b a3 (h1 j i b q1 q)
      exact ⟨by rw [c2]; exact a1, a2, by rw [c1]; exact a3⟩
  · by_cases q1 : j = i
    · subst q1
      rw [List.getElem?_set_self hl] at q
      cases q
      refine ⟨v, m, hs, hm, ?_⟩
      simp only [if_true]
      exact o
    · rw [List.getElem?_set_ne (Ne.symm q1)] at q
      obtain ⟨v2, m2, t1, t2, t3⟩ := h3 j c q
      refine ⟨v2, m2, t1, t2, ?_⟩
      simp only [q1, if_false]
      refine t3.carry sg fun b hb => ?_
      obtain ⟨a1, a2, a3⟩ := h2 j b hb
      obtain ⟨c1, c2⟩ := hc b a3 (h1 j i b q1 hb)
      exact ⟨c1, by rw [c2]; exact a1⟩
/-- self.f = e, a field that is there -/
def setFld (C f : Str) (i j : Nat) (Fe : Ev → Rs Dt) (ρ : Ev) : Ot := bindS (Fe ρ) ρ fun y => bindS (varE i ρ) ρ fun d => match d with
  | .ins C' ns ds => if C' = C ∧ fix f ns = some j ∧ ns.length < 100 then .nx (ρ.set i (some (.ins C' ns (ds.set j y)))) else .no
  | _ => .no
/-- self.f.append(self.g.pop(e)) -/
def appPopF (C f g : Str) (i j k : Nat) (Fe : Ev → Rs Dt) (ρ : Ev) : Ot := bindS (varE i ρ) ρ fun d => match d with
  | .ins C' ns ds => if C' = C ∧ fix f ns = some j ∧ fix g ns = some k then bindS (lstOf (ds.getD j .non)) ρ fun as => bindS (lstOf (ds.getD k .non)) ρ fun xs => bindS (Fe ρ) ρ fun y => bindS (popD xs y) ρ fun z => if lenSz as.length = true then .nx (ρ.set i (some (.ins C' ns ((ds.set j (.lst (as ++ [z.1]))).set k (.lst z.2))))) else .no else .no
  | _ => .no
/-! the spec of such a method, its call -/
def outL : Ot → Rs Dt
  | .nx ρ => (match ρ[0]? with
    | some (some d) => .ok d
    | _ => .no)
  | _ => .no
end
section
variable {P : Program} {w : World} {K : PySem.W.Frag} {ca : Str → Addr} {mg : Str → Option Value} {base : Heap} {x qual : Str} {params : Arguments} {body : List Stmt} {scope : Scope} {f : Addr} {fd : FuncData} {N ps : List Str} {k : Nat} {ms : List Mode}
end
section
variable {J : Jc} {Γ : List Mode} {ms mz : List Mode} {Fs : List (Ev → Rs Dt)} {tr : TA} {Fn : List Dt → Rs Dt} {np : Nat}
def lendS (C mm : Str) (i : Nat) (Fn : List Dt → Rs Dt) (Fs : List (Ev → Rs Dt)) (ρ : Ev) : Ot := bindS (varE i ρ) ρ fun d => bindS (noMeth C mm d) ρ fun _ => bindS (argsE Fs ρ) ρ fun ds => match Fn (d :: ds) with
  | .ok d' => .nx (ρ.set i (some d'))
  | _ => .no
/-- a field of an owned object handed back -/
def retFld (C f : Str) (i j : Nat) (ρ : Ev) : Ot := bindS (fldIE C f j i ρ) ρ fun d => .rt d
end
end Pm
namespace Pm
open PySem PySem.Spec PyProof.Rows L2
open Classical
/-! ### a < b of lists of ints -/
def lstLtD (a b : Dt) : Rs Dt := match a, b with
  | .lst xs, .lst ys => (match intsOf xs, intsOf ys with
    | some ns, some ms => .ok (.bl (HT.lexLt ns ms))
    | _, _ => .no)
  | _, _ => .no
def ltLE := op2E lstLtD
theorem v_ltL : ltLE Fa Fb ρ = (Fa ρ >>= fun a => Fb ρ >>= fun b => lstLtD a b) := rfl
end Pm
theorem L2H.RoomH.units {k : Nat} {A : PySem.Around} (r : L2H.RoomH k A) : A.units + 64 < PySem.cLine := by have := r.un; omega
namespace Pm
open PySem PySem.Spec PyProof.Rows L2
open Classical
/-! ### a caught exception handed to a helper: the helper runs over the base with the exception in it -/
section
variable {X : Cx} {pins : List (Addr × Obj)} {σ : L2.St} {H : Hp} {s : Shared}
end
section
variable {X : Cx} {a D : Addr} {oe : Obj}
end
section
variable {P : Program} {w : World} {K : PySem.W.Frag} {ca : Str → Addr} {mg : Str → Option Value} {base : Heap} {x qual : Str} {params : Arguments} {body : List Stmt} {scope : Scope} {f : Addr} {fd : FuncData} {N : List Str} {p0 : Str} {k : Nat} {m : Mode} {a : Addr}
end
section
variable {X : Cx} {CX : CXT} {k : Nat} {f : Addr} {fd : FuncData} {ps : List Str} {sp : Sp} {E : L2.St → XK} {x : Str} {p pos : Pos} {e : Expr} {es : List Expr} {t : TA} {a : Addr} {oe : Obj}
end
/-- the call of such a helper -/
def callX (r : Rs Dt) (_ : Ev) : Rs Dt := noEx r
theorem v_callX {r : Rs Dt} {ρ : Ev} : callX r ρ = noEx r := rfl
end Pm
namespace L2
open PySem PySem.Spec PyProof.Rows
open PySem.AutoSeq1 PySem.SeqAt HT Builtin.List
section
variable {prog : Program} {w : World} {A : Around} {E : Value → Shared → Prop} {s : Shared}
end
end L2
namespace L2
open PySem PySem.Spec PyProof.Rows
open PySem.AutoSeq1 PySem.SeqAt HT Builtin.List
end L2
namespace Pm
open PySem PySem.Spec PyProof.Rows L2
open Classical
/-- the pure reading -/
def setSlO (x : Dt × (Dt → Ev)) (y k : Dt) : Option Ev := match x.1, y, k with
  | .lst ds, .lst es, .int c => if 0 ≤ c ∧ c ≤ ds.length ∧ lenSz (ds.length + es.length) = true then some (x.2 (.lst (es ++ ds.drop c.toNat))) else none
  | _, _, _ => none
def someO (rest : Ev → Ot) : Option Ev → Ot
  | some ρ => rest ρ
  | none => .no
def setSlS (Fe : Ev → Rs Dt) (Fp : Ev → Rs (Dt × (Dt → Ev))) (Fi : Ev → Rs Dt) (ρ : Ev) : Ot := bindS (Fe ρ) ρ fun y => bindS (Fp ρ) ρ fun x => bindS (Fi ρ) ρ fun k => someO Ot.nx (setSlO x y k)
section
variable {J : Jc} {Γ : List Mode} {Fe Fi : Ev → Rs Dt} {te ta ti : TE} {Fp : Ev → Rs (Dt × (Dt → Ev))}
end
end Pm
namespace Pm
open PySem PySem.Spec PyProof.Rows L2
open Classical
/-! ### return [(c, D[c], e) for c in sorted(D)]: the parts of an owned dict of lists move out -/
section
variable {K : PySem.W.Frag} {ca : Str → Addr} {G H G' H' : Hp}
theorem Ows.parts : ∀ {ds : List Dt} {ms : List Mode} {us : List V} {P : Addr → Prop}, Ows K ca G H ms ds us P → ∃ Q : Nat → Addr → Prop, (∀ t d u m, ds[t]? = some d → us[t]? = some u → ms[t]? = some m → Ow K ca G H m d u (Q t)) ∧ (∀ t b, Q t b → P b) ∧ ∀ s t b, s ≠ t → Q s b → ¬ Q t b
  | [], ms, us, P, h => ⟨fun _ => Pno, fun t d u m e => by simp at e, fun _ _ z => z.elim, fun _ _ _ _ z => z.elim⟩
  | d :: ds, ms, us, P, h => by
    cases h with
    | @cons m ms _ _ v vs _ P1 P2 h1 h2 q1 q2 q3 =>
      obtain ⟨Q, a, b, c⟩ := Ows.parts h2
      refine ⟨fun t => match t with
        | 0 => P1
        | t + 1 => Q t, fun t d' u m' e1 e2 e3 => ?_, fun t x z => ?_, fun s t x n z => ?_⟩
      · cases t with
        | zero => cases e1; cases e2; cases e3; exact h1
        | succ t => exact a t d' u m' e1 e2 e3
      · cases t with
        | zero => exact q1 x z
        | succ t => exact q2 x (b t x z)
      · cases s with
        | zero =>
          cases t with
          | zero => exact absurd rfl n
          | succ t => exact fun y => q3 x z (b t x y)
        | succ s =>
          cases t with
          | zero => exact fun y => q3 x y (b s x z)
          | succ t => exact c s t x (fun e => n (by rw [e])) z
/-- a new tuple of a key, the part there, and a third -/
def MvP (ks : List Key) (ds : List Dt) (us : List V) (y : Dt) (v : V) (H : Hp) : Prop := ∃ (q : Addr) (c : Int) (t : Nat) (u f : V) (es : List Dt) (fd : Dt), v = .ref q ∧ y = .tup [.int c, .lst es, fd] ∧ H q = some (.tup [.int c, u, f]) ∧ ks[t]? = some (Sum.inl c) ∧ us[t]? = some u ∧ ds[t]? = some (.lst es)
theorem MvP.mono {ks : List Key} {ds : List Dt} {us : List V} {y : Dt} {v : V} (h : MvP ks ds us y v H) (s : Same H H') : MvP ks ds us y v H' := by
  obtain ⟨q, c, t, u, f, es, fd, a1, a2, a3, a4⟩ := h
  exact ⟨q, c, t, u, f, es, fd, a1, a2, s _ _ a3, a4⟩
theorem MvP.upd {ks : List Key} {ds : List Dt} {us : List V} {y : Dt} {v : V} {D : Addr} {o : HO} {aV : List V} (h : MvP ks ds us y v H) (hD : H D = some (.lst aV)) : MvP ks ds us y v (L2.upd H D o) := by
  obtain ⟨q, c, t, u, f, es, fd, a1, a2, a3, a4⟩ := h
  refine ⟨q, c, t, u, f, es, fd, a1, a2, ?_, a4⟩
  have n : q ≠ D := fun z => by rw [z, hD] at a3; cases a3
  rw [upd_ne n]
  exact a3
end
section
variable {J : Jc} {Γ Γ' : List Mode} {Fe : Ev → Rs Dt} {te : TE} {G0 H0 G H : Hp} {ρ : Ev} {σ : L2.St} {Q : VK}
end
section
variable {K : PySem.W.Frag} {ca : Str → Addr} {G G0 G3 H H' : Hp}
end
section
variable {J : Jc} {Γ Γ' : List Mode} {Fe : Ev → Rs Dt} {te : TE} {Fi : Ev → Rs (List Dt)} {wi : TI} {g : TG} {G0 H0 G H : Hp} {ρ : Ev} {σ : L2.St} {D : Ends}
end
end Pm
namespace Pm
open PySem PySem.Spec PyProof.Rows L2 TL
open Classical
/-! ### texts -/
section
variable {J : Jc} {Γ : List Mode} {F Fa Fb : Ev → Rs Dt} {Fs : List (Ev → Rs Dt)} {te ta tb : TE} {tr : TA} {G0 H0 G H G' H' : Hp} {ρ : Ev} {σ : L2.St}
/-! one sign in a text -/
def inSD : Dt → Dt → Rs Dt
  | .str x, .str z => (match x.cps.toList with
    | [c] => .ok (.bl (decide (c ∈ z.cps.toList)))
    | _ => .no)
  | _, _ => .no
def ninSD : Dt → Dt → Rs Dt
  | .str x, .str z => (match x.cps.toList with
    | [c] => .ok (.bl (!decide (c ∈ z.cps.toList)))
    | _ => .no)
  | _, _ => .no
def inSE := op2E inSD
def ninSE := op2E ninSD
/-! the signs of a text, walked -/
def signsD (x : Str) : List Dt := x.cps.toList.map fun c => Dt.str ⟨#[c]⟩
def strI (F : Ev → Rs Dt) (ρ : Ev) : Rs (List Dt) := F ρ >>= fun d => match d with
  | .str x => .ok (signsD x)
  | _ => .no
/-! str(int), int(text) -/
@[irreducible] def numSz (i : Int) : Bool := decide (i.natAbs.log2 < 1920)
def strD : Dt → Rs Dt
  | .int i => if numSz i = true then .ok (.str (toString i)) else .no
  | _ => .no
def strE := op1E strD
@[irreducible] def txtSz (x : Str) : Bool := decide (x.length ≤ 640)
@[irreducible] def txtNum (x : Str) : Option Int := PySem.intText? x
def intTD : Dt → Rs Dt
  | .str x => if txtSz x = true then (match txtNum x with
    | some n => .ok (.int n)
    | none => .no) else .no
  | _ => .no
def intTE := op1E intTD
/-! methods of texts -/
def strsOf : List Dt → Option (List Str)
  | [] => some []
  | .str x :: ds => (strsOf ds).map (x :: ·)
  | _ => none
theorem strsOf_map (ys : List Str) : strsOf (ys.map Dt.str) = some ys := by
  induction ys with
  | nil => rfl
  | cons b bs ih => rw [List.map_cons, strsOf, ih]; rfl
@[irreducible] def joinSz (a : Str) (ys : List Str) : Bool := decide ((ys.map (·.length)).sum + ys.length * a.length ≤ 1000000)
def strOf : Dt → Rs Str
  | .str x => .ok x
  | _ => .no
/-- a method of a text, one argument -/
def m1E (g : Str → Dt → Rs Dt) (Fa Fb : Ev → Rs Dt) (ρ : Ev) : Rs Dt := Fa ρ >>= fun a => strOf a >>= fun x => Fb ρ >>= fun b => g x b
def joinSD (x : Str) (ds : List Dt) : Rs Dt := match strsOf ds with
  | some ys => if joinSz x ys = true then .ok (.str (Txt.join x ys)) else .no
  | none => .no
def joinD (x : Str) (b : Dt) : Rs Dt := match seqD b with
  | some ds => joinSD x ds
  | none => .no
def joinE := m1E joinD
@[irreducible] def txt0 (x : Str) : Bool := x.length == 0
def splitD (x : Str) : Dt → Rs Dt
  | .str y => if (strSz x && !txt0 y) = true then .ok (.lst ((Txt.split x y).map Dt.str)) else .no
  | _ => .no
def splitE := m1E splitD
def partD (x : Str) : Dt → Rs Dt
  | .str y => if (strSz x && !txt0 y) = true then .ok (.tup [.str (Txt.partition x y).1, .str (Txt.partition x y).2.1, .str (Txt.partition x y).2.2]) else .no
  | _ => .no
def partE := m1E partD
def swD (x : Str) : Dt → Rs Dt
  | .str y => .ok (.bl (Txt.startswith x y))
  | _ => .no
def swE := m1E swD
/-! range with a step -/
def stepL (lo c : Int) (n : Nat) : List Dt := (List.range n).map fun i => Dt.int (lo + (i : Nat) * c)
def stepN (i j c : Int) : Nat := (Builtin.Range.rangeSize i j c).toNat
def rng3I (Fs : List (Ev → Rs Dt)) (ρ : Ev) : Rs (List Dt) := argsE Fs ρ >>= fun ds => match ds with
  | [.int i, .int j, .int c] => if (intSz i && intSz j && intSz c && decide (0 < c)) = true then .ok (stepL i c (stepN i j c)) else .no
  | _ => .no
/-! text * int -/
def repSt (x : Str) (n : Nat) : Str := ⟨((List.replicate n x.cps.toList).flatten).toArray⟩
@[irreducible] def repSz (x : Str) (n : Int) : Bool := decide (0 ≤ n ∧ n ≤ 1000 ∧ x.length ≤ 1000)
def mulSD : Dt → Dt → Rs Dt
  | .str x, .int n => if repSz x n = true then .ok (.str (repSt x n.toNat)) else .no
  | _, _ => .no
def mulSE := op2E mulSD
end
end Pm
namespace Pm
open PySem PySem.Spec PyProof.Rows L2
open Classical
/-! ### an exception that bears a number: class X(MillError) with __init__(self, row) -/
structure OexR (K : PySem.W.Frag) (C : Addr) : Prop where
  ox : OexC K C
  no : PySem.W.findIn K (.ref C) "row" = some none
theorem oexB_ok {K : PySem.W.Frag} {x : Str} (h : oexB K x = true) : OexR K (He.ga K x) := by
  unfold oexB at h
  obtain ⟨q, h⟩ := He.ba h
  obtain ⟨h1, h⟩ := He.ba h
  obtain ⟨h2, h⟩ := He.ba h
  obtain ⟨h3, h⟩ := He.ba h
  obtain ⟨h4, h5⟩ := He.ba h
  refine ⟨⟨?_, He.eqO_ok h1, of_decide_eq_true h2, of_decide_eq_true h3, h4⟩, He.eqO_ok h5⟩
  split at q
  · rename_i dd cd sl ho
    split at q
    · rename_i C' bm k0 k1 k2 k3 n k5 hm hs
      obtain ⟨q1, q⟩ := He.ba q
      obtain ⟨q2, q⟩ := He.ba q
      obtain ⟨hdel, q⟩ := He.ba q
      obtain ⟨hdct, ht⟩ := He.ba q
      have e1 := of_decide_eq_true q1
      have e2 := of_decide_eq_true q2
      rw [Bool.not_eq_true'] at hdel
      obtain ⟨nm, bs, mro, ns, qn, hd, sn, sub, ab, col, del⟩ := cd
      dsimp only at hm hdel hdct
      subst hm hdel hdct e2
      have hsl : sl = #[k0, k1, k2, k3, some (.builtin "ValueError.__new__"), k5] := by
        obtain ⟨l⟩ := sl
        simp only at hs
        rw [hs]
      subst hsl
      rw [e1] at ho
      exact ⟨nm, qn, ns, bs, bm, sn, sub, ab, col, dd, k0, k1, k2, k3, k5, ho, ht⟩
    · cases q
  · cases q
/-- B.__init__ is ValueError's -/
structure BinC (K : PySem.W.Frag) (B : Addr) : Prop where
  rd : PySem.W.readsIn K B (.type "type") = true
  ga : PySem.W.specialIn K (.ref B) "__getattribute__" = some (some (.builtin "type.__getattribute__"))
  at_ : PySem.W.findCls K (.ref B) (.type "type") "__init__" = some (.val (.builtin "ValueError.__init__"))
theorem binB_ok {K : PySem.W.Frag} {x : Str} (h : binB K x = true) : BinC K (He.ga K x) := by
  unfold binB at h
  obtain ⟨h1, h⟩ := He.ba h
  obtain ⟨h2, h3⟩ := He.ba h
  refine ⟨h1, of_decide_eq_true h2, ?_⟩
  split at h3
  · rename_i v e
    rw [e, of_decide_eq_true h3]
  · cases h3
section
variable {X : Cx} {e : Expr} {es : List Expr} {ta : TA} {p1 p2 pos : Pos} {x : Str} {B : Addr}
theorem pe_binit {pl : Sem Bool} (hg : Gl X x) (hm : X.mg x = some (.ref B)) (T : BinC X.K B) (ha : PA X (e :: es) ta) (hdb : (x == ("__debug__" : Str)) = false := by decide)
    (hc : eval (.Call (.Attribute (.Name x p1) "__init__" p2) (e :: es) [] pos) X.env = (do
      let ov ← eval (.Name x p1) X.env
      standAt p2.atName
      let (f, first) ← holding [ov] (getMethod ov "__init__" pl)
      callWith pos f first (backTo pos (starEach (e :: es) X.env)) (backToKw pos (keywordEach [] X.env))) := by rfl)
    (he : starEach (e :: es) X.env = (false, eval e X.env) :: starEach es X.env := by rfl) (hpl : (backTo pos (starEach es X.env)).any (·.1) = false := by rfl) :
    PE X (.Call (.Attribute (.Name x p1) "__init__" p2) (e :: es) [] pos) (tVeI X.K ta) := by
  refine ⟨fun pins s σ H Q I h => ?_⟩
  refine PySem.W.methodCall_KW (ld_glob I hg hm ?_ hdb) hc
  refine PySem.W.method_cls I.kIn T.ga (PySem.W.cls_value I.kIn T.rd T.at_ (by decide +kernel) ?_)
  show wpAny _ _ (callWith pos (Value.builtin "ValueError.__init__") [] (backTo pos (starEach (e :: es) X.env)) []) _ _ _
  refine PyProof.Rows.callWith_method1 (thn (ha.run pos pins _ σ H _ (I.tok _) h) fun us s1 ⟨vs, H1, I1, r1, a, C, ws, ev, hl, T, ea, q⟩ => ?_) he hpl
  subst ev
  cases r1 with
  | @cons _ u0 _ ur ra rw' =>
    obtain rfl : u0 = Value.ref a := ra
    have hlen : ur.length ≤ sizeLine := by
      rw [← Paired.length rw', sizeLine_eq]
      omega
    exact oinit_ok T I1 ea hlen fun s' J => ⟨.non, H1, J, rfl, q⟩
end
/-- what C.__init__(self, row) promises -/
def spRow (K : PySem.W.Frag) (C : Addr) : Sp := fun vs H Q E => ∃ (a : Addr) (n : Int), vs = [.ref a, .int n] ∧ H a = some (exo a C none) ∧ ∀ d, H d = none → d ≠ a → Q .non (upd (upd H d (exd d [("row", .int n)])) a (exo a C (some d)))
section
variable {P : Program} {w : World} {K : PySem.W.Frag} {mg : Str → Option Value} {base : Heap} {qual : Str} {params : Arguments} {body : List Stmt} {scope : Scope} {f : Addr} {fd : FuncData} {C B : Addr} {z : Str}
theorem fn_row (F : FunD K "__init__" qual params body scope [] [] f fd) (S : FnScope ["self", "row"] ["self", "row"] scope) (T : OexR K C)
    (hb : ∀ (cdv : Value) (A : Around) (outer : List Env) (s : Shared) (H : Hp) (E : XK),
      PSs (cxOf (L2.CX P w) P w K mg base ["self", "row"] qual scope f cdv A outer s H E) body (tSeq (tDrop (tVeI K (tCons (tVar 0) (tCons (tC (.str z)) tNil)))) (tSeq (tOst K "row" (tVar 0) (tVar 1)) tNext))) :
    FnOk P w K mg base (L2.CX P w) 1 f fd ["self", "row"] (spRow K C) := by
  refine F.ok S (fun vs H Q E h => by obtain ⟨a, n, rfl, _⟩ := h; rfl) fun cdv A outer s H vs Q E hr h => ?_
  refine ⟨_, hb cdv A outer s H E, ?_⟩
  obtain ⟨a, n, rfl, ha, q⟩ := h
  unfold tSeq tDrop tVeI tCons tNil tVar tC tOst tNext
  dsimp only
  refine ⟨.ref a, rfl, a, C, [.str z], rfl, by simp, T.ox, ha, ?_⟩
  refine ⟨.int n, rfl, .ref a, rfl, a, C, rfl, T.ox, T.no, .inl ⟨ha, fun d hd hne => ?_⟩⟩
  exact q d hd hne
end
/-! the raise -/
def raiNS (c : Str) (F : Ev → Rs Dt) (ρ : Ev) : Ot := bindS (F ρ) ρ fun d => match d with
  | .int n => .ex (c, some n) ρ
  | _ => .no
section
variable {J : Jc} {Γ Γ' : List Mode} {F : Ev → Rs Dt} {te : TE} {c : Str}
end
end Pm
/-! ### sorted of pairs (tuple of ints, text) -/
namespace SrtO
open PySem PyProof.Rows Srt L2
def codes (z : PySem.Str) : List Int := z.cps.toList.map fun (n : Nat) => (n : Int)
abbrev keyT (p : List Int × PySem.Str) : List Int × List Int := (p.1, codes p.2)
def IsNestT (h : Heap) (v : Value) (k : List Int × PySem.Str) : Prop := ∃ a o fa t n fi, v = Value.ref a ∧ h.get? a = some o ∧ o.cls = .type "tuple" ∧ o.data = .seq #[.ref fa, .str k.2 t] n ∧ IsTup h fa fi ∧ IntsAre fi.toList k.1
theorem IsNestT.keeps {h h' : Heap} {v : Value} {k : List Int × PySem.Str} (p : IsNestT h v k) (kp : ∀ b o, h.get? b = some o → o.cls = .type "tuple" → h'.get? b = some o) : IsNestT h' v k := by
  obtain ⟨a, o, fa, t, n, fi, e, ho, hc, hd, ⟨o1, h1, c1, d1⟩, i1⟩ := p
  exact ⟨a, o, fa, t, n, fi, e, kp _ _ ho hc, hc, hd, ⟨o1, kp _ _ h1 c1, c1, d1⟩, i1⟩
section
variable {prog : Program} {w : World} {A : Around} {E : Value → Shared → Prop} {s : Shared}
end
end SrtO
namespace L2
open PySem PySem.Spec PyProof.Rows
end L2
namespace Pm
open PySem PySem.Spec PyProof.Rows L2
open Classical
abbrev Tst := List Int × Str
def leT (p q : Tst) : Bool := leN (SrtO.keyT p) (SrtO.keyT q)
def sortT (ps : List Tst) : List Tst := ps.mergeSort leT
def tsD (p : Tst) : Dt := .tup [.tup (p.1.map .int), .str p.2]
def tstsOf : List Dt → Option (List Tst)
  | [] => some []
  | .tup [.tup a, .str z] :: ds => (match intsOf a with
    | some ns => (tstsOf ds).map ((ns, z) :: ·)
    | _ => none)
  | _ => none
def sortTD (d : Dt) : Rs Dt := match d with
  | .lst ds => (match tstsOf ds with
    | some ps => .ok (.lst ((sortT ps).map tsD))
    | none => .no)
  | _ => .no
def sortTE := op1E sortTD
section
variable {J : Jc} {Γ : List Mode} {F Fa Fb : Ev → Rs Dt} {te ta tb : TE} {G0 H0 G H G' H' : Hp} {ρ : Ev} {σ : L2.St}
end
end Pm
namespace Pm
open PySem PySem.Spec PyProof.Rows L2
open Classical
/-! ### return [P.pop(e) for t in range(n)], P an owned list -/
section
variable {J : Jc} {Γ Γ' Γ1 Γ2 : List Mode} {em : EM} {m : Mode} {ms : List Mode} {Fe Fa Fb : Ev → Rs Dt} {Fs : List (Ev → Rs Dt)} {te ta tb : TE} {tr : TA} {G0 H0 Gs G H G' H' : Hp} {ρ : Ev} {σ : L2.St} {vs : List Nat}
end
end Pm
/-! several except clauses, each with a name or without (turned from the kit's rules for clauses of one kind) -/
namespace L2
open PySem PySem.Spec PyProof.Rows
abbrev TH := Addr → Value → Option Addr → TS
section
variable {X : Cx} {body : List Stmt} {h₀ : ExceptHandler} {hds : List ExceptHandler} {l : List (Option Nat × Value × TH)} {pos : Pos} {tb : WX → TS} {Wout : WX}
end
end L2
namespace Pm
open PySem PySem.Spec PyProof.Rows L2
open Classical
/-! ### what a caught exception bears -/
section
variable {K : PySem.W.Frag} {ca : Str → Addr} {G H G' H' : Hp} {X : Addr} {fs : List (Str × V)}
end
def xdOf (d : Option Addr) (c : Xn) : Option (Addr × Int) := match d, c.2 with
  | some a, some n => some (a, n)
  | _, _ => none
theorem XR.some {c : Xn} {dx : Option Addr} {H : Hp} (h : XR c dx H) : dx.isSome = c.2.isSome ∧ ∀ a n, xdOf dx c = some (a, n) → H a = some (.xd [("row", .int n)]) := by
  unfold XR at h
  unfold xdOf
  cases q : c.2 with
  | none =>
    rw [q] at h
    have h : dx = none := h
    subst h
    exact ⟨rfl, fun _ _ z => nomatch z⟩
  | some n =>
    rw [q] at h
    obtain ⟨d, rfl, h⟩ := h
    refine ⟨rfl, fun a m z => ?_⟩
    cases z
    exact h
section
variable {J : Jc} {Γ Γ' Γx : List Mode} {G0 H0 Gs G H G' H' : Hp} {ρ : Ev} {σ : L2.St} {D : Ends}
end
/-! ### the clauses -/
abbrev Cl := Option Nat × List (Str × Bool) × (Xn → Ev → Ot)
def goX : List Cl → Xn → Ev → Ot
  | [], c, ρ => .ex c ρ
  | (nm, subs, Fh) :: r, c, ρ => match subs.lookup c.1 with
    | some true => (match nm with
      | some i => clrO i (Fh c (ρ.set i none))
      | none => noX (Fh c ρ))
    | some false => goX r c ρ
    | none => .no
def tryX (hs : List Cl) (Fb : Ev → Ot) (ρ : Ev) : Ot := match Fb ρ with
  | .ex c ρ' => goX hs c ρ'
  | o => o
section
variable {J : Jc} {Γ Γ' Γx : List Mode} {Fb : Ev → Ot} {tb : WX → TS}
end
section
variable {X : Cx} {body : List Stmt} {h₀ : ExceptHandler} {hds : List ExceptHandler} {l : List (Option Nat × Value × TH)} {pos : Pos} {tb : WX → TS} {Wout : WX}
end
/-! ### e.row; isinstance of an exception that may bear a number -/
def excRowE (C : Str) (c : Xn) (_ : Ev) : Rs Dt := if c.1 = C then (match c.2 with
  | some n => .ok (.int n)
  | none => .no) else .no
section
variable {J : Jc} {Γ : List Mode} {i : Nat} {a : Addr} {c : Xn} {d : Option Addr}
end
/-! the built-in, asked of an exception with a dict (turned from the kit's own for one without) -/
end Pm
/-! ### min, max of ints with default=; sorted of texts -/
namespace L2
open PySem PySem.Spec PyProof.Rows PySem.W
def bestMin : List Int → Int
  | [] => 0
  | x :: r => r.foldl min x
def bestMax : List Int → Int
  | [] => 0
  | x :: r => r.foldl max x
section
variable {X : Cx}
end
end L2
namespace Pm
open PySem PySem.Spec PyProof.Rows L2
open Classical
def seq3D : Dt → Option (List Dt)
  | .lst ds => some ds
  | .scr ds => some ds
  | .tup ds => some ds
  | _ => none
def bestDD (best : List Int → Int) (a d : Dt) : Rs Dt := match seq3D a with
  | some ds => (match intsOf ds with
    | some [] => if scal d = true then .ok d else .no
    | some (x :: r) => .ok (.int (best (x :: r)))
    | none => .no)
  | none => .no
def minDE := op2E (bestDD bestMin)
def maxDE := op2E (bestDD bestMax)
section
variable {J : Jc} {Γ : List Mode} {Fa Fb F : Ev → Rs Dt} {ta tb te : TE} {best : List Int → Int}
/-! sorted of texts -/
def leS (a b : Str) : Bool := leT ([], a) ([], b)
def sortS (xs : List Str) : List Str := xs.mergeSort leS
def sortSD (d : Dt) : Rs Dt := match lisD d with
  | some ds => (match strsOf ds with
    | some xs => if xs.length < 64 then .ok (.lst ((sortS xs).map .str)) else .no
    | none => .no)
  | none => .no
def sortSE := op1E sortSD
end
end Pm
/-! ### an exception that leaves a comprehension -/
namespace PySem
open Sem (wp)
section
variable {M : Model} {A : Around} {E : Value → Shared → Prop} {s : Shared} {env : Env}
/-- what a comprehension leaves, its own frame that of the def around it -/
def compPostX (M : Model) (A : Around) (env : Env) (E : Value → Shared → Prop) (Q : Value → Shared → Prop) (acc : Value) (C : Addr) (r : Result) (s' : Shared) : Prop :=
  match r with
  | .ok _ => ∃ m, s'.heap.Ns C m ∧ ∀ h', Heap.SameBut C s'.heap h' → Q acc { s' with heap := h' }
  | .error x => ∃ m, s'.heap.Ns C m ∧ ∀ h', Heap.SameBut C s'.heap h' → ∀ cenv : Env, cenv.locals = C → cenv.frame = env.frame → wpAny M A (passOn "comprehension.variables-let-go" x cenv : Sem Value) (fun _ _ => False) E { s' with heap := h' }
end
end PySem
namespace L2
open PySem PySem.Spec PyProof.Rows
/-- an exception in the air of X that flew in from a call -/
def XF (X : Cx) (W : WX) (u : Value) (s' : Shared) : Prop :=
  ∃ (a : Addr) (B : Heap) (sI : Shared) (pins : List (Addr × Obj)) (σ : St) (H : Hp) (cls : Value) (d : Option Addr),
    u = .ref a ∧ Inv X pins σ H sI ∧ (∀ b o, sI.heap.get? b = some o → b ∉ frs X.stack → B.get? b = some o) ∧ sI.heap.UpToSlots s'.heap ∧
      HandSPX.FlyingZ B X.stack a (Zc cls d) s'.heap ∧ H a = none ∧ s'.os = sI.os ∧ AllBare s'.gens ∧ W cls d σ H
section
variable {X : Cx} {pins : List (Addr × Obj)} {σ : St} {H : Hp} {s s' : Shared} {W : WX} {E : XK}
theorem frameOf_eq {e1 e2 : Env} (h : e1.frame = e2.frame) : PySem.frameOf e1 = PySem.frameOf e2 := by unfold PySem.frameOf; rw [h]
theorem noteFrame_eq {e1 e2 : Env} (u : Value) (h : e1.frame = e2.frame) : noteFrame u e1 = noteFrame u e2 := by
  unfold noteFrame
  rw [h, frameOf_eq h]
theorem funFrames_but {C : Addr} {base h h' : Heap} (sb : Heap.SameBut C h h') : ∀ {l : List Env}, h.FunFrames base l → C ∉ frs l → h'.FunFrames (PySem.W.hideAll base [C]) l
  | [], _, _ => trivial
  | env :: l, h1, hn => by
    obtain ⟨hk, ⟨L, o, hf, hb, ho, hd⟩, hr⟩ := h1
    have hL : L ≠ C := fun z => hn (List.mem_filterMap.mpr ⟨env, List.mem_cons_self, by rw [hf, z]⟩)
    refine ⟨hk, ⟨L, o, hf, ?_, (sb.2 L hL).trans ho, hd⟩, funFrames_but sb hr fun hb => ?_⟩
    · cases q : (PySem.W.hideAll base [C]).get? L with
      | none => rfl
      | some o' =>
        have z := PySem.W.of_hideAll _ q
        rw [hb] at z; cases z
    · obtain ⟨e, he, q⟩ := List.mem_filterMap.mp hb
      exact hn (List.mem_filterMap.mpr ⟨e, List.mem_cons_of_mem _ he, q⟩)
/-- it leaves the block: noted at the def's frame, the block's own names let go -/
theorem XF.out {Wo : WX} {scope : Scope} {ce : Env} {fp : List Addr} {s3 : Shared} {H3 : Hp} {u : Value} {Q : Value → Shared → Prop} {acc : Value} (tk : Takes X Wo) (hst : X.stack = X.env :: X.outer) (hf : X.env.frame = some X.env.locals)
    (I3 : Inv X pins σ H3 s3) (hC : ce.locals = s3.heap.objs.size) (hcf : ce.frame = X.env.frame) (f3 : ∀ b ∈ fp, FpOk X pins H3 b ∧ b < s3.heap.objs.size)
    (x : XF (X.blk s3 H3 scope ce fp) (fun c d _ H' => Wo c d σ H') u s') : notedBy (model X.prog X.w) X.A ce (fun e s'' => compPostX (model X.prog X.w) X.A X.env X.xe Q acc s3.heap.objs.size (.error e) s'') u s' := by
  obtain ⟨a, B, sI, pB, σB, H', cls, d, rfl, I6, nb, up, fl, na, os, ag, w⟩ := x
  have I7 : Inv X pins σ H' sI := I3.call' (ch := fp) I6.os I6.base I6.hok I6.bare fun b hb => ⟨(f3 b hb).1.2.2.2.1, (f3 b hb).1.2.1, (f3 b hb).1.2.2.2.2.1, (f3 b hb).1.2.2.2.2.2⟩
  have nC : H' s3.heap.objs.size = none := by
    have z : H' ce.locals = none := I6.free
    rw [hC] at z
    exact z
  obtain ⟨m, hn, _⟩ := I6.loc
  have hn : sI.heap.Ns ce.locals m := hn
  rw [hC] at hn
  have ff := I3.fpOk (Nat.le_refl _) nC
  have nfr : s3.heap.objs.size ∉ frs X.stack := fun hm => by
    obtain ⟨_, o, e, _⟩ := I3.stack.mem hm
    exact absurd (Heap.lt_size e) (Nat.lt_irrefl _)
  generalize hCC : s3.heap.objs.size = C at nC hn ff nfr ⊢
  obtain ⟨oC, es, ep, gC, rC⟩ := hn
  have bC : B.get? C = some oC := nb C oC gC nfr
  have fl : HandSPX.FlyingZ B X.stack a (Zc cls d) s'.heap := fl
  have haC : a ≠ C := fun z => by have := fl.2.1; rw [z, bC] at this; cases this
  have hfr : X.A.frames = some (X.env :: X.outer) := by rw [I3.ok.frames, hst]
  unfold notedBy
  rw [noteFrame_eq _ hcf]
  rw [hst] at fl
  refine HandSPX.looks_onZ Zc.steady hfr hf fl fun h1 hh up1 => ?_
  obtain ⟨k1, k2, k3, oe, vs, T, oT, ts, he, hz, hd, v1, hnT, hTe, hT, hdT, t3⟩ := hh
  have hTC : T ≠ C := fun z => by rw [z, bC] at hnT; cases hnT
  refine ⟨m, ⟨oC, es, ep, k1 _ _ bC, rC⟩, fun h2 sb cenv' hl hfr2 => ?_⟩
  have he2 : h2.get? a = some oe := (sb.2 a haC).trans he
  have hT2 : h2.get? T = some oT := (sb.2 T hTC).trans hT
  have hid : ∀ {h : Heap} {b : Addr} {o : Obj}, (PySem.W.hideAll h [C]).get? b = some o → h.get? b = some o ∧ b ≠ C := fun {h b o} e => by
    refine ⟨PySem.W.of_hideAll _ e, fun z => ?_⟩
    rw [z, PySem.W.hideAll_none _ (by simp)] at e
    cases e
  have stB : (PySem.W.hideAll B [C]).StaysIn h2 := fun b o e => by
    obtain ⟨e1, hb⟩ := hid e
    exact (sb.2 b hb).trans (k1 b o e1)
  have noB : ∀ {b : Addr}, B.get? b = none → (PySem.W.hideAll B [C]).get? b = none := fun {b} e => by
    cases q : (PySem.W.hideAll B [C]).get? b with
    | none => rfl
    | some o =>
      have z := (hid q).1
      rw [e] at z; cases z
  have fnB : h2.FunFrames (PySem.W.hideAll B [C]) (X.env :: X.outer) := funFrames_but sb k3 (by rw [← hst]; exact nfr)
  have tz : HandSPX.TracedZ h2 (PySem.W.hideAll B [C]) a (Zc cls d) (rawInt X.env.locals) := ⟨oe, vs, T, oT, ts, he2, hz, hd, v1, noB hnT, hTe, hT2, hdT, t3⟩
  unfold PySem.passOn
  refine wpAny_bind (wpAny_field he2 hd v1 ?_)
  rw [if_neg (show ¬ ((Value.ref T == Value.none) = true) by simp)]
  rw [hfr2, hf]
  refine wpAny_bind (HandSPX.setFlight_anyZ stB fnB tz fun h3 q1 q2 q3 q4 => wpAny_throw (tk _ _ ?_))
  refine ⟨a, PySem.W.hideAll B [C], { sI with heap := PySem.W.hideAll sI.heap [C], toks := sI.toks }, pins, σ, H', cls, d, rfl, ?_, fun b o e hb => ?_, fun b o e hnf => ?_, .inr (.inr ?_), na, os, ag, w⟩
  · obtain ⟨f0, f1, f2, f4, f5, f6⟩ := ff
    exact I7.turned (t' := sI.toks) (fun b o hb e => PySem.W.hideAll_get _ e (by simpa using hb)) f0 f1 f4 f5 f6
  · obtain ⟨e1, hbC⟩ := hid e
    exact PySem.W.hideAll_get _ (nb b o e1 hb) (by simpa using hbC)
  · obtain ⟨e1, hbC⟩ := hid e
    obtain ⟨sl1, z1⟩ := up b o e1 hnf
    obtain ⟨sl2, z2⟩ := up1 b _ z1 hnf
    have z3 := (sb.2 b hbC).trans z2
    obtain ⟨sl3, z4⟩ := q4 b _ z3 hnf
    exact ⟨sl3, z4⟩
  · rw [hst]
    exact ⟨q1, noB k2, q2, q3⟩
end
end L2
namespace Pm
open PySem PySem.Spec PyProof.Rows L2
open Classical
def compLX (FG : Dt → Ev → Option Ev) (Ft : Ev → Rs Bool) (Fe : Ev → Rs Dt) (ρ : Ev) : List Dt → Rs (List Dt)
  | [] => .ok []
  | d :: ds => match FG d ρ with
    | none => .no
    | some ρ1 => noEx (Ft ρ1) >>= fun b => if b = true then (Fe ρ1 >>= fun y => compLX FG Ft Fe ρ ds >>= fun ys => .ok (y :: ys)) else compLX FG Ft Fe ρ ds
def compXE (Fi : Ev → Rs (List Dt)) (vs : List Nat) (FG : Dt → Ev → Option Ev) (Ft : Ev → Rs Bool) (Fe : Ev → Rs Dt) (ρ : Ev) : Rs Dt := Fi ρ >>= fun ds => if lenSz ds.length = true then compLX FG Ft Fe (wipeE ρ vs) ds >>= fun ys => .ok (.lst ys) else .no
section
variable {J : Jc} {G0 H0 G H : Hp} {Γ : List Mode} {ρ : Ev} {σ : L2.St} {m : Mode} {vs : List Nat}
variable {Fi : Ev → Rs (List Dt)} {wi : TI} {FG : Dt → Ev → Option Ev} {g : TG} {Ft : Ev → Rs Bool} {tt : TT} {Fe : Ev → Rs Dt} {te : L2.St → TE}
end
end Pm
namespace Pm
open PySem PySem.Spec PyProof.Rows L2
open Classical
/-! ### expressions that change what is lent to them -/
inductive Rx (α : Type) where
  | ok (a : α) (ρ : Ev) | ex (c : Xn) (ρ : Ev) | no
/-- what a lent call tells: the value, the lent object behind it -/
inductive Ln where
  | ok (r d : Dt) | ex (c : Xn) (d : Dt) | no
inductive PostX {α : Type} (J : Jc) (G0 H0 Gs : Hp) (Γ : List Mode) (σ : L2.St) (Q : α → Hp → Hp → Prop) : Rx α → Prop where
  | ok {a : α} {ρ' : Ev} : (∀ G' H', Same Gs G' → Wd J G0 H0 Γ ρ' σ G' H' → Q a G' H') → PostX J G0 H0 Gs Γ σ Q (.ok a ρ')
  | ex {c : Xn} {ρ' : Ev} : (∀ dx H', Same H0 H' → XR c dx H' → (∀ Γ1, J.gx = some Γ1 → ∃ G', Same Gs G' ∧ Wd J G0 H0 Γ1 ρ' σ G' H') → J.W (.ref (J.ca c.1)) dx σ H') → PostX J G0 H0 Gs Γ σ Q (.ex c ρ')
def bindX {α β : Type} (r : Rs α) (ρ : Ev) (k : α → Rx β) : Rx β := match r with
  | .ok a => k a
  | .ex c => .ex c ρ
  | .no => .no
def thenX {α β : Type} (r : Rx α) (k : α → Ev → Rx β) : Rx β := match r with
  | .ok a ρ => k a ρ
  | .ex c ρ => .ex c ρ
  | .no => .no
section
variable {J : Jc} {Γ Γ' Γ1 Γ2 : List Mode} {m : Mode} {ms mz : List Mode} {Fe Fa Fb : Ev → Rs Dt} {Ft : Ev → Rs Bool} {Fs : List (Ev → Rs Dt)} {te ta tb : TE} {tt tu : TT} {tr : TA} {G0 H0 Gs G H G' H' : Hp} {ρ : Ev} {σ : L2.St} {D : Ends} {Fn : List Dt → Ln} {np : Nat} {Fp : Ev → Rs (Dt × (Dt → Ev))} {Fx Fy : Ev → Rx Dt} {Xt Xu : Ev → Rx Bool}
  {F1 F2 : Ev → Ot} {t1 t2 : TS}
theorem PostX.up {α : Type} {Q : α → Hp → Hp → Prop} {r : Rx α} (e : Same Gs G') (p : PostX J G0 H0 Gs Γ σ Q r) : PostX J G0 H0 G' Γ σ Q r := by
  cases p with
  | ok p => exact .ok fun a b d => p a b (e.trans d)
  | ex p => exact .ex fun b c d x k => p b c d x fun Γ1 z => (k Γ1 z).imp fun _ q => ⟨e.trans q.1, q.2⟩
theorem exX {α : Type} {Q : α → Hp → Hp → Prop} {c : Xn} (w : Wd J G0 H0 Γ ρ σ G H) (hx : Gx J Γ) (p : PostX J G0 H0 G Γ σ Q (.ex c ρ)) : ∀ H1 dx, Same H H1 → XR c dx H1 → J.W (.ref (J.ca c.1)) dx σ H1 := fun H1 dx s xr => by
  cases p with
  | ex p =>
    refine p dx H1 (w.x.h.trans s) xr fun Γ1 z => ?_
    rcases hx with h | h
    · rw [h] at z; cases z
    · rw [h] at z
      cases z
      exact ⟨G, Same.refl _, w.heap s⟩
theorem PostX.bind {α β : Type} {Q : β → Hp → Hp → Prop} {r : Rs α} {k : α → Rx β} (w : Wd J G0 H0 Γ ρ σ G H) (hx : Gx J Γ) (p : PostX J G0 H0 G Γ σ Q (bindX r ρ k)) : Rs.Post (fun a => PostX J G0 H0 G Γ σ Q (k a)) (fun c => ∀ H1 dx, Same H H1 → XR c dx H1 → J.W (.ref (J.ca c.1)) dx σ H1) r := by
  cases r with
  | ok a => exact .ok p
  | ex c => exact .ex (exX w hx p)
  | no => cases p
theorem PostX.bindx {α β : Type} {Q : β → Hp → Hp → Prop} {r : Rs α} {k : α → Rx β} (hn : ∀ c, r ≠ .ex c) (p : PostX J G0 H0 G Γ σ Q (bindX r ρ k)) : ∃ a, r = .ok a ∧ PostX J G0 H0 G Γ σ Q (k a) := by
  cases r with
  | ok a => exact ⟨a, rfl, p⟩
  | ex c => exact absurd rfl (hn c)
  | no => cases p
theorem PostX.then {α β : Type} {Q : β → Hp → Hp → Prop} {r : Rx α} {k : α → Ev → Rx β} (p : PostX J G0 H0 G Γ σ Q (thenX r k)) (R : α → Hp → Hp → Prop) (h : ∀ a ρ' G' H', Same G G' → Wd J G0 H0 Γ ρ' σ G' H' → PostX J G0 H0 G' Γ σ Q (k a ρ') → R a G' H') : PostX J G0 H0 G Γ σ R r := by
  cases r with
  | ok a ρ' => exact .ok fun G' H' s w => h a ρ' G' H' s w (p.up s)
  | ex c ρ' =>
    cases p with
    | ex p => exact .ex p
  | no => cases p
theorem PostX.of_ok {α : Type} {Q : α → Hp → Hp → Prop} {a : α} {ρ' : Ev} (p : PostX J G0 H0 Gs Γ σ Q (.ok a ρ')) : ∀ G' H', Same Gs G' → Wd J G0 H0 Γ ρ' σ G' H' → Q a G' H' := by
  cases p with
  | ok p => exact p
/-! pure ones -/
def pureX (Fe : Ev → Rs Dt) (ρ : Ev) : Rx Dt := bindX (Fe ρ) ρ fun d => .ok d ρ
def pureXT (Ft : Ev → Rs Bool) (ρ : Ev) : Rx Bool := bindX (Ft ρ) ρ fun d => .ok d ρ
/-! one behind the other -/
/-- a scalar goes on into a pure one -/
def opX (Fx : Ev → Rx Dt) (g : Dt → Ev → Rs Dt) (ρ : Ev) : Rx Dt := thenX (Fx ρ) fun d ρ' => if scal d = true then bindX (g d ρ') ρ' fun e => .ok e ρ' else .no
def valXT (Fx : Ev → Rx Dt) (ρ : Ev) : Rx Bool := thenX (Fx ρ) fun d ρ' => bindX (asB d) ρ' fun b => .ok b ρ'
def notXT (Xt : Ev → Rx Bool) (ρ : Ev) : Rx Bool := thenX (Xt ρ) fun b ρ' => .ok (!b) ρ'
def andXT (Xt Xu : Ev → Rx Bool) (ρ : Ev) : Rx Bool := thenX (Xt ρ) fun b ρ' => if b = true then Xu ρ' else .ok false ρ'
def orXT (Xt Xu : Ev → Rx Bool) (ρ : Ev) : Rx Bool := thenX (Xt ρ) fun b ρ' => if b = true then .ok true ρ' else Xu ρ'
def andX (Fx Fy : Ev → Rx Dt) (ρ : Ev) : Rx Dt := thenX (Fx ρ) fun d ρ' => bindX (asB d) ρ' fun b => if b = true then Fy ρ' else .ok (.bl false) ρ'
/-! ### statements over them -/
def asgX (i : Nat) (Fx : Ev → Rx Dt) (ρ : Ev) : Ot := match Fx ρ with
  | .ok d ρ' => .nx (ρ'.set i (some d))
  | .ex c ρ' => .ex c ρ'
  | .no => .no
def dropX (Fx : Ev → Rx Dt) (ρ : Ev) : Ot := match Fx ρ with
  | .ok d ρ' => .nx ρ'
  | .ex c ρ' => .ex c ρ'
  | .no => .no
def ifX (Xt : Ev → Rx Bool) (F1 F2 : Ev → Ot) (ρ : Ev) : Ot := match Xt ρ with
  | .ok b ρ' => if b = true then F1 ρ' else F2 ρ'
  | .ex c ρ' => .ex c ρ'
  | .no => .no
def retX (Fx : Ev → Rx Dt) (ρ : Ev) : Ot := match Fx ρ with
  | .ok d ρ' => .rt d
  | .ex c ρ' => .ex c ρ'
  | .no => .no
/-! ### returns of a def to which an object is lent -/
def retW (j : Nat) (Fe : Ev → Rs Dt) (ρ : Ev) : Ot := bindS (Fe ρ) ρ fun d => match ρ[j]? with
  | some (some l) => .rt (.tup [d, l])
  | _ => .no
def retWX (j : Nat) (Fx : Ev → Rx Dt) (ρ : Ev) : Ot := match Fx ρ with
  | .ok d ρ' => (match ρ'[j]? with
    | some (some l) => .rt (.tup [d, l])
    | _ => .no)
  | .ex c ρ' => .ex c ρ'
  | .no => .no
def retWN (j : Nat) (ρ : Ev) : Ot := match ρ[j]? with
  | some (some l) => .rt (.tup [.non, l])
  | _ => .no
end
/-! ### the spec of such a def -/
def outW (g : Bool) (m : Mode) (j : Nat) : Ot → Ln
  | .nx ρ => if isF m = true then (match ρ[j]? with
    | some (some d) => .ok .non d
    | _ => .no) else .no
  | .rt (.tup [r, d]) => .ok r d
  | .ex c ρ => if g = true then (match ρ[j]? with
    | some (some d) => .ex c d
    | _ => .no) else .no
  | _ => .no
section
variable {P : Program} {w : World} {K : PySem.W.Frag} {ca : Str → Addr} {mg : Str → Option Value} {base : Heap} {x qual : Str} {params : Arguments} {body : List Stmt} {scope : Scope} {f : Addr} {fd : FuncData} {N ps : List Str} {k : Nat} {m ml : Mode}
end
/-! ### its call -/
section
variable {J : Jc} {Γ Γ' Γ1 Γ2 : List Mode} {m ml : Mode} {ms mz : List Mode} {Fe Fa Fb : Ev → Rs Dt} {Fs : List (Ev → Rs Dt)} {te ta tb : TE} {tr : TA} {G0 H0 Gs G H G' H' : Hp} {ρ : Ev} {σ : L2.St} {D : Ends} {Fn : List Dt → Ln} {np : Nat} {Fp : Ev → Rs (Dt × (Dt → Ev))} {d : Dt} {v : V} {put : Dt → Ev}
def lnX (r : Ln) (put : Dt → Ev) : Rx Dt := match r with
  | .ok r d => .ok r (put d)
  | .ex c d => .ex c (put d)
  | .no => .no
/-- P.m(..), P lent -/
def methX (C mm : Str) (Fp : Ev → Rs (Dt × (Dt → Ev))) (Fn : List Dt → Ln) (Fs : List (Ev → Rs Dt)) (ρ : Ev) : Rx Dt := bindX (Fp ρ) ρ fun x => bindX (noMeth C mm x.1) ρ fun _ => bindX (argsE Fs ρ) ρ fun ds => lnX (Fn (x.1 :: ds)) x.2
theorem Foc.view (f : Foc J H0 Γ σ G H ml d v put) (e : Same G H) : Rp J.K J.ca H d v := by
  obtain ⟨P, o, r, k⟩ := f.ex
  exact o.view e
/-- f(P, ..), P lent -/
def callX0 (Fp : Ev → Rs (Dt × (Dt → Ev))) (Fn : List Dt → Ln) (Fs : List (Ev → Rs Dt)) (ρ : Ev) : Rx Dt := bindX (Fp ρ) ρ fun x => bindX (argsE Fs ρ) ρ fun ds => lnX (Fn (x.1 :: ds)) x.2
/-- f(x, y, P), P lent -/
def callX2 (F1 F2 : Ev → Rs Dt) (Fp : Ev → Rs (Dt × (Dt → Ev))) (Fn : List Dt → Ln) (ρ : Ev) : Rx Dt := bindX (F1 ρ) ρ fun x => bindX (F2 ρ) ρ fun y => bindX (Fp ρ) ρ fun z => lnX (Fn [x, y, z.1]) z.2
end
end Pm
/-! ### list.remove of a text; o.f as a target -/
namespace L2
open PySem PySem.Spec PyProof.Rows
section
variable {X : Cx} {pos : Pos}
end
end L2
namespace Pm
open PySem PySem.Spec PyProof.Rows L2
open Classical
section
variable {J : Jc} {Γ Γ' Γf : List Mode} {m m1 m2 : Mode} {ms : List Mode} {Fe Fa Fi : Ev → Rs Dt} {Fp : Ev → Rs (Dt × (Dt → Ev))} {te ta ti : TE} {G0 H0 G H G' H' : Hp} {ρ : Ev} {σ : L2.St}
/-! ### an expression, all names looked at alone -/
theorem Wd.look (w : Wd J G0 H0 Γ ρ σ G H) (hl : Γf.length = Γ.length) (hf : ∀ (i : Nat) (m : Mode), Γf[i]? = some m → m = .F) : Wd J H H Γf ρ σ H H := by
  obtain ⟨Pf, h1, h2, h3⟩ := w.env
  refine ⟨Ext.refl (Same.refl _), hl.trans w.lg, w.lr, ⟨fun _ => Pno, fun _ _ _ _ z => z.elim, fun _ _ z => z.elim, fun i d q => ?_⟩, w.pn, fun d n e => ?_⟩
  · obtain ⟨v, m, s1, s2, s3⟩ := h3 i d q
    have hi : i < Γf.length := by rw [hl]; exact (List.getElem?_eq_some_iff.mp s2).1
    have e : Γf[i]? = some Γf[i] := List.getElem?_eq_getElem hi
    exact ⟨v, .F, s1, by rw [e, hf i _ e], .F (s3.view w.gh)⟩
  · rcases w.xk d n e with z | z
    · exact .inl (w.gh _ _ (w.x.g _ _ z))
    · exact .inl (w.x.h _ _ z)
def lookE (m : Mode) (Fe : Ev → Rs Dt) (ρ : Ev) : Rs Dt := leafR m (Fe ρ)
theorem allF_at : ∀ {l : List Mode}, allF l = true → ∀ (i : Nat) (m : Mode), l[i]? = some m → m = .F
  | [], _, i, m, e => by simp at e
  | m' :: l, h, i, m, e => by
    cases m' with
    | F =>
      have h : allF l = true := h
      cases i with
      | zero => cases e; rfl
      | succ i => exact allF_at h i m (by simpa using e)
    | _ => cases h
/-! ### P.remove(text) -/
def remD (xp : Dt → Ev) (ds : List Dt) (y : Dt) : Ot := match y with
  | .str s => (match strsOf ds with
    | some ys => if s ∈ ys then .nx (xp (.lst ((ys.erase s).map Dt.str))) else .no
    | none => .no)
  | _ => .no
def remS (Fp : Ev → Rs (Dt × (Dt → Ev))) (Fe : Ev → Rs Dt) (ρ : Ev) : Ot := bindS (Fp ρ) ρ fun x => bindS (lstOf x.1) ρ fun ds => bindS (Fe ρ) ρ fun y => remD x.2 ds y
/-! ### parts put together anew -/
theorem Ows.of_parts : ∀ {ds : List Dt} {ms : List Mode} {us : List V} {P : Addr → Prop} (Q : Nat → Addr → Prop), ds.length = us.length → ms.length = ds.length → (∀ t d u m, ds[t]? = some d → us[t]? = some u → ms[t]? = some m → Ow J.K J.ca G H m d u (Q t)) → (∀ t b, t < ds.length → Q t b → P b) → (∀ s t b, s ≠ t → Q s b → ¬ Q t b) → Ows J.K J.ca G H ms ds us P
  | [], ms, us, P, Q, l1, l2, _, _, _ => by
    have e1 : us = [] := List.length_eq_zero_iff.mp l1.symm
    have e2 : ms = [] := List.length_eq_zero_iff.mp l2
    subst e1 e2
    exact .nil
  | d :: ds, ms, us, P, Q, l1, l2, h, hp, hd => by
    cases us with
    | nil => cases l1
    | cons u us =>
    cases ms with
    | nil => cases l2
    | cons m ms =>
      have ih := Ows.of_parts (ds := ds) (ms := ms) (us := us) (P := fun b => ∃ t, t < ds.length ∧ Q (t + 1) b) (fun t => Q (t + 1)) (by simpa using l1) (by simpa using l2) (fun t d u m e1 e2 e3 => h (t + 1) d u m (by simpa using e1) (by simpa using e2) (by simpa using e3)) (fun t b ht hq => ⟨t, ht, hq⟩) fun s t b n => hd (s + 1) (t + 1) b (by omega)
      exact .cons (h 0 d u m rfl rfl rfl) ih (fun b hb => hp 0 b (by simp) hb) (fun b ⟨t, ht, hb⟩ => hp (t + 1) b (by simpa using ht) hb) fun b hb ⟨t, ht, hq⟩ => hd 0 (t + 1) b (by omega) hb hq
/-! ### self.f[e] = (k, self.f[e][1]) -/
def fldLst (C f : Str) (j : Nat) (d : Dt) : Rs (List Dt) := match d with
  | .ins C' ns ds => if C' = C ∧ fix f ns = some j then (match ds[j]? with
    | some (.lst xs) => .ok xs
    | _ => .no) else .no
  | _ => .no
def fldSet (j : Nat) (y : Dt) (d : Dt) : Dt := match d with
  | .ins C ns ds => .ins C ns (ds.set j y)
  | d => d
def partAt (xs : List Dt) (z : Dt) : Rs (Nat × Dt) := match z with
  | .int z => (match ixN xs.length z with
    | some t => (match xs[t]? with
      | some (.tup [_, y]) => .ok (t, y)
      | _ => .no)
    | none => .no)
  | _ => .no
def setPart (C f : Str) (i j : Nat) (Fk Fi : Ev → Rs Dt) (ρ : Ev) : Ot := bindS (Fk ρ) ρ fun kd => bindS (varE i ρ) ρ fun d => bindS (fldLst C f j d) ρ fun xs => bindS (Fi ρ) ρ fun z => bindS (partAt xs z) ρ fun r => .nx (ρ.set i (some (fldSet j (.lst (xs.set r.1 (.tup [kd, r.2]))) d)))
theorem Wd.slots {Pf : Nat → Addr → Prop} (e : Ext G H G' H') (h2 : ∀ i a, Pf i a → G a = none ∧ H0 a = none ∧ H a ≠ none) (h3 : ∀ i d, ρ[i]? = some (some d) → ∃ v m, σ[i]? = some (some v) ∧ Γ[i]? = some m ∧ Ow J.K J.ca G H m d v (Pf i)) :
    (∀ i a, Pf i a → G' a = none ∧ H0 a = none ∧ H' a ≠ none) ∧ ∀ i d, ρ[i]? = some (some d) → ∃ v m, σ[i]? = some (some v) ∧ Γ[i]? = some m ∧ Ow J.K J.ca G' H' m d v (Pf i) := by
  refine ⟨fun i a q => ?_, fun i d q => ?_⟩
  · obtain ⟨a1, a2, a3⟩ := h2 i a q
    exact ⟨by rw [e.base a a3]; exact a1, a2, e.h.nn a3⟩
  · obtain ⟨v, m, s1, s2, s3⟩ := h3 i d q
    refine ⟨v, m, s1, s2, s3.carry e.g fun b hb => ?_⟩
    obtain ⟨a1, a2, a3⟩ := h2 i b hb
    exact ⟨e.h.at a3, by rw [e.base b a3]; exact a1⟩
/-! ### self.f, self.g = self.h.pop() -/
def lastTwo (xs : List Dt) : Rs (Dt × Dt) := match xs[xs.length - 1]? with
  | some (.tup [a, b]) => .ok (a, b)
  | _ => .no
def fixTwo (f1 f2 : Str) (j1 j2 : Nat) (d : Dt) : Rs Unit := match d with
  | .ins _ ns _ => if fix f1 ns = some j1 ∧ fix f2 ns = some j2 ∧ ns.length < 100 then .ok () else .no
  | _ => .no
def popTo (C f1 f2 g : Str) (i j1 j2 k : Nat) (ρ : Ev) : Ot := bindS (varE i ρ) ρ fun d => bindS (fldLst C g k d) ρ fun xs => bindS (lastTwo xs) ρ fun r => bindS (fixTwo f1 f2 j1 j2 d) ρ fun _ => .nx (ρ.set i (some (fldSet j2 r.2 (fldSet j1 r.1 (fldSet k (.lst xs.dropLast) d)))))
end
end Pm
namespace Pm
open PySem PySem.Spec PyProof.Rows L2
open Classical
section
variable {J : Jc} {Γ Γ' Γf : List Mode} {m m1 m2 : Mode} {ms : List Mode} {Fe Fa Fi : Ev → Rs Dt} {Fp Fq : Ev → Rs (Dt × (Dt → Ev))} {te ta ti : TE} {G0 H0 G H G' H' : Hp} {ρ : Ev} {σ : L2.St}
/-! ### f(..).append(e): a list that nobody keeps -/
def appNew (Fe Fa : Ev → Rs Dt) (ρ : Ev) : Ot := bindS (Fe ρ) ρ fun d => bindS (lstOf d) ρ fun ds => bindS (Fa ρ) ρ fun _ => if lenSz ds.length = true then .nx ρ else .no
/-! ### P.pop() -/
def pop0D (ds : List Dt) : Rs (Dt × List Dt) := match ds[ds.length - 1]? with
  | some y => .ok (y, ds.dropLast)
  | none => .no
def pop0S (Fp : Ev → Rs (Dt × (Dt → Ev))) (ρ : Ev) : Ot := bindS (Fp ρ) ρ fun x => bindS (lstOf x.1) ρ fun ds => bindS (pop0D ds) ρ fun y => .nx (x.2 (.lst y.2))
def asgPop0 (i : Nat) (Fp : Ev → Rs (Dt × (Dt → Ev))) (ρ : Ev) : Ot := bindS (Fp ρ) ρ fun x => bindS (lstOf x.1) ρ fun ds => bindS (pop0D ds) ρ fun y => .nx ((x.2 (.lst y.2)).set i (some y.1))
theorem Wd.foc {i : Nat} {d : Dt} (w : Wd J G0 H0 Γ ρ σ G H) (hm : Γ[i]? = some m) (hq : ρ[i]? = some (some d)) : ∃ v, σ[i]? = some (some v) ∧ Foc J H0 Γ σ G H m d v (fun x => ρ.set i (some x)) := by
  obtain ⟨Pf, h1, h2, h3⟩ := w.env
  obtain ⟨v, m', s1, s2, s3⟩ := h3 i d hq
  rw [hm] at s2
  cases s2
  refine ⟨v, s1, ⟨Pf i, s3, h2 i, fun G2 H2 d2 P2 sg k1 o2 k2 => ?_⟩⟩
  have hl : i < ρ.length := (List.getElem?_eq_some_iff.mp hq).1
  refine ⟨by rw [List.length_set]; exact w.lg, by rw [List.length_set]; exact w.lr, fun j => if j = i then P2 else Pf j, fun j k a q r s => ?_, fun j a q => ?_, fun j c q => ?_⟩
  · by_cases hj : j = i
    · by_cases hk : k = i
      · exact q (hj.trans hk.symm)
      · simp only [hj, if_true] at r
        simp only [hk, if_false] at s
        rcases (k2 a r).1 with z | z
        · exact h1 k i a hk s z
        · exact (h2 k a s).2.2 z
    · simp only [hj, if_false] at r
      by_cases hk : k = i
      · simp only [hk, if_true] at s
        rcases (k2 a s).1 with z | z
        · exact h1 j i a hj r z
        · exact (h2 j a r).2.2 z
      · simp only [hk, if_false] at s
        exact h1 j k a q r s
  · by_cases hj : j = i
    · simp only [hj, if_true] at q
      exact (k2 a q).2
    · simp only [hj, if_false] at q
      obtain ⟨a1, a2, a3⟩ := h2 j a q
      obtain ⟨b1, b2⟩ := k1 a a3 (h1 j i a hj q)
      exact ⟨by rw [b2]; exact a1, a2, by rw [b1]; exact a3⟩
  · by_cases hj : j = i
    · subst hj
      rw [List.getElem?_set_self hl] at q
      have hd : d2 = c := by simpa using q
      subst hd
      refine ⟨v, m, s1, hm, ?_⟩
      simp only [if_true]
      exact o2
    · rw [List.getElem?_set_ne (Ne.symm hj)] at q
      obtain ⟨v2, m2, t1, t2, t3⟩ := h3 j c q
      refine ⟨v2, m2, t1, t2, ?_⟩
      simp only [hj, if_false]
      refine t3.carry sg fun b hb => ?_
      obtain ⟨a1, a2, a3⟩ := h2 j b hb
      obtain ⟨b1, b2⟩ := k1 b a3 (h1 j i b hj hb)
      exact ⟨b1, by rw [b2]; exact a1⟩
/-! ### r.append(P.pop(e)) -/
def appPopP (r : Nat) (Fq : Ev → Rs (Dt × (Dt → Ev))) (Fe : Ev → Rs Dt) (ρ : Ev) : Ot := bindS (varE r ρ) ρ fun d0 => bindS (lstOf d0) ρ fun _ => bindS (Fq ρ) ρ fun x => bindS (lstOf x.1) ρ fun xs => bindS (Fe ρ) ρ fun k => bindS (popD xs k) ρ fun y =>
  bindS (varE r (x.2 (.lst y.2))) ρ fun d1 => bindS (lstOf d1) ρ fun ds => if lenSz ds.length = true then .nx ((x.2 (.lst y.2)).set r (some (.lst (ds ++ [y.1])))) else .no
end
/-! ### try in a def to which an object is lent: its slot stays pinned -/
section
variable {J : Jc} {Γ Γ' Γx : List Mode} {G0 H0 Gs G H G' H' : Hp} {ρ : Ev} {σ : L2.St} {W : WX} {Fb : Ev → Ot} {Fh : Str → Ev → Ot} {tb : WX → TS} {th : Addr → Str → TS} {D : Ends}
end
end Pm
/-! ### sorted of pairs (tuple of ints, int) -/
namespace SrtO
open PySem PyProof.Rows Srt L2
abbrev keyJ (p : List Int × Int) : List Int × List Int := (p.1, [p.2])
def IsNestJ (h : Heap) (v : Value) (k : List Int × Int) : Prop := ∃ a o fa t n fi, v = Value.ref a ∧ h.get? a = some o ∧ o.cls = .type "tuple" ∧ o.data = .seq #[.ref fa, .int k.2 t] n ∧ IsTup h fa fi ∧ IntsAre fi.toList k.1
theorem IsNestJ.keeps {h h' : Heap} {v : Value} {k : List Int × Int} (p : IsNestJ h v k) (kp : ∀ b o, h.get? b = some o → o.cls = .type "tuple" → h'.get? b = some o) : IsNestJ h' v k := by
  obtain ⟨a, o, fa, t, n, fi, e, ho, hc, hd, ⟨o1, h1, c1, d1⟩, i1⟩ := p
  exact ⟨a, o, fa, t, n, fi, e, kp _ _ ho hc, hc, hd, ⟨o1, kp _ _ h1 c1, c1, d1⟩, i1⟩
section
variable {prog : Program} {w : World} {A : Around} {E : Value → Shared → Prop} {s : Shared}
end
end SrtO
namespace L2
open PySem PySem.Spec PyProof.Rows
end L2
namespace Pm
open PySem PySem.Spec PyProof.Rows L2
open Classical
abbrev Jst := List Int × Int
def leJ (p q : Jst) : Bool := leN (SrtO.keyJ p) (SrtO.keyJ q)
def sortJ (ps : List Jst) : List Jst := ps.mergeSort leJ
def jsD (p : Jst) : Dt := .tup [.tup (p.1.map .int), .int p.2]
def jstsOf : List Dt → Option (List Jst)
  | [] => some []
  | .tup [.tup a, .int z] :: ds => (match intsOf a with
    | some ns => (jstsOf ds).map ((ns, z) :: ·)
    | _ => none)
  | _ => none
def sortJD (d : Dt) : Rs Dt := match d with
  | .lst ds => (match jstsOf ds with
    | some ps => .ok (.lst ((sortJ ps).map jsD))
    | none => .no)
  | _ => .no
def sortJE := op1E sortJD
section
variable {J : Jc} {Γ : List Mode} {F Fa Fb : Ev → Rs Dt} {te ta tb : TE} {G0 H0 G H G' H' : Hp} {ρ : Ev} {σ : L2.St}
end
end Pm
/-! ### sorted of any data of one shape (lists, tuples) -/
namespace L2
open PySem PySem.Spec PyProof.Rows
end L2
namespace Pm
open PySem PySem.Spec PyProof.Rows L2
/-- a list or a tuple that is laid whole -/
def seqB (d : Dt) : Bool := (match d with
  | .lst _ => true
  | .tup _ => true
  | _ => false) && ((pyD d).canLay0 && decide ((pyD d).depth ≤ 20))
def tup1B : PyData → Bool
  | .tuple (_ :: _) => true
  | _ => false
def notTB : PyData → Bool
  | .none => false
  | .tuple _ => false
  | _ => true
def sortOk (ds : List Dt) : Bool := ds.all seqB && ((ds.all fun a => ds.all fun b => PySem.W.alike (pyD a) (pyD b)) && ((ds.all fun a => tup1B (pyD a)) || ds.all fun a => notTB (pyD a)))
def sortDs (ds : List Dt) : List Dt := ds.mergeSort (PySem.W.dataLe false pyD)
def sortDD (d : Dt) : Rs Dt := match d with
  | .lst ds => if sortOk ds = true then .ok (.lst (sortDs ds)) else .no
  | _ => .no
def sortDE := op1E sortDD
section
variable {J : Jc} {Γ : List Mode} {F Fa Fb : Ev → Rs Dt} {te ta tb : TE} {G0 H0 G H G' H' : Hp} {ρ : Ev} {σ : L2.St}
end
end Pm
/-! ### calls that look at owned lists of lists, flat parts in what they tell -/
namespace Pm
open PySem PySem.Spec PyProof.Rows L2
open Classical
mutual
def flatE : Dt → Bool
  | .non => true
  | .bl _ => true
  | .int _ => true
  | .str _ => true
  | .tup ds => flatEs ds
  | .ins _ _ ds => flatEs ds
  | _ => false
def flatEs : List Dt → Bool
  | [] => true
  | d :: ds => flatE d && flatEs ds
end
mutual
theorem Rp.flatE {K : PySem.W.Frag} {ca : Str → Addr} {G2 G1 : Hp} (hg : ∀ b o, G2 b = some o → (∀ vs, o ≠ .lst vs) → G1 b = some o) : ∀ {d : Dt} {v : V}, Pm.flatE d = true → Rp K ca G2 d v → Rp K ca G1 d v
  | .non, _, _, h => by cases h; exact .non
  | .bl b, _, _, h => by cases h; exact .bl b
  | .int i, _, _, h => by cases h; exact .int i
  | .str x, _, _, h => by cases h; exact .str x
  | .tup ds, _, c, h => by
    cases h with
    | tup h1 h2 => exact .tup (hg _ _ h1 fun vs z => by cases z) (Rps.flatE hg (by simpa only [Pm.flatE] using c) h2)
  | .ins _ _ ds, _, c, h => by
    cases h with
    | ins h1 h2 h3 => exact .ins (hg _ _ h1 fun vs z => by cases z) h2 (Rps.flatE hg (by simpa only [Pm.flatE] using c) h3)
  | .lst _, _, c, _ => by simp [Pm.flatE] at c
  | .scr _, _, c, _ => by simp [Pm.flatE] at c
  | .ktp _, _, c, _ => by simp [Pm.flatE] at c
  | .dic _ _, _, c, _ => by simp [Pm.flatE] at c
  | .dit _ _, _, c, _ => by simp [Pm.flatE] at c
theorem Rps.flatE {K : PySem.W.Frag} {ca : Str → Addr} {G2 G1 : Hp} (hg : ∀ b o, G2 b = some o → (∀ vs, o ≠ .lst vs) → G1 b = some o) : ∀ {ds : List Dt} {vs : List V}, Pm.flatEs ds = true → Rps K ca G2 ds vs → Rps K ca G1 ds vs
  | [], _, _, h => by cases h; exact .nil
  | d :: ds, _, c, h => by
    have c : Pm.flatE d = true ∧ Pm.flatEs ds = true := by simpa only [Pm.flatEs, Bool.and_eq_true] using c
    cases h with
    | cons h1 h2 => exact .cons (Rp.flatE hg c.1 h1) (Rps.flatE hg c.2 h2)
end
mutual
def flatO : Mode → Dt → Bool
  | .F, d => flatE d
  | .L _, .non => true
  | .T _, .non => true
  | .I _, .non => true
  | .L m, .lst ds => flatOA m ds
  | .T ms, .tup ds => flatOs ms ds
  | .T ms, .lst ds => flatOs ms ds
  | .K m, .dic _ ds => flatOA m ds
  | .K m, .dit _ ds => flatOA m ds
  | .I ms, .ins _ _ ds => flatOs ms ds
  | _, _ => false
def flatOA (m : Mode) : List Dt → Bool
  | [] => true
  | d :: ds => flatO m d && flatOA m ds
def flatOs : List Mode → List Dt → Bool
  | [], [] => true
  | m :: ms, d :: ds => flatO m d && flatOs ms ds
  | _, _ => false
end
mutual
theorem Ow.flatO {K : PySem.W.Frag} {ca : Str → Addr} {G2 G1 H2 : Hp} (hg : ∀ b o, G2 b = some o → (∀ vs, o ≠ .lst vs) → G1 b = some o) : ∀ {d : Dt} {m : Mode} {v : V} {P : Addr → Prop}, Pm.flatO m d = true → (∀ b, P b → G1 b = none) → Ow K ca G2 H2 m d v P → Ow K ca G1 H2 m d v P
  | d, m, v, P, c, hp, h => by
    cases h with
    | F h => exact .F (Rp.flatE hg (by simpa only [Pm.flatO] using c) h)
    | NL => exact .NL
    | NT => exact .NT
    | NI => exact .NI
    | @L m a vs ds _ h1 h2 h3 h4 => exact .L h1 (hp _ h3) h3 (Ows.flatOA hg (by simpa only [Pm.flatO] using c) (fun b hb => hp b hb.1) h4)
    | @T ms a vs ds _ h1 h2 h3 h4 => exact .T h1 (hp _ h3) h3 (Ows.flatOs hg (by simpa only [Pm.flatO] using c) (fun b hb => hp b hb.1) h4)
    | @TL ms a vs ds _ h1 h2 h3 h4 => exact .TL h1 (hp _ h3) h3 (Ows.flatOs hg (by simpa only [Pm.flatO] using c) (fun b hb => hp b hb.1) h4)
    | @I ms C a dx ns vs ds _ h1 h2 h3 h4 h5 => exact .I h1 (hp _ h3) h3 h4 (Ows.flatOs hg (by simpa only [Pm.flatO] using c) (fun b hb => hp b hb.1) h5)
    | @K m a ks vs ds _ h1 h2 h3 h4 h5 => exact .K h1 (hp _ h3) h3 h4 (Ows.flatOA hg (by simpa only [Pm.flatO] using c) (fun b hb => hp b hb.1) h5)
    | @KT m a ks vs ds _ h1 h2 h3 h4 h5 => exact .KT h1 (hp _ h3) h3 h4 (Ows.flatOA hg (by simpa only [Pm.flatO] using c) (fun b hb => hp b hb.1) h5)
  termination_by d => sizeOf d
theorem Ows.flatOA {K : PySem.W.Frag} {ca : Str → Addr} {G2 G1 H2 : Hp} (hg : ∀ b o, G2 b = some o → (∀ vs, o ≠ .lst vs) → G1 b = some o) {m : Mode} : ∀ {ds : List Dt} {vs : List V} {P : Addr → Prop}, Pm.flatOA m ds = true → (∀ b, P b → G1 b = none) → Ows K ca G2 H2 (List.replicate ds.length m) ds vs P → Ows K ca G1 H2 (List.replicate ds.length m) ds vs P
  | [], vs, P, c, hp, h => by
    cases h
    exact .nil
  | d :: ds, vs, P, c, hp, h => by
    have c : Pm.flatO m d = true ∧ Pm.flatOA m ds = true := by simpa only [Pm.flatOA, Bool.and_eq_true] using c
    rw [List.length_cons, List.replicate_succ] at h ⊢
    cases h with
    | cons h1 h2 q1 q2 q3 => exact .cons (Ow.flatO hg c.1 (fun b hb => hp b (q1 b hb)) h1) (Ows.flatOA hg c.2 (fun b hb => hp b (q2 b hb)) h2) q1 q2 q3
  termination_by ds => sizeOf ds
theorem Ows.flatOs {K : PySem.W.Frag} {ca : Str → Addr} {G2 G1 H2 : Hp} (hg : ∀ b o, G2 b = some o → (∀ vs, o ≠ .lst vs) → G1 b = some o) : ∀ {ds : List Dt} {ms : List Mode} {vs : List V} {P : Addr → Prop}, Pm.flatOs ms ds = true → (∀ b, P b → G1 b = none) → Ows K ca G2 H2 ms ds vs P → Ows K ca G1 H2 ms ds vs P
  | [], ms, vs, P, c, hp, h => by
    cases h
    exact .nil
  | d :: ds, ms, vs, P, c, hp, h => by
    cases h with
    | @cons m ms _ _ _ _ _ _ _ h1 h2 q1 q2 q3 =>
      have c : Pm.flatO m d = true ∧ Pm.flatOs ms ds = true := by simpa only [Pm.flatOs, Bool.and_eq_true] using c
      exact .cons (Ow.flatO hg c.1 (fun b hb => hp b (q1 b hb)) h1) (Ows.flatOs hg c.2 (fun b hb => hp b (q2 b hb)) h2) q1 q2 q3
  termination_by ds => sizeOf ds
end
section
variable {J : Jc} {Γ : List Mode} {m m1 : Mode} {F : Ev → Rs Dt} {Fs : List (Ev → Rs Dt)} {te : TE} {tr : TA} {G0 H0 G H G' H' : Hp} {ρ : Ev} {σ : L2.St}
def flatRO (m : Mode) (r : Rs Dt) : Rs Dt := r >>= fun d => if flatO m d = true then .ok d else .no
def callSO (m : Mode) (Fn : List Dt → Rs Dt) (Fs : List (Ev → Rs Dt)) (ρ : Ev) : Rs Dt := argsE Fs ρ >>= fun ds => flatRO m (Fn ds)
variable {Fn : List Dt → Rs Dt} {np : Nat}
end
end Pm
/-! ### constructors to which owned things are lent -/
namespace Pm
open PySem PySem.Spec PyProof.Rows L2
open Classical
section
variable {P : Program} {w : World} {K : PySem.W.Frag} {ca : Str → Addr} {mg : Str → Option Value} {base : Heap} {x qual : Str} {params : Arguments} {body : List Stmt} {scope : Scope} {f : Addr} {fd : FuncData} {N ps : List Str} {k : Nat} {ms : List Mode}
end
/-! ### its call: x = C(.., h[k], ..), all parts of the slot h lent -/
inductive ArgsH (K : PySem.W.Frag) (ca : Str → Addr) (G : Hp) (Ds : List Dt) (us : List V) : List (Option Nat) → List Dt → List V → Prop
  | nil : ArgsH K ca G Ds us [] [] []
  | fr {ks : List (Option Nat)} {d : Dt} {ds : List Dt} {v : V} {vs : List V} : Rp K ca G d v → ArgsH K ca G Ds us ks ds vs → ArgsH K ca G Ds us (none :: ks) (d :: ds) (v :: vs)
  | pt {ks : List (Option Nat)} {k : Nat} {d : Dt} {ds : List Dt} {v : V} {vs : List V} : Ds[k]? = some d → us[k]? = some v → ArgsH K ca G Ds us ks ds vs → ArgsH K ca G Ds us (some k :: ks) (d :: ds) (v :: vs)
theorem ArgsH.len {K : PySem.W.Frag} {ca : Str → Addr} {G : Hp} {Ds : List Dt} {us : List V} {ks : List (Option Nat)} {ds : List Dt} {vs : List V} (h : ArgsH K ca G Ds us ks ds vs) : ds.length = vs.length ∧ ks.length = ds.length := by
  induction h with
  | nil => exact ⟨rfl, rfl⟩
  | fr _ _ ih => exact ⟨by simp [ih.1], by simp [ih.2]⟩
  | pt _ _ _ ih => exact ⟨by simp [ih.1], by simp [ih.2]⟩
theorem ArgsH.mono {K : PySem.W.Frag} {ca : Str → Addr} {G G' : Hp} {Ds : List Dt} {us : List V} {ks : List (Option Nat)} {ds : List Dt} {vs : List V} (e : Same G G') (h : ArgsH K ca G Ds us ks ds vs) : ArgsH K ca G' Ds us ks ds vs := by
  induction h with
  | nil => exact .nil
  | fr r _ ih => exact .fr (r.mono e) ih
  | pt a b _ ih => exact .pt a b ih
theorem ArgsH.at {K : PySem.W.Frag} {ca : Str → Addr} {G : Hp} {Ds : List Dt} {us : List V} {ks : List (Option Nat)} {ds : List Dt} {vs : List V} (h : ArgsH K ca G Ds us ks ds vs) : ∀ {i : Nat} {d : Dt}, ds[i]? = some d → ∃ v, vs[i]? = some v ∧ ((ks[i]? = some none ∧ Rp K ca G d v) ∨ ∃ k, ks[i]? = some (some k) ∧ Ds[k]? = some d ∧ us[k]? = some v) := by
  induction h with
  | nil => intro i d e; simp at e
  | @fr ks d0 ds v vs r _ ih =>
    intro i d e
    cases i with
    | zero =>
      cases (show some d0 = some d from e)
      exact ⟨v, rfl, .inl ⟨rfl, r⟩⟩
    | succ i => simpa using ih (i := i) (by simpa using e)
  | @pt ks k d0 ds v vs a b _ ih =>
    intro i d e
    cases i with
    | zero =>
      cases (show some d0 = some d from e)
      exact ⟨v, rfl, .inr ⟨k, rfl, a, b⟩⟩
    | succ i => simpa using ih (i := i) (by simpa using e)
section
variable {J : Jc} {Γ : List Mode} {h : Nat} {ks : List (Option Nat)} {Fe : Ev → Rs Dt} {Fs : Ev → Rs (List Dt)} {te : TE} {tr : TA}
end
section
variable {J : Jc} {Γ : List Mode} {h i : Nat} {ks : List (Option Nat)} {Fs : Ev → Rs (List Dt)} {tr : TA} {MS ns : List Mode} {np : Nat} {Fn : List Dt → Rs Dt}
end
end Pm
/-! ### list + list where one of them is looked at (the script) -/
namespace Pm
open PySem PySem.Spec PyProof.Rows L2
def catQD (a b : Dt) : Rs Dt := match lisD a, lisD b with
  | some x, some y => if lenSz (x.length + y.length) = true then .ok (.lst (x ++ y)) else .no
  | _, _ => .no
def catQE := op2E catQD
section
variable {J : Jc} {Γ : List Mode} {Fa Fb : Ev → Rs Dt} {ta tb : TE}
theorem v_catQ {ρ : Ev} : catQE Fa Fb ρ = (Fa ρ >>= fun a => Fb ρ >>= fun b => catQD a b) := rfl
theorem x_catQ {xs ys : List Dt} (h : lenSz (xs.length + ys.length) = true) : catQD (.scr xs) (.lst ys) = .ok (.lst (xs ++ ys)) := if_pos h
end
/-! ### parts of an owned list of unlike parts -/
section
variable {J : Jc} {Γ : List Mode} {m : Mode} {ms : List Mode} {te : TE} {G0 H0 G H G' H' : Hp} {ρ : Ev} {σ : L2.St} {d : Dt} {v : V} {put : Dt → Ev} {Fp : Ev → Rs (Dt × (Dt → Ev))}
def tixLP (j : Nat) (Fp : Ev → Rs (Dt × (Dt → Ev))) (ρ : Ev) : Rs (Dt × (Dt → Ev)) := Fp ρ >>= fun x => match x.1 with
  | .lst ds => (match ds[j]? with
    | some e => .ok (e, fun y => x.2 (.lst (ds.set j y)))
    | none => .no)
  | _ => .no
def tixLR (j : Nat) (x : Dt × (Dt → Ev)) : Rs (Dt × (Dt → Ev)) := match x.1 with
  | .lst ds => (match ds[j]? with
    | some e => .ok (e, fun y => x.2 (.lst (ds.set j y)))
    | none => .no)
  | _ => .no
theorem v_tixL {j : Nat} : tixLP j Fp ρ = (Fp ρ >>= tixLR j) := rfl
theorem x_tixL30 {a b c : Dt} : tixLR 0 (.lst [a, b, c], put) = .ok (a, fun y => put (.lst [y, b, c])) := rfl
theorem x_tixL31 {a b c : Dt} : tixLR 1 (.lst [a, b, c], put) = .ok (b, fun y => put (.lst [a, y, c])) := rfl
theorem x_tixL32 {a b c : Dt} : tixLR 2 (.lst [a, b, c], put) = .ok (c, fun y => put (.lst [a, b, y])) := rfl
theorem x_tixL20 {a b : Dt} : tixLR 0 (.lst [a, b], put) = .ok (a, fun y => put (.lst [y, b])) := rfl
theorem x_tixL21 {a b : Dt} : tixLR 1 (.lst [a, b], put) = .ok (b, fun y => put (.lst [a, y])) := rfl
end
/-! ### for k, x in P beside pinned slots -/
open Classical
section
variable {J : Jc} {Γ Γ' Γ1 Γ2 Γb : List Mode} {em : EM} {m M : Mode} {ms : List Mode} {F Fe Fa Fb Fd Fk Fi : Ev → Rs Dt} {Fs : List (Ev → Rs Dt)} {te ta tb ti : TE} {tr : TA} {G0 H0 Gs G H G' H' : Hp} {ρ : Ev} {σ : L2.St} {vs : List Nat}
  {ts t1 t2 : TS} {D : Ends} {d : Dt} {v : V} {put : Dt → Ev} {Fp : Ev → Rs (Dt × (Dt → Ev))}
end
end Pm
/-! ### a name for a part of an owned list: kind, told = groups[at], told changed -/
namespace Pm
open PySem PySem.Spec PyProof.Rows L2
open Classical
section
variable {J : Jc} {Γ Γf : List Mode} {G0 H0 G H G' H' : Hp} {ρ : Ev} {σ : L2.St} {g a tl kd pl k : Nat}
/-- the slot tl names the second part of the item k of the list in the slot g -/
def Al (σ : L2.St) (H : Hp) (g tl k : Nat) : Prop := ∃ (L : Addr) (us : List V) (c : Addr) (vk u : V), σ[g]? = some (some (.ref L)) ∧ H L = some (.lst us) ∧ us[k]? = some (.ref c) ∧ H c = some (.tup [vk, u]) ∧ σ[tl]? = some (some u)
theorem Al.mono (a : Al σ H g tl k) (e : Same H H') : Al σ H' g tl k := by
  obtain ⟨L, us, c, vk, u, h1, h2, h3, h4, h5⟩ := a
  exact ⟨L, us, c, vk, u, h1, e _ _ h2, h3, e _ _ h4, h5⟩
theorem Al.set {x : Option V} (a : Al σ H g tl k) (h1 : pl ≠ g) (h2 : pl ≠ tl) : Al (σ.set pl x) H g tl k := by
  obtain ⟨L, us, c, vk, u, q1, q2, q3, q4, q5⟩ := a
  exact ⟨L, us, c, vk, u, by rw [List.getElem?_set_ne h1]; exact q1, q2, q3, q4, by rw [List.getElem?_set_ne h2]; exact q5⟩
theorem Wd.hid {i : Nat} {v : V} (w : Wd J G0 H0 Γ ρ σ G H) (fr : J.free i) : Wd J G0 H0 Γ (ρ.set i none) (σ.set i (some v)) G H := by
  obtain ⟨Pf, h1, h2, h3⟩ := w.env
  refine ⟨w.x, by rw [List.length_set]; exact w.lg, by rw [List.length_set, List.length_set]; exact w.lr, ⟨Pf, h1, h2, fun j d q => ?_⟩, fun j u h => ?_, w.xk⟩
  · by_cases e : j = i
    · subst e
      by_cases hl : j < ρ.length
      · rw [List.getElem?_set_self hl] at q; cases q
      · rw [List.getElem?_eq_none (by rw [List.length_set]; omega)] at q; cases q
    · rw [List.getElem?_set_ne (Ne.symm e)] at q
      obtain ⟨v, m, s1, s2, s3⟩ := h3 j d q
      exact ⟨v, m, by rw [List.getElem?_set_ne (Ne.symm e)]; exact s1, s2, s3⟩
  · rw [List.getElem?_set_ne (Ne.symm (pinB_ne fr h))]
    exact w.pn j u h
theorem Wd.addF {i : Nat} {v : V} {d : Dt} (w : Wd J G0 H0 Γ ρ σ G H) (hs : σ[i]? = some (some v)) (hm : Γ[i]? = some .F) (r : Rp J.K J.ca G d v) : Wd J G0 H0 Γ (ρ.set i (some d)) σ G H := by
  obtain ⟨Pf, h1, h2, h3⟩ := w.env
  refine ⟨w.x, by rw [List.length_set]; exact w.lg, by rw [List.length_set]; exact w.lr, ⟨Pf, h1, h2, fun j e q => ?_⟩, w.pn, w.xk⟩
  by_cases z : j = i
  · subst z
    have hl : j < ρ.length := by rw [w.lr]; exact (List.getElem?_eq_some_iff.mp hs).1
    rw [List.getElem?_set_self hl] at q
    cases q
    exact ⟨v, .F, hs, hm, .F r⟩
  · rw [List.getElem?_set_ne (Ne.symm z)] at q
    exact h3 j e q
/-- what the name stands for -/
theorem al_focus {ds es : List Dt} {kn : Dt} (w : Wd J G0 H0 Γ ρ σ G H) (al : Al σ H g tl k) (hg : Γ[g]? = some (.L (.T [.F, .L .F]))) (hr : ρ[g]? = some (some (.lst ds))) (hi : ds[k]? = some (.tup [kn, .lst es])) :
    ∃ b zs, σ[tl]? = some (some (.ref b)) ∧ H b = some (.lst zs) ∧ Rps J.K J.ca G es zs ∧
      ∀ es' zs', Rps J.K J.ca G es' zs' → Wd J G0 H0 Γ (ρ.set g (some (.lst (ds.set k (.tup [kn, .lst es']))))) σ G (upd H b (.lst zs')) ∧ Al σ (upd H b (.lst zs')) g tl k := by
  obtain ⟨L, us, c, vk, u, a1, a2, a3, a4, a5⟩ := al
  obtain ⟨Pf, h1, h2, h3⟩ := w.env
  obtain ⟨v, m', s1, s2, s3⟩ := h3 g _ hr
  rw [hg] at s2
  cases s2
  rw [a1] at s1
  cases s1
  obtain ⟨L2, us2, c2, vk2, u2, Pk, l1, l2, l3, l4, l5, l6, l7, l8, l9, l10, l11, l12, l13⟩ := s3.lens2 (pth := none) (m := .L .F) rfl rfl hi
  have eL : L2 = L := by
    have l6 : V.ref L = .ref L2 := l6
    cases l6
    rfl
  subst eL
  rw [a2] at l1
  cases l1
  rw [a3] at l2
  cases l2
  rw [a4] at l7
  cases l7
  -- down by the focus
  obtain ⟨v, s1, f0⟩ := w.foc hg hr
  rw [a1] at s1
  cases s1
  obtain ⟨L3, us3, u3, e3, x1, x2, x3, f1⟩ := f0.item hi
  cases e3
  rw [a2] at x1
  cases x1
  rw [a3] at x2
  cases x2
  obtain ⟨c4, us4, u4, e4, y1, y2, y3, f2⟩ := f1.tix (j := 1) (m := .L .F) rfl rfl
  cases e4
  rw [a4] at y1
  cases y1
  have e5 : u = u4 := by simpa using y2
  subst e5
  obtain ⟨b, zs, Pin, eb, hb, own, pr, fin⟩ := f2.chg w (Ext.refl w.gh)
  subst eb
  have pkb : Pk b := by
    cases l11 with
    | L z1 z2 z3 z4 => exact z3
  have Lb : L2 ≠ b := fun z => l5 (by rw [z]; exact pkb)
  have cb : c ≠ b := fun z => by rw [z, hb] at a4; cases a4
  refine ⟨b, zs, a5, hb, own.frozen, fun es' zs' r => ⟨fin es' zs' Pno (Rps.own r) fun b z => z.elim, ?_⟩⟩
  exact ⟨L2, us, c, vk, .ref b, a1, by rw [upd_ne Lb]; exact a2, a3, by rw [upd_ne cb]; exact a4, a5⟩
def toldOf (ρ : Ev) (g k : Nat) : Option (List Dt × Dt × List Dt) := match ρ[g]? with
  | some (some (.lst ds)) => (match ds[k]? with
    | some (.tup [kn, .lst es]) => some (ds, kn, es)
    | _ => none)
  | _ => none
theorem toldOf_some {x : List Dt × Dt × List Dt} (h : toldOf ρ g k = some x) : ρ[g]? = some (some (.lst x.1)) ∧ x.1[k]? = some (.tup [x.2.1, .lst x.2.2]) := by
  unfold toldOf at h
  split at h
  case h_2 => cases h
  rename_i ds hr
  split at h
  case h_2 => cases h
  rename_i kn es hi
  cases h
  exact ⟨hr, hi⟩
/-- the world in which all is looked at, the name too -/
theorem al_view {ds es : List Dt} {kn : Dt} (w : Wd J G0 H0 Γ ρ σ G H) (al : Al σ H g tl k) (hg : Γ[g]? = some (.L (.T [.F, .L .F]))) (hr : ρ[g]? = some (some (.lst ds))) (hi : ds[k]? = some (.tup [kn, .lst es])) (hl : Γf.length = Γ.length) (hf : allF Γf = true) (ht : Γf[tl]? = some .F) : Wd J H H Γf (ρ.set tl (some (.lst es))) σ H H := by
  obtain ⟨b, zs, s1, s2, s3, _⟩ := al_focus w al hg hr hi
  exact (w.look hl (allF_at hf)).addF s1 ht (.lst s2 (s3.mono w.gh))
end
/-- statements beside such a name -/
def SemAl (J : Jc) (Γ : List Mode) (g tl : Nat) (F : Nat → Ev → Ot) (ts : TS) : Prop := ∀ ⦃k : Nat⦄ ⦃G0 H0 G H : Hp⦄ ⦃ρ : Ev⦄ ⦃σ : L2.St⦄ ⦃D : Ends⦄ ⦃ρ' : Ev⦄, Wd J G0 H0 Γ ρ σ G H → Al σ H g tl k → F k ρ = .nx ρ' → (∀ σ' G' H', Same G G' → Wd J G0 H0 Γ ρ' σ' G' H' → Al σ' H' g tl k → D.nx σ' H') → ts D σ H
def seqA (F1 F2 : Nat → Ev → Ot) (k : Nat) (ρ : Ev) : Ot := match F1 k ρ with
  | .nx ρ1 => F2 k ρ1
  | _ => .no
def nextA (_ : Nat) (ρ : Ev) : Ot := .nx ρ
def ifA (Ft : Ev → Rs Bool) (F1 F2 : Nat → Ev → Ot) (k : Nat) (ρ : Ev) : Ot := match Ft ρ with
  | .ok true => F1 k ρ
  | .ok false => F2 k ρ
  | _ => .no
def asgA (g tl pl : Nat) (Fe : Ev → Rs Dt) (k : Nat) (ρ : Ev) : Ot := match toldOf ρ g k with
  | some x => (match Fe (ρ.set tl (some (.lst x.2.2))) with
    | .ok d => if scal d = true then .nx (ρ.set pl (some d)) else .no
    | _ => .no)
  | none => .no
def popA (g tl : Nat) (Fe : Ev → Rs Dt) (k : Nat) (ρ : Ev) : Ot := match toldOf ρ g k with
  | some x => (match Fe (ρ.set tl (some (.lst x.2.2))) with
    | .ok d => (match popD x.2.2 d with
      | .ok y => .nx (ρ.set g (some (.lst (x.1.set k (.tup [x.2.1, .lst y.2])))))
      | _ => .no)
    | _ => .no)
  | none => .no
def insA (g tl : Nat) (Fs : List (Ev → Rs Dt)) (k : Nat) (ρ : Ev) : Ot := match toldOf ρ g k with
  | some x => (match argsE Fs (ρ.set tl (some (.lst x.2.2))) with
    | .ok as => if as.all scal = true then (match insD x.2.2 as with
      | some es => .nx (ρ.set g (some (.lst (x.1.set k (.tup [x.2.1, .lst es])))))
      | none => .no) else .no
    | _ => .no)
  | none => .no
def setpA (g a : Nat) (Fe : Ev → Rs Dt) (k : Nat) (ρ : Ev) : Ot := match toldOf ρ g k, ρ[a]? with
  | some x, some (some (.int i)) => if ixN x.1.length i = some k then (match Fe ρ with
    | .ok d => .nx (ρ.set g (some (.lst (x.1.set k (.tup [d, .lst x.2.2])))))
    | _ => .no) else .no
  | _, _ => .no
section
variable {J : Jc} {Γ Γf : List Mode} {F1 F2 : Nat → Ev → Ot} {t1 t2 : TS} {Ft : Ev → Rs Bool} {tt : TT} {Fe : Ev → Rs Dt} {Fs : List (Ev → Rs Dt)} {te : TE} {tr : TA} {g a tl kd pl : Nat}
theorem sa_next : SemAl J Γ g tl nextA tNext := fun {k G0 H0 G H ρ σ D ρ'} w al e q => by
  cases e
  exact q σ G H (Same.refl _) w al
theorem sa_seq (h : SemAl J Γ g tl F1 t1) (k : SemAl J Γ g tl F2 t2) : SemAl J Γ g tl (seqA F1 F2) (tSeq t1 t2) := fun {k' G0 H0 G H ρ σ D ρ'} w al e q => by
  unfold seqA at e
  split at e
  case h_2 => cases e
  rename_i ρ1 e1
  exact h w al e1 fun σ1 G1 H1 s1 w1 a1 => k w1 a1 e fun σ2 G2 H2 s2 w2 a2 => q σ2 G2 H2 (s1.trans s2) w2 a2
theorem sa_if (h : SemT J Γ Ft tt) (k1 : SemAl J Γ g tl F1 t1) (k2 : SemAl J Γ g tl F2 t2) : SemAl J Γ g tl (ifA Ft F1 F2) (tIfS tt t1 t2) := fun {k' G0 H0 G H ρ σ D ρ'} w al e q => by
  unfold ifA at e
  cases et : Ft ρ with
  | ex c => rw [et] at e; cases e
  | no => rw [et] at e; cases e
  | ok b =>
  rw [et] at e
  refine h w ?_
  rw [et]
  refine .ok fun G1 H1 e1 => ?_
  cases b
  · exact k2 (w.ext e1) (al.mono e1.h) e fun σ2 G2 H2 s2 w2 a2 => q σ2 G2 H2 (e1.g.trans s2) w2 a2
  · exact k1 (w.ext e1) (al.mono e1.h) e fun σ2 G2 H2 s2 w2 a2 => q σ2 G2 H2 (e1.g.trans s2) w2 a2
theorem sa_asg (h : SemE J Γf .B Fe te) (hg : Γ[g]? = some (.L (.T [.F, .L .F]))) (hp : Γ[pl]? = some .F) (hl : Γf.length = Γ.length) (hf : allF Γf = true) (ht : Γf[tl]? = some .F) (n1 : pl ≠ g) (n2 : pl ≠ tl) (fr : J.free pl) : SemAl J Γ g tl (asgA g tl pl Fe) (tAsg te (gName pl)) := fun {k G0 H0 G H ρ σ D ρ'} w al e q => by
  unfold asgA at e
  split at e
  case h_2 => cases e
  rename_i x hx
  split at e
  case h_2 => cases e
  rename_i d hd
  by_cases sc : scal d = true
  case neg => rw [if_neg sc] at e; cases e
  rw [if_pos sc] at e
  cases e
  obtain ⟨x1, x2⟩ := toldOf_some hx
  refine h (al_view w al hg x1 x2 hl hf ht) ?_
  rw [hd]
  refine .ok fun v G1 H1 P1 e1 f1 r1 => ?_
  have ex : Ext G H G H1 := Ext.heap w.gh e1.h
  have w2 := (w.ext ex).set (Ext.refl (w.ext ex).gh) (.F (P := Pno) (scal_rp sc r1)) (Fr.no (G := G)) pl fr
  rw [set_same hp] at w2
  exact q _ G H1 (Same.refl _) w2 ((al.mono e1.h).set n1 n2)
theorem sa_pop (h : SemE J Γf .B Fe te) (hg : Γ[g]? = some (.L (.T [.F, .L .F]))) (hl : Γf.length = Γ.length) (hf : allF Γf = true) (ht : Γf[tl]? = some .F) : SemAl J Γ g tl (popA g tl Fe) (tDrop (tBM J.K "list" rPopAt (tVar tl) (tCons te tNil))) := fun {k G0 H0 G H ρ σ D ρ'} w al e q => by
  unfold popA at e
  split at e
  case h_2 => cases e
  rename_i x hx
  split at e
  case h_2 => cases e
  rename_i d hd
  split at e
  case h_2 => cases e
  rename_i y hy
  cases e
  obtain ⟨x1, x2⟩ := toldOf_some hx
  obtain ⟨b, zs, s1, s2, s3, _⟩ := al_focus w al hg x1 x2
  refine ⟨.ref b, s1, .inl ⟨rfl, zs, .of s2⟩, ?_⟩
  refine h (al_view w al hg x1 x2 hl hf ht) ?_
  rw [hd]
  refine .ok fun v G1 H1 P1 e1 f1 r1 => ?_
  have ex : Ext G H G H1 := Ext.heap w.gh e1.h
  obtain ⟨b', zs', u1, u2, u3, fin⟩ := al_focus (w.ext ex) (al.mono e1.h) hg x1 x2
  rw [s1] at u1
  cases u1
  obtain ⟨y1, y2⟩ := y
  obtain ⟨i, j, u, rfl, i1, i2, i3, i4, i5, rfl⟩ := popD_run hy u3 r1
  refine ⟨b, zs', i, j, u, rfl, rfl, u2, i1, i2, i3, i4, ?_⟩
  obtain ⟨w3, a3⟩ := fin _ (zs'.eraseIdx j) (u3.erase j)
  exact q _ G _ (Same.refl _) w3 a3
theorem sa_ins (h : SemBs J Γf Fs tr) (hg : Γ[g]? = some (.L (.T [.F, .L .F]))) (hl : Γf.length = Γ.length) (hf : allF Γf = true) (ht : Γf[tl]? = some .F) : SemAl J Γ g tl (insA g tl Fs) (tDrop (tBM J.K "list" (fun x vs H Q => ∃ (l : Addr) (xs : List V) (i : Int) (y : V), x = .ref l ∧ vs = [.int i, y] ∧ H l = some (.lst xs) ∧ xs.length < sizeLine ∧ 0 ≤ i ∧ i < 2 ^ 63 ∧ Q .non (upd H l (.lst (xs.take i.toNat ++ [y] ++ xs.drop i.toNat)))) (tVar tl) tr)) := fun {k G0 H0 G H ρ σ D ρ'} w al e q => by
  unfold insA at e
  split at e
  case h_2 => cases e
  rename_i x hx
  split at e
  case h_2 => cases e
  rename_i as has
  by_cases sc : as.all scal = true
  case neg => rw [if_neg sc] at e; cases e
  rw [if_pos sc] at e
  split at e
  case h_2 => cases e
  rename_i es hes
  cases e
  obtain ⟨x1, x2⟩ := toldOf_some hx
  obtain ⟨b, zs, s1, s2, s3, _⟩ := al_focus w al hg x1 x2
  refine ⟨.ref b, s1, .inl ⟨rfl, zs, .of s2⟩, ?_⟩
  refine h (al_view w al hg x1 x2 hl hf ht) ?_
  rw [has]
  refine .ok fun vs G1 H1 e1 r1 => ?_
  have ex : Ext G H G H1 := Ext.heap w.gh e1.h
  obtain ⟨b', zs', u1, u2, u3, fin⟩ := al_focus (w.ext ex) (al.mono e1.h) hg x1 x2
  rw [s1] at u1
  cases u1
  have r2 : Rps J.K J.ca G as vs := Rps.scal sc r1
  obtain ⟨i, y, rfl, c, rfl⟩ := insD_some hes
  cases r2 with
  | @cons _ _ vi vs2 ri r3 =>
    cases r3 with
    | @cons _ _ vy vs3 ry r4 =>
      cases r4
      cases ri
      rw [Bool.and_eq_true, Bool.and_eq_true] at c
      have i0 := of_decide_eq_true c.2.1
      have i1 := (intSz_ok c.2.2).2
      refine ⟨b, zs', i, vy, rfl, rfl, u2, by rw [← u3.length]; exact lenSz_lt c.1, i0, by omega, ?_⟩
      obtain ⟨w3, a3⟩ := fin _ (zs'.take i.toNat ++ [vy] ++ zs'.drop i.toNat) (((u3.take i.toNat).append (.cons ry .nil)).append (u3.drop i.toNat))
      exact q _ G _ (Same.refl _) w3 a3
theorem sa_setp (h : SemE J Γ (.o .F) Fe te) (hg : Γ[g]? = some (.L (.T [.F, .L .F]))) (ha : Γ[a]? = some .F) : SemAl J Γ g tl (setpA g a Fe) (tAsg (tTup (tCons te (tCons (tVar tl) tNil))) (gSub (tVar g) (tVar a) rSetL)) := fun {k G0 H0 G H ρ σ D ρ'} w al e q => by
  unfold setpA at e
  split at e
  case h_2 => cases e
  rename_i x i hx hai
  by_cases hik : ixN x.1.length i = some k
  case neg => rw [if_neg hik] at e; cases e
  rw [if_pos hik] at e
  split at e
  case h_2 => cases e
  rename_i d hd
  cases e
  obtain ⟨x1, x2⟩ := toldOf_some hx
  obtain ⟨ds, kn, es⟩ := x
  dsimp only at x1 x2 hik
  refine h w ?_
  rw [hd]
  refine .ok fun vk' G1 H1 P1 e1 f1 o1 => ?_
  have rk : Rp J.K J.ca G1 d vk' := by cases o1 with | F r => exact r
  have w1 := w.ext e1
  have al1 := al.mono e1.h
  obtain ⟨L, us, c, vk, u, a1, a2, a3, a4, a5⟩ := al1
  refine ⟨u, a5, (by decide +kernel : 2 ≤ sizeLine), fun p hp => ?_⟩
  have e2 : Ext G1 H1 G1 (upd H1 p (.tup [vk', u])) := Ext.heap w1.gh (Same.new hp)
  have w2 := w1.ext e2
  obtain ⟨va, ma, _, s1, s2, s3, _⟩ := w1.get hai
  rw [ha] at s2
  cases s2
  have ev : va = .int i := by
    cases s3 with
    | F r => cases r; rfl
  subst ev
  obtain ⟨v0, b0, f0⟩ := w1.foc hg x1
  rw [a1] at b0
  cases b0
  obtain ⟨L', us', Pin, eL, hL, own, pr, fin⟩ := f0.chg w1 e2
  cases eL
  rw [e2.h _ _ a2] at hL
  cases hL
  have hlen := own.len.1
  have htl : k < ds.length := (List.getElem?_eq_some_iff.mp x2).1
  refine ⟨.ref L, a1, .int i, s1, L, us, i, k, rfl, rfl, e2.h _ _ a2, by rw [← hlen]; exact hik, ?_⟩
  obtain ⟨QI, b1, b2, b3⟩ := own.parts
  have ot := b1 k _ _ (.T [.F, .L .F]) x2 a3 (by rw [List.getElem?_replicate, if_pos htl])
  cases ot with
  | @T _ _ us2 _ _ q1 q2 q3 q4 =>
  rw [e2.h _ _ a4] at q1
  cases q1
  cases q4 with
  | @cons _ _ _ _ _ us3 _ PA PB y1 y2 y3 y4 y5 =>
  cases y2 with
  | @cons _ _ _ _ _ us4 _ PC PD z1 z2 z3 z4 z5 =>
  cases z2
  have pcq : ∀ b, PC b → QI k b := fun b hb => (y4 b (z3 b hb)).1
  have nqP : ∀ b, Pin b → b ≠ p := fun b hb z => (pr b hb).1 (by rw [z]; exact hp)
  have pL : p ≠ L := fun z => by rw [z] at hp; rw [hp] at a2; cases a2
  have gp : G1 p = none := w1.gh.free hp
  have w3 := fin (ds.set k (.tup [d, .lst es])) (us.set k (.ref p)) (fun b => Pin b ∨ b = p) (by
    refine Ows.of_parts (J := J) (fun s b => if s = k then b = p ∨ PC b else QI s b) (by rw [List.length_set, List.length_set]; exact hlen) (by rw [List.length_replicate]) (fun s e u' m' r1 r2 r3 => ?_) (fun s b hs hb => ?_) fun s s' b n hs ht => ?_
    · rw [List.length_set, List.getElem?_replicate] at r3
      split at r3
      case isFalse => cases r3
      cases r3
      by_cases zz : s = k
      · subst zz
        rw [List.getElem?_set_self htl] at r1
        rw [List.getElem?_set_self (by omega)] at r2
        cases r1; cases r2
        simp only [if_true]
        refine .T upd_same gp (.inl rfl) (.cons (P1 := Pno) (P2 := PC) (.F rk) (.cons (P1 := PC) (P2 := Pno) z1 .nil (fun _ z => z) (fun _ z => z.elim) fun _ _ z => z) (fun _ z => z.elim) (fun b hb => ⟨.inr hb, nqP b (b2 s b (pcq b hb))⟩) fun _ z => z.elim)
      · rw [List.getElem?_set_ne (Ne.symm zz)] at r1 r2
        simp only [zz, if_false]
        exact b1 s e u' _ r1 r2 (by rw [List.getElem?_replicate, if_pos (List.getElem?_eq_some_iff.mp r1).1])
    · by_cases zz : s = k
      · simp only [zz, if_true] at hb
        rcases hb with hb | hb
        · exact .inr hb
        · exact .inl (b2 k b (pcq b hb))
      · simp only [zz, if_false] at hb
        exact .inl (b2 s b hb)
    · have key : ∀ s, s ≠ k → QI s b → ¬ (b = p ∨ PC b) := fun s ne hq h => by
        rcases h with h | h
        · exact nqP b (b2 s b hq) h
        · exact b3 s k b ne hq (pcq b h)
      by_cases zz : s = k
      · simp only [zz, if_true] at hs
        have z' : s' ≠ k := fun z' => n (zz.trans z'.symm)
        simp only [z', if_false] at ht
        exact key s' z' ht hs
      · simp only [zz, if_false] at hs
        by_cases z' : s' = k
        · simp only [z', if_true] at ht
          exact key s zz hs ht
        · simp only [z', if_false] at ht
          exact b3 s s' b n hs ht) (fun b hb => by
    rcases hb with hb | hb
    · exact ⟨(pr b hb).2.1, .inl hb⟩
    · rw [hb]
      exact ⟨pL, .inr ⟨hp, gp, by rw [upd_same]; exact fun z => by cases z⟩⟩)
  refine q σ G1 _ e1.g w3 ⟨L, us.set k (.ref p), p, vk', u, a1, upd_same, List.getElem?_set_self (by omega), by rw [upd_ne pL]; exact upd_same, a5⟩
def aliasS (g a kd tl : Nat) (Fb : Nat → Ev → Ot) (ρ : Ev) : Ot := match ρ[g]?, ρ[a]? with
  | some (some (.lst ds)), some (some (.int i)) => (match ixN ds.length i with
    | some k => if (toldOf ρ g k).isSome then (match Fb k ((ρ.set kd none).set tl none) with
      | .nx ρ' => .nx ρ'
      | _ => .no) else .no
    | none => .no)
  | _, _ => .no
theorem ss_alias {Fb : Nat → Ev → Ot} {ts : TS} (h : SemAl J Γ g tl Fb ts) (hg : Γ[g]? = some (.L (.T [.F, .L .F]))) (ha : Γ[a]? = some .F) (n1 : kd ≠ g) (n2 : tl ≠ g) (n3 : tl ≠ kd) (hl : tl < Γ.length) (f1 : J.free kd) (f2 : J.free tl) : SemS J Γ Γ (aliasS g a kd tl Fb) (tSeq (tAsg (tOp (rIx J.K) (tVar g) (tVar a)) (gTup J.K 2 (gCons (gName kd) (gCons (gName tl) gNil)))) ts) := fun {G0 H0 G H ρ σ D} w p => by
  unfold aliasS at p
  split at p
  case h_2 => cases p
  rename_i ds i hr hai
  split at p
  case h_2 => cases p
  rename_i k hik
  by_cases ht : (toldOf ρ g k).isSome
  case neg => rw [if_neg ht] at p; cases p
  rw [if_pos ht] at p
  split at p
  case h_2 => cases p
  rename_i ρ' hb
  obtain ⟨x, hx⟩ := Option.isSome_iff_exists.mp ht
  obtain ⟨x1, x2⟩ := toldOf_some hx
  obtain ⟨ds', kn, es⟩ := x
  dsimp only at x1 x2
  rw [hr] at x1
  cases x1
  obtain ⟨va, ma, _, s1, s2, s3, _⟩ := w.get hai
  rw [ha] at s2
  cases s2
  have ev : va = .int i := by
    cases s3 with
    | F r => cases r; rfl
  subst ev
  obtain ⟨v, b1, f0⟩ := w.foc hg hr
  obtain ⟨L, us, u, rfl, c1, c2, c3, g1⟩ := f0.item x2
  obtain ⟨c, us2, u2, rfl, d1, d2, d3, g2⟩ := g1.tix (j := 1) (m := .L .F) rfl rfl
  match us2, d3, d2 with
  | [vk, u3], _, d2 =>
  have eu : u3 = u2 := by simpa using d2
  subst eu
  refine ⟨.ref L, b1, .int i, s1, .inl ⟨L, us, i, .ref c, rfl, rfl, .of c1, by unfold atI; rw [← c3, hik]; exact c2, ?_⟩⟩
  refine ⟨c, [vk, u3], rfl, .of d1, rfl, vk, [u3], rfl, u3, [], rfl, rfl, ?_⟩
  have w2 := (w.hid (i := kd) (v := vk) f1).hid (i := tl) (v := u3) f2
  refine h w2 ⟨L, us, c, vk, u3, ?_, c1, c2, d1, List.getElem?_set_self ?_⟩ hb fun σ' G' H' s3 w3 _ => p.of_nx σ' G' H' s3 w3
  · rw [List.getElem?_set_ne n2, List.getElem?_set_ne n1]
    exact b1
  · rw [List.length_set, ← w.lr, ← w.lg]; exact hl
def fgtA (pl : Nat) (_ : Nat) (ρ : Ev) : Ot := .nx (ρ.set pl none)
theorem sa_fgt : SemAl J Γ g tl (fgtA pl) tNext := fun {k G0 H0 G H ρ σ D ρ'} w al e q => by
  cases e
  obtain ⟨Pf, h1, h2, h3⟩ := w.env
  refine q σ G H (Same.refl _) ⟨w.x, by rw [List.length_set]; exact w.lg, by rw [List.length_set]; exact w.lr, ⟨Pf, h1, h2, fun j d q => ?_⟩, w.pn, w.xk⟩ al
  by_cases e : j = pl
  · subst e
    by_cases hl : j < ρ.length
    · rw [List.getElem?_set_self hl] at q; cases q
    · rw [List.getElem?_eq_none (by rw [List.length_set]; omega)] at q; cases q
  · rw [List.getElem?_set_ne (Ne.symm e)] at q
    exact h3 j d q
end
end Pm
namespace Pm
open PySem PySem.Spec PyProof.Rows L2
/-! ### the head's Hook: facts, defs, one more Bool; the interpreter's statics too (readsIn looks there) -/
/-! the same over addresses that are written out -/
/-! ### the law's end -/
theorem walkX {l : PySem.W.OpenLaw} {n k : Nat} {q : Program} {loose : List Str} {XP : (Str → Option Value) → Heap → Prop} {YP : World → Heap → Prop} {d : DefRec} {x : Str} {Fn : List Dt → Rs Dt}
    (hn : l.most = some n) (hsz : n ≤ sizeLine) (hdf : d.params.defaults = []) (hr : Room k callerA)
    (hF : ∀ ns : List Int, ns.length ≤ n → Fn [.scr (ns.map Dt.int)] = .ok (.bl true))
    (F : ∀ (w : World) (mg : Str → Option Value) (fa : Addr) (h : Heap), YP w h → h.Ns mainGlobals mg → mg d.name = some (.ref fa) →
      ∃ (K : PySem.W.Frag) (fd : FuncData) (ca : Str → Addr), K.In h ∧ (∀ (s : Shared) (u : Value), BindsTo s fd ⟨[u], []⟩ [(x, u)]) ∧
        ∀ base : Heap, FnOk l.prog w K mg base (L2.CX l.prog w) k fa fd [x] (spM K ca 1 .F Fn)) :
    PySem.W.WalkO q loose XP YP l.row.toRowW d [] (fun f vs => PySem.call f vs) := by
  refine Att.attach_call hn hdf fun w s0 s1 mg mb fa o pm cd doc a vs ns G Y ho hd hcd hmg hobj hints hlen hg => ?_
  obtain ⟨K, fd, ca, KX, hb, ok⟩ := F w mg fa _ Y G.T.g hmg
  have size := Nat.le_trans hlen hsz
  refine law_call KX G.T.g G.T.b G.T.builtins G.T.nolimit hg hobj hints size hr (fun base _ _ => ok base) hb (fun H hO hS => ?_) fun H e s' z => ?_
  · have rs : ∀ ms : List Int, Rps K ca H (ms.map Dt.int) (ms.map V.int) := fun ms => by
      induction ms with
      | nil => exact .nil
      | cons m ms ih => exact .cons (.int m) ih
    refine ⟨rfl, H, [.scr (ns.map Dt.int)], Same.refl H, .cons (.scr hS (rs ns)) .nil, ?_⟩
    rw [hF ns hlen]
    exact .ok fun v G2 H2 P2 _ _ o2 => by
      cases o2 with
      | F o2 => cases o2; rfl
  · obtain ⟨_, _, _, _, _, _, _, _, _, _, _, _, no⟩ := z
    exact no
section
/-! a def's result -/
theorem v_def {np nl : Nat} {m : Mode} {F : Ev → Ot} {ds : List Dt} (h : ds.length = np) : defF np nl m F ds = outF m (F (ds.map some ++ List.replicate (nl - np) none)) := if_pos h
theorem v_init {C : Str} {np nl : Nat} {F : Ev → Ot} {ds : List Dt} (h : ds.length + 1 = np) : initF C np nl F ds = outI (F (some (.ins C [] []) :: ds.map some ++ List.replicate (nl - np) none)) := if_pos h
end
end Pm
namespace Pm
open PySem PySem.Spec L2
/-! ### reckoning with what the defs compute, no program in sight -/
section
variable {ρ : Ev} {d : Dt} {i j : Nat} {Fa Fb Fc Fe : Ev → Rs Dt} {Fs : List (Ev → Rs Dt)} {Ft Fu : Ev → Rs Bool} {F1 F2 F3 rest : Ev → Ot} {Post : Ot → Prop} {FG : Dt → Ev → Option Ev} {Fi : Ev → Rs (List Dt)}
theorem v_var0 : varE 0 (some d :: ρ) = .ok d := rfl
theorem v_varS {x : Option Dt} : varE (i + 1) (x :: ρ) = varE i ρ := rfl
theorem v_con : conE d ρ = .ok d := rfl
theorem v_add : addE Fa Fb ρ = (Fa ρ >>= fun a => Fb ρ >>= fun b => i2 addI a b) := rfl
theorem v_sub : subE Fa Fb ρ = (Fa ρ >>= fun a => Fb ρ >>= fun b => i2 subI a b) := rfl
theorem v_mul : mulE Fa Fb ρ = (Fa ρ >>= fun a => Fb ρ >>= fun b => i2 mulI a b) := rfl
theorem v_div : divE Fa Fb ρ = (Fa ρ >>= fun a => Fb ρ >>= fun b => i2 divI a b) := rfl
theorem v_mod : modE Fa Fb ρ = (Fa ρ >>= fun a => Fb ρ >>= fun b => i2 modI a b) := rfl
theorem v_pow : powE Fa Fb ρ = (Fa ρ >>= fun a => Fb ρ >>= fun b => i2 powI a b) := rfl
theorem v_shl : shlE Fa Fb ρ = (Fa ρ >>= fun a => Fb ρ >>= fun b => i2 shlI a b) := rfl
theorem v_lt : ltE Fa Fb ρ = (Fa ρ >>= fun a => Fb ρ >>= fun b => i2 ltI a b) := rfl
theorem v_le : leE Fa Fb ρ = (Fa ρ >>= fun a => Fb ρ >>= fun b => i2 leI a b) := rfl
theorem v_gt : gtE Fa Fb ρ = (Fa ρ >>= fun a => Fb ρ >>= fun b => i2 gtI a b) := rfl
theorem v_ge : geE Fa Fb ρ = (Fa ρ >>= fun a => Fb ρ >>= fun b => i2 geI a b) := rfl
theorem v_eq : eqE Fa Fb ρ = (Fa ρ >>= fun a => Fb ρ >>= fun b => eqD a b) := rfl
theorem v_ne : neE Fa Fb ρ = (Fa ρ >>= fun a => Fb ρ >>= fun b => neD a b) := rfl
theorem v_in : inE Fa Fb ρ = (Fa ρ >>= fun a => Fb ρ >>= fun b => memD false a b) := rfl
theorem v_nin : ninE Fa Fb ρ = (Fa ρ >>= fun a => Fb ρ >>= fun b => memD true a b) := rfl
theorem v_ix : ixE Fa Fb ρ = (Fa ρ >>= fun a => Fb ρ >>= fun b => ixD a b) := rfl
theorem v_plus : plusE Fa Fb ρ = (Fa ρ >>= fun a => Fb ρ >>= fun b => plusD a b) := rfl
theorem v_cat : catE Fa Fb ρ = (Fa ρ >>= fun a => Fb ρ >>= fun b => catD a b) := rfl
theorem v_rep : repE Fa Fb ρ = (Fa ρ >>= fun a => Fb ρ >>= fun b => repD a b) := rfl
theorem v_isN : isNE Fa ρ = (Fa ρ >>= fun a => .ok (.bl (isNonD a))) := rfl
theorem v_notN : notNE Fa ρ = (Fa ρ >>= fun a => .ok (.bl (!isNonD a))) := rfl
theorem v_len : lenE Fa ρ = (Fa ρ >>= lenD) := rfl
theorem v_neg : negE Fa ρ = (Fa ρ >>= negD) := rfl
theorem v_isi {c : Ty} : isiE c Fa ρ = (Fa ρ >>= isiD c) := rfl
theorem v_list : listE Fa ρ = (Fa ρ >>= listD) := rfl
theorem v_tuple : tupleE Fa ρ = (Fa ρ >>= tupleD) := rfl
theorem v_tupleL : tupleLE Fa ρ = (Fa ρ >>= tupleLD) := rfl
theorem v_fld {C f : Str} : fldE C f Fa ρ = (Fa ρ >>= fldD C f) := rfl
theorem v_fldI {C f : Str} : fldIE C f j i ρ = (varE i ρ >>= fldID C f j) := rfl
theorem v_all : allE Fa ρ = (Fa ρ >>= allD) := rfl
theorem v_any : anyE Fa ρ = (Fa ρ >>= anyD) := rfl
theorem v_sum : sumE Fa ρ = (Fa ρ >>= sumD) := rfl
theorem v_max2 : max2E Fa Fb ρ = (Fa ρ >>= fun a => Fb ρ >>= fun b => i2 (fun i j => .ok (.int (if j > i then j else i))) a b) := rfl
theorem v_min2 : min2E Fa Fb ρ = (Fa ρ >>= fun a => Fb ρ >>= fun b => i2 (fun i j => .ok (.int (if j < i then j else i))) a b) := rfl
theorem v_i2 {f : Int → Int → Rs Dt} {a b : Int} : i2 f (.int a) (.int b) = f a b := rfl
theorem v_addI {a b : Int} : addI a b = .ok (.int (a + b)) := rfl
theorem v_subI {a b : Int} : subI a b = .ok (.int (a - b)) := rfl
theorem v_mulL {a b : Int} (h : smallI a = true) : mulI a b = .ok (.int (a * b)) := by unfold mulI; rw [h]; rfl
theorem v_mulR {a b : Int} (h : smallI b = true) : mulI a b = .ok (.int (a * b)) := by unfold mulI; rw [h, Bool.or_true]; rfl
theorem divOk_of {b : Int} (h : 0 < b) (h2 : b < 1000000000000000000000000000000000000000000000000000000000000) : divOk b = true := by
  unfold divOk
  have : b.natAbs < 2 ^ 200 := Nat.lt_trans (show b.natAbs < 1000000000000000000000000000000000000000000000000000000000000 by omega) (by decide)
  rw [decide_eq_true h, decide_eq_true this]
  rfl
theorem v_divI {a b : Int} (h : divOk b = true) : divI a b = .ok (.int (a / b)) := by unfold divI; rw [if_pos h]
theorem v_modI {a b : Int} (h : 0 < b) : modI a b = .ok (.int (a % b)) := by unfold modI; rw [if_pos (decide_eq_true h)]
theorem v_ltI {a b : Int} : ltI a b = .ok (.bl (decide (a < b))) := rfl
theorem v_leI {a b : Int} : leI a b = .ok (.bl (decide (a ≤ b))) := rfl
theorem v_gtI {a b : Int} : gtI a b = .ok (.bl (decide (b < a))) := rfl
theorem v_geI {a b : Int} : geI a b = .ok (.bl (decide (b ≤ a))) := rfl
theorem v_negD {a : Int} : negD (.int a) = .ok (.int (-a)) := rfl
theorem v_eqI {a b : Int} : eqD (.int a) (.int b) = .ok (.bl (decide (a = b))) := rfl
theorem v_neI {a b : Int} : neD (.int a) (.int b) = .ok (.bl (!decide (a = b))) := rfl
theorem v_eqB {a b : Bool} : eqD (.bl a) (.bl b) = .ok (.bl (a == b)) := by cases a <;> cases b <;> rfl
theorem v_neB {a b : Bool} : neD (.bl a) (.bl b) = .ok (.bl (!(a == b))) := by cases a <;> cases b <;> rfl
theorem v_lenL {ds : List Dt} : lenD (.lst ds) = .ok (.int ds.length) := rfl
theorem v_lenC {ds : List Dt} : lenD (.scr ds) = .ok (.int ds.length) := rfl
theorem v_lenT {ds : List Dt} : lenD (.tup ds) = .ok (.int ds.length) := rfl
theorem v_ixL {ds : List Dt} {k : Int} (h : atI ds k = some d) : ixD (.lst ds) (.int k) = .ok d := by show (match atI ds k with | some d => (Rs.ok d : Rs Dt) | none => .no) = _; rw [h]
theorem v_ixT {ds : List Dt} {k : Int} (h : atI ds k = some d) : ixD (.tup ds) (.int k) = .ok d := by show (match atI ds k with | some d => (Rs.ok d : Rs Dt) | none => .no) = _; rw [h]
theorem atI_nat {α : Type} {xs : List α} {x : α} {k : Nat} (h : xs[k]? = some x) : atI xs (k : Int) = some x := by
  have hk := (List.getElem?_eq_some_iff.mp h).1
  have e : ixN xs.length (k : Int) = some k := by
    unfold ixN
    first | simp; omega | simp [hk]
  unfold atI
  rw [e]
  exact h
theorem v_listL {ds : List Dt} : listD (.lst ds) = .ok (.lst ds) := rfl
theorem v_listC {ds : List Dt} : listD (.scr ds) = .ok (.lst ds) := rfl
theorem v_listT {ds : List Dt} : listD (.tup ds) = .ok (.lst ds) := rfl
theorem v_tupL {ds : List Dt} : tupleD (.lst ds) = .ok (.tup ds) := rfl
theorem v_tupC {ds : List Dt} : tupleD (.scr ds) = .ok (.tup ds) := rfl
theorem v_tupT {ds : List Dt} : tupleD (.tup ds) = .ok (.tup ds) := rfl
theorem v_tupLL {ds : List Dt} : tupleLD (.lst ds) = .ok (.tup ds) := rfl
theorem v_plusI {a b : Int} : plusD (.int a) (.int b) = .ok (.int (a + b)) := rfl
theorem v_plusL {a b : List Dt} (h : lenSz (a.length + b.length) = true) : plusD (.lst a) (.lst b) = .ok (.lst (a ++ b)) := if_pos h
theorem v_plusT {a b : List Dt} (h : lenSz (a.length + b.length) = true) : plusD (.tup a) (.tup b) = .ok (.tup (a ++ b)) := if_pos h
theorem v_catL {a b : List Dt} (h : lenSz (a.length + b.length) = true) : catD (.lst a) (.lst b) = .ok (.lst (a ++ b)) := if_pos h
theorem v_slc {Fl Fh : Ev → Rs (Option Int)} : slcE Fa Fl Fh ρ = (Fa ρ >>= fun d => Fl ρ >>= fun l => Fh ρ >>= fun u => cutD d l u) := rfl
theorem v_slcL {Fl Fh : Ev → Rs (Option Int)} : slcLE Fa Fl Fh ρ = (Fa ρ >>= fun d => Fl ρ >>= fun l => Fh ρ >>= fun u => cutLD d l u) := rfl
theorem v_noPart : noPart ρ = .ok none := rfl
theorem v_partO : partO Fa ρ = (Fa ρ >>= asI) := rfl
theorem v_asI {a : Int} : asI (.int a) = .ok (some a) := rfl
theorem v_cutL {ds : List Dt} {lo hi : Option Int} : cutD (.lst ds) lo hi = .ok (.lst (cutL ds lo hi)) := rfl
theorem v_cutC {ds : List Dt} {lo hi : Option Int} : cutD (.scr ds) lo hi = .ok (.lst (cutL ds lo hi)) := rfl
theorem v_cutT {ds : List Dt} {lo hi : Option Int} : cutD (.tup ds) lo hi = .ok (.tup (cutL ds lo hi)) := rfl
theorem v_cutLL {ds : List Dt} {lo hi : Option Int} : cutLD (.lst ds) lo hi = .ok (.lst (cutL ds lo hi)) := rfl
theorem v_cutLC {ds : List Dt} {lo hi : Option Int} : cutLD (.scr ds) lo hi = .ok (.lst (cutL ds lo hi)) := rfl
/-! tests -/
theorem v_boolT : boolT Fa ρ = (Fa ρ >>= asB) := rfl
theorem v_notT : notT Ft ρ = (Ft ρ >>= fun b => .ok (!b)) := rfl
theorem v_andT : andT Ft Fu ρ = (Ft ρ >>= fun b => if b = true then Fu ρ else .ok false) := rfl
theorem v_orT : orT Ft Fu ρ = (Ft ρ >>= fun b => if b = true then .ok true else Fu ρ) := rfl
theorem v_yes : yesT ρ = .ok true := rfl
theorem v_andE : andE Fa Fb ρ = (Fa ρ >>= fun a => asB a >>= fun b => if b = true then Fb ρ else .ok (.bl false)) := rfl
theorem v_orE : orE Fa Fb ρ = (Fa ρ >>= fun a => asB a >>= fun b => if b = true then .ok (.bl true) else Fb ρ) := rfl
theorem v_notE : notE Fa ρ = (Fa ρ >>= fun a => asB a >>= fun b => .ok (.bl (!b))) := rfl
theorem v_ifE : ifE Ft Fa Fb ρ = (Ft ρ >>= fun b => if b = true then Fa ρ else Fb ρ) := rfl
theorem v_andOk {b c : Bool} : (if b = true then (Rs.ok c : Rs Bool) else .ok false) = .ok (b && c) := by cases b <;> rfl
theorem v_orOk {b c : Bool} : (if b = true then (Rs.ok true : Rs Bool) else .ok c) = .ok (b || c) := by cases b <;> rfl
theorem v_andOkE {b c : Bool} : (if b = true then (Rs.ok (.bl c) : Rs Dt) else .ok (.bl false)) = .ok (.bl (b && c)) := by cases b <;> rfl
theorem v_orOkE {b c : Bool} : (if b = true then (Rs.ok (.bl true) : Rs Dt) else .ok (.bl c)) = .ok (.bl (b || c)) := by cases b <;> rfl
theorem v_isB {b : Bool} : isiD .bool (.bl b) = .ok (.bl true) := rfl
theorem v_asB {b : Bool} : asB (.bl b) = .ok b := rfl
/-! arguments, displays, calls -/
theorem v_args0 : argsE [] ρ = .ok [] := rfl
theorem v_args1 : argsE (Fa :: Fs) ρ = (Fa ρ >>= fun d => argsE Fs ρ >>= fun ds => .ok (d :: ds)) := rfl
theorem v_tup : tupE Fs ρ = (argsE Fs ρ >>= fun ds => .ok (.tup ds)) := rfl
theorem v_lst : lstE Fs ρ = (argsE Fs ρ >>= fun ds => .ok (.lst ds)) := rfl
theorem v_call {Fn : List Dt → Rs Dt} : callE Fn Fs ρ = (argsE Fs ρ >>= Fn) := rfl
theorem v_callB {Fn : List Dt → Rs Dt} : callBE Fn Fs ρ = (argsE Fs ρ >>= fun ds => scalR (Fn ds)) := rfl
theorem v_meth {C m : Str} {Fn : List Dt → Rs Dt} : methE C m Fn Fa Fs ρ = (Fa ρ >>= fun s => noMeth C m s >>= fun _ => argsE Fs ρ >>= fun ds => Fn (s :: ds)) := rfl
theorem v_methB {C m : Str} {Fn : List Dt → Rs Dt} : methBE C m Fn Fa Fs ρ = (Fa ρ >>= fun s => noMeth C m s >>= fun _ => argsE Fs ρ >>= fun ds => scalR (Fn (s :: ds))) := rfl
theorem v_scal : scalR (.ok d) = if scal d = true then .ok d else .no := rfl
theorem v_scalI {a : Int} : scal (.int a) = true := rfl
theorem v_scalB {a : Bool} : scal (.bl a) = true := rfl
theorem v_scalS {a : Str} : scal (.str a) = true := rfl
theorem v_scalN : scal .non = true := rfl
/-! what is walked -/
def rngD (ds : List Dt) : Rs (List Dt) := match ds with
  | [.int j] => if intSz j = true then .ok (rangeL 0 j.toNat) else .no
  | [.int i, .int j] => if (intSz i && intSz j) = true then .ok (rangeL i (j - i).toNat) else .no
  | _ => .no
theorem v_rng1 : rng1I [Fa] ρ = (Fa ρ >>= fun a => rngD [a]) := by
  unfold rng1I
  rw [v_args1]
  cases Fa ρ with
  | ok a => cases a <;> rfl
  | ex c => rfl
  | no => rfl
theorem v_rng2 : rng2I [Fa, Fb] ρ = (Fa ρ >>= fun a => Fb ρ >>= fun b => rngD [a, b]) := by
  unfold rng2I
  rw [v_args1, v_args1]
  cases Fa ρ with
  | ok a =>
    cases Fb ρ with
    | ok b => cases a <;> cases b <;> rfl
    | ex c => rfl
    | no => rfl
  | ex c => rfl
  | no => rfl
theorem v_rngD1 {a : Int} (h : intSz a = true) : rngD [.int a] = .ok (rangeL 0 a.toNat) := if_pos h
theorem v_rngD2 {a b : Int} (h : (intSz a && intSz b) = true) : rngD [.int a, .int b] = .ok (rangeL a (b - a).toNat) := if_pos h
def seqID (d : Dt) : Rs (List Dt) := match d with
  | .lst ds => .ok ds
  | .scr ds => .ok ds
  | .tup ds => .ok ds
  | _ => .no
/-- a tuple or a list -/
def sqD (b : Bool) (ds : List Dt) : Dt := if b = true then .tup ds else .lst ds
def tupID (d : Dt) : Rs (List Dt) := match d with
  | .tup ds => .ok ds
  | _ => .no
theorem v_seqI : seqI Fa ρ = (Fa ρ >>= seqID) := rfl
theorem v_tupI : tupI Fa ρ = (Fa ρ >>= tupID) := rfl
theorem v_seqL {ds : List Dt} : seqID (.lst ds) = .ok ds := rfl
theorem v_seqC {ds : List Dt} : seqID (.scr ds) = .ok ds := rfl
theorem v_seqT {ds : List Dt} : seqID (.tup ds) = .ok ds := rfl
theorem v_seqQ {b : Bool} {ds : List Dt} : seqID (sqD b ds) = .ok ds := by cases b <;> rfl
theorem v_lenQ {b : Bool} {ds : List Dt} : lenD (sqD b ds) = .ok (.int ds.length) := by cases b <;> rfl
theorem v_tupQ {b : Bool} {ds : List Dt} : tupleD (sqD b ds) = .ok (.tup ds) := by cases b <;> rfl
theorem v_tupID {ds : List Dt} : tupID (.tup ds) = .ok ds := rfl
def zipD (ds : List Dt) : Rs (List Dt) := match ds with
  | [.lst a, .lst b] => .ok (zipL a b)
  | [.tup a, .tup b] => .ok (zipL a b)
  | _ => .no
theorem v_zipI : zipI Fs ρ = (argsE Fs ρ >>= zipD) := rfl
theorem v_zipL {a b : List Dt} : zipD [.lst a, .lst b] = .ok (zipL a b) := rfl
theorem v_zipT {a b : List Dt} : zipD [.tup a, .tup b] = .ok (zipL a b) := rfl
def enumD (ds : List Dt) : Rs (List Dt) := match ds with
  | [.lst a] => .ok (enumL 0 a)
  | [.scr a] => .ok (enumL 0 a)
  | _ => .no
theorem v_enumI : enumI Fs ρ = (argsE Fs ρ >>= enumD) := rfl
theorem v_enumL {a : List Dt} : enumD [.lst a] = .ok (enumL 0 a) := rfl
theorem v_enumC {a : List Dt} : enumD [.scr a] = .ok (enumL 0 a) := rfl
def revD (d : Dt) : Rs (List Dt) := match d with
  | .lst ds => .ok ds.reverse
  | .tup ds => .ok ds.reverse
  | _ => .no
theorem v_revI : revI Fa ρ = (Fa ρ >>= revD) := rfl
theorem v_revL {a : List Dt} : revD (.lst a) = .ok a.reverse := rfl
theorem v_revT {a : List Dt} : revD (.tup a) = .ok a.reverse := rfl
/-! comprehensions -/
def compR (FG : Dt → Ev → Option Ev) (Ft : Ev → Rs Bool) (Fe : Ev → Rs Dt) (ρ : Ev) (ds : List Dt) : Rs Dt := if lenSz ds.length = true then noEx (compL FG Ft Fe ρ ds) >>= fun ys => .ok (.lst ys) else .no
theorem v_comp {vs : List Nat} : compE Fi vs FG Ft Fe ρ = (Fi ρ >>= fun ds => compR FG Ft Fe (wipeE ρ vs) ds) := rfl
theorem v_wipe0 : wipeE ρ [] = ρ := rfl
theorem v_wipe1 {v : Nat} {vs : List Nat} : wipeE ρ (v :: vs) = (wipeE ρ vs).set v none := rfl
theorem compL_filter {α : Type} {g f : α → Dt} {p : α → Bool} : ∀ {xs : List α}, (∀ x, x ∈ xs → ∃ ρ1, FG (g x) ρ = some ρ1 ∧ Ft ρ1 = .ok (p x) ∧ (p x = true → Fe ρ1 = .ok (f x))) → compL FG Ft Fe ρ (xs.map g) = .ok ((xs.filter p).map f)
  | [], _ => rfl
  | x :: xs, h => by
    obtain ⟨ρ1, h1, h2, h3⟩ := h x List.mem_cons_self
    have ih := compL_filter (xs := xs) fun y hy => h y (List.mem_cons_of_mem _ hy)
    rw [List.map_cons]
    unfold compL
    simp only [h1, h2, ok_bind]
    cases q : p x with
    | true =>
      rw [if_pos rfl, h3 q, ok_bind, ih, ok_bind, List.filter_cons_of_pos q, List.map_cons]
    | false =>
      rw [if_neg (by simp), ih, List.filter_cons_of_neg (by simp [q])]
theorem comp_filter {α : Type} {g f : α → Dt} {p : α → Bool} {xs : List α} (hl : lenSz xs.length = true) (h : ∀ x, x ∈ xs → ∃ ρ1, FG (g x) ρ = some ρ1 ∧ Ft ρ1 = .ok (p x) ∧ (p x = true → Fe ρ1 = .ok (f x))) : compR FG Ft Fe ρ (xs.map g) = .ok (.lst ((xs.filter p).map f)) := by
  unfold compR
  rw [List.length_map, if_pos hl, compL_filter h]
  rfl
theorem comp_map {α : Type} {g f : α → Dt} {xs : List α} (hl : lenSz xs.length = true) (h : ∀ x, x ∈ xs → ∃ ρ1, FG (g x) ρ = some ρ1 ∧ Fe ρ1 = .ok (f x)) : compR FG yesT Fe ρ (xs.map g) = .ok (.lst (xs.map f)) := by
  have := comp_filter (Ft := yesT) (p := fun _ => true) hl fun x hx => by
    obtain ⟨ρ1, h1, h2⟩ := h x hx
    exact ⟨ρ1, h1, rfl, fun _ => h2⟩
  rw [this, List.filter_eq_self.mpr fun _ _ => rfl]
theorem lenSz_of {n : Nat} (h : n ≤ 1000000) : lenSz n = true := by
  unfold lenSz
  exact decide_eq_true h
theorem intSz_of {a : Int} (h : -1000000000 ≤ a) (h2 : a ≤ 1000000000) : intSz a = true := by
  unfold intSz
  exact decide_eq_true ⟨h, h2⟩
theorem smallI_of {a : Int} (h : -9000000000000000000 ≤ a) (h2 : a ≤ 9000000000000000000) : smallI a = true := by
  unfold smallI
  rw [Bool.and_eq_true]
  exact ⟨decide_eq_true (by omega), decide_eq_true (by omega)⟩
theorem at_map {α β : Type} {f : α → β} {xs : List α} {k : Nat} {x : α} (h : xs[k]? = some x) : (xs.map f)[k]? = some (f x) := by rw [List.getElem?_map, h]; rfl
theorem of_at_map {α β : Type} {f : α → β} {xs : List α} {k : Nat} {y : β} (h : (xs.map f)[k]? = some y) : ∃ x, xs[k]? = some x ∧ y = f x := by
  rw [List.getElem?_map] at h
  cases e : xs[k]? with
  | none => rw [e] at h; cases h
  | some x => rw [e] at h; exact ⟨x, rfl, (Option.some.inj h).symm⟩
theorem at_of_lt {α : Type} {xs : List α} {k : Nat} (h : k < xs.length) : ∃ x, xs[k]? = some x ∧ x ∈ xs := ⟨xs[k], List.getElem?_eq_getElem h, List.getElem_mem h⟩
theorem lt_of_at {α : Type} {xs : List α} {k : Nat} {x : α} (h : xs[k]? = some x) : k < xs.length := (List.getElem?_eq_some_iff.mp h).1
theorem rangeL_at {lo : Int} {n k : Nat} {d : Dt} (h : (rangeL lo n)[k]? = some d) : k < n ∧ d = .int (lo + (k : Nat)) := by
  obtain ⟨x, h1, h2⟩ := of_at_map h
  have hk : k < n := by have := (List.getElem?_eq_some_iff.mp h1).1; simpa using this
  rw [List.getElem?_range hk] at h1
  cases h1
  exact ⟨hk, h2⟩
theorem rangeL0_map {n : Nat} : rangeL 0 n = (List.range n).map fun i => Dt.int (i : Nat) := by
  unfold rangeL
  congr 1
  funext i
  rw [Int.zero_add]
theorem rangeL_len {lo : Int} {n : Nat} : (rangeL lo n).length = n := by unfold rangeL; rw [List.length_map, List.length_range]
/-! statements -/
theorem v_assoc : seqS (seqS F1 F2) F3 ρ = seqS F1 (seqS F2 F3) ρ := by
  unfold seqS
  cases F1 ρ <;> rfl
theorem v_nx : seqS nextS rest ρ = rest ρ := rfl
theorem v_end : nextS ρ = .nx ρ := rfl
theorem bindS_seq {α : Type} {r : Rs α} {k : α → Ot} : (match bindS r ρ k with
  | .nx ρ1 => rest ρ1
  | o => o) = bindS r ρ fun a => match k a with
  | .nx ρ1 => rest ρ1
  | o => o := by
  cases r <;> rfl
theorem v_asg : seqS (asgS i Fe) rest ρ = bindS (Fe ρ) ρ fun d => rest (ρ.set i (some d)) := bindS_seq
theorem v_drop : seqS (dropS Fe) rest ρ = bindS (Fe ρ) ρ fun _ => rest ρ := bindS_seq
theorem v_ret : seqS (retS Fe) rest ρ = bindS (Fe ρ) ρ fun d => .rt d := bindS_seq
theorem v_retN : seqS retN rest ρ = .rt .non := rfl
theorem v_raise {c : Str} : seqS (raiS c) rest ρ = .ex (c, none) ρ := rfl
theorem v_brk : seqS brkS rest ρ = .bk ρ := rfl
theorem v_cnt : seqS cntS rest ρ = .ct ρ := rfl
def iteS (b : Bool) (F1 F2 rest : Ev → Ot) (ρ : Ev) : Ot := if b = true then seqS F1 rest ρ else seqS F2 rest ρ
theorem v_if : seqS (ifS Ft F1 F2) rest ρ = bindS (Ft ρ) ρ fun b => iteS b F1 F2 rest ρ := by
  refine bindS_seq.trans ?_
  cases Ft ρ with
  | ok b => cases b <;> rfl
  | _ => rfl
theorem v_iteT : iteS true F1 F2 rest ρ = seqS F1 rest ρ := rfl
theorem v_iteF : iteS false F1 F2 rest ρ = seqS F2 rest ρ := rfl
theorem wp_ite {b : Bool} (h : b = true → Post (seqS F1 rest ρ)) (k : b = false → Post (seqS F2 rest ρ)) : Post (iteS b F1 F2 rest ρ) := by
  cases b with
  | true => exact h rfl
  | false => exact k rfl
def asgR (FG : Dt → Ev → Option Ev) (rest : Ev → Ot) (ρ : Ev) (d : Dt) : Ot := match FG d ρ with
  | some ρ' => rest ρ'
  | none => .no
theorem v_asgG : seqS (asgG FG Fe) rest ρ = bindS (Fe ρ) ρ fun d => asgR FG rest ρ d := by
  refine bindS_seq.trans ?_
  congr 1
  funext d
  unfold asgR
  cases FG d ρ <;> rfl
theorem v_nameG : nameG i d ρ = some (ρ.set i (some d)) := rfl
theorem v_consG {f : Dt → Ev → Option Ev} {fs : List Dt → Ev → Option Ev} {ds : List Dt} : consG f fs (d :: ds) ρ = (f d ρ).bind fun ρ1 => fs ds ρ1 := rfl
theorem v_nilG : nilG [] ρ = some ρ := rfl
theorem v_newF {C f : Str} {ns : List Str} {ds : List Dt} (hf : fix f ns = none) (hl : ns.length < 100) : seqS (newF C f 0 Fe) rest (some (.ins C ns ds) :: ρ) = bindS (Fe (some (.ins C ns ds) :: ρ)) (some (.ins C ns ds) :: ρ) fun y => rest (some (.ins C (ns ++ [f]) (ds ++ [y])) :: ρ) := by
  have e : newF C f 0 Fe (some (.ins C ns ds) :: ρ) = bindS (Fe (some (.ins C ns ds) :: ρ)) (some (.ins C ns ds) :: ρ) fun y => .nx (some (.ins C (ns ++ [f]) (ds ++ [y])) :: ρ) := by
    show (if C = C then newF0 f 0 Fe (some (.ins C ns ds) :: ρ) else .no) = _
    rw [if_pos rfl]
    unfold newF0
    congr 1
    funext y
    show (if fix f ns = none ∧ ns.length < 100 then Ot.nx _ else .no) = _
    rw [if_pos ⟨hf, hl⟩]
    rfl
  unfold seqS
  rw [e]
  exact bindS_seq
theorem v_outI {d : Dt} : outI (.nx (some d :: ρ)) = .ok d := rfl
theorem v_outIX {c : Xn} : outI (.ex c ρ) = .ex c := rfl
def tryR (subs : List (Str × Bool)) (Fh rest : Ev → Ot) (o : Ot) : Ot := match o with
  | .ex c ρ' => (match subs.lookup c.1 with
    | some true => seqS (fun r => noX (Fh r)) rest ρ'
    | some false => .ex c ρ'
    | none => .no)
  | .nx ρ' => rest ρ'
  | o => o
theorem v_try {subs : List (Str × Bool)} {Fb Fh : Ev → Ot} : seqS (tryS subs Fb Fh) rest ρ = tryR subs Fh rest (Fb ρ) := by
  show (match tryS subs Fb Fh ρ with
    | .nx ρ1 => rest ρ1
    | o => o) = _
  unfold tryS tryR
  cases Fb ρ with
  | ex c r =>
    show (match (match subs.lookup c.1 with
      | some true => noX (Fh r)
      | some false => .ex c r
      | none => .no) with
      | .nx ρ1 => rest ρ1
      | o => o) = (match subs.lookup c.1 with
      | some true => seqS (fun r => noX (Fh r)) rest r
      | some false => .ex c r
      | none => .no)
    cases subs.lookup c.1 with
    | none => rfl
    | some b => cases b <;> rfl
  | _ => rfl
theorem v_tryN {subs : List (Str × Bool)} {Fh : Ev → Ot} : tryR subs Fh rest (.nx ρ) = rest ρ := rfl
theorem v_tryT {subs : List (Str × Bool)} {Fh : Ev → Ot} {c : Xn} (h : subs.lookup c.1 = some true) : tryR subs Fh rest (.ex c ρ) = seqS (fun r => noX (Fh r)) rest ρ := by
  unfold tryR
  simp only [h]
theorem v_tryF {subs : List (Str × Bool)} {Fh : Ev → Ot} {c : Xn} (h : subs.lookup c.1 = some false) : tryR subs Fh rest (.ex c ρ) = .ex c ρ := by
  unfold tryR
  simp only [h]
theorem v_tryRt {subs : List (Str × Bool)} {Fh : Ev → Ot} : tryR subs Fh rest (.rt d) = .rt d := rfl
/-! places -/
def appR (rest : Ev → Ot) (y : Dt) (x : Dt × (Dt → Ev)) : Ot := match x.1 with
  | .lst ds => if lenSz ds.length = true then rest (x.2 (.lst (ds ++ [y]))) else .no
  | _ => .no
theorem v_app {Fp : Ev → Rs (Dt × (Dt → Ev))} : seqS (appS Fp Fe) rest ρ = bindS (Fp ρ) ρ fun x => bindS (lstOf x.1) ρ fun _ => bindS (Fe ρ) ρ fun y => appR rest y x := by
  refine bindS_seq.trans ?_
  congr 1
  funext x
  obtain ⟨a, p⟩ := x
  cases a with
  | lst ds =>
    show (match bindS (Fe ρ) ρ (fun y => if lenSz ds.length = true then Ot.nx (p (.lst (ds ++ [y]))) else .no) with
      | .nx ρ1 => rest ρ1
      | o => o) = _
    rw [bindS_seq]
    show _ = bindS (Fe ρ) ρ fun y => appR rest y (.lst ds, p)
    congr 1
    funext y
    show _ = if lenSz ds.length = true then rest (p (.lst (ds ++ [y]))) else .no
    cases lenSz ds.length <;> rfl
  | _ => rfl
theorem v_lstOf {ds : List Dt} : lstOf (.lst ds) = .ok ds := rfl
theorem v_appR {ds : List Dt} {p : Dt → Ev} {y : Dt} (h : lenSz ds.length = true) : appR rest y (.lst ds, p) = rest (p (.lst (ds ++ [y]))) := if_pos h
theorem v_varP0 : varP 0 (some d :: ρ) = .ok (d, fun x => some x :: ρ) := rfl
theorem v_varPS {y : Option Dt} : varP (i + 1) (y :: ρ) = (varP i ρ >>= fun p => .ok (p.1, fun x => y :: p.2 x)) := by
  unfold varP
  rw [List.getElem?_cons_succ]
  cases ρ[i]? with
  | none => rfl
  | some o => cases o <;> rfl
def setR (rest : Ev → Ot) (y : Dt) (x : Dt × (Dt → Ev)) (k : Dt) : Ot := match x.1, k with
  | .lst ds, .int i => (match ixN ds.length i with
    | some j => rest (x.2 (.lst (ds.set j y)))
    | none => .no)
  | _, _ => .no
theorem v_set {Fp : Ev → Rs (Dt × (Dt → Ev))} : seqS (setS Fe Fp Fa) rest ρ = bindS (Fe ρ) ρ fun y => bindS (Fp ρ) ρ fun x => bindS (Fa ρ) ρ fun k => setR rest y x k := by
  refine bindS_seq.trans ?_
  congr 1
  funext y
  rw [bindS_seq]
  congr 1
  funext x
  rw [bindS_seq]
  congr 1
  funext k
  obtain ⟨a, p⟩ := x
  cases a with
  | lst ds =>
    cases k with
    | int n =>
      show _ = (match ixN ds.length n with
        | some j => rest (p (.lst (ds.set j y)))
        | none => .no)
      show (match (match ixN ds.length n with
        | some j => Ot.nx (p (.lst (ds.set j y)))
        | none => .no) with
        | .nx ρ1 => rest ρ1
        | o => o) = _
      cases ixN ds.length n <;> rfl
    | _ => rfl
  | _ => cases k <;> rfl
theorem v_setR {ds : List Dt} {p : Dt → Ev} {y : Dt} {k : Nat} (h : k < ds.length) : setR rest y (.lst ds, p) (.int (k : Int)) = rest (p (.lst (ds.set k y))) := by
  have e : ixN ds.length (k : Int) = some k := by
    unfold ixN
    first | simp; omega | simp [h]
  show (match ixN ds.length (k : Int) with
    | some j => rest (p (.lst (ds.set j y)))
    | none => .no) = _
  rw [e]
/-! loops -/
def forR (FG : Dt → Ev → Option Ev) (Fb rest : Ev → Ot) (ds : List Dt) (ρ : Ev) : Ot := match forL FG Fb ds ρ with
  | .nx ρ1 => rest ρ1
  | o => o
theorem v_for : seqS (forS Fi FG F1) rest ρ = bindS (Fi ρ) ρ fun ds => forR FG F1 rest ds ρ := bindS_seq
def LoopP (Post : Ot → Prop) (rest : Ev → Ot) (I : Ev → Prop) (o : Ot) : Prop := match o with
  | .nx ρ2 => I ρ2
  | .ct ρ2 => I ρ2
  | .bk ρ2 => Post (rest ρ2)
  | .no => False
  | o => Post o
theorem forR_cons {ds : List Dt} {ρ1 : Ev} (h1 : FG d ρ = some ρ1) : forR FG F1 rest (d :: ds) ρ = (match F1 ρ1 with
  | .nx r => forR FG F1 rest ds r
  | .ct r => forR FG F1 rest ds r
  | .bk r => rest r
  | o => o) := by
  unfold forR
  simp only [forL, h1]
  cases F1 ρ1 <;> rfl
theorem wp_for {ds : List Dt} (I : Nat → Ev → Prop) (h0 : I 0 ρ) (hs : ∀ n d ρ, ds[n]? = some d → I n ρ → ∃ ρ1, FG d ρ = some ρ1 ∧ LoopP Post rest (I (n + 1)) (F1 ρ1)) (hk : ∀ ρ', I ds.length ρ' → Post (rest ρ')) : Post (forR FG F1 rest ds ρ) := by
  have main : ∀ (es : List Dt) (n : Nat) (ρ : Ev), ds.drop n = es → n ≤ ds.length → I n ρ → Post (forR FG F1 rest es ρ) := by
    intro es
    induction es with
    | nil =>
      intro n ρ hd hn hI
      have : n = ds.length := by
        have := congrArg List.length hd
        rw [List.length_drop] at this
        simp at this
        omega
      subst this
      exact hk ρ hI
    | cons e es ih =>
      intro n ρ hd hn hI
      have hlt : n < ds.length := by
        have := congrArg List.length hd
        rw [List.length_drop] at this
        simp at this
        omega
      have hd2 := List.drop_eq_getElem_cons hlt
      rw [hd] at hd2
      have he : ds[n]? = some e := by
        rw [List.getElem?_eq_getElem hlt]
        exact congrArg some (List.cons.inj hd2).1.symm
      obtain ⟨ρ1, h1, h2⟩ := hs n e ρ he hI
      have nxt := fun ρ2 (q : I (n + 1) ρ2) => ih (n + 1) ρ2 (List.cons.inj hd2).2.symm hlt q
      rw [forR_cons h1]
      cases q : F1 ρ1 with
      | nx r => rw [q] at h2; exact nxt r h2
      | ct r => rw [q] at h2; exact nxt r h2
      | bk r => rw [q] at h2; exact h2
      | rt r => rw [q] at h2; exact h2
      | ex c r => rw [q] at h2; exact h2
      | no => rw [q] at h2; exact h2.elim
  exact main ds 0 ρ rfl (Nat.zero_le _) h0
theorem bindS_ex {α : Type} {c : Xn} {k : α → Ot} : bindS (.ex c) ρ k = .ex c ρ := rfl
theorem v_outR {m : Mode} : outF m (.rt d) = .ok d := rfl
theorem v_outX {m : Mode} {c : Xn} : outF m (.ex c ρ) = .ex c := rfl
theorem v_outN : outF .F (.nx ρ) = .ok .non := rfl
end
theorem v_eqS {a b : Str} (ha : eqOK (.str a) = true) (hb : eqOK (.str b) = true) : eqD (.str a) (.str b) = .ok (.bl (decide (a = b))) := by
  unfold eqD
  rw [ha, hb]
  rfl
theorem v_neS {a b : Str} (ha : eqOK (.str a) = true) (hb : eqOK (.str b) = true) : neD (.str a) (.str b) = .ok (.bl (!decide (a = b))) := by
  unfold neD
  rw [ha, hb]
  rfl
theorem v_isI {a : Int} : isiD .int (.int a) = .ok (.bl true) := rfl
theorem v_isIB {a : Int} : isiD .bool (.int a) = .ok (.bl false) := rfl
section
variable {ρ : Ev} {d : Dt} {Fa Fb : Ev → Rs Dt}
theorem v_divmod : divmodE Fa Fb ρ = (Fa ρ >>= fun a => Fb ρ >>= fun b => dvmD a b) := rfl
theorem dvmOk_of {b : Int} (h : 0 < b) (h2 : b < 1073741824) : dvmOk b = true := by
  unfold dvmOk
  rw [decide_eq_true h, decide_eq_true h2]
  rfl
theorem v_dvm {i j : Int} (h : dvmOk j = true) : dvmD (.int i) (.int j) = .ok (.tup [.int (i / j), .int (i % j)]) := if_pos h
theorem v_tupRev : tupRevE Fa ρ = (Fa ρ >>= trevD) := rfl
theorem v_trev {ds : List Dt} : trevD (.lst ds) = .ok (.tup ds.reverse) := rfl
theorem v_lrev : lrevE Fa ρ = (Fa ρ >>= lrevD) := rfl
theorem v_lrevL {ds : List Dt} : lrevD (.lst ds) = .ok (.lst ds.reverse) := rfl
theorem v_dnew : dnewE ρ = .ok (.dic [] []) := rfl
theorem v_dnewT : dnewTE ρ = .ok (.dit [] []) := rfl
theorem v_din {neg : Bool} : dinE neg Fa Fb ρ = (Fa ρ >>= fun k => Fb ρ >>= fun d => dgetD d k >>= fun o => .ok (.bl (if neg = true then !o.isSome else o.isSome))) := rfl
theorem v_dget : dgetE Fa Fb ρ = (Fa ρ >>= fun d => Fb ρ >>= fun k => dgetD d k >>= fun o => match o with | some e => .ok e | none => .no) := rfl
theorem v_scalE : scalE Fa ρ = (Fa ρ >>= fun d => if scal d = true then .ok d else .no) := rfl
theorem v_dlen : dlenE Fa ρ = (Fa ρ >>= dlenD) := rfl
theorem v_dlenT : dlenTE Fa ρ = (Fa ρ >>= dlenTD) := rfl
theorem v_dlenD {ks : List Key} {ds : List Dt} : dlenD (.dic ks ds) = .ok (.int ks.length) := rfl
theorem v_dlenTD {ks : List (List Key)} {ds : List Dt} : dlenTD (.dit ks ds) = .ok (.int ks.length) := rfl
theorem v_dgetI {ks : List Key} {ds : List Dt} {i : Int} : dgetD (.dic ks ds) (.int i) = .ok (lookK ks ds (.inl i)) := rfl
theorem v_dgetS {ks : List Key} {ds : List Dt} {x : Str} : dgetD (.dic ks ds) (.str x) = .ok (lookK ks ds (.inr x)) := rfl
def dputR (rest : Ev → Ot) (y : Dt) (x : Dt × (Dt → Ev)) (k : Dt) : Ot := match dputD x.1 k y with
  | some d => rest (x.2 d)
  | none => .no
theorem v_dput {Fp : Ev → Rs (Dt × (Dt → Ev))} {Fk : Ev → Rs Dt} {rest : Ev → Ot} : seqS (dputS Fa Fp Fk) rest ρ = bindS (Fa ρ) ρ fun y => bindS (Fp ρ) ρ fun x => bindS (Fk ρ) ρ fun k => dputR rest y x k := by
  refine bindS_seq.trans ?_
  congr 1
  funext y
  rw [bindS_seq]
  congr 1
  funext x
  rw [bindS_seq]
  congr 1
  funext k
  unfold dputR
  cases dputD x.1 k y <;> rfl
theorem v_dputI {rest : Ev → Ot} {ks : List Key} {ds : List Dt} {p : Dt → Ev} {y : Dt} {i : Int} (h : lenSz ks.length = true) : dputR rest y (.dic ks ds, p) (.int i) = rest (p (.dic (putKs ks (.inl i)) (putDs ks ds (.inl i) y))) := by
  unfold dputR dputD
  simp only [keyD, h, if_true]
end
end Pm
namespace Pm
open PySem PySem.Spec L2
/-! ### reckoning, with conditions that omega shows -/
section
variable {ρ : Ev} {d a b c : Dt} {i j : Nat} {Fa Fb Fc Fe : Ev → Rs Dt} {Fs : List (Ev → Rs Dt)} {Ft Fu : Ev → Rs Bool} {F1 F2 F3 rest : Ev → Ot} {Post : Ot → Prop} {FG : Dt → Ev → Option Ev} {Fi : Ev → Rs (List Dt)} {ds es : List Dt} {vs : List Nat}
theorem v_fgt : fgtS vs F1 ρ = F1 (wipeE ρ vs) := rfl
def optR {α : Type} (o : Option α) : Rs α := match o with
  | some x => .ok x
  | none => .no
theorem x_optS {α : Type} {x : α} : optR (some x) = .ok x := rfl
theorem atI_natO {α : Type} {xs : List α} {k : Nat} : atI xs (k : Int) = xs[k]? := by
  cases h : xs[k]? with
  | some x => exact atI_nat h
  | none =>
    have hk : xs.length ≤ k := List.getElem?_eq_none_iff.mp h
    have e : ixN xs.length (k : Int) = none := by
      unfold ixN
      first | simp; omega | simp [hk]
    unfold atI
    rw [e]
    rfl
theorem atI_intO {α : Type} {xs : List α} {k : Int} (h : 0 ≤ k) : atI xs k = xs[k.toNat]? := by
  have := atI_natO (xs := xs) (k := k.toNat)
  rwa [Int.toNat_of_nonneg h] at this
theorem atI_last {α : Type} {xs : List α} : atI xs (-1) = xs.getLast? := by
  have e : ixN xs.length (-1) = if xs.length = 0 then none else some (xs.length - 1) := by
    unfold ixN
    by_cases h : xs.length = 0
    · rw [if_pos h]
      first | simp [h] | simp; omega
    · rw [if_neg h]
      first | simp; omega | simp [h]
  unfold atI
  rw [e]
  by_cases h : xs.length = 0
  · rw [if_pos h]
    have : xs = [] := List.eq_nil_of_length_eq_zero h
    subst this
    rfl
  · rw [if_neg h, List.getLast?_eq_getElem?]
    rfl
theorem x_ixL : ixD (.lst ds) (.int k) = optR (atI ds k) := by
  show (match atI ds k with | some d => (Rs.ok d : Rs Dt) | none => .no) = _
  cases atI ds k <;> rfl
theorem x_ixT {k : Int} : ixD (.tup ds) (.int k) = optR (atI ds k) := by
  show (match atI ds k with | some d => (Rs.ok d : Rs Dt) | none => .no) = _
  cases atI ds k <;> rfl
theorem x_ixC {k : Int} : ixD (.scr ds) (.int k) = optR (atI ds k) := by
  show (match atI ds k with | some d => (Rs.ok d : Rs Dt) | none => .no) = _
  cases atI ds k <;> rfl
theorem x_ixLn {k : Nat} : ixD (.lst ds) (.int (k : Nat)) = optR ds[k]? := by rw [x_ixL, atI_natO]
theorem x_ixTn {k : Nat} : ixD (.tup ds) (.int (k : Nat)) = optR ds[k]? := by rw [x_ixT, atI_natO]
theorem x_ixCn {k : Nat} : ixD (.scr ds) (.int (k : Nat)) = optR ds[k]? := by rw [x_ixC, atI_natO]
theorem x_ixLm : ixD (.lst ds) (.int (-1)) = optR ds.getLast? := by rw [x_ixL, atI_last]
theorem x_ixTm : ixD (.tup ds) (.int (-1)) = optR ds.getLast? := by rw [x_ixT, atI_last]
theorem x_ixLi {k : Int} (h : 0 ≤ k) : ixD (.lst ds) (.int k) = optR ds[k.toNat]? := by rw [x_ixL, atI_intO h]
theorem x_ixTi {k : Int} (h : 0 ≤ k) : ixD (.tup ds) (.int k) = optR ds[k.toNat]? := by rw [x_ixT, atI_intO h]
theorem x_ixCi {k : Int} (h : 0 ≤ k) : ixD (.scr ds) (.int k) = optR ds[k.toNat]? := by rw [x_ixC, atI_intO h]
theorem x_t0 : ixD (.tup (a :: ds)) (.int 0) = .ok a := v_ixT (atI_nat (k := 0) rfl)
theorem x_t1 : ixD (.tup (a :: b :: ds)) (.int 1) = .ok b := v_ixT (atI_nat (k := 1) rfl)
theorem x_t2 : ixD (.tup (a :: b :: c :: ds)) (.int 2) = .ok c := v_ixT (atI_nat (k := 2) rfl)
theorem x_t3 : ixD (.tup (a :: b :: c :: d :: ds)) (.int 3) = .ok d := v_ixT (atI_nat (k := 3) rfl)
theorem x_l0 : ixD (.lst (a :: ds)) (.int 0) = .ok a := v_ixL (atI_nat (k := 0) rfl)
theorem x_mulA {x y : Int} (h1 : -9000000000000000000 ≤ x) (h2 : x ≤ 9000000000000000000) : mulI x y = .ok (.int (x * y)) := v_mulL (smallI_of h1 h2)
theorem x_mulB {x y : Int} (h1 : -9000000000000000000 ≤ y) (h2 : y ≤ 9000000000000000000) : mulI x y = .ok (.int (x * y)) := v_mulR (smallI_of h1 h2)
theorem x_divA {x y : Int} (h1 : 0 < y) (h2 : y < 1000000000000000000000000000000000000000000000000000000000000) : divI x y = .ok (.int (x / y)) := v_divI (divOk_of h1 h2)
theorem x_dvmA {x y : Int} (h1 : 0 < y) (h2 : y < 1073741824) : dvmD (.int x) (.int y) = .ok (.tup [.int (x / y), .int (x % y)]) := v_dvm (dvmOk_of h1 h2)
theorem x_modA {x y : Int} (h1 : 0 < y) : modI x y = .ok (.int (x % y)) := v_modI h1
theorem x_appA {p : Dt → Ev} {y : Dt} (h : ds.length ≤ 1000000) : appR rest y (.lst ds, p) = rest (p (.lst (ds ++ [y]))) := v_appR (lenSz_of h)
theorem x_setA {p : Dt → Ev} {y : Dt} {k : Nat} (h : k < ds.length) : setR rest y (.lst ds, p) (.int (k : Nat)) = rest (p (.lst (ds.set k y))) := v_setR h
theorem x_rngA1 {x : Int} (h : -1000000000 ≤ x) (h2 : x ≤ 1000000000) : rngD [.int x] = .ok (rangeL 0 x.toNat) := v_rngD1 (intSz_of h h2)
theorem x_rngA2 {x y : Int} (h : -1000000000 ≤ x) (h2 : x ≤ 1000000000) (h3 : -1000000000 ≤ y) (h4 : y ≤ 1000000000) : rngD [.int x, .int y] = .ok (rangeL x (y - x).toNat) := v_rngD2 (by rw [intSz_of h h2, intSz_of h3 h4]; rfl)
theorem x_plusA (h : ds.length + es.length ≤ 1000000) : plusD (.lst ds) (.lst es) = .ok (.lst (ds ++ es)) := v_plusL (lenSz_of h)
theorem x_plusT (h : ds.length + es.length ≤ 1000000) : plusD (.tup ds) (.tup es) = .ok (.tup (ds ++ es)) := v_plusT (lenSz_of h)
theorem x_catA (h : ds.length + es.length ≤ 1000000) : catD (.lst ds) (.lst es) = .ok (.lst (ds ++ es)) := v_catL (lenSz_of h)
section
variable {ρ : Ev} {d : Dt} {i j : Nat} {m : Mode} {Fa Fb Fe : Ev → Rs Dt} {Fs : List (Ev → Rs Dt)} {rest : Ev → Ot} {Fn : List Dt → Rs Dt} {Fp : Ev → Rs (Dt × (Dt → Ev))} {ds : List Dt}
theorem v_ltT : ltTE Fa Fb ρ = (Fa ρ >>= fun a => Fb ρ >>= fun b => tupLtD a b) := rfl
theorem v_gtT : gtTE Fa Fb ρ = (Fa ρ >>= fun a => Fb ρ >>= fun b => tupLtD b a) := rfl
theorem v_sortN : sortNE Fa ρ = (Fa ρ >>= sortND) := rfl
theorem v_sortI : sortIE Fa ρ = (Fa ρ >>= sortID) := rfl
theorem v_sortP : sortPE Fa ρ = (Fa ρ >>= sortPD) := rfl
theorem v_int1 : intE Fa ρ = (Fa ρ >>= intD) := rfl
theorem v_intI {a : Int} : intD (.int a) = .ok (.int a) := rfl
theorem v_intB {b : Bool} : intD (.bl b) = .ok (.int (if b = true then 1 else 0)) := rfl
theorem v_bm1 {g : List Dt → Dt → Rs Dt} : bm1E g Fa Fb ρ = (Fa ρ >>= fun a => lstOf a >>= fun ds => Fb ρ >>= fun b => g ds b) := rfl
theorem v_index : indexE Fa Fb ρ = (Fa ρ >>= fun a => lstOf a >>= fun ds => Fb ρ >>= fun b => indexD ds b) := rfl
theorem v_count : countE Fa Fb ρ = (Fa ρ >>= fun a => lstOf a >>= fun ds => Fb ρ >>= fun b => countD ds b) := rfl
theorem v_isCE {C : Str} : isCE C Fa ρ = (Fa ρ >>= isCD C) := rfl
theorem v_isBE {c : Bool} : isBE c Fa ρ = (Fa ρ >>= isBD c) := rfl
theorem v_isxT {tabs : List (List (Str × Bool))} {c : Str} : isxTE tabs c ρ = (match tabs.mapM fun t => t.lookup c with
  | some bs => .ok (.bl (bs.any id))
  | none => .no) := rfl
/-! try .. except X as n -/
def clrR (i : Nat) (rest : Ev → Ot) (o : Ot) : Ot := match o with
  | .nx ρ => rest (ρ.set i none)
  | .bk ρ => .bk (ρ.set i none)
  | .ct ρ => .ct (ρ.set i none)
  | .rt d => .rt d
  | _ => .no
def tryAR (i : Nat) (subs : List (Str × Bool)) (Fh : Str → Ev → Ot) (rest : Ev → Ot) (o : Ot) : Ot := match o with
  | .ex c ρ' => (match subs.lookup c.1 with
    | some true => (match c.2 with
      | none => clrR i rest (Fh c.1 (ρ'.set i none))
      | some _ => .no)
    | some false => .ex c ρ'
    | none => .no)
  | .nx ρ' => rest ρ'
  | o => o
theorem v_tryA {i : Nat} {subs : List (Str × Bool)} {Fb : Ev → Ot} {Fh : Str → Ev → Ot} : seqS (tryA i subs Fb Fh) rest ρ = tryAR i subs Fh rest (Fb ρ) := by
  show (match tryA i subs Fb Fh ρ with
    | .nx ρ1 => rest ρ1
    | o => o) = _
  unfold tryA tryAR
  cases Fb ρ with
  | ex c r =>
    obtain ⟨c1, c2⟩ := c
    dsimp only
    cases subs.lookup c1 with
    | none => rfl
    | some b =>
      cases b with
      | false => rfl
      | true =>
        cases c2 with
        | some _ => rfl
        | none =>
          dsimp only
          cases Fh c1 (r.set i none) <;> rfl
  | _ => rfl
theorem v_tryAN {i : Nat} {subs : List (Str × Bool)} {Fh : Str → Ev → Ot} : tryAR i subs Fh rest (.nx ρ) = rest ρ := rfl
theorem v_tryART {i : Nat} {subs : List (Str × Bool)} {Fh : Str → Ev → Ot} : tryAR i subs Fh rest (.rt d) = .rt d := rfl
theorem x_tryA {i : Nat} {subs : List (Str × Bool)} {Fh : Str → Ev → Ot} {c : Str} (h : subs.lookup c = some true) : tryAR i subs Fh rest (.ex (c, none) ρ) = clrR i rest (Fh c (ρ.set i none)) := by
  unfold tryAR
  simp only [h]
theorem v_clrN {i : Nat} : clrR i rest (.nx ρ) = rest (ρ.set i none) := rfl
theorem v_clrRt {i : Nat} : clrR i rest (.rt d) = .rt d := rfl
theorem isx_of {tab : List (Str × Bool)} {c : Str} {b : Bool} (h : tab.lookup c = some b) : isxE tab c ρ = .ok (.bl b) := by
  unfold isxE
  rw [h]
theorem isxT_of {tabs : List (List (Str × Bool))} {c : Str} {bs : List Bool} (h : (tabs.mapM fun t => t.lookup c) = some bs) : isxTE tabs c ρ = .ok (.bl (bs.any id)) := by
  rw [v_isxT, h]
def noXR (rest : Ev → Ot) (o : Ot) : Ot := match noX o with
  | .nx ρ1 => rest ρ1
  | o => o
theorem x_tryT {subs : List (Str × Bool)} {Fh : Ev → Ot} {c : Str} (h : subs.lookup c = some true) : tryR subs Fh rest (.ex (c, none) ρ) = noXR rest (Fh ρ) := v_tryT h
theorem x_tryF {subs : List (Str × Bool)} {Fh : Ev → Ot} {c : Str} (h : subs.lookup c = some false) : tryR subs Fh rest (.ex (c, none) ρ) = .ex (c, none) ρ := v_tryF h
theorem v_noXN : noXR rest (.nx ρ) = rest ρ := rfl
theorem v_noXRt : noXR rest (.rt d) = .rt d := rfl
theorem v_fgtSeq : seqS (fgtS vs F1) rest ρ = seqS F1 rest (wipeE ρ vs) := rfl
theorem v_inDt : inDE Fa Fb ρ = (Fa ρ >>= fun a => Fb ρ >>= fun b => inDD a b) := rfl
theorem v_callL : callLE m Fn Fs ρ = (argsE Fs ρ >>= fun ds => leafR m (Fn ds)) := rfl
theorem v_methL {C mm : Str} : methLE m C mm Fn Fa Fs ρ = (Fa ρ >>= fun s => noMeth C mm s >>= fun _ => argsE Fs ρ >>= fun ds => leafR m (Fn (s :: ds))) := rfl
theorem v_leafR : leafR m (.ok d) = if leafOk m d = true then .ok d else .no := rfl
theorem v_pop : seqS (popS Fp Fe) rest ρ = bindS (Fp ρ) ρ fun x => bindS (lstOf x.1) ρ fun ds => bindS (Fe ρ) ρ fun k => bindS (popD ds k) ρ fun y => rest (x.2 (.lst y.2)) := by
  refine bindS_seq.trans ?_
  congr 1; funext x
  rw [bindS_seq]
  congr 1; funext ds
  rw [bindS_seq]
  congr 1; funext k
  rw [bindS_seq]
theorem v_asgPop : seqS (asgPopS i Fp Fe) rest ρ = bindS (Fp ρ) ρ fun x => bindS (lstOf x.1) ρ fun ds => bindS (Fe ρ) ρ fun k => bindS (popD ds k) ρ fun y => rest ((x.2 (.lst y.2)).set i (some y.1)) := by
  refine bindS_seq.trans ?_
  congr 1; funext x
  rw [bindS_seq]
  congr 1; funext ds
  rw [bindS_seq]
  congr 1; funext k
  rw [bindS_seq]
def appPopR (rest : Ev → Ot) (b : Bool) (ρ1 : Ev) : Ot := if b = true then rest ρ1 else .no
theorem v_appPop : seqS (appPopS Fp j Fe) rest ρ = bindS (Fp ρ) ρ fun x => bindS (lstOf x.1) ρ fun ds => bindS (varE j ρ) ρ fun q => bindS (lstOf q) ρ fun xs => bindS (Fe ρ) ρ fun k => bindS (popD xs k) ρ fun y =>
  bindS (varE j (x.2 (.lst (ds ++ [y.1])))) ρ fun q2 => bindS (lstOf q2) ρ fun xs2 => bindS (popD xs2 k) ρ fun y2 => appPopR rest (lenSz ds.length && decide (xs2.length = xs.length)) ((x.2 (.lst (ds ++ [y.1]))).set j (some (.lst y2.2))) := by
  refine bindS_seq.trans ?_
  congr 1; funext x
  rw [bindS_seq]
  congr 1; funext ds
  rw [bindS_seq]
  congr 1; funext q
  rw [bindS_seq]
  congr 1; funext xs
  rw [bindS_seq]
  congr 1; funext k
  rw [bindS_seq]
  congr 1; funext y
  rw [bindS_seq]
  congr 1; funext q2
  rw [bindS_seq]
  congr 1; funext xs2
  rw [bindS_seq]
  congr 1; funext y2
  unfold appPopR
  cases lenSz ds.length && decide (xs2.length = xs.length) <;> rfl
theorem x_appPop {n : Nat} {ρ1 : Ev} (h : n ≤ 1000000) : appPopR rest (lenSz n && true) ρ1 = rest ρ1 := by
  unfold appPopR
  rw [lenSz_of h]
  rfl
theorem x_appPop2 {n : Nat} {ρ1 : Ev} (h : n ≤ 1000000) : appPopR rest (lenSz n) ρ1 = rest ρ1 := by
  unfold appPopR
  rw [lenSz_of h]
  rfl
theorem x_pop {k : Int} {y : Dt} (h0 : 0 ≤ k) (h1 : k ≤ 1000000000) (h : ds[k.toNat]? = some y) : popD ds (.int k) = .ok (y, ds.eraseIdx k.toNat) := by
  have hk := (List.getElem?_eq_some_iff.mp h).1
  have e : ixN ds.length k = some k.toNat := by
    unfold ixN
    rw [if_pos h0, if_pos (by omega)]
  show (match ixN ds.length k with
    | some j => (match ds[j]? with
      | some y => if intSz k = true then Rs.ok (y, ds.eraseIdx j) else .no
      | none => .no)
    | none => .no) = _
  rw [e]
  simp only [h]
  rw [if_pos (intSz_of (by omega) h1)]
theorem x_pop_map {α : Type} {g : α → Dt} {xs : List α} {k : Int} {y : α} (h0 : 0 ≤ k) (h1 : k ≤ 1000000000) (h : xs[k.toNat]? = some y) : popD (xs.map g) (.int k) = .ok (g y, (xs.eraseIdx k.toNat).map g) := by
  have e : ∀ (xs : List α) (k : Nat), (xs.map g).eraseIdx k = (xs.eraseIdx k).map g := fun xs => by
    induction xs with
    | nil => intro k; simp
    | cons x xs ih =>
      intro k
      cases k with
      | zero => simp
      | succ k => simp [ih]
  rw [x_pop h0 h1 (at_map h), e]
end
section
variable {ρ : Ev} {Fa : Ev → Rs Dt}
def lrngD (d : Dt) : Rs Dt := match d with
  | .int j => if intSz j = true then (if lenSz j.toNat = true then .ok (.lst (rangeL 0 j.toNat)) else .no) else .no
  | _ => .no
theorem v_lrng1 : lrng1E Fa ρ = (Fa ρ >>= lrngD) := rfl
theorem x_lrng {j : Int} (h : -1000000 ≤ j) (h2 : j ≤ 1000000) : lrngD (.int j) = .ok (.lst (rangeL 0 j.toNat)) := (if_pos (intSz_of (by omega) (by omega))).trans (if_pos (lenSz_of (by omega)))
end
/-! ### places -/
section
variable {ρ : Ev} {d e : Dt} {i j k : Nat} {Fi : Ev → Rs Dt} {Fp : Ev → Rs (Dt × (Dt → Ev))} {ds es : List Dt} {put : Dt → Ev} {C f : Str}
def ixPR (x : Dt × (Dt → Ev)) (k : Dt) : Rs (Dt × (Dt → Ev)) := match x.1, k with
  | .lst ds, .int i => (match ixN ds.length i with
    | some j => (match ds[j]? with
      | some e => .ok (e, fun y => x.2 (.lst (ds.set j y)))
      | none => .no)
    | none => .no)
  | _, _ => .no
theorem v_ixP : ixP Fp Fi ρ = (Fp ρ >>= fun x => Fi ρ >>= fun k => ixPR x k) := rfl
theorem x_ixPl : ixPR (.lst (es ++ [e]), put) (.int (-1)) = .ok (e, fun y => put (.lst (es ++ [y]))) := by
  have e1 : ixN (es ++ [e]).length (-1) = some es.length := by
    unfold ixN
    rw [if_neg (by decide), if_pos (by rw [List.length_append, List.length_singleton]; omega), List.length_append, List.length_singleton]
    congr 1
    omega
  show (match ixN (es ++ [e]).length (-1) with
    | some j => (match (es ++ [e])[j]? with
      | some e' => Rs.ok (e', fun y => put (.lst ((es ++ [e]).set j y)))
      | none => .no)
    | none => .no) = _
  rw [e1]
  simp
def tixR (j : Nat) (x : Dt × (Dt → Ev)) : Rs (Dt × (Dt → Ev)) := match x.1 with
  | .tup ds => (match ds[j]? with
    | some e => .ok (e, fun y => x.2 (.tup (ds.set j y)))
    | none => .no)
  | _ => .no
theorem v_tixP : tixP j Fp ρ = (Fp ρ >>= tixR j) := rfl
theorem x_tix0 {a b : Dt} : tixR 0 (.tup [a, b], put) = .ok (a, fun y => put (.tup [y, b])) := rfl
theorem x_tix1 {a b : Dt} : tixR 1 (.tup [a, b], put) = .ok (b, fun y => put (.tup [a, y])) := rfl
def fldPR (C f : Str) (j : Nat) (x : Dt × (Dt → Ev)) : Rs (Dt × (Dt → Ev)) := match x.1 with
  | .ins C' ns ds => if C' = C ∧ fix f ns = some j then (match ds[j]? with
    | some e => .ok (e, fun y => x.2 (.ins C' ns (ds.set j y)))
    | none => .no) else .no
  | _ => .no
theorem v_fldP : fldP C f j Fp ρ = (Fp ρ >>= fldPR C f j) := rfl
theorem x_fldP {ns : List Str} (hf : fix f ns = some j) (hd : ds[j]? = some d) : fldPR C f j (.ins C ns ds, put) = .ok (d, fun y => put (.ins C ns (ds.set j y))) := by
  show (if C = C ∧ fix f ns = some j then (match ds[j]? with
    | some e => Rs.ok (e, fun y => put (.ins C ns (ds.set j y)))
    | none => .no) else .no) = _
  rw [if_pos ⟨rfl, hf⟩]
  simp only [hd]
end
/-! ### more changes of lists -/
section
variable {ρ : Ev} {d e : Dt} {Fe : Ev → Rs Dt} {Fs : List (Ev → Rs Dt)} {rest : Ev → Ot} {Fp : Ev → Rs (Dt × (Dt → Ev))} {ds es : List Dt} {put : Dt → Ev} {f : List Dt → List Dt}
def chgR (rest : Ev → Ot) (put : Dt → Ev) (o : Option (List Dt)) : Ot := match o with
  | some es => rest (put (.lst es))
  | none => .no
theorem v_ext : seqS (extS Fp Fe) rest ρ = bindS (Fp ρ) ρ fun x => bindS (lstOf x.1) ρ fun ds => bindS (Fe ρ) ρ fun e => chgR rest x.2 (extD ds e) := by
  refine bindS_seq.trans ?_
  congr 1; funext x
  obtain ⟨a, p⟩ := x
  cases a with
  | lst ds =>
    refine bindS_seq.trans ?_
    show _ = bindS (Fe ρ) ρ fun e => chgR rest p (extD ds e)
    congr 1; funext e
    unfold chgR
    cases extD ds e <;> rfl
  | _ => rfl
theorem x_ext (h : ds.length + es.length ≤ 1000000) : chgR rest put (extD ds (.lst es)) = rest (put (.lst (ds ++ es))) := by
  show chgR rest put (if lenSz (ds.length + es.length) = true then some (ds ++ es) else none) = _
  rw [if_pos (lenSz_of h)]
  rfl
theorem v_ins : seqS (insS Fp Fs) rest ρ = bindS (Fp ρ) ρ fun x => bindS (lstOf x.1) ρ fun ds => bindS (argsE Fs ρ) ρ fun as => chgR rest x.2 (insD ds as) := by
  refine bindS_seq.trans ?_
  congr 1; funext x
  obtain ⟨a, p⟩ := x
  cases a with
  | lst ds =>
    refine bindS_seq.trans ?_
    show _ = bindS (argsE Fs ρ) ρ fun as => chgR rest p (insD ds as)
    congr 1; funext e
    unfold chgR
    cases insD ds e <;> rfl
  | _ => rfl
theorem x_ins {i : Int} (h : ds.length ≤ 1000000) (h0 : 0 ≤ i) (h1 : i ≤ 1000000000) : chgR rest put (insD ds [.int i, e]) = rest (put (.lst (ds.take i.toNat ++ [e] ++ ds.drop i.toNat))) := by
  show chgR rest put (if (lenSz ds.length && (decide (0 ≤ i) && intSz i)) = true then some (ds.take i.toNat ++ [e] ++ ds.drop i.toNat) else none) = _
  rw [if_pos (by rw [lenSz_of h, decide_eq_true h0, intSz_of (by omega) h1]; rfl)]
  rfl
theorem v_chg0 : seqS (chg0S f Fp) rest ρ = bindS (Fp ρ) ρ fun x => bindS (lstOf x.1) ρ fun ds => rest (x.2 (.lst (f ds))) := by
  refine bindS_seq.trans ?_
  congr 1; funext x
  obtain ⟨a, p⟩ := x
  cases a <;> rfl
end
/-! ### fields -/
theorem fldID_of {C f : Str} {j : Nat} {ns : List Str} {ds : List Dt} {d : Dt} (hf : fix f ns = some j) (hd : ds[j]? = some d) : fldID C f j (.ins C ns ds) = .ok d := by
  show (if C = C then (if fix f ns = some j then (match ds[j]? with | some e => Rs.ok e | none => .no) else .no) else .no) = _
  rw [if_pos rfl, if_pos hf]
  simp only [hd]
theorem fldD_of {C f : Str} {j : Nat} {ns : List Str} {ds : List Dt} {d : Dt} (hf : fix f ns = some j) (hd : ds[j]? = some d) : fldD C f (.ins C ns ds) = .ok d := by
  show (if C = C then (match fix f ns with
      | some j => (match ds[j]? with | some e => Rs.ok e | none => .no)
      | none => .no) else .no) = _
  rw [if_pos rfl, hf]
  simp only [hd]
theorem noMeth_of {C m : Str} {ns : List Str} {ds : List Dt} (hf : fix m ns = none) : noMeth C m (.ins C ns ds) = .ok (.ins C ns ds) := if_pos ⟨rfl, hf⟩
theorem x_nnN : isNonD .non = true := rfl
theorem x_nnT {ds : List Dt} : isNonD (.tup ds) = false := rfl
theorem x_nnL {ds : List Dt} : isNonD (.lst ds) = false := rfl
theorem x_nnI {i : Int} : isNonD (.int i) = false := rfl
theorem x_nnS {s : Str} : isNonD (.str s) = false := rfl
theorem x_nnB {b : Bool} : isNonD (.bl b) = false := rfl
theorem x_tyT {ds : List Dt} : isiD .tuple (.tup ds) = .ok (.bl true) := rfl
theorem x_tyTL {ds : List Dt} : isiD .tuple (.lst ds) = .ok (.bl false) := rfl
theorem x_tyL {ds : List Dt} : isiD .list (.lst ds) = .ok (.bl true) := rfl
theorem x_tyLT {ds : List Dt} : isiD .list (.tup ds) = .ok (.bl false) := rfl
theorem x_tyS {s : Str} : isiD .str (.str s) = .ok (.bl true) := rfl
/-! ### lists without doubles -/
theorem nodup_len {α : Type} [DecidableEq α] : ∀ {s t : List α}, s.Nodup → (∀ x ∈ s, x ∈ t) → s.length ≤ t.length
  | [], _, _, _ => Nat.zero_le _
  | x :: s, t, hn, h => by
    rw [List.nodup_cons] at hn
    have hx := h x List.mem_cons_self
    have p := List.perm_cons_erase hx
    have := nodup_len (s := s) (t := t.erase x) hn.2 fun y hy => by
      have m := p.mem_iff.mp (h y (List.mem_cons_of_mem _ hy))
      rcases List.mem_cons.mp m with e | m
      · exact absurd (e ▸ hy) hn.1
      · exact m
    rw [p.length_eq, List.length_cons, List.length_cons]
    omega
theorem nodup_perm {α : Type} [DecidableEq α] : ∀ {s t : List α}, s.Nodup → (∀ x ∈ s, x ∈ t) → t.length ≤ s.length → s.Perm t
  | [], t, _, _, hl => by
    have : t = [] := List.eq_nil_of_length_eq_zero (by simpa using hl)
    rw [this]
  | x :: s, t, hn, h, hl => by
    rw [List.nodup_cons] at hn
    have hx := h x List.mem_cons_self
    have p := List.perm_cons_erase hx
    have := nodup_perm (s := s) (t := t.erase x) hn.2 (fun y hy => by
      have m := p.mem_iff.mp (h y (List.mem_cons_of_mem _ hy))
      rcases List.mem_cons.mp m with e | m
      · exact absurd (e ▸ hy) hn.1
      · exact m) (by
      have := p.length_eq
      rw [List.length_cons] at this hl
      omega)
    exact (this.cons x).trans p.symm
/-! ### dicts of ints -/
section
variable {α : Type} {kv : List (Int × α)} {f : α → Dt} {x : Int} {a : α} {rest : Ev → Ot} {p : Dt → Ev}
def dicI (kv : List (Int × α)) (f : α → Dt) : Dt := .dic (kv.map fun q => Sum.inl q.1) (kv.map fun q => f q.2)
theorem lookK_kv : ∀ kv : List (Int × α), lookK (kv.map fun q => (Sum.inl q.1 : Key)) (kv.map fun q => f q.2) (.inl x) = (kv.lookup x).map f
  | [] => rfl
  | q :: kv => by
    have ih := lookK_kv kv
    unfold lookK at ih ⊢
    rw [List.map_cons, List.map_cons, List.zip_cons_cons]
    by_cases e : q.1 = x
    · rw [List.find?_cons_of_pos (by simp [e])]
      rw [List.lookup, show (x == q.1) = true by simp [e]]
      rfl
    · rw [List.find?_cons_of_neg (by simp [e]), ih, List.lookup, show (x == q.1) = false by simp; exact fun z => e z.symm]
theorem x_dget : dgetD (dicI kv f) (.int x) = .ok ((kv.lookup x).map f) := by
  show Rs.ok (lookK _ _ (Sum.inl x : Key)) = _
  rw [lookK_kv]
theorem hasK_kv : ∀ kv : List (Int × α), hasK (kv.map fun q => (Sum.inl q.1 : Key)) (.inl x) = (kv.lookup x).isSome
  | [] => rfl
  | q :: kv => by
    have ih := hasK_kv kv
    unfold hasK at ih ⊢
    rw [List.map_cons, List.any_cons, ih, List.lookup]
    by_cases e : q.1 = x
    · rw [show (x == q.1) = true by simp [e]]
      simp [e]
    · rw [show (x == q.1) = false by simp; exact fun z => e z.symm]
      simp [e]
theorem x_dputN (h : kv.lookup x = none) (hl : kv.length ≤ 1000000) : dputR rest (f a) (dicI kv f, p) (.int x) = rest (p (dicI (kv ++ [(x, a)]) f)) := by
  unfold dicI
  rw [v_dputI (lenSz_of (by rw [List.length_map]; exact hl))]
  have hk : hasK (kv.map fun q => (Sum.inl q.1 : Key)) (.inl x) = false := by rw [hasK_kv, h]; rfl
  unfold putKs putDs
  rw [hk, if_neg (by simp), if_neg (by simp), List.map_append, List.map_append]
  rfl
theorem x_dlen : dlenD (dicI kv f) = .ok (.int kv.length) := by
  show Rs.ok (Dt.int ((kv.map _).length : Nat)) = _
  rw [List.length_map]
theorem lookup_none : ∀ {kv : List (Int × α)}, x ∉ kv.map (·.1) → kv.lookup x = none
  | [], _ => rfl
  | q :: kv, h => by
    rw [List.map_cons, List.mem_cons, not_or] at h
    rw [List.lookup, show (x == q.1) = false by simp; exact h.1]
    exact lookup_none h.2
theorem lookup_some : ∀ {kv : List (Int × α)}, x ∈ kv.map (·.1) → ∃ a, kv.lookup x = some a
  | [], h => by simp at h
  | q :: kv, h => by
    rw [List.map_cons, List.mem_cons] at h
    rw [List.lookup]
    cases e : x == q.1 with
    | true => exact ⟨_, rfl⟩
    | false =>
      refine lookup_some (h.resolve_left fun z => ?_)
      rw [z] at e
      simp at e
end
theorem enumL_zip {α : Type} {g : α → Dt} : ∀ (n : Nat) (xs : List α), enumL n (xs.map g) = (xs.zipIdx n).map fun q => .tup [.int (q.2 : Nat), g q.1]
  | _, [] => rfl
  | n, x :: xs => by rw [List.map_cons, enumL, List.zipIdx_cons, List.map_cons, enumL_zip]
/-! ### == of data, by what it encodes -/
theorem pyDs_lay : ∀ ds : List Dt, PyData.canLayAll0 (pyDs ds) = ds.all fun d => (pyD d).canLay0
  | [] => rfl
  | d :: ds => by rw [pyDs, PyData.canLayAll0, pyDs_lay ds, List.all_cons]
theorem pyDs_depth {n : Nat} : ∀ {ds : List Dt}, (∀ d ∈ ds, (pyD d).depth ≤ n) → PyData.depthAll (pyDs ds) ≤ n
  | [], _ => Nat.zero_le _
  | d :: ds, h => by
    rw [pyDs, PyData.depthAll]
    exact Nat.max_le.mpr ⟨h d List.mem_cons_self, pyDs_depth fun e he => h e (List.mem_cons_of_mem _ he)⟩
/-- g tells its arguments apart, as == does -/
structure Enc {α : Type} (n : Nat) (P : α → Prop) (g : α → Dt) : Prop where
  lay : ∀ x, P x → (pyD (g x)).canLay0 = true
  dep : ∀ x, P x → (pyD (g x)).depth ≤ n
  eq : ∀ x y, P x → P y → (deq (g x) (g y) = true ↔ x = y)
section
variable {α β γ : Type} {n m : Nat} {P : α → Prop} {R : β → Prop} {g : α → Dt} {f : β → Dt}
theorem Enc.ok (h : Enc n P g) (hn : n ≤ 64) {x : α} (hx : P x) : eqOK (g x) = true := by
  unfold eqOK SeqAt.shaped
  rw [h.lay x hx, decide_eq_true (Nat.le_trans (h.dep x hx) hn)]
  rfl
theorem Enc.eqD [DecidableEq α] (h : Enc n P g) {x y : α} (hx : P x) (hy : P y) (hn : n ≤ 64 := by decide) : Pm.eqD (g x) (g y) = .ok (.bl (decide (x = y))) := by
  unfold Pm.eqD
  rw [h.ok hn hx, h.ok hn hy]
  have : deq (g x) (g y) = decide (x = y) := by
    by_cases e : x = y
    · rw [decide_eq_true e]; exact (h.eq x y hx hy).mpr e
    · rw [decide_eq_false e, ← Bool.not_eq_true]; exact fun z => e ((h.eq x y hx hy).mp z)
  rw [this]
  rfl
theorem Enc.inDD (h : Enc n P g) {x : α} {xs : List α} {b : Bool} (hx : P x) (hs : ∀ y ∈ xs, P y) (hb : x ∈ xs ↔ b = true) (hn : n ≤ 63 := by decide) : Pm.inDD (g x) (.lst (xs.map g)) = .ok (.bl b) := by
  have e : inD (g x) (xs.map g) = b := by
    rw [Bool.eq_iff_iff, ← hb]
    unfold inD
    rw [List.any_map, List.any_eq_true]
    constructor
    · rintro ⟨y, hy, e⟩
      have := (h.eq y x (hs y hy) hx).mp e
      rw [← this]; exact hy
    · exact fun hm => ⟨x, hm, (h.eq x x hx hx).mpr rfl⟩
  have ok : eqOK (.lst (xs.map g)) = true := by
    have hl : PyData.canLayAll0 (pyDs (xs.map g)) = true := by
      rw [pyDs_lay, List.all_map, List.all_eq_true]
      exact fun y hy => h.lay y (hs y hy)
    have hd : PyData.depthAll (pyDs (xs.map g)) ≤ n := pyDs_depth fun d hd => by
      obtain ⟨y, hy, rfl⟩ := List.mem_map.mp hd
      exact h.dep y (hs y hy)
    exact Bool.and_eq_true_iff.mpr ⟨hl, decide_eq_true (show PyData.depthAll (pyDs (xs.map g)) + 1 ≤ 64 by omega)⟩
  show (if (eqOK (g x) && eqOK (.lst (xs.map g))) = true then Rs.ok (Dt.bl (inD (g x) (xs.map g))) else .no) = _
  rw [h.ok (by omega) hx, ok, e]
  rfl
theorem Enc.neD [DecidableEq α] (h : Enc n P g) {x y : α} (hx : P x) (hy : P y) (hn : n ≤ 64 := by decide) : Pm.neD (g x) (g y) = .ok (.bl (!decide (x = y))) := by
  unfold Pm.neD
  rw [h.ok hn hx, h.ok hn hy]
  have : deq (g x) (g y) = decide (x = y) := by
    by_cases e : x = y
    · rw [decide_eq_true e]; exact (h.eq x y hx hy).mpr e
    · rw [decide_eq_false e, ← Bool.not_eq_true]; exact fun z => e ((h.eq x y hx hy).mp z)
  rw [this]
  rfl
theorem enc_int : Enc 0 (fun _ : Int => True) Dt.int := ⟨fun _ _ => rfl, fun _ _ => Nat.le_refl _, fun x y _ _ => by
  show (x == y) = true ↔ _
  exact beq_iff_eq⟩
theorem enc_bl : Enc 0 (fun _ : Bool => True) Dt.bl := ⟨fun _ _ => rfl, fun _ _ => Nat.le_refl _, fun x y _ _ => by
  show (x == y) = true ↔ _
  exact beq_iff_eq⟩
theorem enc_str : Enc 0 (fun x : Str => PyData.canLay0 (.str x) = true) Dt.str := ⟨fun _ h => h, fun _ _ => Nat.le_refl _, fun x y _ _ => by
  show (x == y) = true ↔ _
  exact beq_iff_eq⟩
theorem eqvAll_map (h : Enc n P g) : ∀ xs ys : List α, (∀ x ∈ xs, P x) → (∀ y ∈ ys, P y) → (PyData.eqvAll (pyDs (xs.map g)) (pyDs (ys.map g)) = true ↔ xs = ys)
  | [], [], _, _ => ⟨fun _ => rfl, fun _ => rfl⟩
  | [], y :: ys, _, _ => by
    constructor
    · intro z; cases z
    · intro z; cases z
  | x :: xs, [], _, _ => by
    constructor
    · intro z; cases z
    · intro z; cases z
  | x :: xs, y :: ys, hx, hy => by
    have ih := eqvAll_map h xs ys (fun z hz => hx z (List.mem_cons_of_mem _ hz)) (fun z hz => hy z (List.mem_cons_of_mem _ hz))
    have e := h.eq x y (hx x List.mem_cons_self) (hy y List.mem_cons_self)
    show (PyData.eqv (pyD (g x)) (pyD (g y)) && PyData.eqvAll (pyDs (xs.map g)) (pyDs (ys.map g))) = true ↔ _
    unfold deq at e
    rw [Bool.and_eq_true, e, ih, List.cons_eq_cons]
theorem lay_map (h : Enc n P g) {xs : List α} (hx : ∀ x ∈ xs, P x) : PyData.canLayAll0 (pyDs (xs.map g)) = true := by
  rw [pyDs_lay, List.all_eq_true]
  intro d hd
  obtain ⟨x, hm, rfl⟩ := List.mem_map.mp hd
  exact h.lay x (hx x hm)
theorem dep_map (h : Enc n P g) {xs : List α} (hx : ∀ x ∈ xs, P x) : PyData.depthAll (pyDs (xs.map g)) ≤ n := pyDs_depth fun d hd => by
  obtain ⟨x, hm, rfl⟩ := List.mem_map.mp hd
  exact h.dep x (hx x hm)
theorem Enc.lst (h : Enc n P g) : Enc (n + 1) (fun xs : List α => ∀ x ∈ xs, P x) (fun xs => .lst (xs.map g)) := ⟨fun xs hx => lay_map h hx, fun xs hx => Nat.succ_le_succ (dep_map h hx), fun xs ys hx hy => eqvAll_map h xs ys hx hy⟩
theorem Enc.scr (h : Enc n P g) : Enc (n + 1) (fun xs : List α => ∀ x ∈ xs, P x) (fun xs => .scr (xs.map g)) := ⟨fun xs hx => lay_map h hx, fun xs hx => Nat.succ_le_succ (dep_map h hx), fun xs ys hx hy => eqvAll_map h xs ys hx hy⟩
theorem Enc.tup (h : Enc n P g) : Enc (n + 1) (fun xs : List α => ∀ x ∈ xs, P x) (fun xs => .tup (xs.map g)) := ⟨fun xs hx => lay_map h hx, fun xs hx => Nat.succ_le_succ (dep_map h hx), fun xs ys hx hy => eqvAll_map h xs ys hx hy⟩
theorem Enc.pair (h : Enc n P g) (k : Enc m R f) : Enc (max n m + 1) (fun q : α × β => P q.1 ∧ R q.2) (fun q => .tup [g q.1, f q.2]) := by
  refine ⟨fun q hq => ?_, fun q hq => ?_, fun q r hq hr => ?_⟩
  · show ((pyD (g q.1)).canLay0 && ((pyD (f q.2)).canLay0 && true)) = true
    rw [h.lay _ hq.1, k.lay _ hq.2]
    rfl
  · show max (pyD (g q.1)).depth (max (pyD (f q.2)).depth 0) + 1 ≤ _
    have := h.dep _ hq.1
    have := k.dep _ hq.2
    omega
  · have e1 := h.eq q.1 r.1 hq.1 hr.1
    have e2 := k.eq q.2 r.2 hq.2 hr.2
    show (PyData.eqv (pyD (g q.1)) (pyD (g r.1)) && (PyData.eqv (pyD (f q.2)) (pyD (f r.2)) && true)) = true ↔ _
    unfold deq at e1 e2
    rw [Bool.and_true, Bool.and_eq_true, e1, e2, Prod.ext_iff]
theorem Enc.mono (h : Enc n P g) {P' : α → Prop} (hp : ∀ x, P' x → P x) : Enc n P' g := ⟨fun x q => h.lay x (hp x q), fun x q => h.dep x (hp x q), fun x y q r => h.eq x y (hp x q) (hp y r)⟩
end
/-! ### loops by a state -/
theorem wp_forI {α σ : Type} {ds : List Dt} (xs : List α) (g : α → Dt) (st : σ → Ev) (I : List α → σ → Prop) (s0 : σ) (hd : ds = xs.map g) (hρ : ρ = st s0) (h0 : I [] s0)
    (hs : ∀ pre x post s, xs = pre ++ x :: post → I pre s → ∃ ρ1, FG (g x) (st s) = some ρ1 ∧ LoopP Post rest (fun ρ => ∃ s', ρ = st s' ∧ I (pre ++ [x]) s') (F1 ρ1))
    (hk : ∀ s, I xs s → Post (rest (st s))) : Post (forR FG F1 rest ds ρ) := by
  subst hd hρ
  refine wp_for (fun n ρ => ∃ s', ρ = st s' ∧ I (xs.take n) s') ⟨s0, rfl, h0⟩ ?_ ?_
  · rintro n d ρ hd ⟨s, rfl, hI⟩
    obtain ⟨x, hx, rfl⟩ := of_at_map hd
    have hn := lt_of_at hx
    have e : xs[n] = x := by
      rw [List.getElem?_eq_getElem hn] at hx
      exact Option.some.inj hx
    have sp : xs = xs.take n ++ x :: xs.drop (n + 1) := by
      rw [← e, ← List.drop_eq_getElem_cons hn, List.take_append_drop]
    have tk : xs.take (n + 1) = xs.take n ++ [x] := by rw [List.take_add_one, hx]; rfl
    obtain ⟨ρ1, h1, h2⟩ := hs _ _ _ s sp hI
    refine ⟨ρ1, h1, ?_⟩
    rw [tk]
    exact h2
  · rintro ρ ⟨s, rfl, hI⟩
    rw [List.length_map, List.take_length] at hI
    exact hk s hI
theorem wp_rng {σ : Type} (lo : Int) (n : Nat) (st : σ → Ev) (I : Nat → σ → Prop) (s0 : σ) (hρ : ρ = st s0) (h0 : I 0 s0)
    (hs : ∀ k s, k < n → I k s → ∃ ρ1, FG (.int (lo + (k : Nat))) (st s) = some ρ1 ∧ LoopP Post rest (fun ρ => ∃ s', ρ = st s' ∧ I (k + 1) s') (F1 ρ1))
    (hk : ∀ s, I n s → Post (rest (st s))) : Post (forR FG F1 rest (rangeL lo n) ρ) := by
  subst hρ
  refine wp_for (fun k ρ => ∃ s', ρ = st s' ∧ I k s') ⟨s0, rfl, h0⟩ ?_ ?_
  · rintro k d ρ hd ⟨s, rfl, hI⟩
    obtain ⟨hk, rfl⟩ := rangeL_at hd
    exact hs k s hk hI
  · rintro ρ ⟨s, rfl, hI⟩
    rw [rangeL_len] at hI
    exact hk s hI
theorem wp_rng0 {σ : Type} (n : Nat) (st : σ → Ev) (I : Nat → σ → Prop) (s0 : σ) (hρ : ρ = st s0) (h0 : I 0 s0)
    (hs : ∀ k s, k < n → I k s → ∃ ρ1, FG (.int (k : Nat)) (st s) = some ρ1 ∧ LoopP Post rest (fun ρ => ∃ s', ρ = st s' ∧ I (k + 1) s') (F1 ρ1))
    (hk : ∀ s, I n s → Post (rest (st s))) : Post (forR FG F1 rest (rangeL 0 n) ρ) := by
  refine wp_rng 0 n st I s0 hρ h0 (fun k s hk hI => ?_) hk
  rw [Int.zero_add]
  exact hs k s hk hI
theorem x_powA {x y : Int} (h1 : 0 ≤ y) (h2 : y ≤ 1000) (h3 : -9000000000000000000 ≤ x) (h4 : x ≤ 9000000000000000000) : powI x y = .ok (.int (x ^ y.toNat)) := by
  unfold powI
  have : powOk x y = true := by
    unfold powOk
    rw [decide_eq_true h1, decide_eq_true h2, decide_eq_true (show x.natAbs < 2 ^ 64 by omega)]
    rfl
  rw [if_pos this]
theorem comp_rng {n : Nat} (f : Nat → Dt) (hl : n ≤ 1000000) (h : ∀ k, k < n → ∃ ρ1, FG (.int (k : Nat)) ρ = some ρ1 ∧ Fe ρ1 = .ok (f k)) : compR FG yesT Fe ρ (rangeL 0 n) = .ok (.lst ((List.range n).map f)) := by
  rw [rangeL0_map]
  exact comp_map (lenSz_of (by rw [List.length_range]; exact hl)) fun k hk => h k (List.mem_range.mp hk)
/-- one of a written list -/
theorem lit_at {α : Type} {xs : List α} {k : Int} (h0 : 0 ≤ k) (h1 : k < xs.length) : ∃ x, x ∈ xs ∧ xs[k.toNat]? = some x := by
  obtain ⟨v, hv, hm⟩ := at_of_lt (xs := xs) (k := k.toNat) (by omega)
  exact ⟨v, hm, hv⟩
theorem x_lit {α : Type} {xs : List α} {g : α → Dt} {k : Int} (h0 : 0 ≤ k) (h1 : k < xs.length) : ∃ x, x ∈ xs ∧ ixD (.lst (xs.map g)) (.int k) = .ok (g x) := by
  obtain ⟨v, hm, hv⟩ := lit_at h0 h1
  exact ⟨v, hm, by rw [x_ixLi h0, List.getElem?_map, hv]; rfl⟩
theorem comp_mapE {α : Type} {xs : List α} {g : α → Dt} (f : α → Dt) (hl : xs.length ≤ 1000000) (h : ∀ x, x ∈ xs → ∃ ρ1, FG (g x) ρ = some ρ1 ∧ Fe ρ1 = .ok (f x)) : compR FG yesT Fe ρ (xs.map g) = .ok (.lst (xs.map f)) := comp_map (lenSz_of hl) h
theorem comp_filterE {α : Type} {xs : List α} {g : α → Dt} (f : α → Dt) (p : α → Bool) (hl : xs.length ≤ 1000000) (h : ∀ x, x ∈ xs → ∃ ρ1, FG (g x) ρ = some ρ1 ∧ Ft ρ1 = .ok (p x) ∧ (p x = true → Fe ρ1 = .ok (f x))) : compR FG Ft Fe ρ (xs.map g) = .ok (.lst ((xs.filter p).map f)) := comp_filter (lenSz_of hl) h
def whlR (Ft : Ev → Rs Bool) (F1 : Ev → Ot) (n : Nat) (rest : Ev → Ot) (ρ : Ev) : Ot := match whlL Ft F1 n ρ with
  | .nx ρ1 => rest ρ1
  | o => o
theorem v_whl {n : Nat} : seqS (whlL Ft F1 n) rest ρ = whlR Ft F1 n rest ρ := rfl
end
end Pm
namespace Pm
open PySem PySem.Spec L2
/-! ### reckoning: the newer words -/
section
variable {ρ : Ev} {d a b c : Dt} {i j : Nat} {Fa Fb Fc Fe : Ev → Rs Dt} {Fs : List (Ev → Rs Dt)} {Ft Fu : Ev → Rs Bool} {F1 F2 F3 rest : Ev → Ot} {Post : Ot → Prop} {FG : Dt → Ev → Option Ev} {Fi : Ev → Rs (List Dt)} {ds es : List Dt} {vs : List Nat}
theorem v_notBE {c : Bool} : notBE c Fa ρ = (Fa ρ >>= notBD c) := rfl
theorem x_notB {b c : Bool} : notBD c (.bl b) = .ok (.bl (!decide (b = c))) := rfl
theorem x_isB {b c : Bool} : isBD c (.bl b) = .ok (.bl (decide (b = c))) := rfl
/-! for x in P, x changed -/
def forMR (j : Nat) (pth : Option Nat) (x : Nat) (F1 rest : Ev → Ot) (ρ : Ev) : Ot := match forM j pth x F1 ρ with
  | .nx ρ1 => rest ρ1
  | o => o
theorem v_forM {pth : Option Nat} {x : Nat} : seqS (forM j pth x F1) rest ρ = forMR j pth x F1 rest ρ := rfl
end
/-! d.setdefault(k, []).append(x); sorted(d) -/
section
variable {ρ : Ev} {Fp : Ev → Rs (Dt × (Dt → Ev))} {Fk Fa : Ev → Rs Dt} {rest : Ev → Ot} {i : Nat} {ks : List Key} {ds : List Dt} {k y d : Dt} {z : Key} {put : Dt → Ev}
def sdAppR (rest : Ev → Ot) (x : Dt × (Dt → Ev)) (ks : List Key) (ds : List Dt) (k y : Dt) : Ot := match sdAppK x ks ds k y with
  | .nx ρ1 => rest ρ1
  | o => o
def dicOf (d : Dt) : Rs (List Key × List Dt) := match d with
  | .dic ks ds => .ok (ks, ds)
  | _ => .no
theorem x_dicOf : dicOf (.dic ks ds) = .ok (ks, ds) := rfl
theorem v_sdApp : seqS (sdAppS Fp Fk i) rest ρ = bindS (Fp ρ) ρ fun x => bindS (dicOf x.1) ρ fun q => bindS (Fk ρ) ρ fun k => bindS (varE i ρ) ρ fun y => sdAppR rest x q.1 q.2 k y := by
  refine bindS_seq.trans ?_
  congr 1; funext x
  obtain ⟨a, p⟩ := x
  cases a with
  | dic ks ds =>
    refine bindS_seq.trans ?_
    show _ = bindS (Fk ρ) ρ fun k => bindS (varE i ρ) ρ fun y => sdAppR rest (.dic ks ds, p) ks ds k y
    congr 1; funext k
    refine bindS_seq.trans ?_
    rfl
  | _ => rfl
theorem v_sortDI : sortDIE Fa ρ = (Fa ρ >>= sortDI) := rfl
end
theorem v_rrg {F : Ev → Rs Dt} {ρ : Ev} {j : Int} (h : F ρ = .ok (.int j)) (h1 : -1000000000 ≤ j) (h2 : j ≤ 1000000000) : rrgI F ρ = .ok (rangeL 0 j.toNat).reverse := by
  unfold rrgI
  rw [h]
  show (if intSz j = true then _ else _) = _
  rw [if_pos (intSz_of h1 h2)]
def chK (g2 : Dt → Dt → Rs Dt) (Fc : Ev → Rs Dt) (ρ : Ev) (b : Dt) : Dt → Rs Dt
  | .bl true => Fc ρ >>= fun c => g2 b c
  | .bl false => .ok (.bl false)
  | _ => .no
theorem v_chE {g1 g2 : Dt → Dt → Rs Dt} {Fa Fb Fc : Ev → Rs Dt} {ρ : Ev} : chE g1 g2 Fa Fb Fc ρ = (Fa ρ >>= fun a => Fb ρ >>= fun b => g1 a b >>= chK g2 Fc ρ b) := by
  unfold chE
  refine congrArg _ (funext fun a => congrArg _ (funext fun b => congrArg _ (funext fun z => ?_)))
  cases z with
  | bl k => cases k <;> rfl
  | _ => rfl
theorem v_chK {g2 : Dt → Dt → Rs Dt} {Fc : Ev → Rs Dt} {ρ : Ev} {b : Dt} {k : Bool} : chK g2 Fc ρ b (.bl k) = if k = true then (Fc ρ >>= fun c => g2 b c) else .ok (.bl false) := by cases k <;> rfl
def appVR (rest : Ev → Ot) (r i : Nat) (ρ : Ev) (ds : List Dt) (y : Dt) : Ot := if lenSz ds.length = true then rest ((ρ.set r (some (.lst (ds ++ [y])))).set i none) else .no
theorem v_appV {r i : Nat} {rest : Ev → Ot} {ρ : Ev} : seqS (appVS r i) rest ρ = bindS (varE r ρ) ρ fun x => bindS (lstOf x) ρ fun ds => bindS (varE i ρ) ρ fun y => appVR rest r i ρ ds y := by
  unfold seqS appVS varE
  cases ρ[r]? with
  | none => rfl
  | some o =>
    cases o with
    | none => rfl
    | some d =>
      cases d with
      | lst ds =>
        cases ρ[i]? with
        | none => rfl
        | some o2 =>
          cases o2 with
          | none => rfl
          | some y =>
            by_cases c : lenSz ds.length = true
            · show (match (if lenSz ds.length = true then Ot.nx _ else Ot.no) with | .nx ρ1 => rest ρ1 | o => o) = appVR rest r i ρ ds y
              unfold appVR
              rw [if_pos c, if_pos c]
            · show (match (if lenSz ds.length = true then Ot.nx _ else Ot.no) with | .nx ρ1 => rest ρ1 | o => o) = appVR rest r i ρ ds y
              unfold appVR
              rw [if_neg c, if_neg c]
      | _ => rfl
theorem x_appV {r i : Nat} {rest : Ev → Ot} {ρ : Ev} {ds : List Dt} {y : Dt} (h : ds.length ≤ 1000000) : appVR rest r i ρ ds y = rest ((ρ.set r (some (.lst (ds ++ [y])))).set i none) := if_pos (lenSz_of h)
/-! names for the parts of a tuple -/
def asgTR (rest : Ev → Ot) (l : List Nat) (ρ : Ev) (d : Dt) : Ot := match d with
  | .tup ds => if ds.length = l.length then rest (setsE ρ l ds) else .no
  | _ => .no
theorem v_asgT {l : List Nat} {rest : Ev → Ot} {ρ : Ev} : seqS (asgT l Fe) rest ρ = bindS (Fe ρ) ρ (asgTR rest l ρ) := by
  unfold seqS asgT
  cases Fe ρ with
  | ok d =>
    cases d with
    | tup ds =>
      rw [bindS_ok, bindS_ok]
      unfold asgTR
      dsimp only
      by_cases h : ds.length = l.length
      · rw [if_pos h, if_pos h]
      · rw [if_neg h, if_neg h]
    | _ => rfl
  | ex c => rfl
  | no => rfl
theorem x_asgT2 {rest : Ev → Ot} {i j : Nat} {ρ : Ev} {a b : Dt} : asgTR rest [i, j] ρ (.tup [a, b]) = rest ((ρ.set i (some a)).set j (some b)) := rfl
theorem x_asgT3 {rest : Ev → Ot} {i j k : Nat} {ρ : Ev} {a b c : Dt} : asgTR rest [i, j, k] ρ (.tup [a, b, c]) = rest (((ρ.set i (some a)).set j (some b)).set k (some c)) := rfl
theorem x_tix30 {a b c : Dt} {put : Dt → Ev} : tixR 0 (.tup [a, b, c], put) = .ok (a, fun y => put (.tup [y, b, c])) := rfl
theorem x_tix31 {a b c : Dt} {put : Dt → Ev} : tixR 1 (.tup [a, b, c], put) = .ok (b, fun y => put (.tup [a, y, c])) := rfl
theorem x_tix32 {a b c : Dt} {put : Dt → Ev} : tixR 2 (.tup [a, b, c], put) = .ok (c, fun y => put (.tup [a, b, y])) := rfl
theorem v_minP : minPE Fa ρ = (Fa ρ >>= minPD) := rfl
theorem v_leT : leTE Fa Fb ρ = (Fa ρ >>= fun a => Fb ρ >>= fun b => tupLeD a b) := rfl
theorem v_revS : revSE Fa Fb ρ = (Fa ρ >>= fun a => Fb ρ >>= fun b => revLD a b) := rfl
theorem x_revL {ds : List Dt} : revLD (.lst ds) (.int (-1)) = .ok (.lst ds.reverse) := rfl
theorem v_maxP : maxPE Fa ρ = (Fa ρ >>= maxPD) := rfl
theorem v_callS {m : Mode} {Fn : List Dt → Rs Dt} {Fs : List (Ev → Rs Dt)} {ρ : Ev} : callSE m Fn Fs ρ = (argsE Fs ρ >>= fun ds => flatR m (Fn ds)) := rfl
def lstAD (d : Dt) : Rs Dt := match d with
  | .lst ds => .ok (.lst ds)
  | _ => .no
theorem v_lstA {F : Ev → Rs Dt} {ρ : Ev} : lstA F ρ = (F ρ >>= lstAD) := rfl
theorem x_lstA {ds : List Dt} : lstAD (.lst ds) = .ok (.lst ds) := rfl
/-! dicts gone through -/
section
variable {j i k : Nat} {vs : List Nat} {FG : Dt → Ev → Option Ev} {Ft : Ev → Rs Bool} {Fe : Ev → Rs Dt} {Fb rest : Ev → Ot} {ρ : Ev} {Post : Ot → Prop} {ks : List Key} {ds : List Dt}
def forKR (FG : Dt → Ev → Option Ev) (Fb rest : Ev → Ot) (d : Dt) (ρ : Ev) : Ot := match d with
  | .dic ks _ => (match forL FG Fb (ks.map keyDt) ρ with
    | .nx ρ2 => rest ρ2
    | _ => .no)
  | _ => .no
theorem v_forK : seqS (forK j FG Fb) rest ρ = bindS (varE j ρ) ρ fun d => forKR FG Fb rest d ρ := by
  unfold seqS forK
  cases q : varE j ρ with
  | ex c => unfold varE at q; split at q <;> cases q
  | no => rfl
  | ok d =>
    cases d with
    | dic ks ds =>
      show _ = forKR FG Fb rest (.dic ks ds) ρ
      unfold forKR
      dsimp only
      cases forL FG Fb (ks.map keyDt) ρ <;> rfl
    | _ => rfl
def compKR (FG : Dt → Ev → Option Ev) (Ft : Ev → Rs Bool) (Fe : Ev → Rs Dt) (ρ : Ev) (d : Dt) : Rs Dt := match d with
  | .dic ks _ => compR FG Ft Fe ρ (ks.map keyDt) >>= fun r => if scalL r = true then .ok r else .no
  | _ => .no
theorem v_compK : compK j vs FG Ft Fe ρ = (varE j ρ >>= compKR FG Ft Fe (wipeE ρ vs)) := rfl
theorem v_maxV : maxVE j ρ = (varE j ρ >>= maxVD) := rfl
theorem x_maxV : maxVD (.dic ks ds) = maxD (.lst ds) := rfl
theorem v_dcon {c : Key} {d : Dt} : dconE c d ρ = .ok (.dic [c] [d]) := rfl
theorem v_mv : seqS (mvS i k) rest ρ = bindS (varE k ρ) ρ fun d => rest ((ρ.set k none).set i (some d)) := bindS_seq
end
/-! methods that change their self -/
section
variable {C C' f g mm : Str} {i j k : Nat} {Fe : Ev → Rs Dt} {rest : Ev → Ot} {ρ : Ev} {Fn : List Dt → Rs Dt} {Fs : List (Ev → Rs Dt)} {y d d' : Dt} {ns : List Str} {ds as xs : List Dt}
def setFldR (C f : Str) (i j : Nat) (rest : Ev → Ot) (y d : Dt) (ρ : Ev) : Ot := match d with
  | .ins C' ns ds => if C' = C ∧ fix f ns = some j ∧ ns.length < 100 then rest (ρ.set i (some (.ins C' ns (ds.set j y)))) else .no
  | _ => .no
theorem v_setFld : seqS (setFld C f i j Fe) rest ρ = bindS (Fe ρ) ρ fun y => bindS (varE i ρ) ρ fun d => setFldR C f i j rest y d ρ := by
  refine bindS_seq.trans ?_
  congr 1; funext y
  refine bindS_seq.trans ?_
  congr 1; funext d
  unfold setFldR
  cases d with
  | ins C' ns ds =>
    dsimp only
    by_cases h : C' = C ∧ fix f ns = some j ∧ ns.length < 100
    · rw [if_pos h, if_pos h]
    · rw [if_neg h, if_neg h]
  | _ => rfl
def appPopFR (C f g : Str) (i j k : Nat) (Fe : Ev → Rs Dt) (rest : Ev → Ot) (d : Dt) (ρ : Ev) : Ot := seqS (fun ρ => match d with
  | .ins C' ns ds => if C' = C ∧ fix f ns = some j ∧ fix g ns = some k then bindS (lstOf (ds.getD j .non)) ρ fun as => bindS (lstOf (ds.getD k .non)) ρ fun xs => bindS (Fe ρ) ρ fun y => bindS (popD xs y) ρ fun z => if lenSz as.length = true then .nx (ρ.set i (some (.ins C' ns ((ds.set j (.lst (as ++ [z.1]))).set k (.lst z.2))))) else .no else .no
  | _ => .no) rest ρ
theorem v_appPopF : seqS (appPopF C f g i j k Fe) rest ρ = bindS (varE i ρ) ρ fun d => appPopFR C f g i j k Fe rest d ρ := by
  unfold appPopF
  exact bindS_seq
def lendR (i : Nat) (rest : Ev → Ot) (r : Rs Dt) (ρ : Ev) : Ot := match r with
  | .ok d' => rest (ρ.set i (some d'))
  | _ => .no
theorem v_lendS : seqS (lendS C mm i Fn Fs) rest ρ = bindS (varE i ρ) ρ fun d => bindS (noMeth C mm d) ρ fun _ => bindS (argsE Fs ρ) ρ fun ds => lendR i rest (Fn (d :: ds)) ρ := by
  refine bindS_seq.trans ?_
  congr 1; funext d
  refine bindS_seq.trans ?_
  congr 1; funext _
  refine bindS_seq.trans ?_
  congr 1; funext ds
  unfold lendR
  cases Fn (d :: ds) <;> rfl
theorem x_lend : lendR i rest (.ok d') ρ = rest (ρ.set i (some d')) := rfl
theorem v_retFld : seqS (retFld C f i j) rest ρ = bindS (fldIE C f j i ρ) ρ fun d => .rt d := bindS_seq
theorem x_outL {o : List (Option Dt)} : outL (.nx (some d :: o)) = .ok d := rfl
end
/-! several clauses with a name -/
section
variable {i : Nat} {hs r : List (List (Str × Bool) × (Str → Ev → Ot))} {Fb rest : Ev → Ot} {Fh : Str → Ev → Ot} {ρ : Ev} {d : Dt} {c : Str} {subs : List (Str × Bool)}
def tryMR (i : Nat) (hs : List (List (Str × Bool) × (Str → Ev → Ot))) (rest : Ev → Ot) : Ot → Ot
  | .ex c ρ' => (match goA i hs c ρ' with
    | .nx ρ1 => rest ρ1
    | o => o)
  | .nx ρ => rest ρ
  | o => o
theorem v_tryMm : seqS (tryM i hs Fb) rest ρ = tryMR i hs rest (Fb ρ) := by
  show (match tryM i hs Fb ρ with
    | .nx ρ1 => rest ρ1
    | o => o) = _
  unfold tryM tryMR
  cases Fb ρ <;> rfl
theorem v_tryMN : tryMR i hs rest (.nx ρ) = rest ρ := rfl
theorem v_tryMRt : tryMR i hs rest (.rt d) = .rt d := rfl
theorem clr_rest (o : Ot) : (match clrO i o with
    | .nx ρ1 => rest ρ1
    | o => o) = clrR i rest o := by cases o <;> rfl
theorem x_tryMT (h : subs.lookup c = some true) : tryMR i ((subs, Fh) :: r) rest (.ex (c, none) ρ) = clrR i rest (Fh c (ρ.set i none)) := by
  rw [← clr_rest]
  show (match goA i ((subs, Fh) :: r) (c, none) ρ with
    | .nx ρ1 => rest ρ1
    | o => o) = _
  unfold goA
  simp only [h]
theorem x_tryMF (h : subs.lookup c = some false) : tryMR i ((subs, Fh) :: r) rest (.ex (c, none) ρ) = tryMR i r rest (.ex (c, none) ρ) := by
  show (match goA i ((subs, Fh) :: r) (c, none) ρ with
    | .nx ρ1 => rest ρ1
    | o => o) = (match goA i r (c, none) ρ with
    | .nx ρ1 => rest ρ1
    | o => o)
  conv => lhs; unfold goA
  simp only [h]
end
def setSlR (rest : Ev → Ot) (x : Dt × (Dt → Ev)) (y k : Dt) : Ot := someO rest (setSlO x y k)
theorem v_setSl {Fe Fi : Ev → Rs Dt} {Fp : Ev → Rs (Dt × (Dt → Ev))} {rest : Ev → Ot} {ρ : Ev} : seqS (setSlS Fe Fp Fi) rest ρ = bindS (Fe ρ) ρ fun y => bindS (Fp ρ) ρ fun x => bindS (Fi ρ) ρ fun k => setSlR rest x y k := by
  unfold seqS setSlS
  cases Fe ρ with
  | ok y =>
    rw [bindS_ok, bindS_ok]
    cases Fp ρ with
    | ok x =>
      rw [bindS_ok, bindS_ok]
      cases Fi ρ with
      | ok k =>
        rw [bindS_ok, bindS_ok]
        unfold setSlR
        cases setSlO x y k <;> rfl
      | ex c => rfl
      | no => rfl
    | ex c => rfl
    | no => rfl
  | ex c => rfl
  | no => rfl
/-! texts -/
section
variable {Fa Fb Fc : Ev → Rs Dt} {ρ : Ev}
theorem v_inS : inSE Fa Fb ρ = (Fa ρ >>= fun a => Fb ρ >>= fun b => inSD a b) := rfl
theorem v_ninS : ninSE Fa Fb ρ = (Fa ρ >>= fun a => Fb ρ >>= fun b => ninSD a b) := rfl
theorem x_inS {c : Nat} {z : Str} : inSD (.str ⟨#[c]⟩) (.str z) = .ok (.bl (decide (c ∈ z.cps.toList))) := rfl
theorem x_ninS {c : Nat} {z : Str} : ninSD (.str ⟨#[c]⟩) (.str z) = .ok (.bl (!decide (c ∈ z.cps.toList))) := rfl
def strID (d : Dt) : Rs (List Dt) := match d with
  | .str x => .ok (signsD x)
  | _ => .no
theorem v_strI : strI Fa ρ = (Fa ρ >>= strID) := rfl
theorem x_strI {x : Str} : strID (.str x) = .ok (signsD x) := rfl
theorem v_str1 : strE Fa ρ = (Fa ρ >>= strD) := rfl
theorem x_str1 {i : Int} (h : numSz i = true) : strD (.int i) = .ok (.str (toString i)) := if_pos h
theorem v_intT : intTE Fa ρ = (Fa ρ >>= intTD) := rfl
theorem x_intT {x : Str} {n : Int} (h : txtSz x = true) (h2 : txtNum x = some n) : intTD (.str x) = .ok (.int n) := by
  show (if txtSz x = true then (match txtNum x with | some n => Rs.ok (Dt.int n) | none => .no) else .no) = _
  rw [if_pos h, h2]
theorem v_join : joinE Fa Fb ρ = (Fa ρ >>= fun a => strOf a >>= fun x => Fb ρ >>= fun b => joinD x b) := rfl
theorem v_split : splitE Fa Fb ρ = (Fa ρ >>= fun a => strOf a >>= fun x => Fb ρ >>= fun b => splitD x b) := rfl
theorem v_part : partE Fa Fb ρ = (Fa ρ >>= fun a => strOf a >>= fun x => Fb ρ >>= fun b => partD x b) := rfl
theorem v_sw : swE Fa Fb ρ = (Fa ρ >>= fun a => strOf a >>= fun x => Fb ρ >>= fun b => swD x b) := rfl
theorem x_strOf {x : Str} : strOf (.str x) = .ok x := rfl
theorem x_join {a : Str} {ys : List Str} (h : joinSz a ys = true) : joinD a (.lst (ys.map Dt.str)) = .ok (.str (Txt.join a ys)) := by
  show joinSD a (ys.map Dt.str) = _
  unfold joinSD
  rw [strsOf_map]
  exact if_pos h
theorem spSz_of {x y : Str} (h : strSz x = true) (hy : txt0 y = false) : (strSz x && !txt0 y) = true := by rw [h, hy]; rfl
theorem x_split {x y : Str} (h : strSz x = true) (hy : txt0 y = false) : splitD x (.str y) = .ok (.lst ((Txt.split x y).map Dt.str)) := if_pos (spSz_of h hy)
theorem x_part {x y : Str} (h : strSz x = true) (hy : txt0 y = false) : partD x (.str y) = .ok (.tup [.str (Txt.partition x y).1, .str (Txt.partition x y).2.1, .str (Txt.partition x y).2.2]) := if_pos (spSz_of h hy)
theorem x_sw {x y : Str} : swD x (.str y) = .ok (.bl (Txt.startswith x y)) := rfl
theorem v_mulS : mulSE Fa Fb ρ = (Fa ρ >>= fun a => Fb ρ >>= fun b => mulSD a b) := rfl
theorem x_mulS {x : Str} {n : Int} (h : repSz x n = true) : mulSD (.str x) (.int n) = .ok (.str (repSt x n.toNat)) := if_pos h
theorem x_lenS {x : Str} (h : strSz x = true) : lenD (.str x) = .ok (.int x.length) := if_pos h
theorem x_plusS {a b : Str} (h : lenSz (a.length + b.length) = true) : plusD (.str a) (.str b) = .ok (.str (a ++ b)) := if_pos h
theorem x_cutS {x : Str} {lo hi : Option Int} (h : strSz x = true) : cutD (.str x) lo hi = .ok (.str (cutS x lo hi)) := if_pos h
theorem x_isiS {x : Str} : isiD .str (.str x) = .ok (.bl true) := rfl
def rng3D (ds : List Dt) : Rs (List Dt) := match ds with
  | [.int i, .int j, .int c] => if (intSz i && intSz j && intSz c && decide (0 < c)) = true then .ok (stepL i c (stepN i j c)) else .no
  | _ => .no
theorem v_rng3 : rng3I [Fa, Fb, Fc] ρ = (Fa ρ >>= fun a => Fb ρ >>= fun b => Fc ρ >>= fun c => rng3D [a, b, c]) := by
  unfold rng3I
  rw [v_args1, v_args1, v_args1]
  cases Fa ρ with
  | ok a =>
    cases Fb ρ with
    | ok b =>
      cases Fc ρ with
      | ok c => rfl
      | ex c => rfl
      | no => rfl
    | ex c => rfl
    | no => rfl
  | ex c => rfl
  | no => rfl
theorem x_rng3 {i j c : Int} (hi : intSz i = true) (hj : intSz j = true) (hc : intSz c = true) (h : 0 < c) : rng3D [.int i, .int j, .int c] = .ok (stepL i c (stepN i j c)) := by
  show (if _ then _ else _) = _
  rw [hi, hj, hc, decide_eq_true h]
  rfl
end
/-! a raise that bears a number -/
def raiR (c : Str) (ρ : Ev) (d : Dt) : Ot := match d with
  | .int n => .ex (c, some n) ρ
  | _ => .no
theorem v_raiN {c : Str} {Fe : Ev → Rs Dt} {rest : Ev → Ot} {ρ : Ev} : seqS (raiNS c Fe) rest ρ = bindS (Fe ρ) ρ fun d => raiR c ρ d := by
  unfold seqS raiNS
  cases Fe ρ with
  | ok d => cases d <;> rfl
  | ex c => rfl
  | no => rfl
theorem x_raiN {c : Str} {ρ : Ev} {n : Int} : raiR c ρ (.int n) = .ex (c, some n) ρ := rfl
theorem v_sortT {Fa : Ev → Rs Dt} {ρ : Ev} : sortTE Fa ρ = (Fa ρ >>= sortTD) := rfl
/-! clauses with a name or without; what an exception bears -/
section
variable {i : Nat} {hs r : List Cl} {Fb rest F : Ev → Ot} {Fh : Xn → Ev → Ot} {ρ : Ev} {d : Dt} {c : Xn} {subs : List (Str × Bool)} {nm : Option Nat}
def tryXR (hs : List Cl) (rest : Ev → Ot) : Ot → Ot
  | .ex c ρ' => (match goX hs c ρ' with
    | .nx ρ1 => rest ρ1
    | o => o)
  | .nx ρ => rest ρ
  | o => o
theorem v_tryX : seqS (tryX hs Fb) rest ρ = tryXR hs rest (Fb ρ) := by
  show (match tryX hs Fb ρ with
    | .nx ρ1 => rest ρ1
    | o => o) = _
  unfold tryX tryXR
  cases Fb ρ <;> rfl
theorem v_tryXN : tryXR hs rest (.nx ρ) = rest ρ := rfl
theorem v_tryXRt : tryXR hs rest (.rt d) = .rt d := rfl
theorem x_tryXT (h : subs.lookup c.1 = some true) : tryXR ((some i, subs, Fh) :: r) rest (.ex c ρ) = clrR i rest (Fh c (ρ.set i none)) := by
  rw [← clr_rest]
  show (match goX ((some i, subs, Fh) :: r) c ρ with
    | .nx ρ1 => rest ρ1
    | o => o) = _
  unfold goX
  simp only [h]
theorem x_tryXO (h : subs.lookup c.1 = some true) : tryXR ((none, subs, Fh) :: r) rest (.ex c ρ) = noXR rest (Fh c ρ) := by
  show (match goX ((none, subs, Fh) :: r) c ρ with
    | .nx ρ1 => rest ρ1
    | o => o) = _
  unfold goX noXR
  simp only [h]
  all_goals (cases noX (Fh c ρ) <;> rfl)
theorem x_tryXF (h : subs.lookup c.1 = some false) : tryXR ((nm, subs, Fh) :: r) rest (.ex c ρ) = tryXR r rest (.ex c ρ) := by
  show (match goX ((nm, subs, Fh) :: r) c ρ with
    | .nx ρ1 => rest ρ1
    | o => o) = (match goX r c ρ with
    | .nx ρ1 => rest ρ1
    | o => o)
  conv => lhs; unfold goX
  simp only [h]
theorem x_tryX0 : tryXR [] rest (.ex c ρ) = .ex c ρ := rfl
theorem x_row {C : Str} {n : Int} : excRowE C (C, some n) ρ = .ok (.int n) := if_pos rfl
end
/-! min, max with default=; sorted of texts -/
theorem v_minD {Fa Fb : Ev → Rs Dt} {ρ : Ev} : minDE Fa Fb ρ = (Fa ρ >>= fun a => Fb ρ >>= fun b => bestDD bestMin a b) := rfl
theorem v_maxD {Fa Fb : Ev → Rs Dt} {ρ : Ev} : maxDE Fa Fb ρ = (Fa ρ >>= fun a => Fb ρ >>= fun b => bestDD bestMax a b) := rfl
theorem v_sortS {Fa : Ev → Rs Dt} {ρ : Ev} : sortSE Fa ρ = (Fa ρ >>= sortSD) := rfl
/-! comprehensions whose elements may raise -/
section
variable {Fi : Ev → Rs (List Dt)} {FG : Dt → Ev → Option Ev} {Ft : Ev → Rs Bool} {Fe : Ev → Rs Dt} {ρ : Ev}
def compRX (FG : Dt → Ev → Option Ev) (Ft : Ev → Rs Bool) (Fe : Ev → Rs Dt) (ρ : Ev) (ds : List Dt) : Rs Dt := if lenSz ds.length = true then compLX FG Ft Fe ρ ds >>= fun ys => .ok (.lst ys) else .no
theorem v_compX {vs : List Nat} : compXE Fi vs FG Ft Fe ρ = (Fi ρ >>= fun ds => compRX FG Ft Fe (wipeE ρ vs) ds) := rfl
end
end Pm
namespace Pm
open PySem PySem.Spec L2
/-! ### pure tools 4: lent calls -/
section
variable {α β : Type} {a : α} {c : Xn} {ρ ρ' : Ev} {k : α → Rx β} {k2 : α → Ev → Rx β} {Fx Fy : Ev → Rx Dt} {Xt Xu : Ev → Rx Bool} {Fe Fa Fi Fk F1' F2' : Ev → Rs Dt} {Ft : Ev → Rs Bool} {Fs : List (Ev → Rs Dt)} {F1 F2 rest : Ev → Ot} {d l r y : Dt} {i j j1 j2 n : Nat} {b g : Bool} {m : Mode} {C C' mm f f1 f2 h : Str} {Fp : Ev → Rs (Dt × (Dt → Ev))} {Fn : List Dt → Ln} {put : Dt → Ev} {ds xs : List Dt} {ns : List Str}
theorem bindX_ok : bindX (.ok a) ρ k = k a := rfl
theorem bindX_ex : bindX (.ex c : Rs α) ρ k = .ex c ρ := rfl
theorem thenX_ok : thenX (.ok a ρ) k2 = k2 a ρ := rfl
theorem thenX_ex : thenX (.ex c ρ : Rx α) k2 = .ex c ρ := rfl
def dropXR (rest : Ev → Ot) : Rx Dt → Ot
  | .ok _ ρ => rest ρ
  | .ex c ρ => .ex c ρ
  | .no => .no
theorem v_dropX : seqS (dropX Fx) rest ρ = dropXR rest (Fx ρ) := by
  unfold seqS dropX
  cases Fx ρ <;> rfl
theorem x_dropX : dropXR rest (.ok d ρ) = rest ρ := rfl
theorem x_dropXE : dropXR rest (.ex c ρ) = .ex c ρ := rfl
def asgXR (i : Nat) (rest : Ev → Ot) : Rx Dt → Ot
  | .ok d ρ => rest (ρ.set i (some d))
  | .ex c ρ => .ex c ρ
  | .no => .no
theorem v_asgX : seqS (asgX i Fx) rest ρ = asgXR i rest (Fx ρ) := by
  unfold seqS asgX
  cases Fx ρ <;> rfl
theorem x_asgX : asgXR i rest (.ok d ρ) = rest (ρ.set i (some d)) := rfl
theorem x_asgXE : asgXR i rest (.ex c ρ) = .ex c ρ := rfl
def ifXR (F1 F2 rest : Ev → Ot) : Rx Bool → Ot
  | .ok b ρ => iteS b F1 F2 rest ρ
  | .ex c ρ => .ex c ρ
  | .no => .no
theorem v_ifX : seqS (ifX Xt F1 F2) rest ρ = ifXR F1 F2 rest (Xt ρ) := by
  unfold seqS ifX ifXR iteS seqS
  cases Xt ρ with
  | ok b ρ' => cases b <;> rfl
  | _ => rfl
theorem x_ifX : ifXR F1 F2 rest (.ok b ρ) = iteS b F1 F2 rest ρ := rfl
theorem x_ifXE : ifXR F1 F2 rest (.ex c ρ) = .ex c ρ := rfl
def retXR : Rx Dt → Ot
  | .ok d _ => .rt d
  | .ex c ρ => .ex c ρ
  | .no => .no
theorem v_retX : seqS (retX Fx) rest ρ = retXR (Fx ρ) := by
  unfold seqS retX
  cases Fx ρ <;> rfl
theorem x_retX : retXR (.ok d ρ) = .rt d := rfl
def retWR (d : Dt) : Option (Option Dt) → Ot
  | some (some l) => .rt (.tup [d, l])
  | _ => .no
theorem x_retW : retWR d (some (some l)) = .rt (.tup [d, l]) := rfl
theorem v_retW : seqS (retW j Fe) rest ρ = bindS (Fe ρ) ρ fun d => retWR d ρ[j]? := by
  refine bindS_seq.trans ?_
  congr 1; funext d
  unfold retWR
  cases ρ[j]? with
  | none => rfl
  | some x => cases x <;> rfl
theorem v_retWN : seqS (retWN j) rest ρ = retWR .non ρ[j]? := by
  unfold seqS retWN retWR
  cases ρ[j]? with
  | none => rfl
  | some x => cases x <;> rfl
def retWXR (j : Nat) : Rx Dt → Ot
  | .ok d ρ => retWR d ρ[j]?
  | .ex c ρ => .ex c ρ
  | .no => .no
theorem v_retWX : seqS (retWX j Fx) rest ρ = retWXR j (Fx ρ) := by
  unfold seqS retWX retWXR
  cases Fx ρ with
  | ok d ρ' =>
    dsimp only
    unfold retWR
    cases ρ'[j]? with
    | none => rfl
    | some x => cases x <;> rfl
  | _ => rfl
theorem x_retWX : retWXR j (.ok d ρ) = retWR d ρ[j]? := rfl
theorem v_pureX : pureX Fe ρ = bindX (Fe ρ) ρ fun d => .ok d ρ := rfl
theorem v_pureXT : pureXT Ft ρ = bindX (Ft ρ) ρ fun d => .ok d ρ := rfl
theorem v_opX {g : Dt → Ev → Rs Dt} : opX Fx g ρ = thenX (Fx ρ) fun d ρ' => if scal d = true then bindX (g d ρ') ρ' fun e => .ok e ρ' else .no := rfl
theorem v_valXT : valXT Fx ρ = thenX (Fx ρ) fun d ρ' => bindX (asB d) ρ' fun b => .ok b ρ' := rfl
theorem v_notXT : notXT Xt ρ = thenX (Xt ρ) fun b ρ' => .ok (!b) ρ' := rfl
theorem v_andXT : andXT Xt Xu ρ = thenX (Xt ρ) fun b ρ' => if b = true then Xu ρ' else .ok false ρ' := rfl
theorem v_orXT : orXT Xt Xu ρ = thenX (Xt ρ) fun b ρ' => if b = true then .ok true ρ' else Xu ρ' := rfl
theorem v_andX : andX Fx Fy ρ = thenX (Fx ρ) fun d ρ' => bindX (asB d) ρ' fun b => if b = true then Fy ρ' else .ok (.bl false) ρ' := rfl
theorem v_methX : methX C mm Fp Fn Fs ρ = bindX (Fp ρ) ρ fun x => bindX (noMeth C mm x.1) ρ fun _ => bindX (argsE Fs ρ) ρ fun ds => lnX (Fn (x.1 :: ds)) x.2 := rfl
theorem v_callX0 : callX0 Fp Fn Fs ρ = bindX (Fp ρ) ρ fun x => bindX (argsE Fs ρ) ρ fun ds => lnX (Fn (x.1 :: ds)) x.2 := rfl
theorem v_callX2 : callX2 F1' F2' Fp Fn ρ = bindX (F1' ρ) ρ fun x => bindX (F2' ρ) ρ fun y => bindX (Fp ρ) ρ fun z => lnX (Fn [x, y, z.1]) z.2 := rfl
theorem x_lnX : lnX (.ok r d) put = .ok r (put d) := rfl
theorem x_lnXE : lnX (.ex c d) put = .ex c (put d) := rfl
theorem x_scalRE : scalR (.ex c) = .ex c := rfl
theorem x_leafRE : leafR m (.ex c) = .ex c := rfl
theorem v_look : lookE m Fe ρ = leafR m (Fe ρ) := rfl
def outWR : Option (Option Dt) → Ln
  | some (some d) => .ok .non d
  | _ => .no
theorem x_outWN : outW g .F j (.nx ρ) = outWR ρ[j]? := by
  unfold outWR
  show (if isF .F = true then (match ρ[j]? with
    | some (some d) => Ln.ok .non d
    | _ => .no) else .no) = _
  rw [if_pos (show isF .F = true from rfl)]
theorem x_outWR : outWR (some (some d)) = .ok .non d := rfl
theorem x_outWT : outW g m j (.rt (.tup [r, d])) = .ok r d := rfl
def outWE (c : Xn) : Option (Option Dt) → Ln
  | some (some d) => .ex c d
  | _ => .no
theorem x_outWX : outW true m j (.ex c ρ) = outWE c ρ[j]? := by
  unfold outWE
  show (if true = true then (match ρ[j]? with
    | some (some d) => Ln.ex c d
    | _ => .no) else .no) = _
  rw [if_pos rfl]
theorem x_outWE : outWE c (some (some d)) = .ex c d := rfl
def remR (rest : Ev → Ot) (xp : Dt → Ev) (ds : List Dt) (y : Dt) : Ot := match remD xp ds y with
  | .nx ρ => rest ρ
  | o => o
theorem v_rem : seqS (remS Fp Fe) rest ρ = bindS (Fp ρ) ρ fun x => bindS (lstOf x.1) ρ fun ds => bindS (Fe ρ) ρ fun y => remR rest x.2 ds y := by
  refine bindS_seq.trans ?_
  congr 1; funext x
  refine bindS_seq.trans ?_
  congr 1; funext ds
  exact bindS_seq
theorem v_setPart : seqS (setPart C f i j Fk Fi) rest ρ = bindS (Fk ρ) ρ fun kd => bindS (varE i ρ) ρ fun d => bindS (fldLst C f j d) ρ fun xs => bindS (Fi ρ) ρ fun z => bindS (partAt xs z) ρ fun r => rest (ρ.set i (some (fldSet j (.lst (xs.set r.1 (.tup [kd, r.2]))) d))) := by
  refine bindS_seq.trans ?_
  congr 1; funext x
  refine bindS_seq.trans ?_
  congr 1; funext x
  refine bindS_seq.trans ?_
  congr 1; funext x
  refine bindS_seq.trans ?_
  congr 1; funext x
  exact bindS_seq
theorem v_popTo : seqS (popTo C f1 f2 h i j1 j2 n) rest ρ = bindS (varE i ρ) ρ fun d => bindS (fldLst C h n d) ρ fun xs => bindS (lastTwo xs) ρ fun r => bindS (fixTwo f1 f2 j1 j2 d) ρ fun _ => rest (ρ.set i (some (fldSet j2 r.2 (fldSet j1 r.1 (fldSet n (.lst xs.dropLast) d))))) := by
  refine bindS_seq.trans ?_
  congr 1; funext x
  refine bindS_seq.trans ?_
  congr 1; funext x
  refine bindS_seq.trans ?_
  congr 1; funext x
  exact bindS_seq
theorem x_fldSet : fldSet j y (.ins C ns ds) = .ins C ns (ds.set j y) := rfl
theorem ixN_nat {n t : Nat} (h : t < n) : ixN n (t : Int) = some t := by
  unfold ixN
  rw [if_pos (by omega), if_pos (by omega), Int.toNat_natCast]
theorem v_pop0 : seqS (pop0S Fp) rest ρ = bindS (Fp ρ) ρ fun x => bindS (lstOf x.1) ρ fun ds => bindS (pop0D ds) ρ fun y => rest (x.2 (.lst y.2)) := by
  refine bindS_seq.trans ?_
  congr 1; funext x
  refine bindS_seq.trans ?_
  congr 1; funext x
  exact bindS_seq
theorem v_asgPop0 : seqS (asgPop0 i Fp) rest ρ = bindS (Fp ρ) ρ fun x => bindS (lstOf x.1) ρ fun ds => bindS (pop0D ds) ρ fun y => rest ((x.2 (.lst y.2)).set i (some y.1)) := by
  refine bindS_seq.trans ?_
  congr 1; funext x
  refine bindS_seq.trans ?_
  congr 1; funext x
  exact bindS_seq
theorem x_pop0 : pop0D (xs ++ [y]) = .ok (y, xs) := by
  unfold pop0D
  simp
def ifLen (b : Bool) (o : Ot) : Ot := if b = true then o else .no
theorem x_ifLen {o : Ot} : ifLen true o = o := rfl
theorem v_appNew : seqS (appNew Fe Fa) rest ρ = bindS (Fe ρ) ρ fun d => bindS (lstOf d) ρ fun ds => bindS (Fa ρ) ρ fun _ => ifLen (lenSz ds.length) (rest ρ) := by
  refine bindS_seq.trans ?_
  congr 1; funext x
  refine bindS_seq.trans ?_
  congr 1; funext x
  refine bindS_seq.trans ?_
  congr 1; funext y
  unfold ifLen
  cases lenSz x.length <;> rfl
theorem v_appPopP : seqS (appPopP n Fp Fe) rest ρ = bindS (varE n ρ) ρ fun d0 => bindS (lstOf d0) ρ fun _ => bindS (Fp ρ) ρ fun x => bindS (lstOf x.1) ρ fun xs => bindS (Fe ρ) ρ fun k => bindS (popD xs k) ρ fun y =>
    bindS (varE n (x.2 (.lst y.2))) ρ fun d1 => bindS (lstOf d1) ρ fun ds => ifLen (lenSz ds.length) (rest ((x.2 (.lst y.2)).set n (some (.lst (ds ++ [y.1]))))) := by
  refine bindS_seq.trans ?_
  congr 1; funext x
  refine bindS_seq.trans ?_
  congr 1; funext x
  refine bindS_seq.trans ?_
  congr 1; funext x
  refine bindS_seq.trans ?_
  congr 1; funext x
  refine bindS_seq.trans ?_
  congr 1; funext x
  refine bindS_seq.trans ?_
  congr 1; funext x
  refine bindS_seq.trans ?_
  congr 1; funext x
  refine bindS_seq.trans ?_
  congr 1; funext x
  unfold ifLen
  cases lenSz x.length <;> rfl
end
/-! for k, x in P, x changed -/
section
variable {ρ : Ev} {F1 rest : Ev → Ot} {j kd x : Nat}
def forTR (j : Nat) (pth : Option Nat) (kd x : Nat) (F1 rest : Ev → Ot) (ρ : Ev) : Ot := match forT j pth kd x F1 ρ with
  | .nx ρ' => rest ρ'
  | o => o
theorem v_forT {pth : Option Nat} : seqS (forT j pth kd x F1) rest ρ = forTR j pth kd x F1 rest ρ := rfl
end
theorem v_sortJ {Fa : Ev → Rs Dt} {ρ : Ev} : sortJE Fa ρ = (Fa ρ >>= sortJD) := rfl
theorem v_sortDE {Fa : Ev → Rs Dt} {ρ : Ev} : sortDE Fa ρ = (Fa ρ >>= sortDD) := rfl
theorem v_callSO {m : Mode} {Fn : List Dt → Rs Dt} {Fs : List (Ev → Rs Dt)} {ρ : Ev} : callSO m Fn Fs ρ = (argsE Fs ρ >>= fun ds => flatRO m (Fn ds)) := rfl
theorem v_flatRO {m : Mode} {d : Dt} : flatRO m (.ok d) = if flatO m d = true then .ok d else .no := rfl
theorem x_flatROE {m : Mode} {c : Xn} : flatRO m (.ex c) = .ex c := rfl
/-! ### constructors to which owned things are lent -/
end Pm
namespace Pm
open PySem PySem.Spec PyProof.Rows L2 C8
structure Txt (K : PySem.W.Frag) (mg : Str → Option Value) : Prop where
  d__wall : ∃ fd, FunD K "_wall" "_wall" (defArgs s__wall) (defBody s__wall) (defScope s__wall) [] [] (He.ga K "_wall") fd
  g__wall : mg "_wall" = some (.ref (He.ga K "_wall"))
  d_BadText___init__ : ∃ fd, FunD K "__init__" "BadText.__init__" (defArgs s_BadText___init__) (defBody s_BadText___init__) (defScope s_BadText___init__) [] [] (He.ma K (He.ga K "BadText") "__init__") fd
  d_look_at_groups : ∃ fd, FunD K "look_at_groups" "look_at_groups" (defArgs s_look_at_groups) (defBody s_look_at_groups) (defScope s_look_at_groups) [] [] (He.ga K "look_at_groups") fd
  g_look_at_groups : mg "look_at_groups" = some (.ref (He.ga K "look_at_groups"))
  d_group_levels : ∃ fd, FunD K "group_levels" "group_levels" (defArgs s_group_levels) (defBody s_group_levels) (defScope s_group_levels) [] [] (He.ga K "group_levels") fd
  g_group_levels : mg "group_levels" = some (.ref (He.ga K "group_levels"))
  d_Wish___init__ : ∃ fd, FunD K "__init__" "Wish.__init__" (defArgs s_Wish___init__) (defBody s_Wish___init__) (defScope s_Wish___init__) [] [] (He.ma K (He.ga K "Wish") "__init__") fd
  d_Wish_levels : ∃ fd, FunD K "levels" "Wish.levels" (defArgs s_Wish_levels) (defBody s_Wish_levels) (defScope s_Wish_levels) [] [] (He.ma K (He.ga K "Wish") "levels") fd
  m_Wish_levels : Meth K (He.ga K "Wish") "levels" (He.ma K (He.ga K "Wish") "levels")
  d_Wish_level_of : ∃ fd, FunD K "level_of" "Wish.level_of" (defArgs s_Wish_level_of) (defBody s_Wish_level_of) (defScope s_Wish_level_of) [] [] (He.ma K (He.ga K "Wish") "level_of") fd
  m_Wish_level_of : Meth K (He.ga K "Wish") "level_of" (He.ma K (He.ga K "Wish") "level_of")
  d_Wish_behind : ∃ fd, FunD K "behind" "Wish.behind" (defArgs s_Wish_behind) (defBody s_Wish_behind) (defScope s_Wish_behind) [] [] (He.ma K (He.ga K "Wish") "behind") fd
  m_Wish_behind : Meth K (He.ga K "Wish") "behind" (He.ma K (He.ga K "Wish") "behind")
  d_Wish_breach : ∃ fd, FunD K "breach" "Wish.breach" (defArgs s_Wish_breach) (defBody s_Wish_breach) (defScope s_Wish_breach) [] [] (He.ma K (He.ga K "Wish") "breach") fd
  m_Wish_breach : Meth K (He.ga K "Wish") "breach" (He.ma K (He.ga K "Wish") "breach")
  d_Wish_kept_by : ∃ fd, FunD K "kept_by" "Wish.kept_by" (defArgs s_Wish_kept_by) (defBody s_Wish_kept_by) (defScope s_Wish_kept_by) [] [] (He.ma K (He.ga K "Wish") "kept_by") fd
  m_Wish_kept_by : Meth K (He.ga K "Wish") "kept_by" (He.ma K (He.ga K "Wish") "kept_by")
  d_Wish_one_order : ∃ fd, FunD K "one_order" "Wish.one_order" (defArgs s_Wish_one_order) (defBody s_Wish_one_order) (defScope s_Wish_one_order) [] [] (He.ma K (He.ga K "Wish") "one_order") fd
  m_Wish_one_order : Meth K (He.ga K "Wish") "one_order" (He.ma K (He.ga K "Wish") "one_order")
  d__law_parts : ∃ fd, FunD K "_law_parts" "_law_parts" (defArgs s__law_parts) (defBody s__law_parts) (defScope s__law_parts) [] [] (He.ga K "_law_parts") fd
  g__law_parts : mg "_law_parts" = some (.ref (He.ga K "_law_parts"))
  d__law_poured : ∃ fd, FunD K "_law_poured" "_law_poured" (defArgs s__law_poured) (defBody s__law_poured) (defScope s__law_poured) [] [] (He.ga K "_law_poured") fd
  g__law_poured : mg "_law_poured" = some (.ref (He.ga K "_law_poured"))
  d__law_letters : ∃ fd, FunD K "_law_letters" "_law_letters" (defArgs s__law_letters) (defBody s__law_letters) (defScope s__law_letters) [] [] (He.ga K "_law_letters") fd
  g__law_letters : mg "_law_letters" = some (.ref (He.ga K "_law_letters"))
  d__law_groups : ∃ fd, FunD K "_law_groups" "_law_groups" (defArgs s__law_groups) (defBody s__law_groups) (defScope s__law_groups) [] [] (He.ga K "_law_groups") fd
  g__law_groups : mg "_law_groups" = some (.ref (He.ga K "_law_groups"))
  d__law_copied : ∃ fd, FunD K "_law_copied" "_law_copied" (defArgs s__law_copied) (defBody s__law_copied) (defScope s__law_copied) [] [] (He.ga K "_law_copied") fd
  g__law_copied : mg "_law_copied" = some (.ref (He.ga K "_law_copied"))
  d__law_levels : ∃ fd, FunD K "_law_levels" "_law_levels" (defArgs s__law_levels) (defBody s__law_levels) (defScope s__law_levels) [] [] (He.ga K "_law_levels") fd
  g__law_levels : mg "_law_levels" = some (.ref (He.ga K "_law_levels"))
  d__law_places : ∃ fd, FunD K "_law_places" "_law_places" (defArgs s__law_places) (defBody s__law_places) (defScope s__law_places) [] [] (He.ga K "_law_places") fd
  g__law_places : mg "_law_places" = some (.ref (He.ga K "_law_places"))
  d__law_faulty : ∃ fd, FunD K "_law_faulty" "_law_faulty" (defArgs s__law_faulty) (defBody s__law_faulty) (defScope s__law_faulty) [] [] (He.ga K "_law_faulty") fd
  g__law_faulty : mg "_law_faulty" = some (.ref (He.ga K "_law_faulty"))
  d__law_good : ∃ fd, FunD K "_law_good" "_law_good" (defArgs s__law_good) (defBody s__law_good) (defScope s__law_good) [] [] (He.ga K "_law_good") fd
  g__law_good : mg "_law_good" = some (.ref (He.ga K "_law_good"))
  d__law_refused : ∃ fd, FunD K "_law_refused" "_law_refused" (defArgs s__law_refused) (defBody s__law_refused) (defScope s__law_refused) [] [] (He.ga K "_law_refused") fd
  g__law_refused : mg "_law_refused" = some (.ref (He.ga K "_law_refused"))
  d_law : ∃ fd, FunD K "law" "law" (defArgs s_law) (defBody s_law) (defScope s_law) [] [] (He.ga K "law") fd
  g_law : mg "law" = some (.ref (He.ga K "law"))
  g_Wish : mg "Wish" = some (.ref (He.ga K "Wish"))
  c_Wish : Cls K (He.ga K "Wish")
  k_Wish : Mk K (He.ga K "Wish") (He.ma K (He.ga K "Wish") "__init__")
  n_Wish_groups : NoAttr K (He.ga K "Wish") "groups"
  n_Wish_kept_levels : NoAttr K (He.ga K "Wish") "kept_levels"
  n_Wish_numbers : NoAttr K (He.ga K "Wish") "numbers"
  g_MillError : mg "MillError" = some (.ref (He.ga K "MillError"))
  x_MillError : PySem.W.excIn K (He.ga K "MillError") He.veBase "ValueError.__new__" = true ∧ PySem.W.keepIn K (.ref (He.ga K "MillError")) = true ∧ PySem.W.subIn K (.ref (He.ga K "MillError")) (.type "BaseException") = some true ∧ PySem.W.typeIn K (.ref (He.ga K "MillError")) = some (.type "type")
  g_BadMill : mg "BadMill" = some (.ref (He.ga K "BadMill"))
  x_BadMill : PySem.W.excIn K (He.ga K "BadMill") He.veBase "ValueError.__new__" = true ∧ PySem.W.keepIn K (.ref (He.ga K "BadMill")) = true ∧ PySem.W.subIn K (.ref (He.ga K "BadMill")) (.type "BaseException") = some true ∧ PySem.W.typeIn K (.ref (He.ga K "BadMill")) = some (.type "type")
  g_BadLate : mg "BadLate" = some (.ref (He.ga K "BadLate"))
  x_BadLate : PySem.W.excIn K (He.ga K "BadLate") He.veBase "ValueError.__new__" = true ∧ PySem.W.keepIn K (.ref (He.ga K "BadLate")) = true ∧ PySem.W.subIn K (.ref (He.ga K "BadLate")) (.type "BaseException") = some true ∧ PySem.W.typeIn K (.ref (He.ga K "BadLate")) = some (.type "type")
  g_BadWord : mg "BadWord" = some (.ref (He.ga K "BadWord"))
  x_BadWord : PySem.W.excIn K (He.ga K "BadWord") He.veBase "ValueError.__new__" = true ∧ PySem.W.keepIn K (.ref (He.ga K "BadWord")) = true ∧ PySem.W.subIn K (.ref (He.ga K "BadWord")) (.type "BaseException") = some true ∧ PySem.W.typeIn K (.ref (He.ga K "BadWord")) = some (.type "type")
  g_BadCode : mg "BadCode" = some (.ref (He.ga K "BadCode"))
  x_BadCode : PySem.W.excIn K (He.ga K "BadCode") He.veBase "ValueError.__new__" = true ∧ PySem.W.keepIn K (.ref (He.ga K "BadCode")) = true ∧ PySem.W.subIn K (.ref (He.ga K "BadCode")) (.type "BaseException") = some true ∧ PySem.W.typeIn K (.ref (He.ga K "BadCode")) = some (.type "type")
  g_BadSize : mg "BadSize" = some (.ref (He.ga K "BadSize"))
  x_BadSize : PySem.W.excIn K (He.ga K "BadSize") He.veBase "ValueError.__new__" = true ∧ PySem.W.keepIn K (.ref (He.ga K "BadSize")) = true ∧ PySem.W.subIn K (.ref (He.ga K "BadSize")) (.type "BaseException") = some true ∧ PySem.W.typeIn K (.ref (He.ga K "BadSize")) = some (.type "type")
  g_BadLetters : mg "BadLetters" = some (.ref (He.ga K "BadLetters"))
  x_BadLetters : PySem.W.excIn K (He.ga K "BadLetters") He.veBase "ValueError.__new__" = true ∧ PySem.W.keepIn K (.ref (He.ga K "BadLetters")) = true ∧ PySem.W.subIn K (.ref (He.ga K "BadLetters")) (.type "BaseException") = some true ∧ PySem.W.typeIn K (.ref (He.ga K "BadLetters")) = some (.type "type")
  g_BadPlan : mg "BadPlan" = some (.ref (He.ga K "BadPlan"))
  x_BadPlan : PySem.W.excIn K (He.ga K "BadPlan") He.veBase "ValueError.__new__" = true ∧ PySem.W.keepIn K (.ref (He.ga K "BadPlan")) = true ∧ PySem.W.subIn K (.ref (He.ga K "BadPlan")) (.type "BaseException") = some true ∧ PySem.W.typeIn K (.ref (He.ga K "BadPlan")) = some (.type "type")
  g_BadWish : mg "BadWish" = some (.ref (He.ga K "BadWish"))
  x_BadWish : PySem.W.excIn K (He.ga K "BadWish") He.veBase "ValueError.__new__" = true ∧ PySem.W.keepIn K (.ref (He.ga K "BadWish")) = true ∧ PySem.W.subIn K (.ref (He.ga K "BadWish")) (.type "BaseException") = some true ∧ PySem.W.typeIn K (.ref (He.ga K "BadWish")) = some (.type "type")
  g_BadCount : mg "BadCount" = some (.ref (He.ga K "BadCount"))
  x_BadCount : PySem.W.excIn K (He.ga K "BadCount") He.veBase "ValueError.__new__" = true ∧ PySem.W.keepIn K (.ref (He.ga K "BadCount")) = true ∧ PySem.W.subIn K (.ref (He.ga K "BadCount")) (.type "BaseException") = some true ∧ PySem.W.typeIn K (.ref (He.ga K "BadCount")) = some (.type "type")
  g_BadRow : mg "BadRow" = some (.ref (He.ga K "BadRow"))
  x_BadRow : PySem.W.excIn K (He.ga K "BadRow") He.veBase "ValueError.__new__" = true ∧ PySem.W.keepIn K (.ref (He.ga K "BadRow")) = true ∧ PySem.W.subIn K (.ref (He.ga K "BadRow")) (.type "BaseException") = some true ∧ PySem.W.typeIn K (.ref (He.ga K "BadRow")) = some (.type "type")
  g_BadPrices : mg "BadPrices" = some (.ref (He.ga K "BadPrices"))
  x_BadPrices : PySem.W.excIn K (He.ga K "BadPrices") He.veBase "ValueError.__new__" = true ∧ PySem.W.keepIn K (.ref (He.ga K "BadPrices")) = true ∧ PySem.W.subIn K (.ref (He.ga K "BadPrices")) (.type "BaseException") = some true ∧ PySem.W.typeIn K (.ref (He.ga K "BadPrices")) = some (.type "type")
  g_NotOneOrder : mg "NotOneOrder" = some (.ref (He.ga K "NotOneOrder"))
  x_NotOneOrder : PySem.W.excIn K (He.ga K "NotOneOrder") He.veBase "ValueError.__new__" = true ∧ PySem.W.keepIn K (.ref (He.ga K "NotOneOrder")) = true ∧ PySem.W.subIn K (.ref (He.ga K "NotOneOrder")) (.type "BaseException") = some true ∧ PySem.W.typeIn K (.ref (He.ga K "NotOneOrder")) = some (.type "type")
  g_NoRow : mg "NoRow" = some (.ref (He.ga K "NoRow"))
  x_NoRow : PySem.W.excIn K (He.ga K "NoRow") He.veBase "ValueError.__new__" = true ∧ PySem.W.keepIn K (.ref (He.ga K "NoRow")) = true ∧ PySem.W.subIn K (.ref (He.ga K "NoRow")) (.type "BaseException") = some true ∧ PySem.W.typeIn K (.ref (He.ga K "NoRow")) = some (.type "type")
  g_Shut : mg "Shut" = some (.ref (He.ga K "Shut"))
  x_Shut : PySem.W.excIn K (He.ga K "Shut") He.veBase "ValueError.__new__" = true ∧ PySem.W.keepIn K (.ref (He.ga K "Shut")) = true ∧ PySem.W.subIn K (.ref (He.ga K "Shut")) (.type "BaseException") = some true ∧ PySem.W.typeIn K (.ref (He.ga K "Shut")) = some (.type "type")
  g_BadDeed : mg "BadDeed" = some (.ref (He.ga K "BadDeed"))
  x_BadDeed : PySem.W.excIn K (He.ga K "BadDeed") He.veBase "ValueError.__new__" = true ∧ PySem.W.keepIn K (.ref (He.ga K "BadDeed")) = true ∧ PySem.W.subIn K (.ref (He.ga K "BadDeed")) (.type "BaseException") = some true ∧ PySem.W.typeIn K (.ref (He.ga K "BadDeed")) = some (.type "type")
  g_BadText : mg "BadText" = some (.ref (He.ga K "BadText"))
  m_BadText___init__ : Meth K (He.ga K "BadText") "__init__" (He.ma K (He.ga K "BadText") "__init__")
  ox_BadText : OexR K (He.ga K "BadText")
  bi_BadText : BinC K (He.ga K "MillError")
  g_KINDS : mg "KINDS" = some (.ref (He.ga K "KINDS"))
  t_KINDS : ∀ H : Hp, SqL K H (He.ga K "KINDS") [.str "any", .str "come", .str "row"]
  s_MillError : Subs K (He.ga K) (.ref (He.ga K "MillError")) tabS_MillError
  e_MillError : ∀ c, tabS_MillError.lookup c = some true → ExcC K (He.ga K c)
  z_BadCode : Isx K (He.ga K) (.ref (He.ga K "BadCode")) tabI_BadCode
  z_BadCount : Isx K (He.ga K) (.ref (He.ga K "BadCount")) tabI_BadCount
  z_BadDeed : Isx K (He.ga K) (.ref (He.ga K "BadDeed")) tabI_BadDeed
  z_BadLate : Isx K (He.ga K) (.ref (He.ga K "BadLate")) tabI_BadLate
  z_BadLetters : Isx K (He.ga K) (.ref (He.ga K "BadLetters")) tabI_BadLetters
  z_BadMill : Isx K (He.ga K) (.ref (He.ga K "BadMill")) tabI_BadMill
  z_BadPlan : Isx K (He.ga K) (.ref (He.ga K "BadPlan")) tabI_BadPlan
  z_BadPrices : Isx K (He.ga K) (.ref (He.ga K "BadPrices")) tabI_BadPrices
  z_BadRow : Isx K (He.ga K) (.ref (He.ga K "BadRow")) tabI_BadRow
  z_BadSize : Isx K (He.ga K) (.ref (He.ga K "BadSize")) tabI_BadSize
  z_BadText : Isx K (He.ga K) (.ref (He.ga K "BadText")) tabI_BadText
  z_BadWish : Isx K (He.ga K) (.ref (He.ga K "BadWish")) tabI_BadWish
  z_BadWord : Isx K (He.ga K) (.ref (He.ga K "BadWord")) tabI_BadWord
  z_NoRow : Isx K (He.ga K) (.ref (He.ga K "NoRow")) tabI_NoRow
  z_NotOneOrder : Isx K (He.ga K) (.ref (He.ga K "NotOneOrder")) tabI_NotOneOrder
  z_Shut : Isx K (He.ga K) (.ref (He.ga K "Shut")) tabI_Shut
  z_ValueError : Isx K (He.ga K) (.type "ValueError") tabI_ValueError
  b_ValueError : mg "ValueError" = none
  b_enumerate : mg "enumerate" = none
  b_isinstance : mg "isinstance" = none
  b_len : mg "len" = none
  b_list : mg "list" = none
  b_max : mg "max" = none
  b_range : mg "range" = none
  b_sorted : mg "sorted" = none
/-! ### each def as a function, and that it keeps to it -/
def B__wall_1 : Ev → Ot := (seqS nextS
 nextS)
theorem e_B__wall_1 {ρ : Ev} : B__wall_1 ρ = (seqS nextS
 nextS) ρ := rfl
def Fb__wall : Ev → Ot := (seqS (whlL (boolT (conE (.bl true))) B__wall_1 1000)
 nextS)
def F__wall : List Dt → Rs Dt := defF 1 1 .F Fb__wall
def B_look_at_groups_1 : Ev → Ot := (seqS (ifS (orT (boolT (ltE (varE 5) (conE (.int 0)))) (orT (boolT (geE (varE 5) (varE 0))) (boolT (dinE false (varE 5) (varE 2))))) (seqS (raiS "BadWish")
 nextS) nextS)
 (seqS (dputS (conE (.bl true)) (varP 2) (varE 5))
 (fgtS [5] nextS)))
theorem e_B_look_at_groups_1 {ρ : Ev} : B_look_at_groups_1 ρ = (seqS (ifS (orT (boolT (ltE (varE 5) (conE (.int 0)))) (orT (boolT (geE (varE 5) (varE 0))) (boolT (dinE false (varE 5) (varE 2))))) (seqS (raiS "BadWish")
 nextS) nextS)
 (seqS (dputS (conE (.bl true)) (varP 2) (varE 5))
 (fgtS [5] nextS))) ρ := rfl
def C_look_at_groups_2 : Ev → Ot := (fgtS [3, 4, 5] nextS)
theorem e_C_look_at_groups_2 {ρ : Ev} : C_look_at_groups_2 ρ = (fgtS [3, 4, 5] nextS) ρ := rfl
def B_look_at_groups_3 : Ev → Ot := (seqS (ifS (orT (boolT (ninE (varE 3) (conE (.scr [.str "any", .str "come", .str "row"])))) (boolT (eqE (lenE (varE 4)) (conE (.int 0))))) (seqS (raiS "BadWish")
 nextS) nextS)
 (seqS (forS (seqI (varE 4)) (nameG 5) B_look_at_groups_1)
 C_look_at_groups_2))
theorem e_B_look_at_groups_3 {ρ : Ev} : B_look_at_groups_3 ρ = (seqS (ifS (orT (boolT (ninE (varE 3) (conE (.scr [.str "any", .str "come", .str "row"])))) (boolT (eqE (lenE (varE 4)) (conE (.int 0))))) (seqS (raiS "BadWish")
 nextS) nextS)
 (seqS (forS (seqI (varE 4)) (nameG 5) B_look_at_groups_1)
 C_look_at_groups_2)) ρ := rfl
def C_look_at_groups_4 : Ev → Ot := (seqS (ifS (boolT (ltE (dlenE (varE 2)) (varE 0))) (seqS (raiS "BadWish")
 nextS) nextS)
 nextS)
theorem e_C_look_at_groups_4 {ρ : Ev} : C_look_at_groups_4 ρ = (seqS (ifS (boolT (ltE (dlenE (varE 2)) (varE 0))) (seqS (raiS "BadWish")
 nextS) nextS)
 nextS) ρ := rfl
def Fb_look_at_groups : Ev → Ot := (seqS (asgS 2 dnewE)
 (seqS (forS (seqI (varE 1)) (tupG 2 (consG (nameG 3) (consG (nameG 4) nilG))) B_look_at_groups_3)
 C_look_at_groups_4))
def F_look_at_groups : List Dt → Rs Dt := defF 2 6 .F Fb_look_at_groups
def Fb_group_levels : Ev → Ot := (seqS (ifS (boolT (eqE (varE 1) (conE (.str "any")))) (seqS (retS (lstE [(sortIE (varE 2))]))
 nextS) nextS)
 (seqS (ifS (boolT (eqE (varE 1) (conE (.str "row")))) (seqS (retS (compE (seqI (varE 2)) [5] (nameG 5) yesT (lstE [(varE 5)])))
 nextS) nextS)
 (seqS (asgS 3 (sortPE (compE (seqI (varE 2)) [5] (nameG 5) yesT (tupE [(ixE (ixE (varE 0) (varE 5)) (conE (.int 1))), (varE 5)]))))
 (seqS (retS (compE (seqI (varE 3)) [4] (nameG 4) yesT (lstE [(ixE (varE 4) (conE (.int 1)))])))
 nextS))))
def F_group_levels : List Dt → Rs Dt := defF 3 6 .F Fb_group_levels
def B_Wish___init___1 : Ev → Ot := (seqS (extS (fldP "Wish" "kept_levels" 1 (varP 0)) (callE F_group_levels [(varE 1), (varE 3), (varE 4)]))
 (fgtS [3, 4] nextS))
theorem e_B_Wish___init___1 {ρ : Ev} : B_Wish___init___1 ρ = (seqS (extS (fldP "Wish" "kept_levels" 1 (varP 0)) (callE F_group_levels [(varE 1), (varE 3), (varE 4)]))
 (fgtS [3, 4] nextS)) ρ := rfl
def B_Wish___init___2 : Ev → Ot := (seqS (dputS (varE 5) (fldP "Wish" "numbers" 2 (varP 0)) (varE 7))
 (fgtS [7] nextS))
theorem e_B_Wish___init___2 {ρ : Ev} : B_Wish___init___2 ρ = (seqS (dputS (varE 5) (fldP "Wish" "numbers" 2 (varP 0)) (varE 7))
 (fgtS [7] nextS)) ρ := rfl
def C_Wish___init___3 : Ev → Ot := (fgtS [5, 6, 7] nextS)
theorem e_C_Wish___init___3 {ρ : Ev} : C_Wish___init___3 ρ = (fgtS [5, 6, 7] nextS) ρ := rfl
def B_Wish___init___4 : Ev → Ot := (seqS (forS (seqI (varE 6)) (nameG 7) B_Wish___init___2)
 C_Wish___init___3)
theorem e_B_Wish___init___4 {ρ : Ev} : B_Wish___init___4 ρ = (seqS (forS (seqI (varE 6)) (nameG 7) B_Wish___init___2)
 C_Wish___init___3) ρ := rfl
def C_Wish___init___5 : Ev → Ot := (seqS (newF "Wish" "numbers" 0 dnewE)
 (seqS (forS (enumI [(fldIE "Wish" "kept_levels" 1 0)]) (tupG 2 (consG (nameG 5) (consG (nameG 6) nilG))) B_Wish___init___4)
 nextS))
theorem e_C_Wish___init___5 {ρ : Ev} : C_Wish___init___5 ρ = (seqS (newF "Wish" "numbers" 0 dnewE)
 (seqS (forS (enumI [(fldIE "Wish" "kept_levels" 1 0)]) (tupG 2 (consG (nameG 5) (consG (nameG 6) nilG))) B_Wish___init___4)
 nextS)) ρ := rfl
def Fb_Wish___init__ : Ev → Ot := (seqS (dropS (callE F_look_at_groups [(lenE (varE 1)), (varE 2)]))
 (seqS (newF "Wish" "groups" 0 (compE (seqI (varE 2)) [3, 4] (tupG 2 (consG (nameG 3) (consG (nameG 4) nilG))) yesT (tupE [(varE 3), (listE (varE 4))])))
 (seqS (newF "Wish" "kept_levels" 0 (lstE []))
 (seqS (forS (seqI (varE 2)) (tupG 2 (consG (nameG 3) (consG (nameG 4) nilG))) B_Wish___init___1)
 C_Wish___init___5))))
def F_Wish___init__ : List Dt → Rs Dt := initF "Wish" 3 8 Fb_Wish___init__
def Fb_Wish_levels : Ev → Ot := (seqS (retS (compE (seqI (fldE "Wish" "kept_levels" (varE 0))) [1] (nameG 1) yesT (listE (varE 1))))
 nextS)
def F_Wish_levels : List Dt → Rs Dt := defF 1 2 .F Fb_Wish_levels
def Fb_Wish_level_of : Ev → Ot := (seqS (dropS (callE F__wall [(conE (.int 0))]))
 nextS)
def F_Wish_level_of : List Dt → Rs Dt := defF 2 2 .F Fb_Wish_level_of
def Fb_Wish_behind : Ev → Ot := (seqS (retS (gtE (scalE (dgetE (fldE "Wish" "numbers" (varE 0)) (varE 1))) (scalE (dgetE (fldE "Wish" "numbers" (varE 0)) (varE 2)))))
 nextS)
def F_Wish_behind : List Dt → Rs Dt := defF 3 3 .F Fb_Wish_behind
def Fb_Wish_breach : Ev → Ot := (seqS (dropS (callE F__wall [(conE (.int 1))]))
 nextS)
def F_Wish_breach : List Dt → Rs Dt := defF 2 2 (.T [.F, .F]) Fb_Wish_breach
def Fb_Wish_kept_by : Ev → Ot := (seqS (dropS (callE F__wall [(conE (.int 2))]))
 nextS)
def F_Wish_kept_by : List Dt → Rs Dt := defF 2 2 .F Fb_Wish_kept_by
def Fb_Wish_one_order : Ev → Ot := (seqS (dropS (callE F__wall [(conE (.int 3))]))
 nextS)
def F_Wish_one_order : List Dt → Rs Dt := defF 1 1 .F Fb_Wish_one_order
def B__law_parts_1 : Ev → Ot := (seqS (asgS 5 (conE (.int 0)))
 (seqS (ifS (boolT (ltE (addE (conE (.int 1)) (modE (varE 4) (conE (.int 16)))) (lenE (varE 0)))) (seqS (asgS 5 (ixE (varE 0) (addE (conE (.int 1)) (modE (varE 4) (conE (.int 16))))))
 nextS) nextS)
 (seqS (appS (varP 3) (modE (divE (varE 5) (ixE (varE 2) (divE (varE 4) (conE (.int 16))))) (powE (conE (.int 10)) (conE (.int 9)))))
 (fgtS [4, 5] nextS))))
theorem e_B__law_parts_1 {ρ : Ev} : B__law_parts_1 ρ = (seqS (asgS 5 (conE (.int 0)))
 (seqS (ifS (boolT (ltE (addE (conE (.int 1)) (modE (varE 4) (conE (.int 16)))) (lenE (varE 0)))) (seqS (asgS 5 (ixE (varE 0) (addE (conE (.int 1)) (modE (varE 4) (conE (.int 16))))))
 nextS) nextS)
 (seqS (appS (varP 3) (modE (divE (varE 5) (ixE (varE 2) (divE (varE 4) (conE (.int 16))))) (powE (conE (.int 10)) (conE (.int 9)))))
 (fgtS [4, 5] nextS)))) ρ := rfl
def C__law_parts_2 : Ev → Ot := (seqS (retS (varE 3))
 nextS)
theorem e_C__law_parts_2 {ρ : Ev} : C__law_parts_2 ρ = (seqS (retS (varE 3))
 nextS) ρ := rfl
def Fb__law_parts : Ev → Ot := (seqS (asgS 2 (lstE [(conE (.int 1)), (powE (conE (.int 10)) (conE (.int 9))), (powE (conE (.int 10)) (conE (.int 18))), (powE (conE (.int 10)) (conE (.int 27))), (powE (conE (.int 10)) (conE (.int 36)))]))
 (seqS (asgS 3 (lstE []))
 (seqS (forS (rng1I [(varE 1)]) (nameG 4) B__law_parts_1)
 C__law_parts_2)))
def F__law_parts : List Dt → Rs Dt := defF 2 6 .F Fb__law_parts
def B__law_poured_1 : Ev → Ot := (seqS (asgS 2 (modE (addE (addE (mulE (varE 2) (varE 2)) (mulE (modE (varE 3) (powE (conE (.int 10)) (conE (.int 60)))) (conE (.int 131)))) (conE (.int 17))) (conE (.int 1000000000039))))
 (fgtS [3] nextS))
theorem e_B__law_poured_1 {ρ : Ev} : B__law_poured_1 ρ = (seqS (asgS 2 (modE (addE (addE (mulE (varE 2) (varE 2)) (mulE (modE (varE 3) (powE (conE (.int 10)) (conE (.int 60)))) (conE (.int 131)))) (conE (.int 17))) (conE (.int 1000000000039))))
 (fgtS [3] nextS)) ρ := rfl
def B__law_poured_2 : Ev → Ot := (seqS (asgS 2 (modE (addE (addE (mulE (varE 2) (varE 2)) (mulE (conE (.int 48271)) (varE 5))) (conE (.int 5))) (conE (.int 1000000000039))))
 (seqS (appS (varP 4) (varE 2))
 (fgtS [5] nextS)))
theorem e_B__law_poured_2 {ρ : Ev} : B__law_poured_2 ρ = (seqS (asgS 2 (modE (addE (addE (mulE (varE 2) (varE 2)) (mulE (conE (.int 48271)) (varE 5))) (conE (.int 5))) (conE (.int 1000000000039))))
 (seqS (appS (varP 4) (varE 2))
 (fgtS [5] nextS))) ρ := rfl
def B__law_poured_3 : Ev → Ot := (seqS (asgS 7 (addE (mulE (ixE (varE 4) (modE (varE 5) (varE 1))) (conE (.int 1000003))) (varE 5)))
 (seqS (setS (modE (addE (varE 7) (modE (ixE (varE 0) (varE 5)) (powE (conE (.int 10)) (conE (.int 60))))) (conE (.int 1000000000039))) (varP 4) (modE (varE 5) (varE 1)))
 (fgtS [5, 7] nextS)))
theorem e_B__law_poured_3 {ρ : Ev} : B__law_poured_3 ρ = (seqS (asgS 7 (addE (mulE (ixE (varE 4) (modE (varE 5) (varE 1))) (conE (.int 1000003))) (varE 5)))
 (seqS (setS (modE (addE (varE 7) (modE (ixE (varE 0) (varE 5)) (powE (conE (.int 10)) (conE (.int 60))))) (conE (.int 1000000000039))) (varP 4) (modE (varE 5) (varE 1)))
 (fgtS [5, 7] nextS))) ρ := rfl
def B__law_poured_4 : Ev → Ot := (seqS (appS (varP 6) (divE (modE (mulE (varE 7) (varE 7)) (conE (.int 998244353))) (conE (.int 7))))
 (fgtS [7] nextS))
theorem e_B__law_poured_4 {ρ : Ev} : B__law_poured_4 ρ = (seqS (appS (varP 6) (divE (modE (mulE (varE 7) (varE 7)) (conE (.int 998244353))) (conE (.int 7))))
 (fgtS [7] nextS)) ρ := rfl
def C__law_poured_5 : Ev → Ot := (seqS (retS (varE 6))
 nextS)
theorem e_C__law_poured_5 {ρ : Ev} : C__law_poured_5 ρ = (seqS (retS (varE 6))
 nextS) ρ := rfl
def C__law_poured_6 : Ev → Ot := (seqS (asgS 6 (lstE []))
 (seqS (forS (seqI (varE 4)) (nameG 7) B__law_poured_4)
 C__law_poured_5))
theorem e_C__law_poured_6 {ρ : Ev} : C__law_poured_6 ρ = (seqS (asgS 6 (lstE []))
 (seqS (forS (seqI (varE 4)) (nameG 7) B__law_poured_4)
 C__law_poured_5)) ρ := rfl
def C__law_poured_7 : Ev → Ot := (fgtS [2] (seqS (forS (rng1I [(lenE (varE 0))]) (nameG 5) B__law_poured_3)
 C__law_poured_6))
theorem e_C__law_poured_7 {ρ : Ev} : C__law_poured_7 ρ = (fgtS [2] (seqS (forS (rng1I [(lenE (varE 0))]) (nameG 5) B__law_poured_3)
 C__law_poured_6)) ρ := rfl
def C__law_poured_8 : Ev → Ot := (seqS (asgS 4 (lstE []))
 (seqS (forS (rng1I [(varE 1)]) (nameG 5) B__law_poured_2)
 C__law_poured_7))
theorem e_C__law_poured_8 {ρ : Ev} : C__law_poured_8 ρ = (seqS (asgS 4 (lstE []))
 (seqS (forS (rng1I [(varE 1)]) (nameG 5) B__law_poured_2)
 C__law_poured_7)) ρ := rfl
def Fb__law_poured : Ev → Ot := (seqS (ifS (andT (boolT (gtE (lenE (varE 0)) (conE (.int 0)))) (boolT (eqE (modE (ixE (varE 0) (conE (.int 0))) (conE (.int 2))) (conE (.int 1))))) (seqS (retS (callE F__law_parts [(varE 0), (varE 1)]))
 nextS) nextS)
 (seqS (asgS 2 (conE (.int 7919)))
 (seqS (forS (seqI (varE 0)) (nameG 3) B__law_poured_1)
 C__law_poured_8)))
def F__law_poured : List Dt → Rs Dt := defF 2 8 .F Fb__law_poured
def Fb__law_letters : Ev → Ot := (seqS (asgS 1 (ixE (lstE [(conE (.int 3)), (conE (.int 4)), (conE (.int 2)), (conE (.int 5)), (conE (.int 0)), (conE (.int 6)), (conE (.int 1)), (conE (.int 8)), (conE (.int 4)), (conE (.int 12)), (conE (.int 24)), (conE (.int 7))]) (modE (ixE (varE 0) (conE (.int 0))) (conE (.int 12)))))
 (seqS (asgS 2 (modE (divE (ixE (varE 0) (conE (.int 0))) (conE (.int 12))) (conE (.int 2))))
 (seqS (retS (compE (rng1I [(varE 1)]) [3] (nameG 3) yesT (tupE [(addE (conE (.int 1)) (modE (ixE (varE 0) (addE (conE (.int 1)) (varE 3))) (conE (.int 9)))), (mulE (modE (divE (ixE (varE 0) (addE (conE (.int 1)) (varE 3))) (conE (.int 9))) (conE (.int 7))) (varE 2))])))
 nextS)))
def F__law_letters : List Dt → Rs Dt := defF 1 4 .F Fb__law_letters
def B__law_groups_1 : Ev → Ot := (seqS (asgS 5 (ixE (varE 0) (addE (conE (.int 30)) (varE 4))))
 (seqS (ifS (orT (boolT (eqE (varE 4) (conE (.int 0)))) (boolT (eqE (modE (varE 5) (conE (.int 3))) (conE (.int 0))))) (seqS (appS (varP 3) (tupE [(ixE (lstE [(conE (.str "any")), (conE (.str "come")), (conE (.str "row"))]) (modE (divE (varE 5) (conE (.int 3))) (conE (.int 3)))), (lstE [])]))
 nextS) nextS)
 (seqS (appPopS (tixP 1 (ixP (varP 3) (negE (conE (.int 1))))) 2 (modE (divE (varE 5) (conE (.int 9))) (lenE (varE 2))))
 (fgtS [4, 5] nextS))))
theorem e_B__law_groups_1 {ρ : Ev} : B__law_groups_1 ρ = (seqS (asgS 5 (ixE (varE 0) (addE (conE (.int 30)) (varE 4))))
 (seqS (ifS (orT (boolT (eqE (varE 4) (conE (.int 0)))) (boolT (eqE (modE (varE 5) (conE (.int 3))) (conE (.int 0))))) (seqS (appS (varP 3) (tupE [(ixE (lstE [(conE (.str "any")), (conE (.str "come")), (conE (.str "row"))]) (modE (divE (varE 5) (conE (.int 3))) (conE (.int 3)))), (lstE [])]))
 nextS) nextS)
 (seqS (appPopS (tixP 1 (ixP (varP 3) (negE (conE (.int 1))))) 2 (modE (divE (varE 5) (conE (.int 9))) (lenE (varE 2))))
 (fgtS [4, 5] nextS)))) ρ := rfl
def C__law_groups_2 : Ev → Ot := (seqS (retS (varE 3))
 nextS)
theorem e_C__law_groups_2 {ρ : Ev} : C__law_groups_2 ρ = (seqS (retS (varE 3))
 nextS) ρ := rfl
def Fb__law_groups : Ev → Ot := (seqS (asgS 2 (lrng1E (lenE (varE 1))))
 (seqS (asgS 3 (lstE []))
 (seqS (forS (rng1I [(lenE (varE 1))]) (nameG 4) B__law_groups_1)
 C__law_groups_2)))
def F__law_groups : List Dt → Rs Dt := defF 2 6 .F Fb__law_groups
def Fb__law_copied : Ev → Ot := (seqS (retS (compE (seqI (varE 0)) [1, 2] (tupG 2 (consG (nameG 1) (consG (nameG 2) nilG))) yesT (tupE [(varE 1), (listE (varE 2))])))
 nextS)
def F__law_copied : List Dt → Rs Dt := defF 1 3 (.L (.T [.F, (.L .F)])) Fb__law_copied
def B__law_levels_1 : Ev → Ot := (seqS (ifS (boolT (eqE (ixE (ixE (varE 0) (varE 6)) (conE (.int 1))) (varE 5))) (seqS (appS (varP 2) (lstE [(varE 6)]))
 nextS) nextS)
 (fgtS [6] nextS))
theorem e_B__law_levels_1 {ρ : Ev} : B__law_levels_1 ρ = (seqS (ifS (boolT (eqE (ixE (ixE (varE 0) (varE 6)) (conE (.int 1))) (varE 5))) (seqS (appS (varP 2) (lstE [(varE 6)]))
 nextS) nextS)
 (fgtS [6] nextS)) ρ := rfl
def C__law_levels_2 : Ev → Ot := (fgtS [5, 6] nextS)
theorem e_C__law_levels_2 {ρ : Ev} : C__law_levels_2 ρ = (fgtS [5, 6] nextS) ρ := rfl
def B__law_levels_3 : Ev → Ot := (seqS (forS (seqI (sortIE (varE 4))) (nameG 6) B__law_levels_1)
 C__law_levels_2)
theorem e_B__law_levels_3 {ρ : Ev} : B__law_levels_3 ρ = (seqS (forS (seqI (sortIE (varE 4))) (nameG 6) B__law_levels_1)
 C__law_levels_2) ρ := rfl
def C__law_levels_4 : Ev → Ot := (fgtS [5, 6] nextS)
theorem e_C__law_levels_4 {ρ : Ev} : C__law_levels_4 ρ = (fgtS [5, 6] nextS) ρ := rfl
def B__law_levels_5 : Ev → Ot := (seqS (ifS (boolT (eqE (varE 3) (conE (.str "any")))) (seqS (appS (varP 2) (sortIE (varE 4)))
 (fgtS [5, 6] nextS)) (seqS (ifS (boolT (eqE (varE 3) (conE (.str "row")))) (seqS (extS (varP 2) (compE (seqI (varE 4)) [6] (nameG 6) yesT (lstE [(varE 6)])))
 (fgtS [5, 6] nextS)) (seqS (forS (rng1I [(conE (.int 10))]) (nameG 5) B__law_levels_3)
 C__law_levels_4))
 (fgtS [5, 6] nextS)))
 (fgtS [3, 4, 5, 6] nextS))
theorem e_B__law_levels_5 {ρ : Ev} : B__law_levels_5 ρ = (seqS (ifS (boolT (eqE (varE 3) (conE (.str "any")))) (seqS (appS (varP 2) (sortIE (varE 4)))
 (fgtS [5, 6] nextS)) (seqS (ifS (boolT (eqE (varE 3) (conE (.str "row")))) (seqS (extS (varP 2) (compE (seqI (varE 4)) [6] (nameG 6) yesT (lstE [(varE 6)])))
 (fgtS [5, 6] nextS)) (seqS (forS (rng1I [(conE (.int 10))]) (nameG 5) B__law_levels_3)
 C__law_levels_4))
 (fgtS [5, 6] nextS)))
 (fgtS [3, 4, 5, 6] nextS)) ρ := rfl
def C__law_levels_6 : Ev → Ot := (seqS (retS (varE 2))
 nextS)
theorem e_C__law_levels_6 {ρ : Ev} : C__law_levels_6 ρ = (seqS (retS (varE 2))
 nextS) ρ := rfl
def Fb__law_levels : Ev → Ot := (seqS (asgS 2 (lstE []))
 (seqS (forS (seqI (varE 1)) (tupG 2 (consG (nameG 3) (consG (nameG 4) nilG))) B__law_levels_5)
 C__law_levels_6))
def F__law_levels : List Dt → Rs Dt := defF 2 7 .F Fb__law_levels
def B__law_places_1 : Ev → Ot := (seqS (dputS (varE 2) (varP 1) (varE 3))
 (fgtS [3] nextS))
theorem e_B__law_places_1 {ρ : Ev} : B__law_places_1 ρ = (seqS (dputS (varE 2) (varP 1) (varE 3))
 (fgtS [3] nextS)) ρ := rfl
def C__law_places_2 : Ev → Ot := (fgtS [2, 3] nextS)
theorem e_C__law_places_2 {ρ : Ev} : C__law_places_2 ρ = (fgtS [2, 3] nextS) ρ := rfl
def B__law_places_3 : Ev → Ot := (seqS (forS (seqI (ixE (varE 0) (varE 2))) (nameG 3) B__law_places_1)
 C__law_places_2)
theorem e_B__law_places_3 {ρ : Ev} : B__law_places_3 ρ = (seqS (forS (seqI (ixE (varE 0) (varE 2))) (nameG 3) B__law_places_1)
 C__law_places_2) ρ := rfl
def C__law_places_4 : Ev → Ot := (seqS (retS (varE 1))
 nextS)
theorem e_C__law_places_4 {ρ : Ev} : C__law_places_4 ρ = (seqS (retS (varE 1))
 nextS) ρ := rfl
def Fb__law_places : Ev → Ot := (seqS (asgS 1 dnewE)
 (seqS (forS (rng1I [(lenE (varE 0))]) (nameG 2) B__law_places_3)
 C__law_places_4))
def F__law_places : List Dt → Rs Dt := defF 1 4 .F Fb__law_places
def B__law_faulty_1 : Ev → Ot := (aliasS 0 4 7 8 (seqA (asgA 0 8 6 (modE (divE (varE 2) (conE (.int 4))) (lenE (varE 8))))
 (seqA (ifA (boolT (eqE (varE 3) (conE (.int 3)))) (seqA (popA 0 8 (varE 6))
 nextA) nextA)
 (seqA (ifA (boolT (eqE (varE 3) (conE (.int 4)))) (seqA (insA 0 8 [(varE 6), (ixE (varE 8) (modE (divE (varE 2) (conE (.int 100))) (lenE (varE 8))))])
 nextA) nextA)
 (seqA (ifA (boolT (eqE (varE 3) (conE (.int 5)))) (seqA (insA 0 8 [(varE 6), (ixE (ixE (ixE (varE 0) (modE (divE (varE 2) (conE (.int 100))) (lenE (varE 0)))) (conE (.int 1))) (conE (.int 0)))])
 nextA) nextA)
 (seqA (ifA (boolT (eqE (varE 3) (conE (.int 6)))) (seqA (insA 0 8 [(varE 6), (varE 5)])
 nextA) nextA)
 (seqA (ifA (boolT (eqE (varE 3) (conE (.int 7)))) (seqA (setpA 0 4 (ixE (lstE [(conE (.str "")), (conE (.str "Any")), (conE (.str "rows")), (conE (.str "comes")), (conE (.str "an")), (conE (.str "any "))]) (modE (varE 2) (conE (.int 6)))))
 nextA) nextA)
 (fgtA 6))))))))
theorem e_B__law_faulty_1 {ρ : Ev} : B__law_faulty_1 ρ = (aliasS 0 4 7 8 (seqA (asgA 0 8 6 (modE (divE (varE 2) (conE (.int 4))) (lenE (varE 8))))
 (seqA (ifA (boolT (eqE (varE 3) (conE (.int 3)))) (seqA (popA 0 8 (varE 6))
 nextA) nextA)
 (seqA (ifA (boolT (eqE (varE 3) (conE (.int 4)))) (seqA (insA 0 8 [(varE 6), (ixE (varE 8) (modE (divE (varE 2) (conE (.int 100))) (lenE (varE 8))))])
 nextA) nextA)
 (seqA (ifA (boolT (eqE (varE 3) (conE (.int 5)))) (seqA (insA 0 8 [(varE 6), (ixE (ixE (ixE (varE 0) (modE (divE (varE 2) (conE (.int 100))) (lenE (varE 0)))) (conE (.int 1))) (conE (.int 0)))])
 nextA) nextA)
 (seqA (ifA (boolT (eqE (varE 3) (conE (.int 6)))) (seqA (insA 0 8 [(varE 6), (varE 5)])
 nextA) nextA)
 (seqA (ifA (boolT (eqE (varE 3) (conE (.int 7)))) (seqA (setpA 0 4 (ixE (lstE [(conE (.str "")), (conE (.str "Any")), (conE (.str "rows")), (conE (.str "comes")), (conE (.str "an")), (conE (.str "any "))]) (modE (varE 2) (conE (.int 6)))))
 nextA) nextA)
 (fgtA 6)))))))) ρ := rfl
def Fb__law_faulty : Ev → Ot := (seqS (asgS 0 (callE F__law_copied [(varE 0)]))
 (seqS (asgS 3 (modE (varE 2) (conE (.int 8))))
 (seqS (asgS 4 (modE (divE (varE 2) (conE (.int 8))) (maxE (lstE [(conE (.int 1)), (lenE (varE 0))]))))
 (seqS (asgS 2 (divE (varE 2) (conE (.int 200))))
 (seqS (asgS 5 (ixE (lstE [(negE (conE (.int 1))), (varE 1), (addE (addE (varE 1) (conE (.int 1))) (mulE (modE (varE 2) (powE (conE (.int 10)) (conE (.int 6)))) (powE (conE (.int 10)) (conE (.int 40))))), (subE (negE (conE (.int 2))) (mulE (modE (varE 2) (powE (conE (.int 10)) (conE (.int 6)))) (powE (conE (.int 10)) (conE (.int 40)))))]) (modE (varE 2) (conE (.int 4)))))
 (seqS (ifS (boolT (eqE (varE 3) (conE (.int 1)))) (seqS (insS (varP 0) [(varE 4), (tupE [(ixE (lstE [(conE (.str "any")), (conE (.str "come")), (conE (.str "row"))]) (modE (varE 2) (conE (.int 3)))), (lstE [])])])
 (fgtS [6, 7, 8] nextS)) (seqS (ifS (boolT (eqE (varE 3) (conE (.int 2)))) (seqS (insS (varP 0) [(varE 4), (tupE [(ixE (lstE [(conE (.str "any")), (conE (.str "come")), (conE (.str "row"))]) (modE (varE 2) (conE (.int 3)))), (lstE [(varE 5)])])])
 (fgtS [6, 7, 8] nextS)) (seqS (ifS (boolT (gtE (lenE (varE 0)) (conE (.int 0)))) B__law_faulty_1 nextS)
 (fgtS [6, 7, 8] nextS)))
 (fgtS [6, 7, 8] nextS)))
 (seqS (retS (varE 0))
 nextS)))))))
def F__law_faulty : List Dt → Rs Dt := defF 3 9 (.L (.T [.F, (.L .F)])) Fb__law_faulty
def B__law_good_1 : Ev → Ot := (seqS (ifS (orT (boolT (ninE (varE 3) (lstE [(conE (.str "any")), (conE (.str "come")), (conE (.str "row"))]))) (boolT (eqE (varE 4) (lstE [])))) (seqS (retS (conE (.bl false)))
 nextS) nextS)
 (seqS (asgS 2 (plusE (varE 2) (varE 4)))
 (fgtS [3, 4] nextS)))
theorem e_B__law_good_1 {ρ : Ev} : B__law_good_1 ρ = (seqS (ifS (orT (boolT (ninE (varE 3) (lstE [(conE (.str "any")), (conE (.str "come")), (conE (.str "row"))]))) (boolT (eqE (varE 4) (lstE [])))) (seqS (retS (conE (.bl false)))
 nextS) nextS)
 (seqS (asgS 2 (plusE (varE 2) (varE 4)))
 (fgtS [3, 4] nextS))) ρ := rfl
def C__law_good_2 : Ev → Ot := (seqS (retS (eqE (sortIE (varE 2)) (lrng1E (varE 0))))
 nextS)
theorem e_C__law_good_2 {ρ : Ev} : C__law_good_2 ρ = (seqS (retS (eqE (sortIE (varE 2)) (lrng1E (varE 0))))
 nextS) ρ := rfl
def Fb__law_good : Ev → Ot := (seqS (asgS 2 (lstE []))
 (seqS (forS (seqI (varE 1)) (tupG 2 (consG (nameG 3) (consG (nameG 4) nilG))) B__law_good_1)
 C__law_good_2))
def F__law_good : List Dt → Rs Dt := defF 2 5 .F Fb__law_good
def Fb__law_refused : Ev → Ot := (seqS (asgS 2 (lstE []))
 (seqS (tryA 3 tabS_MillError (seqS (dropS (callE F_Wish___init__ [(varE 0), (varE 1)]))
 nextS) (fun c => (fgtS [2] (seqS (asgS 2 (lstE [(isxE tabI_BadWish c), (isxE tabI_ValueError c)]))
 (seqS (appS (varP 2) (isxTE [tabI_BadCode, tabI_BadCount, tabI_BadDeed, tabI_BadLate, tabI_BadLetters, tabI_BadMill, tabI_BadPlan, tabI_BadPrices] c))
 (seqS (appS (varP 2) (isxTE [tabI_BadRow, tabI_BadSize, tabI_BadText, tabI_BadWord, tabI_NoRow, tabI_NotOneOrder, tabI_Shut] c))
 nextS))))))
 (fgtS [3] (seqS (retS (eqE (varE 2) (lstE [(conE (.bl true)), (conE (.bl true)), (conE (.bl false)), (conE (.bl false))])))
 nextS))))
def F__law_refused : List Dt → Rs Dt := defF 2 4 .F Fb__law_refused
def Fb_law : Ev → Ot := (seqS (asgS 1 (callE F__law_poured [(varE 0), (conE (.int 60))]))
 (seqS (asgS 2 (callE F__law_letters [(varE 1)]))
 (seqS (asgS 3 (callE F__law_groups [(varE 1), (varE 2)]))
 (seqS (asgS 4 (callE F__law_levels [(varE 2), (varE 3)]))
 (seqS (ifS (boolT (neE (methE "Wish" "levels" F_Wish_levels (callE F_Wish___init__ [(listE (varE 2)), (callE F__law_copied [(varE 3)])]) []) (varE 4))) (seqS (retS (conE (.bl false)))
 nextS) nextS)
 (seqS (asgS 5 (callE F__law_faulty [(varE 3), (lenE (varE 2)), (ixE (varE 1) (conE (.int 56)))]))
 (seqS (ifS (andT (boolT (eqE (modE (ixE (varE 1) (conE (.int 57))) (conE (.int 3))) (conE (.int 0)))) (boolT (eqE (lenE (compE (seqI (varE 5)) [7, 8] (tupG 2 (consG (nameG 7) (consG (nameG 8) nilG))) (boolT (eqE (varE 8) (lstE []))) (varE 8))) (conE (.int 0))))) (seqS (asgS 5 (callE F__law_faulty [(varE 5), (lenE (varE 2)), (ixE (varE 1) (conE (.int 58)))]))
 nextS) nextS)
 (seqS (asgS 6 (callE F__law_copied [(varE 5)]))
 (seqS (ifS (notT (boolT (callE F__law_good [(lenE (varE 2)), (varE 5)]))) (seqS (ifS (orT (notT (boolT (callE F__law_refused [(listE (varE 2)), (varE 6)]))) (boolT (neE (varE 6) (varE 5)))) (seqS (retS (conE (.bl false)))
 nextS) nextS)
 nextS) (seqS (ifS (boolT (neE (methE "Wish" "levels" F_Wish_levels (callE F_Wish___init__ [(listE (varE 2)), (varE 6)]) []) (callE F__law_levels [(varE 2), (varE 5)]))) (seqS (retS (conE (.bl false)))
 nextS) nextS)
 nextS))
 (seqS (retS (eqE (methE "Wish" "levels" F_Wish_levels (callE F_Wish___init__ [(listE (varE 2)), (callE F__law_copied [(varE 3)])]) []) (varE 4)))
 nextS))))))))))
def F_law : List Dt → Rs Dt := defF 1 9 .F Fb_law
theorem R__wall {d0 : Dt} : F__wall [d0] = outF .F (Fb__wall [some d0]) := v_def rfl
theorem R_look_at_groups {d0 d1 : Dt} : F_look_at_groups [d0, d1] = outF .F (Fb_look_at_groups [some d0, some d1, none, none, none, none]) := v_def rfl
theorem R_group_levels {d0 d1 d2 : Dt} : F_group_levels [d0, d1, d2] = outF .F (Fb_group_levels [some d0, some d1, some d2, none, none, none]) := v_def rfl
theorem R_Wish___init__ {d0 d1 : Dt} : F_Wish___init__ [d0, d1] = outI (Fb_Wish___init__ [some (.ins "Wish" [] []), some d0, some d1, none, none, none, none, none]) := v_init rfl
theorem R_Wish_levels {d0 : Dt} : F_Wish_levels [d0] = outF .F (Fb_Wish_levels [some d0, none]) := v_def rfl
theorem R_Wish_level_of {d0 d1 : Dt} : F_Wish_level_of [d0, d1] = outF .F (Fb_Wish_level_of [some d0, some d1]) := v_def rfl
theorem R_Wish_behind {d0 d1 d2 : Dt} : F_Wish_behind [d0, d1, d2] = outF .F (Fb_Wish_behind [some d0, some d1, some d2]) := v_def rfl
theorem R_Wish_breach {d0 d1 : Dt} : F_Wish_breach [d0, d1] = outF (.T [.F, .F]) (Fb_Wish_breach [some d0, some d1]) := v_def rfl
theorem R_Wish_kept_by {d0 d1 : Dt} : F_Wish_kept_by [d0, d1] = outF .F (Fb_Wish_kept_by [some d0, some d1]) := v_def rfl
theorem R_Wish_one_order {d0 : Dt} : F_Wish_one_order [d0] = outF .F (Fb_Wish_one_order [some d0]) := v_def rfl
theorem R__law_parts {d0 d1 : Dt} : F__law_parts [d0, d1] = outF .F (Fb__law_parts [some d0, some d1, none, none, none, none]) := v_def rfl
theorem R__law_poured {d0 d1 : Dt} : F__law_poured [d0, d1] = outF .F (Fb__law_poured [some d0, some d1, none, none, none, none, none, none]) := v_def rfl
theorem R__law_letters {d0 : Dt} : F__law_letters [d0] = outF .F (Fb__law_letters [some d0, none, none, none]) := v_def rfl
theorem R__law_groups {d0 d1 : Dt} : F__law_groups [d0, d1] = outF .F (Fb__law_groups [some d0, some d1, none, none, none, none]) := v_def rfl
theorem R__law_copied {d0 : Dt} : F__law_copied [d0] = outF (.L (.T [.F, (.L .F)])) (Fb__law_copied [some d0, none, none]) := v_def rfl
theorem R__law_levels {d0 d1 : Dt} : F__law_levels [d0, d1] = outF .F (Fb__law_levels [some d0, some d1, none, none, none, none, none]) := v_def rfl
theorem R__law_places {d0 : Dt} : F__law_places [d0] = outF .F (Fb__law_places [some d0, none, none, none]) := v_def rfl
theorem R__law_faulty {d0 d1 d2 : Dt} : F__law_faulty [d0, d1, d2] = outF (.L (.T [.F, (.L .F)])) (Fb__law_faulty [some d0, some d1, some d2, none, none, none, none, none, none]) := v_def rfl
theorem R__law_good {d0 d1 : Dt} : F__law_good [d0, d1] = outF .F (Fb__law_good [some d0, some d1, none, none, none]) := v_def rfl
theorem R__law_refused {d0 d1 : Dt} : F__law_refused [d0, d1] = outF .F (Fb__law_refused [some d0, some d1, none, none]) := v_def rfl
theorem R_law {d0 : Dt} : F_law [d0] = outF .F (Fb_law [some d0, none, none, none, none, none, none, none, none]) := v_def rfl
section
variable {P : Program} {w : World} {K : PySem.W.Frag} {mg : Str → Option Value}
theorem sc_BadText___init__ : FnScope ["self", "row"] ["self", "row"] (defScope s_BadText___init__) := ⟨rfl, rfl, rfl, by decide +kernel, rfl, by decide +kernel, by decide +kernel⟩
theorem okx_BadText (T : Txt K mg) : ∃ fd, (∀ base : Heap, FnOk P w K mg base (L2.CX P w) 1 (He.ma K (He.ga K "BadText") "__init__") fd ["self", "row"] (spRow K (He.ga K "BadText"))) ∧ Binds K fd ["self", "row"] [] := by
  obtain ⟨fd, F⟩ := T.d_BadText___init__
  have nd := sc_BadText___init__.nd
  refine ⟨fd, fun base => ?_, F.bindsN (fun _ _ _ _ _ _ us hl => match us, hl with | [_, _], _ => rfl)⟩
  refine fn_row (z := "a row is refused") F sc_BadText___init__ T.ox_BadText (fun cdv A outer s H E => ?_)
  exact pss_cons (ps_expr (pe_binit rfl T.g_MillError T.bi_BadText (pa_cons (pv 0) (pa_cons pe_str pa_nil)))) (pss_cons (ps_ost (pv 0) (pv 1)) pss_nil)
theorem sc__wall : FnScope ["k"] ["k"] (defScope s__wall) := ⟨rfl, rfl, rfl, by decide +kernel, rfl, by decide +kernel, by decide +kernel⟩
theorem ok__wall (T : Txt K mg) : ∃ fd, (∀ base : Heap, FnOk P w K mg base (L2.CX P w) 1 (He.ga K "_wall") fd ["k"] (spM K (He.ga K) 1 .F F__wall)) ∧ Binds K fd ["k"] [] ∧ PySem.W.keepIn K (.ref (He.ga K "_wall")) = true := by
  obtain ⟨fd, F⟩ := T.d__wall
  have nd := sc__wall.nd
  refine ⟨fd, fun base => ?_, F.bindsN (fun _ _ _ _ _ _ us hl => match us, hl with | [_], _ => rfl), F.kp⟩
  refine fn_def (Γ0 := [.F]) (Γ1 := [.F]) F sc__wall rfl (hpF (n := 1) rfl (by decide)) (fun cdv A outer s H E hr => ?_)
  refine ⟨_, ?_, (ss_seq (ss_whl (n := 1000) (st_valB (se_B se_bl)) (ss_seq ss_next
 ss_next) (.inl rfl))
 ss_next)⟩
  exact (pss_cons (ps_while (passes_of rfl) (pt_val pe_bl) (pss_cons ps_pass
 pss_nil))
 pss_nil)
theorem sc_look_at_groups : FnScope ["count", "groups", "seen", "kind", "told", "letter"] ["count", "groups"] (defScope s_look_at_groups) := ⟨rfl, rfl, rfl, by decide +kernel, rfl, by decide +kernel, by decide +kernel⟩
theorem ok_look_at_groups (T : Txt K mg) : ∃ fd, (∀ base : Heap, FnOk P w K mg base (L2.CX P w) 1 (He.ga K "look_at_groups") fd ["count", "groups"] (spM K (He.ga K) 2 .F F_look_at_groups)) ∧ Binds K fd ["count", "groups"] [] ∧ PySem.W.keepIn K (.ref (He.ga K "look_at_groups")) = true := by
  obtain ⟨fd, F⟩ := T.d_look_at_groups
  have nd := sc_look_at_groups.nd
  refine ⟨fd, fun base => ?_, F.bindsN (fun _ _ _ _ _ _ us hl => match us, hl with | [_, _], _ => rfl), F.kp⟩
  refine fn_def (Γ0 := [.F, .F, .F, .F, .F, .F]) (Γ1 := [.F, .F, .F, .F, .F, .F]) F sc_look_at_groups rfl (hpF (n := 2) rfl (by decide)) (fun cdv A outer s H E hr => ?_)
  refine ⟨_, ?_, (ss_seq (ss_asg (i := 2) (m := (.K .F)) se_dnew (.inl rfl))
 (ss_seq (ss_for (vs := [3, 4]) (si_seq (se_var (i := 1) rfl)) (sg_tup (n := 2) (sgs_cons (sg_name (i := 3)) (sgs_cons (sg_name (i := 4)) sgs_nil))) (ss_seq (ss_if (st_or (st_val (se_B (se_nin (se_B (se_var (i := 3) rfl)) (se_B (se_con (d := .scr [.str "any", .str "come", .str "row"]) fun G => .scr (T.t_KINDS G) (.cons (.str _) (.cons (.str _) (.cons (.str _) .nil)))))))) (st_val (se_B (se_eq (se_B (se_len (se_B (se_var (i := 4) rfl)))) (se_B se_int))))) (ss_frz (i := 2) (ss_seq (ss_rai (c := "BadWish") (.inl rfl))
 ss_next)) ss_next (.inl rfl))
 (ss_seq (ss_for (vs := [5]) (si_seq (se_var (i := 4) rfl)) (sg_name (i := 5)) (ss_seq (ss_if (st_or (st_val (se_B (se_lt (se_B (se_var (i := 5) rfl)) (se_B se_int)))) (st_or (st_val (se_B (se_ge (se_B (se_var (i := 5) rfl)) (se_B (se_var (i := 0) rfl))))) (st_val (se_B (se_din (se_B (se_var (i := 5) rfl)) (se_varB (i := 2))))))) (ss_frz (i := 2) (ss_seq (ss_rai (c := "BadWish") (.inl rfl))
 ss_next)) ss_next (.inl rfl))
 (ss_seq (ss_dput se_bl (sp_var (i := 2) rfl) (se_B (se_var (i := 5) rfl)) (.inl rfl))
 (ss_fgt (vs := [5]) ss_next))) (.inl rfl))
 (ss_fgt (vs := [3, 4, 5]) ss_next))) (.inl rfl))
 (ss_frz (i := 2) (ss_seq (ss_if (st_val (se_B (se_lt (se_B (se_dlen (se_B (se_var (i := 2) rfl)))) (se_B (se_var (i := 0) rfl))))) (ss_seq (ss_rai (c := "BadWish") (.inl rfl))
 ss_next) ss_next (.inl rfl))
 ss_next))))⟩
  exact (pss_cons (ps_set (i := 2) nd rfl (by first | exact Or.inl rfl | exact Or.inr rfl) pe_dnewK)
 (pss_cons (ps_for (passes_of rfl) rfl (pi_seqA (pv 1)) (pg_tup rfl (pgs_cons (pg_name (i := 3) nd rfl (by first | exact Or.inl rfl | exact Or.inr rfl)) (pgs_cons (pg_name (i := 4) nd rfl (by first | exact Or.inl rfl | exact Or.inr rfl)) pgs_nil))) (pss_cons (ps_if (PW.pt (pw_or (pt_cmpR op_notIn_seq (pv 3) (pe_glob (v := .ref (He.ga _ "KINDS")) rfl T.g_KINDS rfl) (by rfl)) (pw_or1 (pt_cmpR (op_eqD hr.units) (pe_callB call_len (by rfl) T.b_len (by decide +kernel) (pa_cons (pv 4) pa_nil)) pe_int (nomark _))))) (pss_cons (ps_raise rfl (takes_of rfl rfl rfl rfl) (pmk_own PySem.F.excBase_ValueError T.x_BadWish.1 T.g_BadWish T.x_BadWish.2.1 (raises_own T.x_BadWish.2.2.1 T.x_BadWish.2.2.2) (by rfl)))
 pss_nil) pss_nil)
 (pss_cons (ps_for (passes_of rfl) rfl (pi_seqA (pv 4)) (pg_name (i := 5) nd rfl (by first | exact Or.inl rfl | exact Or.inr rfl)) (pss_cons (ps_if (PW.pt (pw_or (pt_cmpR op_lt (pv 5) pe_int (nomark _)) (pw_or (pt_cmpR op_ge (pv 5) (pv 0) (nomark _)) (pw_or1 (pt_cmp (pc_din (room1 hr) (pv 5) (pv 2))))))) (pss_cons (ps_raise rfl (takes_of rfl rfl rfl rfl) (pmk_own PySem.F.excBase_ValueError T.x_BadWish.1 T.g_BadWish T.x_BadWish.2.1 (raises_own T.x_BadWish.2.2.1 T.x_BadWish.2.2.2) (by rfl)))
 pss_nil) pss_nil)
 (pss_cons (ps_dput (room1 hr) (pv 2) (pv 5) pe_bl (by rfl))
 pss_nil)))
 pss_nil)))
 (pss_cons (ps_if (pt_cmpR op_lt (pe_callB call_lenDR (by rfl) T.b_len (by decide +kernel) (pa_cons (pv 2) pa_nil)) (pv 0) (nomark _)) (pss_cons (ps_raise rfl (takes_of rfl rfl rfl rfl) (pmk_own PySem.F.excBase_ValueError T.x_BadWish.1 T.g_BadWish T.x_BadWish.2.1 (raises_own T.x_BadWish.2.2.1 T.x_BadWish.2.2.2) (by rfl)))
 pss_nil) pss_nil)
 pss_nil)))
theorem sc_group_levels : FnScope ["letters", "kind", "told", "by_coming", "pair", "letter"] ["letters", "kind", "told"] (defScope s_group_levels) := ⟨rfl, rfl, rfl, by decide +kernel, rfl, by decide +kernel, by decide +kernel⟩
theorem ok_group_levels (T : Txt K mg) : ∃ fd, (∀ base : Heap, FnOk P w K mg base (L2.CX P w) 1 (He.ga K "group_levels") fd ["letters", "kind", "told"] (spM K (He.ga K) 3 .F F_group_levels)) ∧ Binds K fd ["letters", "kind", "told"] [] ∧ PySem.W.keepIn K (.ref (He.ga K "group_levels")) = true := by
  obtain ⟨fd, F⟩ := T.d_group_levels
  have nd := sc_group_levels.nd
  refine ⟨fd, fun base => ?_, F.bindsN (fun _ _ _ _ _ _ us hl => match us, hl with | [_, _, _], _ => rfl), F.kp⟩
  refine fn_def (Γ0 := [.F, .F, .F, .F, .F, .F]) (Γ1 := [.F, .F, .F, .F, .F, .F]) F sc_group_levels rfl (hpF (n := 3) rfl (by decide)) (fun cdv A outer s H E hr => ?_)
  refine ⟨_, ?_, (ss_seq (ss_if (st_val (se_B (se_eq (se_B (se_var (i := 1) rfl)) (se_B se_str)))) (ss_seq (ss_ret (se_frz (se_lst (m := .F) (sz_cons (se_frz (se_sortI (se_S (se_var (i := 2) rfl)))) sz_nil))) (.inl rfl))
 ss_next) ss_next (.inl rfl))
 (ss_seq (ss_if (st_val (se_B (se_eq (se_B (se_var (i := 1) rfl)) (se_B se_str)))) (ss_seq (ss_ret (se_frz (se_comp (vs := [5]) (m := .F) (six (si_seq (se_var (i := 2) rfl))) (sg_name (i := 5)) st_yes (se_frz (se_lst (m := .F) (sz_cons (se_var (i := 5) rfl) sz_nil))))) (.inl rfl))
 ss_next) ss_next (.inl rfl))
 (ss_seq (ss_asgF (i := 3) (se_frz (se_sortP (se_LS (se_comp (vs := [5]) (m := .F) (six (si_seq (se_var (i := 2) rfl))) (sg_name (i := 5)) st_yes (se_tupF (sz_cons (se_ix (se_S (se_ix (se_S (se_var (i := 0) rfl)) (se_B (se_var (i := 5) rfl)))) (se_B se_int)) (sz_cons (se_var (i := 5) rfl) sz_nil))))))) (.inl rfl))
 (ss_seq (ss_ret (se_frz (se_comp (vs := [4]) (m := .F) (six (si_seq (se_var (i := 3) rfl))) (sg_name (i := 4)) st_yes (se_frz (se_lst (m := .F) (sz_cons (se_ix (se_S (se_var (i := 4) rfl)) (se_B se_int)) sz_nil))))) (.inl rfl))
 ss_next))))⟩
  exact (pss_cons (ps_if (pt_cmpR (op_eqD hr.units) (pv 1) pe_str (nomark _)) (pss_cons (ps_ret (pe_lst (pa_cons (pe_callB cr_sortedI (by rfl) T.b_sorted (by decide +kernel) (pa_cons (pv 2) pa_nil)) pa_nil)))
 pss_nil) pss_nil)
 (pss_cons (ps_if (pt_cmpR (op_eqD hr.units) (pv 1) pe_str (nomark _)) (pss_cons (ps_ret (pe_lc (own := [("letter", 5)]) rfl nd (pi_seqA (pv 2)) (blkOk_by (N := ["letters", "kind", "told", "by_coming", "pair", "letter"]) (sc := defScope s_group_levels) (own := [("letter", 5)]) (by decide +kernel)) (fun _ _ _ _ _ => (pg_name (i := 5) nd rfl (by first | exact Or.inl rfl | exact Or.inr rfl))) (fun _ _ _ _ _ => pts_nil) (fun _ _ _ _ _ => (pe_lst (pa_cons (pv 5) pa_nil)))))
 pss_nil) pss_nil)
 (pss_cons (ps_set (i := 3) nd rfl (by first | exact Or.inl rfl | exact Or.inr rfl) (pe_callB cr_sortedPO (by rfl) T.b_sorted (by decide +kernel) (pa_cons (pe_lc (own := [("letter", 5)]) rfl nd (pi_seqA (pv 2)) (blkOk_by (N := ["letters", "kind", "told", "by_coming", "pair", "letter"]) (sc := defScope s_group_levels) (own := [("letter", 5)]) (by decide +kernel)) (fun _ _ _ _ _ => (pg_name (i := 5) nd rfl (by first | exact Or.inl rfl | exact Or.inr rfl))) (fun _ _ _ _ _ => pts_nil) (fun _ _ _ _ _ => (pe_tup (pa_cons (pe_ix ix_seq (pe_ix ix_seq (pv 0) (pv 5) (fun _ _ => rfl)) pe_int (fun _ _ => rfl)) (pa_cons (pv 5) pa_nil))))) pa_nil)))
 (pss_cons (ps_ret (pe_lc (own := [("pair", 4)]) rfl nd (pi_seqA (pv 3)) (blkOk_by (N := ["letters", "kind", "told", "by_coming", "pair", "letter"]) (sc := defScope s_group_levels) (own := [("pair", 4)]) (by decide +kernel)) (fun _ _ _ _ _ => (pg_name (i := 4) nd rfl (by first | exact Or.inl rfl | exact Or.inr rfl))) (fun _ _ _ _ _ => pts_nil) (fun _ _ _ _ _ => (pe_lst (pa_cons (pe_ix ix_seq (pv 4) pe_int (fun _ _ => rfl)) pa_nil)))))
 pss_nil))))
theorem sc_Wish___init__ : FnScope ["self", "letters", "groups", "kind", "told", "number", "level", "letter"] ["self", "letters", "groups"] (defScope s_Wish___init__) := ⟨rfl, rfl, rfl, by decide +kernel, rfl, by decide +kernel, by decide +kernel⟩
theorem ok_Wish___init__ (T : Txt K mg) : ∃ fd, (∀ base : Heap, FnOk P w K mg base (L2.CX P w) 2 (He.ma K (He.ga K "Wish") "__init__") fd ["self", "letters", "groups"] (spI K (He.ga K) "Wish" 3 [.F, .F, .F] F_Wish___init__)) ∧ Binds K fd ["self", "letters", "groups"] [] ∧ PySem.W.keepIn K (.ref (He.ma K (He.ga K "Wish") "__init__")) = true := by
  obtain ⟨fd, F⟩ := T.d_Wish___init__
  obtain ⟨fd_group_levels, G_group_levels, b_group_levels, k_group_levels⟩ := ok_group_levels (P := P) (w := w) T
  obtain ⟨fd_look_at_groups, G_look_at_groups, b_look_at_groups, k_look_at_groups⟩ := ok_look_at_groups (P := P) (w := w) T
  have nd := sc_Wish___init__.nd
  refine ⟨fd, fun base => ?_, F.bindsN (fun _ _ _ _ _ _ us hl => match us, hl with | [_, _, _], _ => rfl), F.kp⟩
  have G_group_levels := G_group_levels base
  have G_look_at_groups := G_look_at_groups base
  refine fn_init (Γ0 := [.F, .F, .F, .F, .F, .F, .F]) (Γ1 := [(.I [.F, .F, .F]), .F, .F, .F, .F, .F, .F, .F]) F sc_Wish___init__ rfl (fun i hi => hpF (n := 2) rfl (by decide) i (by have hi : i + 1 < 3 := hi; omega)) rfl (fun cdv A outer s H E xv hr => ?_)
  refine ⟨_, ?_, (ss_seq (ss_drop (se_call (m := .F) (sz_cons (se_len (se_B (se_var (i := 1) rfl))) (sz_cons (se_var (i := 2) rfl) sz_nil))) (.inl rfl))
 (ss_seq (ss_newF (C := "Wish") (f := "groups") (i := 0) T.c_Wish T.n_Wish_groups rfl (se_frz (se_comp (vs := [3, 4]) (m := .F) (six (si_seq (se_var (i := 2) rfl))) (sg_tup (n := 2) (sgs_cons (sg_name (i := 3)) (sgs_cons (sg_name (i := 4)) sgs_nil))) st_yes (se_tupF (sz_cons (se_var (i := 3) rfl) (sz_cons (se_frz (se_list (se_S (se_var (i := 4) rfl)))) sz_nil))))) (.inl rfl))
 (ss_seq (ss_newF (C := "Wish") (f := "kept_levels") (i := 0) T.c_Wish T.n_Wish_kept_levels rfl (se_lst (m := .F) sz_nil) (.inl rfl))
 (ss_seq (ss_for (vs := [3, 4]) (si_seq (se_var (i := 2) rfl)) (sg_tup (n := 2) (sgs_cons (sg_name (i := 3)) (sgs_cons (sg_name (i := 4)) sgs_nil))) (ss_seq (ss_ext (sp_fld (j := 1) T.c_Wish T.n_Wish_kept_levels (sp_var (i := 0) rfl) rfl) (se_S (se_call (m := .F) (sz_cons (se_var (i := 1) rfl) (sz_cons (se_var (i := 3) rfl) (sz_cons (se_var (i := 4) rfl) sz_nil))))) (.inl rfl))
 (ss_fgt (vs := [3, 4]) ss_next)) (.inl rfl))
 (ss_frzI (i := 0) (j := 1) rfl (ss_seq (ss_newF (C := "Wish") (f := "numbers") (i := 0) T.c_Wish T.n_Wish_numbers rfl se_dnew (.inl rfl))
 (ss_seq (ss_for (vs := [5, 6]) (si_enum (sz_cons (se_fldI (j := 1) T.c_Wish T.n_Wish_kept_levels rfl rfl) sz_nil)) (sg_tup (n := 2) (sgs_cons (sg_name (i := 5)) (sgs_cons (sg_name (i := 6)) sgs_nil))) (ss_seq (ss_for (vs := [7]) (si_seq (se_var (i := 6) rfl)) (sg_name (i := 7)) (ss_seq (ss_dput (se_var (i := 5) rfl) (sp_fld (j := 2) T.c_Wish T.n_Wish_numbers (sp_var (i := 0) rfl) rfl) (se_B (se_var (i := 7) rfl)) (.inl rfl))
 (ss_fgt (vs := [7]) ss_next)) (.inl rfl))
 (ss_fgt (vs := [5, 6, 7]) ss_next)) (.inl rfl))
 (ss_frzI (i := 0) (j := 2) rfl ss_next))))))))⟩
  exact (pss_cons (ps_expr (pe_callS G_look_at_groups (hr.mono (by decide)) rfl T.g_look_at_groups k_look_at_groups b_look_at_groups (fun σ => passAt (takes_of rfl rfl rfl rfl) σ) (pa_cons (pe_callB call_len (by rfl) T.b_len (by decide +kernel) (pa_cons (pv 1) pa_nil)) (pa_cons (pv 2) pa_nil))))
 (pss_cons (ps_fld (pv 0) (pe_lc (own := [("kind", 3), ("told", 4)]) rfl nd (pi_seqA (pv 2)) (blkOk_by (N := ["self", "letters", "groups", "kind", "told", "number", "level", "letter"]) (sc := defScope s_Wish___init__) (own := [("kind", 3), ("told", 4)]) (by decide +kernel)) (fun _ _ _ _ _ => (pg_tup rfl (pgs_cons (pg_name (i := 3) nd rfl (by first | exact Or.inl rfl | exact Or.inr rfl)) (pgs_cons (pg_name (i := 4) nd rfl (by first | exact Or.inl rfl | exact Or.inr rfl)) pgs_nil)))) (fun _ _ _ _ _ => pts_nil) (fun _ _ _ _ _ => (pe_tup (pa_cons (pv 3) (pa_cons (pe_callTy call_list_of (by rfl) T.b_list (by decide +kernel) (pa_cons (pv 4) pa_nil)) pa_nil))))) rfl)
 (pss_cons (ps_fld (pv 0) (pe_lst pa_nil) rfl)
 (pss_cons (ps_for (passes_of rfl) rfl (pi_seqA (pv 2)) (pg_tup rfl (pgs_cons (pg_name (i := 3) nd rfl (by first | exact Or.inl rfl | exact Or.inr rfl)) (pgs_cons (pg_name (i := 4) nd rfl (by first | exact Or.inl rfl | exact Or.inr rfl)) pgs_nil))) (pss_cons (ps_expr (pe_bm PySem.F.plainAttrs_list PySem.F.slot_list_extend PySem.F.type_list_extend mt_extend (pe_fld (pv 0) rfl) (pa_cons (pe_callS G_group_levels (hr.mono (by decide)) rfl T.g_group_levels k_group_levels b_group_levels (fun σ => passAt (takes_of rfl rfl rfl rfl) σ) (pa_cons (pv 1) (pa_cons (pv 3) (pa_cons (pv 4) pa_nil)))) pa_nil)))
 pss_nil))
 (pss_cons (ps_fld (pv 0) pe_dnewK rfl)
 (pss_cons (ps_for (passes_of rfl) rfl (pi_enum rfl T.b_enumerate (pa_cons (pe_fld (pv 0) rfl) pa_nil)) (pg_tup rfl (pgs_cons (pg_name (i := 5) nd rfl (by first | exact Or.inl rfl | exact Or.inr rfl)) (pgs_cons (pg_name (i := 6) nd rfl (by first | exact Or.inl rfl | exact Or.inr rfl)) pgs_nil))) (pss_cons (ps_for (passes_of rfl) rfl (pi_seqA (pv 6)) (pg_name (i := 7) nd rfl (by first | exact Or.inl rfl | exact Or.inr rfl)) (pss_cons (ps_dput (room1 hr) (pe_fld (pv 0) rfl) (pv 7) (pv 5) (by rfl))
 pss_nil))
 pss_nil))
 pss_nil))))))
theorem sc_Wish_levels : FnScope ["self", "level"] ["self"] (defScope s_Wish_levels) := ⟨rfl, rfl, rfl, by decide +kernel, rfl, by decide +kernel, by decide +kernel⟩
theorem ok_Wish_levels (T : Txt K mg) : ∃ fd, (∀ base : Heap, FnOk P w K mg base (L2.CX P w) 1 (He.ma K (He.ga K "Wish") "levels") fd ["self"] (spM K (He.ga K) 1 .F F_Wish_levels)) ∧ Binds K fd ["self"] [] ∧ PySem.W.keepIn K (.ref (He.ma K (He.ga K "Wish") "levels")) = true := by
  obtain ⟨fd, F⟩ := T.d_Wish_levels
  have nd := sc_Wish_levels.nd
  refine ⟨fd, fun base => ?_, F.bindsN (fun _ _ _ _ _ _ us hl => match us, hl with | [_], _ => rfl), F.kp⟩
  refine fn_def (Γ0 := [.F, .F]) (Γ1 := [.F, .F]) F sc_Wish_levels rfl (hpF (n := 1) rfl (by decide)) (fun cdv A outer s H E hr => ?_)
  refine ⟨_, ?_, (ss_seq (ss_ret (se_frz (se_comp (vs := [1]) (m := .F) (six (si_seq (se_fld T.c_Wish T.n_Wish_kept_levels (se_var (i := 0) rfl)))) (sg_name (i := 1)) st_yes (se_frz (se_list (se_S (se_var (i := 1) rfl)))))) (.inl rfl))
 ss_next)⟩
  exact (pss_cons (ps_ret (pe_lc (own := [("level", 1)]) rfl nd (pi_seqA (pe_fld (pv 0) rfl)) (blkOk_by (N := ["self", "level"]) (sc := defScope s_Wish_levels) (own := [("level", 1)]) (by decide +kernel)) (fun _ _ _ _ _ => (pg_name (i := 1) nd rfl (by first | exact Or.inl rfl | exact Or.inr rfl))) (fun _ _ _ _ _ => pts_nil) (fun _ _ _ _ _ => (pe_callTy call_list_of (by rfl) T.b_list (by decide +kernel) (pa_cons (pv 1) pa_nil)))))
 pss_nil)
theorem sc_Wish_level_of : FnScope ["self", "letter"] ["self", "letter"] (defScope s_Wish_level_of) := ⟨rfl, rfl, rfl, by decide +kernel, rfl, by decide +kernel, by decide +kernel⟩
theorem ok_Wish_level_of (T : Txt K mg) : ∃ fd, (∀ base : Heap, FnOk P w K mg base (L2.CX P w) 2 (He.ma K (He.ga K "Wish") "level_of") fd ["self", "letter"] (spM K (He.ga K) 2 .F F_Wish_level_of)) ∧ Binds K fd ["self", "letter"] [] ∧ PySem.W.keepIn K (.ref (He.ma K (He.ga K "Wish") "level_of")) = true := by
  obtain ⟨fd, F⟩ := T.d_Wish_level_of
  obtain ⟨fd__wall, G__wall, b__wall, k__wall⟩ := ok__wall (P := P) (w := w) T
  have nd := sc_Wish_level_of.nd
  refine ⟨fd, fun base => ?_, F.bindsN (fun _ _ _ _ _ _ us hl => match us, hl with | [_, _], _ => rfl), F.kp⟩
  have G__wall := G__wall base
  refine fn_def (Γ0 := [.F, .F]) (Γ1 := [.F, .F]) F sc_Wish_level_of rfl (hpF (n := 2) rfl (by decide)) (fun cdv A outer s H E hr => ?_)
  refine ⟨_, ?_, (ss_seq (ss_drop (se_call (m := .F) (sz_cons se_int sz_nil)) (.inl rfl))
 ss_next)⟩
  exact (pss_cons (ps_expr (pe_callS G__wall (hr.mono (by decide)) rfl T.g__wall k__wall b__wall (fun σ => passAt (takes_of rfl rfl rfl rfl) σ) (pa_cons pe_int pa_nil)))
 pss_nil)
theorem sc_Wish_behind : FnScope ["self", "one", "other"] ["self", "one", "other"] (defScope s_Wish_behind) := ⟨rfl, rfl, rfl, by decide +kernel, rfl, by decide +kernel, by decide +kernel⟩
theorem ok_Wish_behind (T : Txt K mg) : ∃ fd, (∀ base : Heap, FnOk P w K mg base (L2.CX P w) 1 (He.ma K (He.ga K "Wish") "behind") fd ["self", "one", "other"] (spM K (He.ga K) 3 .F F_Wish_behind)) ∧ Binds K fd ["self", "one", "other"] [] ∧ PySem.W.keepIn K (.ref (He.ma K (He.ga K "Wish") "behind")) = true := by
  obtain ⟨fd, F⟩ := T.d_Wish_behind
  have nd := sc_Wish_behind.nd
  refine ⟨fd, fun base => ?_, F.bindsN (fun _ _ _ _ _ _ us hl => match us, hl with | [_, _, _], _ => rfl), F.kp⟩
  refine fn_def (Γ0 := [.F, .F, .F]) (Γ1 := [.F, .F, .F]) F sc_Wish_behind rfl (hpF (n := 3) rfl (by decide)) (fun cdv A outer s H E hr => ?_)
  refine ⟨_, ?_, (ss_seq (ss_ret (se_gt (se_B (se_scal (se_dgetB (se_B (se_fld T.c_Wish T.n_Wish_numbers (se_var (i := 0) rfl))) (se_B (se_var (i := 1) rfl))))) (se_B (se_scal (se_dgetB (se_B (se_fld T.c_Wish T.n_Wish_numbers (se_var (i := 0) rfl))) (se_B (se_var (i := 2) rfl)))))) (.inl rfl))
 ss_next)⟩
  exact (pss_cons (ps_ret (pe_cmpR op_gt (pe_dget (room1 hr) (pe_fld (pv 0) rfl) (pv 1) (fun _ _ => rfl)) (pe_dget (room1 hr) (pe_fld (pv 0) rfl) (pv 2) (fun _ _ => rfl)) (nomark _)))
 pss_nil)
theorem sc_Wish_breach : FnScope ["self", "row"] ["self", "row"] (defScope s_Wish_breach) := ⟨rfl, rfl, rfl, by decide +kernel, rfl, by decide +kernel, by decide +kernel⟩
theorem ok_Wish_breach (T : Txt K mg) : ∃ fd, (∀ base : Heap, FnOk P w K mg base (L2.CX P w) 2 (He.ma K (He.ga K "Wish") "breach") fd ["self", "row"] (spM K (He.ga K) 2 (.T [.F, .F]) F_Wish_breach)) ∧ Binds K fd ["self", "row"] [] ∧ PySem.W.keepIn K (.ref (He.ma K (He.ga K "Wish") "breach")) = true := by
  obtain ⟨fd, F⟩ := T.d_Wish_breach
  obtain ⟨fd__wall, G__wall, b__wall, k__wall⟩ := ok__wall (P := P) (w := w) T
  have nd := sc_Wish_breach.nd
  refine ⟨fd, fun base => ?_, F.bindsN (fun _ _ _ _ _ _ us hl => match us, hl with | [_, _], _ => rfl), F.kp⟩
  have G__wall := G__wall base
  refine fn_def (Γ0 := [.F, .F]) (Γ1 := [.F, .F]) F sc_Wish_breach rfl (hpF (n := 2) rfl (by decide)) (fun cdv A outer s H E hr => ?_)
  refine ⟨_, ?_, (ss_seq (ss_drop (se_call (m := .F) (sz_cons se_int sz_nil)) (.inl rfl))
 ss_next)⟩
  exact (pss_cons (ps_expr (pe_callS G__wall (hr.mono (by decide)) rfl T.g__wall k__wall b__wall (fun σ => passAt (takes_of rfl rfl rfl rfl) σ) (pa_cons pe_int pa_nil)))
 pss_nil)
theorem sc_Wish_kept_by : FnScope ["self", "row"] ["self", "row"] (defScope s_Wish_kept_by) := ⟨rfl, rfl, rfl, by decide +kernel, rfl, by decide +kernel, by decide +kernel⟩
theorem ok_Wish_kept_by (T : Txt K mg) : ∃ fd, (∀ base : Heap, FnOk P w K mg base (L2.CX P w) 2 (He.ma K (He.ga K "Wish") "kept_by") fd ["self", "row"] (spM K (He.ga K) 2 .F F_Wish_kept_by)) ∧ Binds K fd ["self", "row"] [] ∧ PySem.W.keepIn K (.ref (He.ma K (He.ga K "Wish") "kept_by")) = true := by
  obtain ⟨fd, F⟩ := T.d_Wish_kept_by
  obtain ⟨fd__wall, G__wall, b__wall, k__wall⟩ := ok__wall (P := P) (w := w) T
  have nd := sc_Wish_kept_by.nd
  refine ⟨fd, fun base => ?_, F.bindsN (fun _ _ _ _ _ _ us hl => match us, hl with | [_, _], _ => rfl), F.kp⟩
  have G__wall := G__wall base
  refine fn_def (Γ0 := [.F, .F]) (Γ1 := [.F, .F]) F sc_Wish_kept_by rfl (hpF (n := 2) rfl (by decide)) (fun cdv A outer s H E hr => ?_)
  refine ⟨_, ?_, (ss_seq (ss_drop (se_call (m := .F) (sz_cons se_int sz_nil)) (.inl rfl))
 ss_next)⟩
  exact (pss_cons (ps_expr (pe_callS G__wall (hr.mono (by decide)) rfl T.g__wall k__wall b__wall (fun σ => passAt (takes_of rfl rfl rfl rfl) σ) (pa_cons pe_int pa_nil)))
 pss_nil)
theorem sc_Wish_one_order : FnScope ["self"] ["self"] (defScope s_Wish_one_order) := ⟨rfl, rfl, rfl, by decide +kernel, rfl, by decide +kernel, by decide +kernel⟩
theorem ok_Wish_one_order (T : Txt K mg) : ∃ fd, (∀ base : Heap, FnOk P w K mg base (L2.CX P w) 2 (He.ma K (He.ga K "Wish") "one_order") fd ["self"] (spM K (He.ga K) 1 .F F_Wish_one_order)) ∧ Binds K fd ["self"] [] ∧ PySem.W.keepIn K (.ref (He.ma K (He.ga K "Wish") "one_order")) = true := by
  obtain ⟨fd, F⟩ := T.d_Wish_one_order
  obtain ⟨fd__wall, G__wall, b__wall, k__wall⟩ := ok__wall (P := P) (w := w) T
  have nd := sc_Wish_one_order.nd
  refine ⟨fd, fun base => ?_, F.bindsN (fun _ _ _ _ _ _ us hl => match us, hl with | [_], _ => rfl), F.kp⟩
  have G__wall := G__wall base
  refine fn_def (Γ0 := [.F]) (Γ1 := [.F]) F sc_Wish_one_order rfl (hpF (n := 1) rfl (by decide)) (fun cdv A outer s H E hr => ?_)
  refine ⟨_, ?_, (ss_seq (ss_drop (se_call (m := .F) (sz_cons se_int sz_nil)) (.inl rfl))
 ss_next)⟩
  exact (pss_cons (ps_expr (pe_callS G__wall (hr.mono (by decide)) rfl T.g__wall k__wall b__wall (fun σ => passAt (takes_of rfl rfl rfl rfl) σ) (pa_cons pe_int pa_nil)))
 pss_nil)
theorem sc__law_parts : FnScope ["script", "many", "tens", "parts", "k", "cell"] ["script", "many"] (defScope s__law_parts) := ⟨rfl, rfl, rfl, by decide +kernel, rfl, by decide +kernel, by decide +kernel⟩
theorem ok__law_parts (T : Txt K mg) : ∃ fd, (∀ base : Heap, FnOk P w K mg base (L2.CX P w) 1 (He.ga K "_law_parts") fd ["script", "many"] (spM K (He.ga K) 2 .F F__law_parts)) ∧ Binds K fd ["script", "many"] [] ∧ PySem.W.keepIn K (.ref (He.ga K "_law_parts")) = true := by
  obtain ⟨fd, F⟩ := T.d__law_parts
  have nd := sc__law_parts.nd
  refine ⟨fd, fun base => ?_, F.bindsN (fun _ _ _ _ _ _ us hl => match us, hl with | [_, _], _ => rfl), F.kp⟩
  refine fn_def (Γ0 := [.F, .F, .F, .F, .F, .F]) (Γ1 := [.F, .F, .F, .F, .F, .F]) F sc__law_parts rfl (hpF (n := 2) rfl (by decide)) (fun cdv A outer s H E hr => ?_)
  refine ⟨_, ?_, (ss_seq (ss_asgF (i := 2) (se_frz (se_lst (m := .F) (sz_cons se_int (sz_cons (se_pow (se_B se_int) (se_B se_int)) (sz_cons (se_pow (se_B se_int) (se_B se_int)) (sz_cons (se_pow (se_B se_int) (se_B se_int)) (sz_cons (se_pow (se_B se_int) (se_B se_int)) sz_nil))))))) (.inl rfl))
 (ss_seq (ss_asg (i := 3) (m := (.L .F)) (se_lst (m := .F) sz_nil) (.inl rfl))
 (ss_seq (ss_for (vs := [4]) (si_rng1 (sb_cons (se_B (se_var (i := 1) rfl)) sb_nil)) (sg_name (i := 4)) (ss_seq (ss_asgF (i := 5) se_int (.inl rfl))
 (ss_seq (ss_if (st_val (se_B (se_lt (se_B (se_add (se_B se_int) (se_B (se_mod (se_B (se_var (i := 4) rfl)) (se_B se_int))))) (se_B (se_len (se_B (se_var (i := 0) rfl))))))) (ss_seq (ss_asgF (i := 5) (se_ix (se_S (se_var (i := 0) rfl)) (se_B (se_add (se_B se_int) (se_B (se_mod (se_B (se_var (i := 4) rfl)) (se_B se_int)))))) (.inl rfl))
 ss_next) ss_next (.inl rfl))
 (ss_seq (ss_app (sp_var (i := 3) rfl) (se_mod (se_B (se_div (se_B (se_var (i := 5) rfl)) (se_B (se_ix (se_S (se_var (i := 2) rfl)) (se_B (se_div (se_B (se_var (i := 4) rfl)) (se_B se_int))))))) (se_B (se_pow (se_B se_int) (se_B se_int)))) (.inl rfl))
 (ss_fgt (vs := [4, 5]) ss_next)))) (.inl rfl))
 (ss_frz (i := 3) (ss_seq (ss_ret (se_var (i := 3) rfl) (.inl rfl))
 ss_next)))))⟩
  exact (pss_cons (ps_set (i := 2) nd rfl (by first | exact Or.inl rfl | exact Or.inr rfl) (pe_lst (pa_cons pe_int (pa_cons (pe_op op_pow pe_int pe_int) (pa_cons (pe_op op_pow pe_int pe_int) (pa_cons (pe_op op_pow pe_int pe_int) (pa_cons (pe_op op_pow pe_int pe_int) pa_nil)))))))
 (pss_cons (ps_set (i := 3) nd rfl (by first | exact Or.inl rfl | exact Or.inr rfl) (pe_lst pa_nil))
 (pss_cons (ps_for (passes_of rfl) rfl (pi_range1 rfl T.b_range (pa_cons (pv 1) pa_nil)) (pg_name (i := 4) nd rfl (by first | exact Or.inl rfl | exact Or.inr rfl)) (pss_cons (ps_set (i := 5) nd rfl (by first | exact Or.inl rfl | exact Or.inr rfl) pe_int)
 (pss_cons (ps_if (pt_cmpR op_lt (pe_op op_add pe_int (pe_op op_mod (pv 4) pe_int)) (pe_callB call_len (by rfl) T.b_len (by decide +kernel) (pa_cons (pv 0) pa_nil)) (nomark _)) (pss_cons (ps_set (i := 5) nd rfl (by first | exact Or.inl rfl | exact Or.inr rfl) (pe_ix ix_seq (pv 0) (pe_op op_add pe_int (pe_op op_mod (pv 4) pe_int)) (fun _ _ => rfl)))
 pss_nil) pss_nil)
 (pss_cons (ps_expr (pe_bm PySem.F.plainAttrs_list PySem.F.slot_list_append PySem.F.type_list_append mt_append (pv 3) (pa_cons (pe_op op_mod (pe_op op_fdivW (pv 5) (pe_ix ix_seq (pv 2) (pe_op op_fdivW (pv 4) pe_int) (fun _ _ => rfl))) (pe_op op_pow pe_int pe_int)) pa_nil)))
 pss_nil))))
 (pss_cons (ps_ret (pv 3))
 pss_nil))))
theorem sc__law_poured : FnScope ["script", "many", "stir", "cell", "numbers", "k", "mixed", "number"] ["script", "many"] (defScope s__law_poured) := ⟨rfl, rfl, rfl, by decide +kernel, rfl, by decide +kernel, by decide +kernel⟩
theorem ok__law_poured (T : Txt K mg) : ∃ fd, (∀ base : Heap, FnOk P w K mg base (L2.CX P w) 2 (He.ga K "_law_poured") fd ["script", "many"] (spM K (He.ga K) 2 .F F__law_poured)) ∧ Binds K fd ["script", "many"] [] ∧ PySem.W.keepIn K (.ref (He.ga K "_law_poured")) = true := by
  obtain ⟨fd, F⟩ := T.d__law_poured
  obtain ⟨fd__law_parts, G__law_parts, b__law_parts, k__law_parts⟩ := ok__law_parts (P := P) (w := w) T
  have nd := sc__law_poured.nd
  refine ⟨fd, fun base => ?_, F.bindsN (fun _ _ _ _ _ _ us hl => match us, hl with | [_, _], _ => rfl), F.kp⟩
  have G__law_parts := G__law_parts base
  refine fn_def (Γ0 := [.F, .F, .F, .F, .F, .F, .F, .F]) (Γ1 := [.F, .F, .F, .F, .F, .F, .F, .F]) F sc__law_poured rfl (hpF (n := 2) rfl (by decide)) (fun cdv A outer s H E hr => ?_)
  refine ⟨_, ?_, (ss_seq (ss_if (st_and (st_val (se_B (se_gt (se_B (se_len (se_B (se_var (i := 0) rfl)))) (se_B se_int)))) (st_val (se_B (se_eq (se_B (se_mod (se_B (se_ix (se_S (se_var (i := 0) rfl)) (se_B se_int))) (se_B se_int))) (se_B se_int))))) (ss_seq (ss_ret (se_call (m := .F) (sz_cons (se_var (i := 0) rfl) (sz_cons (se_var (i := 1) rfl) sz_nil))) (.inl rfl))
 ss_next) ss_next (.inl rfl))
 (ss_seq (ss_asgF (i := 2) se_int (.inl rfl))
 (ss_seq (ss_for (vs := [3]) (si_seq (se_var (i := 0) rfl)) (sg_name (i := 3)) (ss_seq (ss_asgF (i := 2) (se_mod (se_B (se_add (se_B (se_add (se_B (se_mul (se_B (se_var (i := 2) rfl)) (se_B (se_var (i := 2) rfl)))) (se_B (se_mul (se_B (se_mod (se_B (se_var (i := 3) rfl)) (se_B (se_pow (se_B se_int) (se_B se_int))))) (se_B se_int))))) (se_B se_int))) (se_B se_int)) (.inl rfl))
 (ss_fgt (vs := [3]) ss_next)) (.inl rfl))
 (ss_seq (ss_asg (i := 4) (m := (.L .F)) (se_lst (m := .F) sz_nil) (.inl rfl))
 (ss_seq (ss_for (vs := [5]) (si_rng1 (sb_cons (se_B (se_var (i := 1) rfl)) sb_nil)) (sg_name (i := 5)) (ss_seq (ss_asgF (i := 2) (se_mod (se_B (se_add (se_B (se_add (se_B (se_mul (se_B (se_var (i := 2) rfl)) (se_B (se_var (i := 2) rfl)))) (se_B (se_mul (se_B se_int) (se_B (se_var (i := 5) rfl)))))) (se_B se_int))) (se_B se_int)) (.inl rfl))
 (ss_seq (ss_app (sp_var (i := 4) rfl) (se_var (i := 2) rfl) (.inl rfl))
 (ss_fgt (vs := [5]) ss_next))) (.inl rfl))
 (ss_fgt (vs := [2]) (ss_seq (ss_for (vs := [5]) (si_rng1 (sb_cons (se_B (se_len (se_B (se_var (i := 0) rfl)))) sb_nil)) (sg_name (i := 5)) (ss_seq (ss_asgF (i := 7) (se_add (se_B (se_mul (se_B (se_ix (se_varS (i := 4) rfl) (se_B (se_mod (se_B (se_var (i := 5) rfl)) (se_B (se_var (i := 1) rfl)))))) (se_B se_int))) (se_B (se_var (i := 5) rfl))) (.inl rfl))
 (ss_seq (ss_set (se_mod (se_B (se_add (se_B (se_var (i := 7) rfl)) (se_B (se_mod (se_B (se_ix (se_S (se_var (i := 0) rfl)) (se_B (se_var (i := 5) rfl)))) (se_B (se_pow (se_B se_int) (se_B se_int))))))) (se_B se_int)) (sp_var (i := 4) rfl) (se_B (se_mod (se_B (se_var (i := 5) rfl)) (se_B (se_var (i := 1) rfl)))) (.inl rfl))
 (ss_fgt (vs := [5, 7]) ss_next))) (.inl rfl))
 (ss_frz (i := 4) (ss_seq (ss_asg (i := 6) (m := (.L .F)) (se_lst (m := .F) sz_nil) (.inl rfl))
 (ss_seq (ss_for (vs := [7]) (si_seq (se_var (i := 4) rfl)) (sg_name (i := 7)) (ss_seq (ss_app (sp_var (i := 6) rfl) (se_div (se_B (se_mod (se_B (se_mul (se_B (se_var (i := 7) rfl)) (se_B (se_var (i := 7) rfl)))) (se_B se_int))) (se_B se_int)) (.inl rfl))
 (ss_fgt (vs := [7]) ss_next)) (.inl rfl))
 (ss_frz (i := 6) (ss_seq (ss_ret (se_var (i := 6) rfl) (.inl rfl))
 ss_next))))))))))))⟩
  exact (pss_cons (ps_if (PW.pt (pw_and (pt_cmpR op_gt (pe_callB call_len (by rfl) T.b_len (by decide +kernel) (pa_cons (pv 0) pa_nil)) pe_int (nomark _)) (pw_and1 (pt_cmpR (op_eqD hr.units) (pe_op op_mod (pe_ix ix_seq (pv 0) pe_int (fun _ _ => rfl)) pe_int) pe_int (nomark _))))) (pss_cons (ps_ret (pe_callS G__law_parts (hr.mono (by decide)) rfl T.g__law_parts k__law_parts b__law_parts (fun σ => passAt (takes_of rfl rfl rfl rfl) σ) (pa_cons (pv 0) (pa_cons (pv 1) pa_nil))))
 pss_nil) pss_nil)
 (pss_cons (ps_set (i := 2) nd rfl (by first | exact Or.inl rfl | exact Or.inr rfl) pe_int)
 (pss_cons (ps_for (passes_of rfl) rfl (pi_seqA (pv 0)) (pg_name (i := 3) nd rfl (by first | exact Or.inl rfl | exact Or.inr rfl)) (pss_cons (ps_set (i := 2) nd rfl (by first | exact Or.inl rfl | exact Or.inr rfl) (pe_op op_mod (pe_op op_add (pe_op op_add (pe_op op_mul (pv 2) (pv 2)) (pe_op op_mul (pe_op op_mod (pv 3) (pe_op op_pow pe_int pe_int)) pe_int)) pe_int) pe_int))
 pss_nil))
 (pss_cons (ps_set (i := 4) nd rfl (by first | exact Or.inl rfl | exact Or.inr rfl) (pe_lst pa_nil))
 (pss_cons (ps_for (passes_of rfl) rfl (pi_range1 rfl T.b_range (pa_cons (pv 1) pa_nil)) (pg_name (i := 5) nd rfl (by first | exact Or.inl rfl | exact Or.inr rfl)) (pss_cons (ps_set (i := 2) nd rfl (by first | exact Or.inl rfl | exact Or.inr rfl) (pe_op op_mod (pe_op op_add (pe_op op_add (pe_op op_mul (pv 2) (pv 2)) (pe_op op_mul pe_int (pv 5))) pe_int) pe_int))
 (pss_cons (ps_expr (pe_bm PySem.F.plainAttrs_list PySem.F.slot_list_append PySem.F.type_list_append mt_append (pv 4) (pa_cons (pv 2) pa_nil)))
 pss_nil)))
 (pss_cons (ps_for (passes_of rfl) rfl (pi_range1 rfl T.b_range (pa_cons (pe_callB call_len (by rfl) T.b_len (by decide +kernel) (pa_cons (pv 0) pa_nil)) pa_nil)) (pg_name (i := 5) nd rfl (by first | exact Or.inl rfl | exact Or.inr rfl)) (pss_cons (ps_set (i := 7) nd rfl (by first | exact Or.inl rfl | exact Or.inr rfl) (pe_op op_add (pe_op op_mul (pe_ix ix_seq (pv 4) (pe_op op_mod (pv 5) (pv 1)) (fun _ _ => rfl)) pe_int) (pv 5)))
 (pss_cons (ps_asg (pe_op op_mod (pe_op op_add (pv 7) (pe_op op_mod (pe_ix ix_seq (pv 0) (pv 5) (fun _ _ => rfl)) (pe_op op_pow pe_int pe_int))) pe_int) (pg_sub (pv 4) (pe_op op_mod (pv 5) (pv 1)) set_list))
 pss_nil)))
 (pss_cons (ps_set (i := 6) nd rfl (by first | exact Or.inl rfl | exact Or.inr rfl) (pe_lst pa_nil))
 (pss_cons (ps_for (passes_of rfl) rfl (pi_seqA (pv 4)) (pg_name (i := 7) nd rfl (by first | exact Or.inl rfl | exact Or.inr rfl)) (pss_cons (ps_expr (pe_bm PySem.F.plainAttrs_list PySem.F.slot_list_append PySem.F.type_list_append mt_append (pv 6) (pa_cons (pe_op op_fdivW (pe_op op_mod (pe_op op_mul (pv 7) (pv 7)) pe_int) pe_int) pa_nil)))
 pss_nil))
 (pss_cons (ps_ret (pv 6))
 pss_nil)))))))))
theorem sc__law_letters : FnScope ["numbers", "many", "late", "k"] ["numbers"] (defScope s__law_letters) := ⟨rfl, rfl, rfl, by decide +kernel, rfl, by decide +kernel, by decide +kernel⟩
theorem ok__law_letters (T : Txt K mg) : ∃ fd, (∀ base : Heap, FnOk P w K mg base (L2.CX P w) 1 (He.ga K "_law_letters") fd ["numbers"] (spM K (He.ga K) 1 .F F__law_letters)) ∧ Binds K fd ["numbers"] [] ∧ PySem.W.keepIn K (.ref (He.ga K "_law_letters")) = true := by
  obtain ⟨fd, F⟩ := T.d__law_letters
  have nd := sc__law_letters.nd
  refine ⟨fd, fun base => ?_, F.bindsN (fun _ _ _ _ _ _ us hl => match us, hl with | [_], _ => rfl), F.kp⟩
  refine fn_def (Γ0 := [.F, .F, .F, .F]) (Γ1 := [.F, .F, .F, .F]) F sc__law_letters rfl (hpF (n := 1) rfl (by decide)) (fun cdv A outer s H E hr => ?_)
  refine ⟨_, ?_, (ss_seq (ss_asgF (i := 1) (se_ix (se_LS (se_lst (m := .F) (sz_cons se_int (sz_cons se_int (sz_cons se_int (sz_cons se_int (sz_cons se_int (sz_cons se_int (sz_cons se_int (sz_cons se_int (sz_cons se_int (sz_cons se_int (sz_cons se_int (sz_cons se_int sz_nil)))))))))))))) (se_B (se_mod (se_B (se_ix (se_S (se_var (i := 0) rfl)) (se_B se_int))) (se_B se_int)))) (.inl rfl))
 (ss_seq (ss_asgF (i := 2) (se_mod (se_B (se_div (se_B (se_ix (se_S (se_var (i := 0) rfl)) (se_B se_int))) (se_B se_int))) (se_B se_int)) (.inl rfl))
 (ss_seq (ss_ret (se_frz (se_comp (vs := [3]) (m := .F) (six (si_rng1 (sb_cons (se_B (se_var (i := 1) rfl)) sb_nil))) (sg_name (i := 3)) st_yes (se_tupF (sz_cons (se_add (se_B se_int) (se_B (se_mod (se_B (se_ix (se_S (se_var (i := 0) rfl)) (se_B (se_add (se_B se_int) (se_B (se_var (i := 3) rfl)))))) (se_B se_int)))) (sz_cons (se_mul (se_B (se_mod (se_B (se_div (se_B (se_ix (se_S (se_var (i := 0) rfl)) (se_B (se_add (se_B se_int) (se_B (se_var (i := 3) rfl)))))) (se_B se_int))) (se_B se_int))) (se_B (se_var (i := 2) rfl))) sz_nil))))) (.inl rfl))
 ss_next)))⟩
  exact (pss_cons (ps_set (i := 1) nd rfl (by first | exact Or.inl rfl | exact Or.inr rfl) (pe_ix ix_seq (pe_lst (pa_cons pe_int (pa_cons pe_int (pa_cons pe_int (pa_cons pe_int (pa_cons pe_int (pa_cons pe_int (pa_cons pe_int (pa_cons pe_int (pa_cons pe_int (pa_cons pe_int (pa_cons pe_int (pa_cons pe_int pa_nil))))))))))))) (pe_op op_mod (pe_ix ix_seq (pv 0) pe_int (fun _ _ => rfl)) pe_int) (fun _ _ => rfl)))
 (pss_cons (ps_set (i := 2) nd rfl (by first | exact Or.inl rfl | exact Or.inr rfl) (pe_op op_mod (pe_op op_fdivW (pe_ix ix_seq (pv 0) pe_int (fun _ _ => rfl)) pe_int) pe_int))
 (pss_cons (ps_ret (pe_lc (own := [("k", 3)]) rfl nd (pi_range1 rfl T.b_range (pa_cons (pv 1) pa_nil)) (blkOk_by (N := ["numbers", "many", "late", "k"]) (sc := defScope s__law_letters) (own := [("k", 3)]) (by decide +kernel)) (fun _ _ _ _ _ => (pg_name (i := 3) nd rfl (by first | exact Or.inl rfl | exact Or.inr rfl))) (fun _ _ _ _ _ => pts_nil) (fun _ _ _ _ _ => (pe_tup (pa_cons (pe_op op_add pe_int (pe_op op_mod (pe_ix ix_seq (pv 0) (pe_op op_add pe_int (pv 3)) (fun _ _ => rfl)) pe_int)) (pa_cons (pe_op op_mul (pe_op op_mod (pe_op op_fdivW (pe_ix ix_seq (pv 0) (pe_op op_add pe_int (pv 3)) (fun _ _ => rfl)) pe_int) pe_int) (pv 2)) pa_nil))))))
 pss_nil)))
theorem sc__law_groups : FnScope ["numbers", "letters", "rest", "groups", "k", "number"] ["numbers", "letters"] (defScope s__law_groups) := ⟨rfl, rfl, rfl, by decide +kernel, rfl, by decide +kernel, by decide +kernel⟩
theorem ok__law_groups (T : Txt K mg) : ∃ fd, (∀ base : Heap, FnOk P w K mg base (L2.CX P w) 1 (He.ga K "_law_groups") fd ["numbers", "letters"] (spM K (He.ga K) 2 .F F__law_groups)) ∧ Binds K fd ["numbers", "letters"] [] ∧ PySem.W.keepIn K (.ref (He.ga K "_law_groups")) = true := by
  obtain ⟨fd, F⟩ := T.d__law_groups
  have nd := sc__law_groups.nd
  refine ⟨fd, fun base => ?_, F.bindsN (fun _ _ _ _ _ _ us hl => match us, hl with | [_, _], _ => rfl), F.kp⟩
  refine fn_def (Γ0 := [.F, .F, .F, .F, .F, .F]) (Γ1 := [.F, .F, .F, .F, .F, .F]) F sc__law_groups rfl (hpF (n := 2) rfl (by decide)) (fun cdv A outer s H E hr => ?_)
  refine ⟨_, ?_, (ss_seq (ss_asg (i := 2) (m := (.L .F)) (se_lrng1 (se_B (se_len (se_B (se_var (i := 1) rfl))))) (.inl rfl))
 (ss_seq (ss_asg (i := 3) (m := (.L (.T [.F, (.L .F)]))) (se_lst (m := (.T [.F, (.L .F)])) sz_nil) (.inl rfl))
 (ss_seq (ss_for (vs := [4]) (si_rng1 (sb_cons (se_B (se_len (se_B (se_var (i := 1) rfl)))) sb_nil)) (sg_name (i := 4)) (ss_seq (ss_asgF (i := 5) (se_ix (se_S (se_var (i := 0) rfl)) (se_B (se_add (se_B se_int) (se_B (se_var (i := 4) rfl))))) (.inl rfl))
 (ss_seq (ss_if (st_or (st_val (se_B (se_eq (se_B (se_var (i := 4) rfl)) (se_B se_int)))) (st_val (se_B (se_eq (se_B (se_mod (se_B (se_var (i := 5) rfl)) (se_B se_int))) (se_B se_int))))) (ss_seq (ss_app (sp_var (i := 3) rfl) (se_tup (sz_cons (se_ix (se_LS (se_lst (m := .F) (sz_cons se_str (sz_cons se_str (sz_cons se_str sz_nil))))) (se_B (se_mod (se_B (se_div (se_B (se_var (i := 5) rfl)) (se_B se_int))) (se_B se_int)))) (sz_cons (se_lst (m := .F) sz_nil) sz_nil))) (.inl rfl))
 ss_next) ss_next (.inl rfl))
 (ss_seq (ss_appPop (j := 2) (sp_tix (j := 1) (sp_ix (sp_var (i := 3) rfl) (se_B (se_neg (se_B se_int)))) rfl) rfl (se_B (se_mod (se_B (se_div (se_B (se_var (i := 5) rfl)) (se_B se_int))) (se_B (se_len (se_SB (se_varS (i := 2) rfl)))))) (.inl rfl))
 (ss_fgt (vs := [4, 5]) ss_next)))) (.inl rfl))
 (ss_frz (i := 2) (ss_frz (i := 3) (ss_seq (ss_ret (se_var (i := 3) rfl) (.inl rfl))
 ss_next))))))⟩
  exact (pss_cons (ps_set (i := 2) nd rfl (by first | exact Or.inl rfl | exact Or.inr rfl) (pe_listRg rfl rfl T.b_list (prg_1 rfl T.b_range (pe_callB call_len (by rfl) T.b_len (by decide +kernel) (pa_cons (pv 1) pa_nil)))))
 (pss_cons (ps_set (i := 3) nd rfl (by first | exact Or.inl rfl | exact Or.inr rfl) (pe_lst pa_nil))
 (pss_cons (ps_for (passes_of rfl) rfl (pi_range1 rfl T.b_range (pa_cons (pe_callB call_len (by rfl) T.b_len (by decide +kernel) (pa_cons (pv 1) pa_nil)) pa_nil)) (pg_name (i := 4) nd rfl (by first | exact Or.inl rfl | exact Or.inr rfl)) (pss_cons (ps_set (i := 5) nd rfl (by first | exact Or.inl rfl | exact Or.inr rfl) (pe_ix ix_seq (pv 0) (pe_op op_add pe_int (pv 4)) (fun _ _ => rfl)))
 (pss_cons (ps_if (PW.pt (pw_or (pt_cmpR (op_eqD hr.units) (pv 4) pe_int (nomark _)) (pw_or1 (pt_cmpR (op_eqD hr.units) (pe_op op_mod (pv 5) pe_int) pe_int (nomark _))))) (pss_cons (ps_expr (pe_bm PySem.F.plainAttrs_list PySem.F.slot_list_append PySem.F.type_list_append mt_append (pv 3) (pa_cons (pe_tup (pa_cons (pe_ix ix_seq (pe_lst (pa_cons pe_str (pa_cons pe_str (pa_cons pe_str pa_nil)))) (pe_op op_mod (pe_op op_fdivW (pv 5) pe_int) pe_int) (fun _ _ => rfl)) (pa_cons (pe_lst pa_nil) pa_nil))) pa_nil)))
 pss_nil) pss_nil)
 (pss_cons (ps_expr (pe_bm PySem.F.plainAttrs_list PySem.F.slot_list_append PySem.F.type_list_append mt_append (pe_ix ix_seq (pe_ix ix_seq (pv 3) (pe_un un_neg pe_int) (fun _ _ => rfl)) pe_int (fun _ _ => rfl)) (pa_cons (pe_bm PySem.F.plainAttrs_list PySem.F.slot_list_pop PySem.F.type_list_pop mt_popAt (pv 2) (pa_cons (pe_op op_mod (pe_op op_fdivW (pv 5) pe_int) (pe_callB call_len (by rfl) T.b_len (by decide +kernel) (pa_cons (pv 2) pa_nil))) pa_nil)) pa_nil)))
 pss_nil))))
 (pss_cons (ps_ret (pv 3))
 pss_nil))))
theorem sc__law_copied : FnScope ["groups", "kind", "told"] ["groups"] (defScope s__law_copied) := ⟨rfl, rfl, rfl, by decide +kernel, rfl, by decide +kernel, by decide +kernel⟩
theorem ok__law_copied (T : Txt K mg) : ∃ fd, (∀ base : Heap, FnOk P w K mg base (L2.CX P w) 1 (He.ga K "_law_copied") fd ["groups"] (spM K (He.ga K) 1 (.L (.T [.F, (.L .F)])) F__law_copied)) ∧ Binds K fd ["groups"] [] ∧ PySem.W.keepIn K (.ref (He.ga K "_law_copied")) = true := by
  obtain ⟨fd, F⟩ := T.d__law_copied
  have nd := sc__law_copied.nd
  refine ⟨fd, fun base => ?_, F.bindsN (fun _ _ _ _ _ _ us hl => match us, hl with | [_], _ => rfl), F.kp⟩
  refine fn_def (Γ0 := [.F, .F, .F]) (Γ1 := [.F, .F, .F]) F sc__law_copied rfl (hpF (n := 1) rfl (by decide)) (fun cdv A outer s H E hr => ?_)
  refine ⟨_, ?_, (ss_seq (ss_ret (se_comp (vs := [1, 2]) (m := (.T [.F, (.L .F)])) (six (si_seq (se_var (i := 0) rfl))) (sg_tup (n := 2) (sgs_cons (sg_name (i := 1)) (sgs_cons (sg_name (i := 2)) sgs_nil))) st_yes (se_tup (sz_cons (se_var (i := 1) rfl) (sz_cons (se_list (se_S (se_var (i := 2) rfl))) sz_nil)))) (.inl rfl))
 ss_next)⟩
  exact (pss_cons (ps_ret (pe_lc (own := [("kind", 1), ("told", 2)]) rfl nd (pi_seqA (pv 0)) (blkOk_by (N := ["groups", "kind", "told"]) (sc := defScope s__law_copied) (own := [("kind", 1), ("told", 2)]) (by decide +kernel)) (fun _ _ _ _ _ => (pg_tup rfl (pgs_cons (pg_name (i := 1) nd rfl (by first | exact Or.inl rfl | exact Or.inr rfl)) (pgs_cons (pg_name (i := 2) nd rfl (by first | exact Or.inl rfl | exact Or.inr rfl)) pgs_nil)))) (fun _ _ _ _ _ => pts_nil) (fun _ _ _ _ _ => (pe_tup (pa_cons (pv 1) (pa_cons (pe_callTy call_list_of (by rfl) T.b_list (by decide +kernel) (pa_cons (pv 2) pa_nil)) pa_nil))))))
 pss_nil)
theorem sc__law_levels : FnScope ["letters", "groups", "levels", "kind", "told", "late", "letter"] ["letters", "groups"] (defScope s__law_levels) := ⟨rfl, rfl, rfl, by decide +kernel, rfl, by decide +kernel, by decide +kernel⟩
theorem ok__law_levels (T : Txt K mg) : ∃ fd, (∀ base : Heap, FnOk P w K mg base (L2.CX P w) 1 (He.ga K "_law_levels") fd ["letters", "groups"] (spM K (He.ga K) 2 .F F__law_levels)) ∧ Binds K fd ["letters", "groups"] [] ∧ PySem.W.keepIn K (.ref (He.ga K "_law_levels")) = true := by
  obtain ⟨fd, F⟩ := T.d__law_levels
  have nd := sc__law_levels.nd
  refine ⟨fd, fun base => ?_, F.bindsN (fun _ _ _ _ _ _ us hl => match us, hl with | [_, _], _ => rfl), F.kp⟩
  refine fn_def (Γ0 := [.F, .F, .F, .F, .F, .F, .F]) (Γ1 := [.F, .F, .F, .F, .F, .F, .F]) F sc__law_levels rfl (hpF (n := 2) rfl (by decide)) (fun cdv A outer s H E hr => ?_)
  refine ⟨_, ?_, (ss_seq (ss_asg (i := 2) (m := (.L .F)) (se_lst (m := .F) sz_nil) (.inl rfl))
 (ss_seq (ss_for (vs := [3, 4]) (si_seq (se_var (i := 1) rfl)) (sg_tup (n := 2) (sgs_cons (sg_name (i := 3)) (sgs_cons (sg_name (i := 4)) sgs_nil))) (ss_seq (ss_if (st_val (se_B (se_eq (se_B (se_var (i := 3) rfl)) (se_B se_str)))) (ss_seq (ss_app (sp_var (i := 2) rfl) (se_frz (se_sortI (se_S (se_var (i := 4) rfl)))) (.inl rfl))
 (ss_fgt (vs := [5, 6]) ss_next)) (ss_seq (ss_if (st_val (se_B (se_eq (se_B (se_var (i := 3) rfl)) (se_B se_str)))) (ss_seq (ss_ext (sp_var (i := 2) rfl) (se_LS (se_comp (vs := [6]) (m := .F) (six (si_seq (se_var (i := 4) rfl))) (sg_name (i := 6)) st_yes (se_frz (se_lst (m := .F) (sz_cons (se_var (i := 6) rfl) sz_nil))))) (.inl rfl))
 (ss_fgt (vs := [5, 6]) ss_next)) (ss_seq (ss_for (vs := [5]) (si_rng1 (sb_cons (se_B se_int) sb_nil)) (sg_name (i := 5)) (ss_seq (ss_for (vs := [6]) (si_seq (se_frz (se_sortI (se_S (se_var (i := 4) rfl))))) (sg_name (i := 6)) (ss_seq (ss_if (st_val (se_B (se_eq (se_B (se_ix (se_S (se_ix (se_S (se_var (i := 0) rfl)) (se_B (se_var (i := 6) rfl)))) (se_B se_int))) (se_B (se_var (i := 5) rfl))))) (ss_seq (ss_app (sp_var (i := 2) rfl) (se_frz (se_lst (m := .F) (sz_cons (se_var (i := 6) rfl) sz_nil))) (.inl rfl))
 ss_next) ss_next (.inl rfl))
 (ss_fgt (vs := [6]) ss_next)) (.inl rfl))
 (ss_fgt (vs := [5, 6]) ss_next)) (.inl rfl))
 (ss_fgt (vs := [5, 6]) ss_next)) (.inl rfl))
 (ss_fgt (vs := [5, 6]) ss_next)) (.inl rfl))
 (ss_fgt (vs := [3, 4, 5, 6]) ss_next)) (.inl rfl))
 (ss_frz (i := 2) (ss_seq (ss_ret (se_var (i := 2) rfl) (.inl rfl))
 ss_next))))⟩
  exact (pss_cons (ps_set (i := 2) nd rfl (by first | exact Or.inl rfl | exact Or.inr rfl) (pe_lst pa_nil))
 (pss_cons (ps_for (passes_of rfl) rfl (pi_seqA (pv 1)) (pg_tup rfl (pgs_cons (pg_name (i := 3) nd rfl (by first | exact Or.inl rfl | exact Or.inr rfl)) (pgs_cons (pg_name (i := 4) nd rfl (by first | exact Or.inl rfl | exact Or.inr rfl)) pgs_nil))) (pss_cons (ps_if (pt_cmpR (op_eqD hr.units) (pv 3) pe_str (nomark _)) (pss_cons (ps_expr (pe_bm PySem.F.plainAttrs_list PySem.F.slot_list_append PySem.F.type_list_append mt_append (pv 2) (pa_cons (pe_callB cr_sortedI (by rfl) T.b_sorted (by decide +kernel) (pa_cons (pv 4) pa_nil)) pa_nil)))
 pss_nil) (pss_cons (ps_if (pt_cmpR (op_eqD hr.units) (pv 3) pe_str (nomark _)) (pss_cons (ps_expr (pe_bm PySem.F.plainAttrs_list PySem.F.slot_list_extend PySem.F.type_list_extend mt_extend (pv 2) (pa_cons (pe_lc (own := [("letter", 6)]) rfl nd (pi_seqA (pv 4)) (blkOk_by (N := ["letters", "groups", "levels", "kind", "told", "late", "letter"]) (sc := defScope s__law_levels) (own := [("letter", 6)]) (by decide +kernel)) (fun _ _ _ _ _ => (pg_name (i := 6) nd rfl (by first | exact Or.inl rfl | exact Or.inr rfl))) (fun _ _ _ _ _ => pts_nil) (fun _ _ _ _ _ => (pe_lst (pa_cons (pv 6) pa_nil)))) pa_nil)))
 pss_nil) (pss_cons (ps_for (passes_of rfl) rfl (pi_range1 rfl T.b_range (pa_cons pe_int pa_nil)) (pg_name (i := 5) nd rfl (by first | exact Or.inl rfl | exact Or.inr rfl)) (pss_cons (ps_for (passes_of rfl) rfl (pi_seqA (pe_callB cr_sortedI (by rfl) T.b_sorted (by decide +kernel) (pa_cons (pv 4) pa_nil))) (pg_name (i := 6) nd rfl (by first | exact Or.inl rfl | exact Or.inr rfl)) (pss_cons (ps_if (pt_cmpR (op_eqD hr.units) (pe_ix ix_seq (pe_ix ix_seq (pv 0) (pv 6) (fun _ _ => rfl)) pe_int (fun _ _ => rfl)) (pv 5) (nomark _)) (pss_cons (ps_expr (pe_bm PySem.F.plainAttrs_list PySem.F.slot_list_append PySem.F.type_list_append mt_append (pv 2) (pa_cons (pe_lst (pa_cons (pv 6) pa_nil)) pa_nil)))
 pss_nil) pss_nil)
 pss_nil))
 pss_nil))
 pss_nil))
 pss_nil))
 pss_nil))
 (pss_cons (ps_ret (pv 2))
 pss_nil)))
theorem sc__law_places : FnScope ["levels", "places", "k", "letter"] ["levels"] (defScope s__law_places) := ⟨rfl, rfl, rfl, by decide +kernel, rfl, by decide +kernel, by decide +kernel⟩
theorem ok__law_places (T : Txt K mg) : ∃ fd, (∀ base : Heap, FnOk P w K mg base (L2.CX P w) 1 (He.ga K "_law_places") fd ["levels"] (spM K (He.ga K) 1 .F F__law_places)) ∧ Binds K fd ["levels"] [] ∧ PySem.W.keepIn K (.ref (He.ga K "_law_places")) = true := by
  obtain ⟨fd, F⟩ := T.d__law_places
  have nd := sc__law_places.nd
  refine ⟨fd, fun base => ?_, F.bindsN (fun _ _ _ _ _ _ us hl => match us, hl with | [_], _ => rfl), F.kp⟩
  refine fn_def (Γ0 := [.F, .F, .F, .F]) (Γ1 := [.F, .F, .F, .F]) F sc__law_places rfl (hpF (n := 1) rfl (by decide)) (fun cdv A outer s H E hr => ?_)
  refine ⟨_, ?_, (ss_seq (ss_asg (i := 1) (m := (.K .F)) se_dnew (.inl rfl))
 (ss_seq (ss_for (vs := [2]) (si_rng1 (sb_cons (se_B (se_len (se_B (se_var (i := 0) rfl)))) sb_nil)) (sg_name (i := 2)) (ss_seq (ss_for (vs := [3]) (si_seq (se_ix (se_S (se_var (i := 0) rfl)) (se_B (se_var (i := 2) rfl)))) (sg_name (i := 3)) (ss_seq (ss_dput (se_var (i := 2) rfl) (sp_var (i := 1) rfl) (se_B (se_var (i := 3) rfl)) (.inl rfl))
 (ss_fgt (vs := [3]) ss_next)) (.inl rfl))
 (ss_fgt (vs := [2, 3]) ss_next)) (.inl rfl))
 (ss_frz (i := 1) (ss_seq (ss_ret (se_var (i := 1) rfl) (.inl rfl))
 ss_next))))⟩
  exact (pss_cons (ps_set (i := 1) nd rfl (by first | exact Or.inl rfl | exact Or.inr rfl) pe_dnewK)
 (pss_cons (ps_for (passes_of rfl) rfl (pi_range1 rfl T.b_range (pa_cons (pe_callB call_len (by rfl) T.b_len (by decide +kernel) (pa_cons (pv 0) pa_nil)) pa_nil)) (pg_name (i := 2) nd rfl (by first | exact Or.inl rfl | exact Or.inr rfl)) (pss_cons (ps_for (passes_of rfl) rfl (pi_seqA (pe_ix ix_seq (pv 0) (pv 2) (fun _ _ => rfl))) (pg_name (i := 3) nd rfl (by first | exact Or.inl rfl | exact Or.inr rfl)) (pss_cons (ps_dput (room1 hr) (pv 1) (pv 3) (pv 2) (by rfl))
 pss_nil))
 pss_nil))
 (pss_cons (ps_ret (pv 1))
 pss_nil)))
theorem sc__law_faulty : FnScope ["groups", "many", "number", "way", "at", "odd", "place", "kind", "told"] ["groups", "many", "number"] (defScope s__law_faulty) := ⟨rfl, rfl, rfl, by decide +kernel, rfl, by decide +kernel, by decide +kernel⟩
theorem ok__law_faulty (T : Txt K mg) : ∃ fd, (∀ base : Heap, FnOk P w K mg base (L2.CX P w) 2 (He.ga K "_law_faulty") fd ["groups", "many", "number"] (spM K (He.ga K) 3 (.L (.T [.F, (.L .F)])) F__law_faulty)) ∧ Binds K fd ["groups", "many", "number"] [] ∧ PySem.W.keepIn K (.ref (He.ga K "_law_faulty")) = true := by
  obtain ⟨fd, F⟩ := T.d__law_faulty
  obtain ⟨fd__law_copied, G__law_copied, b__law_copied, k__law_copied⟩ := ok__law_copied (P := P) (w := w) T
  have nd := sc__law_faulty.nd
  refine ⟨fd, fun base => ?_, F.bindsN (fun _ _ _ _ _ _ us hl => match us, hl with | [_, _, _], _ => rfl), F.kp⟩
  have G__law_copied := G__law_copied base
  refine fn_def (Γ0 := [.F, .F, .F, .F, .F, .F, .F, .F, .F]) (Γ1 := [(.L (.T [.F, (.L .F)])), .F, .F, .F, .F, .F, .F, .F, .F]) F sc__law_faulty rfl (hpF (n := 3) rfl (by decide)) (fun cdv A outer s H E hr => ?_)
  refine ⟨_, ?_, (ss_seq (ss_asg (i := 0) (m := (.L (.T [.F, (.L .F)]))) (se_call (m := (.L (.T [.F, (.L .F)]))) (sz_cons (se_var (i := 0) rfl) sz_nil)) (.inl rfl))
 (ss_seq (ss_asgF (i := 3) (se_mod (se_B (se_var (i := 2) rfl)) (se_B se_int)) (.inl rfl))
 (ss_seq (ss_asgF (i := 4) (se_mod (se_B (se_div (se_B (se_var (i := 2) rfl)) (se_B se_int))) (se_B (se_max (se_B (se_lst (m := .F) (sz_cons se_int (sz_cons (se_len (se_varB (i := 0))) sz_nil))))))) (.inl rfl))
 (ss_seq (ss_asgF (i := 2) (se_div (se_B (se_var (i := 2) rfl)) (se_B se_int)) (.inl rfl))
 (ss_seq (ss_asgF (i := 5) (se_ix (se_LS (se_lst (m := .F) (sz_cons (se_neg (se_B se_int)) (sz_cons (se_var (i := 1) rfl) (sz_cons (se_add (se_B (se_add (se_B (se_var (i := 1) rfl)) (se_B se_int))) (se_B (se_mul (se_B (se_mod (se_B (se_var (i := 2) rfl)) (se_B (se_pow (se_B se_int) (se_B se_int))))) (se_B (se_pow (se_B se_int) (se_B se_int)))))) (sz_cons (se_sub (se_B (se_neg (se_B se_int))) (se_B (se_mul (se_B (se_mod (se_B (se_var (i := 2) rfl)) (se_B (se_pow (se_B se_int) (se_B se_int))))) (se_B (se_pow (se_B se_int) (se_B se_int)))))) sz_nil)))))) (se_B (se_mod (se_B (se_var (i := 2) rfl)) (se_B se_int)))) (.inl rfl))
 (ss_seq (ss_if (st_val (se_B (se_eq (se_B (se_var (i := 3) rfl)) (se_B se_int)))) (ss_seq (ss_ins (sp_var (i := 0) rfl) (sz_cons (se_var (i := 4) rfl) (sz_cons (se_tup (sz_cons (se_ix (se_LS (se_lst (m := .F) (sz_cons se_str (sz_cons se_str (sz_cons se_str sz_nil))))) (se_B (se_mod (se_B (se_var (i := 2) rfl)) (se_B se_int)))) (sz_cons (se_lst (m := .F) sz_nil) sz_nil))) sz_nil)) (.inl rfl))
 (ss_fgt (vs := [6, 7, 8]) ss_next)) (ss_seq (ss_if (st_val (se_B (se_eq (se_B (se_var (i := 3) rfl)) (se_B se_int)))) (ss_seq (ss_ins (sp_var (i := 0) rfl) (sz_cons (se_var (i := 4) rfl) (sz_cons (se_tup (sz_cons (se_ix (se_LS (se_lst (m := .F) (sz_cons se_str (sz_cons se_str (sz_cons se_str sz_nil))))) (se_B (se_mod (se_B (se_var (i := 2) rfl)) (se_B se_int)))) (sz_cons (se_lst (m := .F) (sz_cons (se_var (i := 5) rfl) sz_nil)) sz_nil))) sz_nil)) (.inl rfl))
 (ss_fgt (vs := [6, 7, 8]) ss_next)) (ss_seq (ss_if (st_val (se_B (se_gt (se_B (se_len (se_varB (i := 0)))) (se_B se_int)))) (ss_alias (g := 0) (a := 4) (kd := 7) (tl := 8) (sa_seq (sa_asg (Γf := [.F, .F, .F, .F, .F, .F, .F, .F, .F]) (pl := 6) (se_B (se_mod (se_B (se_div (se_B (se_var (i := 2) rfl)) (se_B se_int))) (se_B (se_len (se_B (se_var (i := 8) rfl)))))) rfl rfl rfl rfl rfl (by decide) (by decide) rfl)
 (sa_seq (sa_if (st_val (se_B (se_eq (se_B (se_var (i := 3) rfl)) (se_B se_int)))) (sa_seq (sa_pop (Γf := [.F, .F, .F, .F, .F, .F, .F, .F, .F]) (se_B (se_var (i := 6) rfl)) rfl rfl rfl rfl)
 sa_next) sa_next)
 (sa_seq (sa_if (st_val (se_B (se_eq (se_B (se_var (i := 3) rfl)) (se_B se_int)))) (sa_seq (sa_ins (Γf := [.F, .F, .F, .F, .F, .F, .F, .F, .F]) (sb_cons (se_B (se_var (i := 6) rfl)) (sb_cons (se_B (se_ix (se_S (se_var (i := 8) rfl)) (se_B (se_mod (se_B (se_div (se_B (se_var (i := 2) rfl)) (se_B se_int))) (se_B (se_len (se_B (se_var (i := 8) rfl)))))))) sb_nil)) rfl rfl rfl rfl)
 sa_next) sa_next)
 (sa_seq (sa_if (st_val (se_B (se_eq (se_B (se_var (i := 3) rfl)) (se_B se_int)))) (sa_seq (sa_ins (Γf := [.F, .F, .F, .F, .F, .F, .F, .F, .F]) (sb_cons (se_B (se_var (i := 6) rfl)) (sb_cons (se_B (se_ix (se_S (se_ix (se_S (se_ix (se_S (se_var (i := 0) rfl)) (se_B (se_mod (se_B (se_div (se_B (se_var (i := 2) rfl)) (se_B se_int))) (se_B (se_len (se_B (se_var (i := 0) rfl)))))))) (se_B se_int))) (se_B se_int))) sb_nil)) rfl rfl rfl rfl)
 sa_next) sa_next)
 (sa_seq (sa_if (st_val (se_B (se_eq (se_B (se_var (i := 3) rfl)) (se_B se_int)))) (sa_seq (sa_ins (Γf := [.F, .F, .F, .F, .F, .F, .F, .F, .F]) (sb_cons (se_B (se_var (i := 6) rfl)) (sb_cons (se_B (se_var (i := 5) rfl)) sb_nil)) rfl rfl rfl rfl)
 sa_next) sa_next)
 (sa_seq (sa_if (st_val (se_B (se_eq (se_B (se_var (i := 3) rfl)) (se_B se_int)))) (sa_seq (sa_setp (a := 4) (se_ix (se_LS (se_lst (m := .F) (sz_cons se_str (sz_cons se_str (sz_cons se_str (sz_cons se_str (sz_cons se_str (sz_cons se_str sz_nil)))))))) (se_B (se_mod (se_B (se_var (i := 2) rfl)) (se_B se_int)))) rfl rfl)
 sa_next) sa_next)
 (sa_fgt (pl := 6)))))))) rfl rfl (by decide) (by decide) (by decide) (by decide) rfl rfl) ss_next (.inl rfl))
 (ss_fgt (vs := [6, 7, 8]) ss_next)) (.inl rfl))
 (ss_fgt (vs := [6, 7, 8]) ss_next)) (.inl rfl))
 (ss_seq (ss_retV (i := 0) rfl)
 ss_next)))))))⟩
  exact (pss_cons (ps_set (i := 0) nd rfl (by first | exact Or.inl rfl | exact Or.inr rfl) (pe_callS G__law_copied (hr.mono (by decide)) rfl T.g__law_copied k__law_copied b__law_copied (fun σ => passAt (takes_of rfl rfl rfl rfl) σ) (pa_cons (pv 0) pa_nil)))
 (pss_cons (ps_set (i := 3) nd rfl (by first | exact Or.inl rfl | exact Or.inr rfl) (pe_op op_mod (pv 2) pe_int))
 (pss_cons (ps_set (i := 4) nd rfl (by first | exact Or.inl rfl | exact Or.inr rfl) (pe_op op_mod (pe_op op_fdivW (pv 2) pe_int) (pe_callB (cr_max rfl) (by rfl) T.b_max (by decide +kernel) (pa_cons (pe_lst (pa_cons pe_int (pa_cons (pe_callB call_len (by rfl) T.b_len (by decide +kernel) (pa_cons (pv 0) pa_nil)) pa_nil))) pa_nil))))
 (pss_cons (ps_set (i := 2) nd rfl (by first | exact Or.inl rfl | exact Or.inr rfl) (pe_op op_fdivW (pv 2) pe_int))
 (pss_cons (ps_set (i := 5) nd rfl (by first | exact Or.inl rfl | exact Or.inr rfl) (pe_ix ix_seq (pe_lst (pa_cons (pe_un un_neg pe_int) (pa_cons (pv 1) (pa_cons (pe_op op_add (pe_op op_add (pv 1) pe_int) (pe_op op_mul (pe_op op_mod (pv 2) (pe_op op_pow pe_int pe_int)) (pe_op op_pow pe_int pe_int))) (pa_cons (pe_op op_sub (pe_un un_neg pe_int) (pe_op op_mul (pe_op op_mod (pv 2) (pe_op op_pow pe_int pe_int)) (pe_op op_pow pe_int pe_int))) pa_nil))))) (pe_op op_mod (pv 2) pe_int) (fun _ _ => rfl)))
 (pss_cons (ps_if (pt_cmpR (op_eqD hr.units) (pv 3) pe_int (nomark _)) (pss_cons (ps_expr (pe_bm PySem.F.plainAttrs_list PySem.F.slot_list_insert PySem.F.type_list_insert mt_insert (pv 0) (pa_cons (pv 4) (pa_cons (pe_tup (pa_cons (pe_ix ix_seq (pe_lst (pa_cons pe_str (pa_cons pe_str (pa_cons pe_str pa_nil)))) (pe_op op_mod (pv 2) pe_int) (fun _ _ => rfl)) (pa_cons (pe_lst pa_nil) pa_nil))) pa_nil))))
 pss_nil) (pss_cons (ps_if (pt_cmpR (op_eqD hr.units) (pv 3) pe_int (nomark _)) (pss_cons (ps_expr (pe_bm PySem.F.plainAttrs_list PySem.F.slot_list_insert PySem.F.type_list_insert mt_insert (pv 0) (pa_cons (pv 4) (pa_cons (pe_tup (pa_cons (pe_ix ix_seq (pe_lst (pa_cons pe_str (pa_cons pe_str (pa_cons pe_str pa_nil)))) (pe_op op_mod (pv 2) pe_int) (fun _ _ => rfl)) (pa_cons (pe_lst (pa_cons (pv 5) pa_nil)) pa_nil))) pa_nil))))
 pss_nil) (pss_cons (ps_if (pt_cmpR op_gt (pe_callB call_len (by rfl) T.b_len (by decide +kernel) (pa_cons (pv 0) pa_nil)) pe_int (nomark _)) (pss_cons (ps_asg (pe_ix ix_seq (pv 0) (pv 4) (fun _ _ => rfl)) (pg_tup rfl (pgs_cons (pg_name (i := 7) nd rfl (by first | exact Or.inl rfl | exact Or.inr rfl)) (pgs_cons (pg_name (i := 8) nd rfl (by first | exact Or.inl rfl | exact Or.inr rfl)) pgs_nil))))
 (pss_cons (ps_set (i := 6) nd rfl (by first | exact Or.inl rfl | exact Or.inr rfl) (pe_op op_mod (pe_op op_fdivW (pv 2) pe_int) (pe_callB call_len (by rfl) T.b_len (by decide +kernel) (pa_cons (pv 8) pa_nil))))
 (pss_cons (ps_if (pt_cmpR (op_eqD hr.units) (pv 3) pe_int (nomark _)) (pss_cons (ps_expr (pe_bm PySem.F.plainAttrs_list PySem.F.slot_list_pop PySem.F.type_list_pop mt_popAt (pv 8) (pa_cons (pv 6) pa_nil)))
 pss_nil) pss_nil)
 (pss_cons (ps_if (pt_cmpR (op_eqD hr.units) (pv 3) pe_int (nomark _)) (pss_cons (ps_expr (pe_bm PySem.F.plainAttrs_list PySem.F.slot_list_insert PySem.F.type_list_insert mt_insert (pv 8) (pa_cons (pv 6) (pa_cons (pe_ix ix_seq (pv 8) (pe_op op_mod (pe_op op_fdivW (pv 2) pe_int) (pe_callB call_len (by rfl) T.b_len (by decide +kernel) (pa_cons (pv 8) pa_nil))) (fun _ _ => rfl)) pa_nil))))
 pss_nil) pss_nil)
 (pss_cons (ps_if (pt_cmpR (op_eqD hr.units) (pv 3) pe_int (nomark _)) (pss_cons (ps_expr (pe_bm PySem.F.plainAttrs_list PySem.F.slot_list_insert PySem.F.type_list_insert mt_insert (pv 8) (pa_cons (pv 6) (pa_cons (pe_ix ix_seq (pe_ix ix_seq (pe_ix ix_seq (pv 0) (pe_op op_mod (pe_op op_fdivW (pv 2) pe_int) (pe_callB call_len (by rfl) T.b_len (by decide +kernel) (pa_cons (pv 0) pa_nil))) (fun _ _ => rfl)) pe_int (fun _ _ => rfl)) pe_int (fun _ _ => rfl)) pa_nil))))
 pss_nil) pss_nil)
 (pss_cons (ps_if (pt_cmpR (op_eqD hr.units) (pv 3) pe_int (nomark _)) (pss_cons (ps_expr (pe_bm PySem.F.plainAttrs_list PySem.F.slot_list_insert PySem.F.type_list_insert mt_insert (pv 8) (pa_cons (pv 6) (pa_cons (pv 5) pa_nil))))
 pss_nil) pss_nil)
 (pss_cons (ps_if (pt_cmpR (op_eqD hr.units) (pv 3) pe_int (nomark _)) (pss_cons (ps_asg (pe_tup (pa_cons (pe_ix ix_seq (pe_lst (pa_cons pe_str (pa_cons pe_str (pa_cons pe_str (pa_cons pe_str (pa_cons pe_str (pa_cons pe_str pa_nil))))))) (pe_op op_mod (pv 2) pe_int) (fun _ _ => rfl)) (pa_cons (pv 8) pa_nil))) (pg_sub (pv 0) (pv 4) set_list))
 pss_nil) pss_nil)
 pss_nil))))))) pss_nil)
 pss_nil))
 pss_nil))
 (pss_cons (ps_ret (pv 0))
 pss_nil)))))))
theorem sc__law_good : FnScope ["many", "groups", "seen", "kind", "told"] ["many", "groups"] (defScope s__law_good) := ⟨rfl, rfl, rfl, by decide +kernel, rfl, by decide +kernel, by decide +kernel⟩
theorem ok__law_good (T : Txt K mg) : ∃ fd, (∀ base : Heap, FnOk P w K mg base (L2.CX P w) 1 (He.ga K "_law_good") fd ["many", "groups"] (spM K (He.ga K) 2 .F F__law_good)) ∧ Binds K fd ["many", "groups"] [] ∧ PySem.W.keepIn K (.ref (He.ga K "_law_good")) = true := by
  obtain ⟨fd, F⟩ := T.d__law_good
  have nd := sc__law_good.nd
  refine ⟨fd, fun base => ?_, F.bindsN (fun _ _ _ _ _ _ us hl => match us, hl with | [_, _], _ => rfl), F.kp⟩
  refine fn_def (Γ0 := [.F, .F, .F, .F, .F]) (Γ1 := [.F, .F, .F, .F, .F]) F sc__law_good rfl (hpF (n := 2) rfl (by decide)) (fun cdv A outer s H E hr => ?_)
  refine ⟨_, ?_, (ss_seq (ss_asgF (i := 2) (se_frz (se_lst (m := .F) sz_nil)) (.inl rfl))
 (ss_seq (ss_for (vs := [3, 4]) (si_seq (se_var (i := 1) rfl)) (sg_tup (n := 2) (sgs_cons (sg_name (i := 3)) (sgs_cons (sg_name (i := 4)) sgs_nil))) (ss_seq (ss_if (st_or (st_val (se_B (se_nin (se_B (se_var (i := 3) rfl)) (se_B (se_lst (m := .F) (sz_cons se_str (sz_cons se_str (sz_cons se_str sz_nil)))))))) (st_val (se_B (se_eq (se_B (se_var (i := 4) rfl)) (se_B (se_lst (m := .F) sz_nil)))))) (ss_seq (ss_ret se_bl (.inl rfl))
 ss_next) ss_next (.inl rfl))
 (ss_seq (ss_asgF (i := 2) (se_plus (se_var (i := 2) rfl) (se_var (i := 4) rfl)) (.inl rfl))
 (ss_fgt (vs := [3, 4]) ss_next))) (.inl rfl))
 (ss_seq (ss_ret (se_eq (se_B (se_sortI (se_S (se_var (i := 2) rfl)))) (se_B (se_lrng1 (se_B (se_var (i := 0) rfl))))) (.inl rfl))
 ss_next)))⟩
  exact (pss_cons (ps_set (i := 2) nd rfl (by first | exact Or.inl rfl | exact Or.inr rfl) (pe_lst pa_nil))
 (pss_cons (ps_for (passes_of rfl) rfl (pi_seqA (pv 1)) (pg_tup rfl (pgs_cons (pg_name (i := 3) nd rfl (by first | exact Or.inl rfl | exact Or.inr rfl)) (pgs_cons (pg_name (i := 4) nd rfl (by first | exact Or.inl rfl | exact Or.inr rfl)) pgs_nil))) (pss_cons (ps_if (PW.pt (pw_or (pt_cmpR op_notIn_seq (pv 3) (pe_lst (pa_cons pe_str (pa_cons pe_str (pa_cons pe_str pa_nil)))) (by rfl)) (pw_or1 (pt_cmpR (op_eqD hr.units) (pv 4) (pe_lst pa_nil) (nomark _))))) (pss_cons (ps_ret pe_bl)
 pss_nil) pss_nil)
 (pss_cons (ps_set (i := 2) nd rfl (by first | exact Or.inl rfl | exact Or.inr rfl) (pe_op op_plus (pv 2) (pv 4)))
 pss_nil)))
 (pss_cons (ps_ret (pe_cmpR (op_eqD hr.units) (pe_callB cr_sortedI (by rfl) T.b_sorted (by decide +kernel) (pa_cons (pv 2) pa_nil)) (pe_listRg rfl rfl T.b_list (prg_1 rfl T.b_range (pv 0))) (nomark _)))
 pss_nil)))
theorem sc__law_refused : FnScope ["letters", "groups", "kinds", "e"] ["letters", "groups"] (defScope s__law_refused) := ⟨rfl, rfl, rfl, by decide +kernel, rfl, by decide +kernel, by decide +kernel⟩
theorem ok__law_refused (T : Txt K mg) : ∃ fd, (∀ base : Heap, FnOk P w K mg base (L2.CX P w) 4 (He.ga K "_law_refused") fd ["letters", "groups"] (spM K (He.ga K) 2 .F F__law_refused)) ∧ Binds K fd ["letters", "groups"] [] ∧ PySem.W.keepIn K (.ref (He.ga K "_law_refused")) = true := by
  obtain ⟨fd, F⟩ := T.d__law_refused
  obtain ⟨fd_Wish___init__, G_Wish___init__, b_Wish___init__, k_Wish___init__⟩ := ok_Wish___init__ (P := P) (w := w) T
  have nd := sc__law_refused.nd
  refine ⟨fd, fun base => ?_, F.bindsN (fun _ _ _ _ _ _ us hl => match us, hl with | [_, _], _ => rfl), F.kp⟩
  have G_Wish___init__ := G_Wish___init__ base
  refine fn_def (Γ0 := [.F, .F, .F, .F]) (Γ1 := [.F, .F, .F, .F]) F sc__law_refused rfl (hpF (n := 2) rfl (by decide)) (fun cdv A outer s H E hr => ?_)
  refine ⟨_, ?_, (ss_seq (ss_asgF (i := 2) (se_frz (se_lst (m := .F) sz_nil)) (.inl rfl))
 (ss_seq (ss_tryA (Γx := [.F, .F, .F, .F]) (i := 3) T.s_MillError (fun W => (ss_seq (ss_drop (se_make (C := "Wish") (ns := [.F, .F, .F]) (sz_cons (se_var (i := 0) rfl) (sz_cons (se_var (i := 1) rfl) sz_nil))) (.inr rfl))
 ss_next)) (fun a c hc => (ss_fgt (vs := [2]) (ss_seq (ss_asg (i := 2) (m := (.L .F)) (se_lst (m := .F) (sz_cons (se_isx (c := c) (i := 3) (a := a) (v := .ref (He.ga K "BadWish")) List.mem_cons_self (fun u h => h) T.z_BadWish) (sz_cons (se_isx (c := c) (i := 3) (a := a) (v := .ty "ValueError") List.mem_cons_self (fun u h => h) T.z_ValueError) sz_nil))) (.inl rfl))
 (ss_seq (ss_app (sp_var (i := 2) rfl) (se_isxT (c := c) (i := 3) (a := a) (vs := [.ref (He.ga K "BadCode"), .ref (He.ga K "BadCount"), .ref (He.ga K "BadDeed"), .ref (He.ga K "BadLate"), .ref (He.ga K "BadLetters"), .ref (He.ga K "BadMill"), .ref (He.ga K "BadPlan"), .ref (He.ga K "BadPrices")]) List.mem_cons_self (.cons (.own _) T.z_BadCode (.cons (.own _) T.z_BadCount (.cons (.own _) T.z_BadDeed (.cons (.own _) T.z_BadLate (.cons (.own _) T.z_BadLetters (.cons (.own _) T.z_BadMill (.cons (.own _) T.z_BadPlan (.cons (.own _) T.z_BadPrices .nil))))))))) (.inl rfl))
 (ss_seq (ss_app (sp_var (i := 2) rfl) (se_isxT (c := c) (i := 3) (a := a) (vs := [.ref (He.ga K "BadRow"), .ref (He.ga K "BadSize"), .ref (He.ga K "BadText"), .ref (He.ga K "BadWord"), .ref (He.ga K "NoRow"), .ref (He.ga K "NotOneOrder"), .ref (He.ga K "Shut")]) List.mem_cons_self (.cons (.own _) T.z_BadRow (.cons (.own _) T.z_BadSize (.cons (.own _) T.z_BadText (.cons (.own _) T.z_BadWord (.cons (.own _) T.z_NoRow (.cons (.own _) T.z_NotOneOrder (.cons (.own _) T.z_Shut .nil)))))))) (.inl rfl))
 (ss_frz (i := 2) ss_next)))))) rfl rfl (by decide))
 (ss_fgt (vs := [3]) (ss_seq (ss_ret (se_eq (se_B (se_var (i := 2) rfl)) (se_B (se_lst (m := .F) (sz_cons se_bl (sz_cons se_bl (sz_cons se_bl (sz_cons se_bl sz_nil))))))) (.inl rfl))
 ss_next))))⟩
  exact (pss_cons (ps_set (i := 2) nd rfl (by first | exact Or.inl rfl | exact Or.inr rfl) (pe_lst pa_nil))
 (pss_cons (pm_tryA (i := 3) rfl rfl nd rfl rfl ⟨rfl, by decide, .inl T.g_MillError⟩ (takes_of rfl rfl rfl rfl) (fun W pn xe tk pw => (pss_cons (ps_expr (pe_makeS T.k_Wish G_Wish___init__ (hr.mono (by decide)) rfl T.g_Wish b_Wish___init__ (fun σ => passAt tk σ) (pa_cons (pv 0) (pa_cons (pv 1) pa_nil))))
 pss_nil)) (fun a oe cls d pn hz hf => pss_suite fun c hc hcl hd => (pss_cons (ps_set (i := 2) nd rfl (by first | exact Or.inl rfl | exact Or.inr rfl) (pe_lst (pa_cons (pe_callB (call_isE (T.e_MillError c hc) (by subst hcl; subst hd; exact hz) hf) (by rfl) T.b_isinstance (by decide +kernel) (pa_cons (pv 3) (pa_cons (pe_glob (v := .ref (He.ga _ "BadWish")) rfl T.g_BadWish rfl) pa_nil))) (pa_cons (pe_callB (call_isE (T.e_MillError c hc) (by subst hcl; subst hd; exact hz) hf) (by rfl) T.b_isinstance (by decide +kernel) (pa_cons (pv 3) (pa_cons (pe_bltn (v := .ty "ValueError") rfl T.b_ValueError (by decide +kernel) rfl) pa_nil))) pa_nil))))
 (pss_cons (ps_expr (pe_bm PySem.F.plainAttrs_list PySem.F.slot_list_append PySem.F.type_list_append mt_append (pv 2) (pa_cons (pe_callB (call_isET (T.e_MillError c hc) (by subst hcl; subst hd; exact hz) hf) (by rfl) T.b_isinstance (by decide +kernel) (pa_cons (pv 3) (pa_cons (pe_tup (pa_cons (pe_glob (v := .ref (He.ga _ "BadCode")) rfl T.g_BadCode rfl) (pa_cons (pe_glob (v := .ref (He.ga _ "BadCount")) rfl T.g_BadCount rfl) (pa_cons (pe_glob (v := .ref (He.ga _ "BadDeed")) rfl T.g_BadDeed rfl) (pa_cons (pe_glob (v := .ref (He.ga _ "BadLate")) rfl T.g_BadLate rfl) (pa_cons (pe_glob (v := .ref (He.ga _ "BadLetters")) rfl T.g_BadLetters rfl) (pa_cons (pe_glob (v := .ref (He.ga _ "BadMill")) rfl T.g_BadMill rfl) (pa_cons (pe_glob (v := .ref (He.ga _ "BadPlan")) rfl T.g_BadPlan rfl) (pa_cons (pe_glob (v := .ref (He.ga _ "BadPrices")) rfl T.g_BadPrices rfl) pa_nil))))))))) pa_nil))) pa_nil)))
 (pss_cons (ps_expr (pe_bm PySem.F.plainAttrs_list PySem.F.slot_list_append PySem.F.type_list_append mt_append (pv 2) (pa_cons (pe_callB (call_isET (T.e_MillError c hc) (by subst hcl; subst hd; exact hz) hf) (by rfl) T.b_isinstance (by decide +kernel) (pa_cons (pv 3) (pa_cons (pe_tup (pa_cons (pe_glob (v := .ref (He.ga _ "BadRow")) rfl T.g_BadRow rfl) (pa_cons (pe_glob (v := .ref (He.ga _ "BadSize")) rfl T.g_BadSize rfl) (pa_cons (pe_glob (v := .ref (He.ga _ "BadText")) rfl T.g_BadText rfl) (pa_cons (pe_glob (v := .ref (He.ga _ "BadWord")) rfl T.g_BadWord rfl) (pa_cons (pe_glob (v := .ref (He.ga _ "NoRow")) rfl T.g_NoRow rfl) (pa_cons (pe_glob (v := .ref (He.ga _ "NotOneOrder")) rfl T.g_NotOneOrder rfl) (pa_cons (pe_glob (v := .ref (He.ga _ "Shut")) rfl T.g_Shut rfl) pa_nil)))))))) pa_nil))) pa_nil)))
 pss_nil)))))
 (pss_cons (ps_ret (pe_cmpR (op_eqD hr.units) (pv 2) (pe_lst (pa_cons pe_bl (pa_cons pe_bl (pa_cons pe_bl (pa_cons pe_bl pa_nil))))) (nomark _)))
 pss_nil)))
theorem sc_law : FnScope ["script", "numbers", "letters", "groups", "due", "bad", "handed", "kind", "told"] ["script"] (defScope s_law) := ⟨rfl, rfl, rfl, by decide +kernel, rfl, by decide +kernel, by decide +kernel⟩
theorem ok_law (T : Txt K mg) : ∃ fd, (∀ base : Heap, FnOk P w K mg base (L2.CX P w) 5 (He.ga K "law") fd ["script"] (spM K (He.ga K) 1 .F F_law)) ∧ Binds K fd ["script"] [] ∧ PySem.W.keepIn K (.ref (He.ga K "law")) = true ∧ ∀ (s : Shared) (v : Value), BindsTo s fd ⟨[v], []⟩ [("script", v)] := by
  obtain ⟨fd, F⟩ := T.d_law
  obtain ⟨fd_Wish___init__, G_Wish___init__, b_Wish___init__, k_Wish___init__⟩ := ok_Wish___init__ (P := P) (w := w) T
  obtain ⟨fd_Wish_levels, G_Wish_levels, b_Wish_levels, k_Wish_levels⟩ := ok_Wish_levels (P := P) (w := w) T
  obtain ⟨fd__law_copied, G__law_copied, b__law_copied, k__law_copied⟩ := ok__law_copied (P := P) (w := w) T
  obtain ⟨fd__law_faulty, G__law_faulty, b__law_faulty, k__law_faulty⟩ := ok__law_faulty (P := P) (w := w) T
  obtain ⟨fd__law_good, G__law_good, b__law_good, k__law_good⟩ := ok__law_good (P := P) (w := w) T
  obtain ⟨fd__law_groups, G__law_groups, b__law_groups, k__law_groups⟩ := ok__law_groups (P := P) (w := w) T
  obtain ⟨fd__law_letters, G__law_letters, b__law_letters, k__law_letters⟩ := ok__law_letters (P := P) (w := w) T
  obtain ⟨fd__law_levels, G__law_levels, b__law_levels, k__law_levels⟩ := ok__law_levels (P := P) (w := w) T
  obtain ⟨fd__law_poured, G__law_poured, b__law_poured, k__law_poured⟩ := ok__law_poured (P := P) (w := w) T
  obtain ⟨fd__law_refused, G__law_refused, b__law_refused, k__law_refused⟩ := ok__law_refused (P := P) (w := w) T
  have nd := sc_law.nd
  refine ⟨fd, fun base => ?_, F.bindsN (fun _ _ _ _ _ _ us hl => match us, hl with | [_], _ => rfl), F.kp, fun s v => FunD.bindsA (ps := ["script"]) F (fun _ _ _ _ _ _ us hl => match us, hl with | [_], _ => rfl) s [v] rfl⟩
  have G_Wish___init__ := G_Wish___init__ base
  have G_Wish_levels := G_Wish_levels base
  have G__law_copied := G__law_copied base
  have G__law_faulty := G__law_faulty base
  have G__law_good := G__law_good base
  have G__law_groups := G__law_groups base
  have G__law_letters := G__law_letters base
  have G__law_levels := G__law_levels base
  have G__law_poured := G__law_poured base
  have G__law_refused := G__law_refused base
  refine fn_def (Γ0 := [.F, .F, .F, .F, .F, .F, .F, .F, .F]) (Γ1 := [.F, .F, .F, .F, .F, .F, .F, .F, .F]) F sc_law rfl (hpF (n := 1) rfl (by decide)) (fun cdv A outer s H E hr => ?_)
  refine ⟨_, ?_, (ss_seq (ss_asgF (i := 1) (se_call (m := .F) (sz_cons (se_var (i := 0) rfl) (sz_cons se_int sz_nil))) (.inl rfl))
 (ss_seq (ss_asgF (i := 2) (se_call (m := .F) (sz_cons (se_var (i := 1) rfl) sz_nil)) (.inl rfl))
 (ss_seq (ss_asgF (i := 3) (se_call (m := .F) (sz_cons (se_var (i := 1) rfl) (sz_cons (se_var (i := 2) rfl) sz_nil))) (.inl rfl))
 (ss_seq (ss_asgF (i := 4) (se_call (m := .F) (sz_cons (se_var (i := 2) rfl) (sz_cons (se_var (i := 3) rfl) sz_nil))) (.inl rfl))
 (ss_seq (ss_if (st_val (se_B (se_ne (se_B (se_meth (C := "Wish") (mm := "levels") (m := .F) (se_frz (se_make (C := "Wish") (ns := [.F, .F, .F]) (sz_cons (se_frz (se_list (se_S (se_var (i := 2) rfl)))) (sz_cons (se_frz (se_call (m := (.L (.T [.F, (.L .F)]))) (sz_cons (se_var (i := 3) rfl) sz_nil))) sz_nil)))) sz_nil)) (se_B (se_var (i := 4) rfl))))) (ss_seq (ss_ret se_bl (.inl rfl))
 ss_next) ss_next (.inl rfl))
 (ss_seq (ss_asgF (i := 5) (se_frz (se_call (m := (.L (.T [.F, (.L .F)]))) (sz_cons (se_var (i := 3) rfl) (sz_cons (se_len (se_B (se_var (i := 2) rfl))) (sz_cons (se_ix (se_S (se_var (i := 1) rfl)) (se_B se_int)) sz_nil))))) (.inl rfl))
 (ss_seq (ss_if (st_and (st_val (se_B (se_eq (se_B (se_mod (se_B (se_ix (se_S (se_var (i := 1) rfl)) (se_B se_int))) (se_B se_int))) (se_B se_int)))) (st_val (se_B (se_eq (se_B (se_len (se_B (se_comp (vs := [7, 8]) (m := .F) (six (si_seq (se_var (i := 5) rfl))) (sg_tup (n := 2) (sgs_cons (sg_name (i := 7)) (sgs_cons (sg_name (i := 8)) sgs_nil))) (st_val (se_B (se_eq (se_B (se_var (i := 8) rfl)) (se_B (se_lst (m := .F) sz_nil))))) (se_var (i := 8) rfl))))) (se_B se_int))))) (ss_seq (ss_asgF (i := 5) (se_frz (se_call (m := (.L (.T [.F, (.L .F)]))) (sz_cons (se_var (i := 5) rfl) (sz_cons (se_len (se_B (se_var (i := 2) rfl))) (sz_cons (se_ix (se_S (se_var (i := 1) rfl)) (se_B se_int)) sz_nil))))) (.inl rfl))
 ss_next) ss_next (.inl rfl))
 (ss_seq (ss_asgF (i := 6) (se_frz (se_call (m := (.L (.T [.F, (.L .F)]))) (sz_cons (se_var (i := 5) rfl) sz_nil))) (.inl rfl))
 (ss_seq (ss_if (st_not (st_valB (se_B (se_call (m := .F) (sz_cons (se_len (se_B (se_var (i := 2) rfl))) (sz_cons (se_var (i := 5) rfl) sz_nil)))))) (ss_seq (ss_if (st_or (st_not (st_valB (se_B (se_call (m := .F) (sz_cons (se_frz (se_list (se_S (se_var (i := 2) rfl)))) (sz_cons (se_var (i := 6) rfl) sz_nil)))))) (st_val (se_B (se_ne (se_B (se_var (i := 6) rfl)) (se_B (se_var (i := 5) rfl)))))) (ss_seq (ss_ret se_bl (.inl rfl))
 ss_next) ss_next (.inl rfl))
 ss_next) (ss_seq (ss_if (st_val (se_B (se_ne (se_B (se_meth (C := "Wish") (mm := "levels") (m := .F) (se_frz (se_make (C := "Wish") (ns := [.F, .F, .F]) (sz_cons (se_frz (se_list (se_S (se_var (i := 2) rfl)))) (sz_cons (se_var (i := 6) rfl) sz_nil)))) sz_nil)) (se_B (se_call (m := .F) (sz_cons (se_var (i := 2) rfl) (sz_cons (se_var (i := 5) rfl) sz_nil))))))) (ss_seq (ss_ret se_bl (.inl rfl))
 ss_next) ss_next (.inl rfl))
 ss_next) (.inl rfl))
 (ss_seq (ss_ret (se_eq (se_B (se_meth (C := "Wish") (mm := "levels") (m := .F) (se_frz (se_make (C := "Wish") (ns := [.F, .F, .F]) (sz_cons (se_frz (se_list (se_S (se_var (i := 2) rfl)))) (sz_cons (se_frz (se_call (m := (.L (.T [.F, (.L .F)]))) (sz_cons (se_var (i := 3) rfl) sz_nil))) sz_nil)))) sz_nil)) (se_B (se_var (i := 4) rfl))) (.inl rfl))
 ss_next))))))))))⟩
  exact (pss_cons (ps_set (i := 1) nd rfl (by first | exact Or.inl rfl | exact Or.inr rfl) (pe_callS G__law_poured (hr.mono (by decide)) rfl T.g__law_poured k__law_poured b__law_poured (fun σ => passAt (takes_of rfl rfl rfl rfl) σ) (pa_cons (pv 0) (pa_cons pe_int pa_nil))))
 (pss_cons (ps_set (i := 2) nd rfl (by first | exact Or.inl rfl | exact Or.inr rfl) (pe_callS G__law_letters (hr.mono (by decide)) rfl T.g__law_letters k__law_letters b__law_letters (fun σ => passAt (takes_of rfl rfl rfl rfl) σ) (pa_cons (pv 1) pa_nil)))
 (pss_cons (ps_set (i := 3) nd rfl (by first | exact Or.inl rfl | exact Or.inr rfl) (pe_callS G__law_groups (hr.mono (by decide)) rfl T.g__law_groups k__law_groups b__law_groups (fun σ => passAt (takes_of rfl rfl rfl rfl) σ) (pa_cons (pv 1) (pa_cons (pv 2) pa_nil))))
 (pss_cons (ps_set (i := 4) nd rfl (by first | exact Or.inl rfl | exact Or.inr rfl) (pe_callS G__law_levels (hr.mono (by decide)) rfl T.g__law_levels k__law_levels b__law_levels (fun σ => passAt (takes_of rfl rfl rfl rfl) σ) (pa_cons (pv 2) (pa_cons (pv 3) pa_nil))))
 (pss_cons (ps_if (pt_cmpR (op_neD hr.units) (pe_methS0 (pe_makeS T.k_Wish G_Wish___init__ (hr.mono (by decide)) rfl T.g_Wish b_Wish___init__ (fun σ => passAt (takes_of rfl rfl rfl rfl) σ) (pa_cons (pe_callTy call_list_of (by rfl) T.b_list (by decide +kernel) (pa_cons (pv 2) pa_nil)) (pa_cons (pe_callS G__law_copied (hr.mono (by decide)) rfl T.g__law_copied k__law_copied b__law_copied (fun σ => passAt (takes_of rfl rfl rfl rfl) σ) (pa_cons (pv 3) pa_nil)) pa_nil))) T.c_Wish T.m_Wish_levels G_Wish_levels (hr.mono (by decide)) b_Wish_levels (fun σ => passAt (takes_of rfl rfl rfl rfl) σ)) (pv 4) (nomark _)) (pss_cons (ps_ret pe_bl)
 pss_nil) pss_nil)
 (pss_cons (ps_set (i := 5) nd rfl (by first | exact Or.inl rfl | exact Or.inr rfl) (pe_callS G__law_faulty (hr.mono (by decide)) rfl T.g__law_faulty k__law_faulty b__law_faulty (fun σ => passAt (takes_of rfl rfl rfl rfl) σ) (pa_cons (pv 3) (pa_cons (pe_callB call_len (by rfl) T.b_len (by decide +kernel) (pa_cons (pv 2) pa_nil)) (pa_cons (pe_ix ix_seq (pv 1) pe_int (fun _ _ => rfl)) pa_nil)))))
 (pss_cons (ps_if (PW.pt (pw_and (pt_cmpR (op_eqD hr.units) (pe_op op_mod (pe_ix ix_seq (pv 1) pe_int (fun _ _ => rfl)) pe_int) pe_int (nomark _)) (pw_and1 (pt_cmpR (op_eqD hr.units) (pe_callB call_len (by rfl) T.b_len (by decide +kernel) (pa_cons (pe_lc (own := [("kind", 7), ("told", 8)]) rfl nd (pi_seqA (pv 5)) (blkOk_by (N := ["script", "numbers", "letters", "groups", "due", "bad", "handed", "kind", "told"]) (sc := defScope s_law) (own := [("kind", 7), ("told", 8)]) (by decide +kernel)) (fun _ _ _ _ _ => (pg_tup rfl (pgs_cons (pg_name (i := 7) nd rfl (by first | exact Or.inl rfl | exact Or.inr rfl)) (pgs_cons (pg_name (i := 8) nd rfl (by first | exact Or.inl rfl | exact Or.inr rfl)) pgs_nil)))) (fun _ _ _ _ _ => (pts_one (pt_cmpR (op_eqD hr.units) (pv 8) (pe_lst pa_nil) (nomark _)))) (fun _ _ _ _ _ => (pv 8))) pa_nil)) pe_int (nomark _))))) (pss_cons (ps_set (i := 5) nd rfl (by first | exact Or.inl rfl | exact Or.inr rfl) (pe_callS G__law_faulty (hr.mono (by decide)) rfl T.g__law_faulty k__law_faulty b__law_faulty (fun σ => passAt (takes_of rfl rfl rfl rfl) σ) (pa_cons (pv 5) (pa_cons (pe_callB call_len (by rfl) T.b_len (by decide +kernel) (pa_cons (pv 2) pa_nil)) (pa_cons (pe_ix ix_seq (pv 1) pe_int (fun _ _ => rfl)) pa_nil)))))
 pss_nil) pss_nil)
 (pss_cons (ps_set (i := 6) nd rfl (by first | exact Or.inl rfl | exact Or.inr rfl) (pe_callS G__law_copied (hr.mono (by decide)) rfl T.g__law_copied k__law_copied b__law_copied (fun σ => passAt (takes_of rfl rfl rfl rfl) σ) (pa_cons (pv 5) pa_nil)))
 (pss_cons (ps_if (pt_not (pt_val (pe_callS G__law_good (hr.mono (by decide)) rfl T.g__law_good k__law_good b__law_good (fun σ => passAt (takes_of rfl rfl rfl rfl) σ) (pa_cons (pe_callB call_len (by rfl) T.b_len (by decide +kernel) (pa_cons (pv 2) pa_nil)) (pa_cons (pv 5) pa_nil))))) (pss_cons (ps_if (PW.pt (pw_or (pt_not (pt_val (pe_callS G__law_refused (hr.mono (by decide)) rfl T.g__law_refused k__law_refused b__law_refused (fun σ => passAt (takes_of rfl rfl rfl rfl) σ) (pa_cons (pe_callTy call_list_of (by rfl) T.b_list (by decide +kernel) (pa_cons (pv 2) pa_nil)) (pa_cons (pv 6) pa_nil))))) (pw_or1 (pt_cmpR (op_neD hr.units) (pv 6) (pv 5) (nomark _))))) (pss_cons (ps_ret pe_bl)
 pss_nil) pss_nil)
 pss_nil) (pss_cons (ps_if (pt_cmpR (op_neD hr.units) (pe_methS0 (pe_makeS T.k_Wish G_Wish___init__ (hr.mono (by decide)) rfl T.g_Wish b_Wish___init__ (fun σ => passAt (takes_of rfl rfl rfl rfl) σ) (pa_cons (pe_callTy call_list_of (by rfl) T.b_list (by decide +kernel) (pa_cons (pv 2) pa_nil)) (pa_cons (pv 6) pa_nil))) T.c_Wish T.m_Wish_levels G_Wish_levels (hr.mono (by decide)) b_Wish_levels (fun σ => passAt (takes_of rfl rfl rfl rfl) σ)) (pe_callS G__law_levels (hr.mono (by decide)) rfl T.g__law_levels k__law_levels b__law_levels (fun σ => passAt (takes_of rfl rfl rfl rfl) σ) (pa_cons (pv 2) (pa_cons (pv 5) pa_nil))) (nomark _)) (pss_cons (ps_ret pe_bl)
 pss_nil) pss_nil)
 pss_nil))
 (pss_cons (ps_ret (pe_cmpR (op_eqD hr.units) (pe_methS0 (pe_makeS T.k_Wish G_Wish___init__ (hr.mono (by decide)) rfl T.g_Wish b_Wish___init__ (fun σ => passAt (takes_of rfl rfl rfl rfl) σ) (pa_cons (pe_callTy call_list_of (by rfl) T.b_list (by decide +kernel) (pa_cons (pv 2) pa_nil)) (pa_cons (pe_callS G__law_copied (hr.mono (by decide)) rfl T.g__law_copied k__law_copied b__law_copied (fun σ => passAt (takes_of rfl rfl rfl rfl) σ) (pa_cons (pv 3) pa_nil)) pa_nil))) T.c_Wish T.m_Wish_levels G_Wish_levels (hr.mono (by decide)) b_Wish_levels (fun σ => passAt (takes_of rfl rfl rfl rfl) σ)) (pv 4) (nomark _)))
 pss_nil))))))))))
end
end Pm
namespace Pm
open PySem PySem.Spec L2
local macro_rules | `(tactic| simp? [$xs,*]) => `(tactic| simp (decide := true) (implicitDefEqProofs := false) (disch := first | assumption | omega | (simp only [List.length_map, List.length_append, List.length_cons, List.length_nil, List.length_take, List.length_drop, List.length_reverse, List.length_zip, List.length_range, rangeL_len]; done) | (simp only [List.length_map, List.length_append, List.length_cons, List.length_nil, List.length_take, List.length_drop, List.length_reverse, List.length_zip, List.length_range, rangeL_len]; omega)) only [List.set_cons_zero, List.set_cons_succ, List.map_cons, List.map_nil, List.cons_append, List.nil_append, List.append_nil, List.replicate_succ, List.replicate_zero, Nat.reduceSub, List.length_cons, List.length_nil, Nat.reduceAdd, v_var0, v_varS, v_con, v_fgt, v_add, v_sub, v_mul, v_div, v_mod, v_pow, v_shl, v_lt, v_le, v_gt, v_ge, v_eq, v_ne, v_in, v_nin, v_ix, v_plus, v_cat, v_rep, v_isN, v_notN, v_len, v_neg, v_isi, v_list, v_tuple, v_tupleL, v_fld, v_fldI, v_all, v_any, v_sum, v_max2, v_min2, v_i2, v_addI, v_subI, v_mulL, v_mulR, v_divI, v_modI, v_ltI, v_leI, v_gtI, v_geI, v_negD, v_eqI, v_neI, v_eqB, v_neB, v_lenL, v_lenC, v_lenT, v_listL, v_listC, v_listT, v_tupL, v_tupC, v_tupT, v_tupLL, v_plusI, v_plusL, v_plusT, v_catL, v_slc, v_slcL, v_noPart, v_partO, v_asI, v_cutL, v_cutC, v_cutT, v_cutLL, v_cutLC, v_boolT, v_notT, v_andT, v_orT, v_yes, v_andE, v_orE, v_notE, v_ifE, v_andOk, v_orOk, v_andOkE, v_orOkE, v_isB, v_isI, v_isIB, v_eqS, v_neS, v_asB, v_args0, v_args1, v_tup, v_lst, v_call, v_callB, v_meth, v_methB, v_scal, v_scalI, v_scalB, v_scalS, v_scalN, v_rng1, v_rng2, v_rngD1, v_rngD2, v_seqI, v_tupI, v_seqL, v_seqC, v_seqT, v_seqQ, v_lenQ, v_tupQ, v_tupID, v_zipI, v_zipL, v_zipT, v_enumI, v_enumL, v_enumC, v_revI, v_revL, v_revT, v_comp, v_wipe0, v_wipe1, v_assoc, v_nx, v_end, v_asg, v_drop, v_ret, v_retN, v_raise, v_brk, v_cnt, v_if, v_iteT, v_iteF, v_asgG, v_nameG, v_consG, v_nilG, v_app, v_varP0, v_varPS, v_lstOf, v_set, v_for, v_outR, v_outX, v_outN, v_newF, v_outI, v_outIX, v_try, v_tryN, v_tryRt, v_divmod, v_dvm, v_tupRev, v_trev, v_lrev, v_lrevL, v_dnew, v_dnewT, v_din, v_dget, v_scalE, v_dlen, v_dlenT, v_dlenD, v_dlenTD, v_dgetI, v_dgetS, v_dput, v_ltT, v_gtT, v_sortN, v_sortI, v_sortP, v_int1, v_intI, v_intB, v_bm1, v_pop, v_asgPop, v_appPop, v_callL, v_methL, v_isCE, v_isBE, v_isxT, v_leafR, v_ixP, v_tixP, v_fldP, v_lrng1, v_ext, v_ins, v_chg0, v_index, v_count, divOk_of, smallI_of, intSz_of, lenSz_of, ok_bind, ex_bind, no_bind, bindS_ok, bindS_ex, ↓reduceIte, Option.bind_some, Int.reduceLT, Int.reduceLE, Nat.reduceLeDiff, Int.reduceNeg, Int.reduceEq, Bool.or_true, Bool.true_or, Bool.and_true, Bool.true_and, Bool.false_or, Bool.or_false, Bool.and_false, Bool.false_and, decide_true, decide_false, Bool.not_true, Bool.not_false, Bool.false_eq_true, v_tixL, x_tixL30, x_tixL31, x_tixL32, x_tixL20, x_tixL21, v_catQ, x_catQ, v_callSO, v_flatRO, x_flatROE, x_scalRE, x_leafRE, bindX_ok, bindX_ex, thenX_ok, thenX_ex, v_dropX, x_dropX, x_dropXE, v_asgX, x_asgX, x_asgXE, v_ifX, x_ifX, x_ifXE, v_retX, x_retX, x_retW, v_retW, v_retWN, v_retWX, x_retWX, v_pureX, v_pureXT, v_opX, v_valXT, v_notXT, v_andXT, v_orXT, v_andX, v_methX, v_callX0, v_callX2, x_lnX, x_lnXE, v_look, x_outWN, x_outWR, x_outWT, x_outWX, x_outWE, v_rem, v_setPart, v_popTo, x_fldSet, v_pop0, v_asgPop0, x_pop0, x_ifLen, v_appNew, v_appPopP, v_forT, v_compX, v_minD, v_maxD, v_sortS, v_tryX, v_tryXN, v_tryXRt, x_tryXT, x_tryXO, x_tryXF, x_tryX0, x_row, v_sortT, v_sortJ, v_sortDE, v_raiN, x_raiN, v_inS, v_ninS, x_inS, x_ninS, v_strI, x_strI, v_str1, x_str1, v_intT, x_intT, v_join, v_split, v_part, v_sw, x_strOf, x_join, x_split, x_part, x_sw, v_mulS, x_mulS, x_lenS, x_plusS, x_cutS, x_isiS, v_rng3, x_rng3, v_setSl, v_callX, v_ltL, v_setFld, v_appPopF, v_lendS, x_lend, v_retFld, x_outL, v_forK, v_compK, v_maxV, x_maxV, v_dcon, v_mv, v_minP, v_leT, v_revS, x_revL, v_maxP, x_tix30, x_tix31, x_tix32, v_asgT, x_asgT2, x_asgT3, v_tryMm, v_tryMN, v_tryMRt, x_tryMT, x_tryMF, v_ninD, v_sortU, v_callS, v_lstA, x_lstA, v_appV, x_appV, v_rrg, v_chE, v_chK, v_sdApp, x_dicOf, v_sortDI, v_notBE, x_notB, x_isB, v_forM, v_whl, v_fgtSeq, v_inDt, x_tryT, x_tryF, v_noXN, v_noXRt, v_tryA, v_tryAN, v_tryART, x_tryA, v_clrN, v_clrRt, x_nnN, x_nnT, x_nnL, x_nnI, x_nnS, x_nnB, x_tyT, x_tyTL, x_tyL, x_tyLT, x_tyS, x_ext, x_ins, x_dget, x_dlen, enumL_zip, x_lrng, x_ixPl, x_tix0, x_tix1, x_appPop, x_appPop2, x_ixLn, x_ixTn, x_ixCn, x_t0, x_t1, x_t2, x_t3, x_l0, x_ixLm, x_ixTm, x_ixLi, x_ixTi, x_ixCi, x_optS, x_mulA, x_mulB, x_divA, x_dvmA, x_modA, x_appA, x_setA, x_rngA1, x_rngA2, x_plusA, x_plusT, x_catA, x_powA, List.getElem?_map, Option.map_some, List.length_map, List.length_append, rangeL_len, Int.reducePow, Int.reduceToNat, Int.toNat_natCast, Int.reduceMul, Int.reduceAdd, Int.reduceSub, Int.reduceDiv, Int.reduceMod, List.getElem?_cons_zero, List.getElem?_cons_succ, beq_self_eq_true, $xs,*])
/-! numbers poured from a script -/
def numB (x : Int) : Prop := 0 ≤ x ∧ x < 1000000000
def IntsP (n : Nat) (B : Int → Prop) (o : Ot) : Prop := ∃ vs : List Int, vs.length = n ∧ (∀ v ∈ vs, B v) ∧ outF .F o = .ok (.lst (vs.map .int))
theorem parts_run (ns : List Int) (n : Nat) (hn : ns.length ≤ 63) (h80 : n ≤ 80) : ∃ vs : List Int, vs.length = n ∧ (∀ v ∈ vs, numB v) ∧ F__law_parts [.scr (ns.map .int), .int n] = .ok (.lst (vs.map .int)) := by
  rw [R__law_parts]; unfold Fb__law_parts
  show IntsP n numB _
  simp? [e_B__law_parts_1, e_C__law_parts_2]
  refine wp_rng0 n (fun vs : List Int => [some (.scr (ns.map .int)), some (.int n), some (.lst [.int 1, .int 1000000000, .int 1000000000000000000, .int 1000000000000000000000000000, .int 1000000000000000000000000000000000000]), some (.lst (vs.map .int)), none, none]) (fun k vs => vs.length = k ∧ ∀ v ∈ vs, numB v) [] rfl ⟨rfl, by simp⟩ ?_ ?_
  · rintro k vs hk ⟨hl, hv⟩
    refine ⟨_, v_nameG, ?_⟩
    obtain ⟨w, hw, ew⟩ := x_lit (xs := [1, 1000000000, 1000000000000000000, 1000000000000000000000000000, 1000000000000000000000000000000000000]) (g := Dt.int) (k := (k : Int) / 16) (by omega) (by simp; omega)
    have ew : ixD (.lst [.int 1, .int 1000000000, .int 1000000000000000000, .int 1000000000000000000000000000, .int 1000000000000000000000000000000000000]) (.int ((k : Int) / 16)) = .ok (.int w) := ew
    have hw2 : 0 < w ∧ w < 1000000000000000000000000000000000000000 := by
      simp only [List.mem_cons, List.not_mem_nil, or_false] at hw
      omega
    simp? [e_B__law_parts_1, e_C__law_parts_2, List.length_map]
    have fin : ∀ c : Int, ∃ s', ([some (.scr (ns.map .int)), some (.int n), some (.lst [.int 1, .int 1000000000, .int 1000000000000000000, .int 1000000000000000000000000000, .int 1000000000000000000000000000000000000]), some (.lst (vs.map .int ++ [.int (c / w % 1000000000)])), none, none] : Ev) = [some (.scr (ns.map .int)), some (.int n), some (.lst [.int 1, .int 1000000000, .int 1000000000000000000, .int 1000000000000000000000000000, .int 1000000000000000000000000000000000000]), some (.lst (List.map Dt.int s')), none, none] ∧ s'.length = k + 1 ∧ ∀ v ∈ s', numB v := fun c =>
      ⟨vs ++ [c / w % 1000000000], by rw [List.map_append]; rfl, by rw [List.length_append, hl]; rfl, fun v hm => by
        rcases List.mem_append.mp hm with hm | hm
        · exact hv v hm
        · rw [List.mem_singleton.mp hm]; exact ⟨Int.emod_nonneg _ (by decide), Int.emod_lt_of_pos _ (by decide)⟩⟩
    refine wp_ite (fun h => ?_) fun h => ?_
    · have h := of_decide_eq_true h
      obtain ⟨c, hc, _⟩ := at_of_lt (xs := ns) (k := (1 + (k : Int) % 16).toNat) (by omega)
      simp? [e_B__law_parts_1, e_C__law_parts_2, hc, ew]
      exact fin c
    · simp? [e_B__law_parts_1, e_C__law_parts_2, ew]
      exact fin 0
  · rintro vs ⟨hl, hv⟩
    simp? [e_B__law_parts_1, e_C__law_parts_2]
    exact ⟨vs, hl, hv, rfl⟩
theorem numB_mod (x : Int) : numB (x % 1000000000) := ⟨Int.emod_nonneg _ (by decide), Int.emod_lt_of_pos _ (by decide)⟩
def StirB (x : Int) : Prop := 0 ≤ x ∧ x < 1000000000039
theorem stirB_mod (x : Int) : StirB (x % 1000000000039) := ⟨Int.emod_nonneg _ (by decide), Int.emod_lt_of_pos _ (by decide)⟩
theorem all_snoc {α : Type} {P : α → Prop} {xs : List α} {x : α} (h : ∀ y ∈ xs, P y) (hx : P x) : ∀ y ∈ xs ++ [x], P y := fun y hy => by
  rcases List.mem_append.mp hy with hy | hy
  · exact h y hy
  · rw [List.mem_singleton.mp hy]; exact hx
theorem all_set {α : Type} {P : α → Prop} {xs : List α} {k : Nat} {x : α} (h : ∀ y ∈ xs, P y) (hx : P x) : ∀ y ∈ xs.set k x, P y := fun y hy => by
  rcases List.mem_or_eq_of_mem_set hy with hy | hy
  · exact h y hy
  · rw [hy]; exact hx
theorem poured_run (ns : List Int) (n : Nat) (hn : ns.length ≤ 63) (h1 : 1 ≤ n) (h80 : n ≤ 80) : ∃ vs : List Int, vs.length = n ∧ (∀ v ∈ vs, numB v) ∧ F__law_poured [.scr (ns.map .int), .int n] = .ok (.lst (vs.map .int)) := by
  rw [R__law_poured]; unfold Fb__law_poured
  show IntsP n numB _
  simp? [e_B__law_poured_1, e_B__law_poured_2, e_B__law_poured_3, e_B__law_poured_4, e_C__law_poured_5, e_C__law_poured_6, e_C__law_poured_7, e_C__law_poured_8]
  have main : ∀ b : Bool, (b = true → ns ≠ []) → IntsP n numB (iteS b (seqS (retS (callE F__law_parts [varE 0, varE 1])) nextS) nextS (seqS (asgS 2 (conE (.int 7919))) (seqS (forS (seqI (varE 0)) (nameG 3) B__law_poured_1) C__law_poured_8)) [some (.scr (ns.map .int)), some (.int n), none, none, none, none, none, none]) := fun b _ => by
    refine wp_ite (fun h => ?_) fun h => ?_
    · obtain ⟨vs, l, hv, e⟩ := parts_run ns n hn h80
      simp? [e_B__law_poured_1, e_B__law_poured_2, e_B__law_poured_3, e_B__law_poured_4, e_C__law_poured_5, e_C__law_poured_6, e_C__law_poured_7, e_C__law_poured_8, e]
      exact ⟨vs, l, hv, rfl⟩
    simp? [e_B__law_poured_1, e_B__law_poured_2, e_B__law_poured_3, e_B__law_poured_4, e_C__law_poured_5, e_C__law_poured_6, e_C__law_poured_7, e_C__law_poured_8]
    let E : Int → Option Dt → Option Dt → Ev := fun st a b => [some (.scr (ns.map .int)), some (.int n), some (.int st), none, a, none, b, none]
    refine wp_forI ns Dt.int (fun st : Int => E st none none) (fun _ st => StirB st) 7919 rfl rfl ⟨by decide, by decide⟩ ?_ ?_
    · rintro pre c post st e ⟨s1, s2⟩
      refine ⟨_, v_nameG, ?_⟩
      simp? [e_B__law_poured_1, e_B__law_poured_2, e_B__law_poured_3, e_B__law_poured_4, e_C__law_poured_5, e_C__law_poured_6, e_C__law_poured_7, e_C__law_poured_8, E]
      exact ⟨_, rfl, stirB_mod _⟩
    rintro st ⟨s1, s2⟩
    simp? [e_B__law_poured_1, e_B__law_poured_2, e_B__law_poured_3, e_B__law_poured_4, e_C__law_poured_5, e_C__law_poured_6, e_C__law_poured_7, e_C__law_poured_8, E]
    refine wp_rng0 n (fun q : Int × List Int => E q.1 (some (.lst (q.2.map .int))) none) (fun k q => StirB q.1 ∧ q.2.length = k ∧ ∀ v ∈ q.2, StirB v) (st, []) rfl ⟨⟨s1, s2⟩, rfl, by simp⟩ ?_ ?_
    · rintro k ⟨st, vs⟩ hk ⟨⟨s1, s2⟩, hl, hv⟩
      dsimp only at s1 s2 hl hv
      refine ⟨_, v_nameG, ?_⟩
      simp? [e_B__law_poured_1, e_B__law_poured_2, e_B__law_poured_3, e_B__law_poured_4, e_C__law_poured_5, e_C__law_poured_6, e_C__law_poured_7, e_C__law_poured_8, E, List.length_map]
      exact ⟨(_, vs ++ [_]), by rw [List.map_append]; rfl, stirB_mod _, by rw [List.length_append, hl]; rfl, all_snoc hv (stirB_mod _)⟩
    rintro ⟨st, vs⟩ ⟨_, hl, hv⟩
    dsimp only at hl hv
    simp? [e_B__law_poured_1, e_B__law_poured_2, e_B__law_poured_3, e_B__law_poured_4, e_C__law_poured_5, e_C__law_poured_6, e_C__law_poured_7, e_C__law_poured_8, E]
    refine wp_rng0 ns.length (fun vs : List Int => ([some (.scr (ns.map .int)), some (.int n), none, none, some (.lst (vs.map .int)), none, none, none] : Ev)) (fun _ vs => vs.length = n ∧ ∀ v ∈ vs, StirB v) vs rfl ⟨hl, hv⟩ ?_ ?_
    · rintro k vs hk ⟨hl, hv⟩
      have m0 : 0 ≤ (k : Int) % n := Int.emod_nonneg _ (by omega)
      have m1 : (k : Int) % n < n := Int.emod_lt_of_pos _ (by omega)
      obtain ⟨x, hx, hm⟩ := at_of_lt (xs := vs) (k := ((k : Int) % n).toNat) (by omega)
      obtain ⟨y, hy, _⟩ := at_of_lt (xs := ns) (k := k) hk
      obtain ⟨b1, b2⟩ := hv x hm
      refine ⟨_, v_nameG, ?_⟩
      obtain ⟨j, hj⟩ := Int.eq_ofNat_of_zero_le m0
      rw [hj, Int.toNat_natCast] at hx
      simp? [e_B__law_poured_1, e_B__law_poured_2, e_B__law_poured_3, e_B__law_poured_4, e_C__law_poured_5, e_C__law_poured_6, e_C__law_poured_7, e_C__law_poured_8, hj, hx, hy, List.length_map]
      exact ⟨vs.set j _, by rw [List.map_set], by rw [List.length_set]; exact hl, all_set hv (stirB_mod _)⟩
    rintro vs ⟨hl, hv⟩
    simp? [e_B__law_poured_1, e_B__law_poured_2, e_B__law_poured_3, e_B__law_poured_4, e_C__law_poured_5, e_C__law_poured_6, e_C__law_poured_7, e_C__law_poured_8]
    refine wp_forI vs Dt.int (fun q : List Int => ([some (.scr (ns.map .int)), some (.int n), none, none, some (.lst (vs.map .int)), none, some (.lst (q.map .int)), none] : Ev)) (fun pre q => q.length = pre.length ∧ ∀ v ∈ q, numB v) [] rfl rfl ⟨rfl, by simp⟩ ?_ ?_
    · rintro pre x post q e ⟨ql, hq⟩
      obtain ⟨b1, b2⟩ := hv x (by rw [e]; simp)
      have := congrArg List.length e
      simp at this
      refine ⟨_, v_nameG, ?_⟩
      simp? [e_B__law_poured_1, e_B__law_poured_2, e_B__law_poured_3, e_B__law_poured_4, e_C__law_poured_5, e_C__law_poured_6, e_C__law_poured_7, e_C__law_poured_8, List.length_map]
      have m0 : 0 ≤ x * x % 998244353 := Int.emod_nonneg _ (by decide)
      have m1 : x * x % 998244353 < 998244353 := Int.emod_lt_of_pos _ (by decide)
      exact ⟨q ++ [_], by rw [List.map_append]; rfl, by simp [ql], all_snoc hq ⟨by omega, by omega⟩⟩
    rintro q ⟨ql, hq⟩
    simp? [e_B__law_poured_1, e_B__law_poured_2, e_B__law_poured_3, e_B__law_poured_4, e_C__law_poured_5, e_C__law_poured_6, e_C__law_poured_7, e_C__law_poured_8]
    exact ⟨q, ql.trans hl, hq, rfl⟩
  cases ns with
  | nil => simp? [e_B__law_poured_1, e_B__law_poured_2, e_B__law_poured_3, e_B__law_poured_4, e_C__law_poured_5, e_C__law_poured_6, e_C__law_poured_7, e_C__law_poured_8]; exact main false (by simp)
  | cons c cs =>
    have c0 : (0 : Int) < ((cs.length + 1 : Nat) : Int) := by omega
    simp? [e_B__law_poured_1, e_B__law_poured_2, e_B__law_poured_3, e_B__law_poured_4, e_C__law_poured_5, e_C__law_poured_6, e_C__law_poured_7, e_C__law_poured_8, c0]; exact main _ (fun _ => by simp)
/-! letters by numbers -/
theorem lenD_prs (ls : List (Int × Int)) : lenD (.lst (ls.map prD)) = .ok (.int ls.length) := by rw [v_lenL, List.length_map]
def lateB (l : Int × Int) : Prop := 1 ≤ l.1 ∧ l.1 ≤ 9 ∧ 0 ≤ l.2 ∧ l.2 ≤ 6
theorem num_at {vs : List Int} (hv : ∀ v ∈ vs, numB v) {k : Nat} (hk : k < vs.length) : ∃ v, vs[k]? = some v ∧ 0 ≤ v ∧ v < 1000000000 := by
  obtain ⟨v, h1, h2⟩ := at_of_lt hk
  exact ⟨v, h1, hv v h2⟩
def GLettersP (o : Ot) : Prop := ∃ ls : List (Int × Int), ls.length ≤ 24 ∧ (∀ l ∈ ls, lateB l) ∧ outF .F o = .ok (.lst (ls.map prD))
theorem letters_run (vs : List Int) (hl : vs.length = 60) (hv : ∀ v ∈ vs, numB v) : ∃ ls : List (Int × Int), ls.length ≤ 24 ∧ (∀ l ∈ ls, lateB l) ∧ F__law_letters [.lst (vs.map .int)] = .ok (.lst (ls.map prD)) := by
  rw [R__law_letters]; unfold Fb__law_letters
  show GLettersP _
  obtain ⟨n0, h0, a0, b0⟩ := num_at hv (k := 0) (by omega)
  obtain ⟨m, hm, em⟩ := x_lit (xs := [3, 4, 2, 5, 0, 6, 1, 8, 4, 12, 24, 7]) (g := Dt.int) (k := n0 % 12) (by omega) (by simp; omega)
  have em : ixD (.lst [.int 3, .int 4, .int 2, .int 5, .int 0, .int 6, .int 1, .int 8, .int 4, .int 12, .int 24, .int 7]) (.int (n0 % 12)) = .ok (.int m) := em
  have hm2 : 0 ≤ m ∧ m ≤ 24 := by
    simp only [List.mem_cons, List.not_mem_nil, or_false] at hm
    omega
  obtain ⟨t, ht⟩ : ∃ t, t = n0 / 12 % 2 := ⟨_, rfl⟩
  have t01 : 0 ≤ t ∧ t ≤ 1 := by omega
  simp? [h0, em, ← ht]
  rw [comp_rng (f := fun k => prD (1 + (vs.getD (1 + k) 0) % 9, (vs.getD (1 + k) 0) / 9 % 7 * t)) (by omega) fun k hk => ?_]
  · simp? [ok_bind]
    refine ⟨(List.range m.toNat).map fun k => (1 + (vs.getD (1 + k) 0) % 9, (vs.getD (1 + k) 0) / 9 % 7 * t), by simp; omega, ?_, by rw [List.map_map]; rfl⟩
    intro l hl
    obtain ⟨k, hk, rfl⟩ := List.mem_map.mp hl
    refine ⟨by dsimp only; omega, by dsimp only; omega, ?_, ?_⟩
    all_goals
      have := Int.emod_nonneg (vs.getD (1 + k) 0 / 9) (show (7 : Int) ≠ 0 by decide)
      have := Int.emod_lt_of_pos (vs.getD (1 + k) 0 / 9) (show (0 : Int) < 7 by decide)
      have : t = 0 ∨ t = 1 := by omega
      rcases this with e | e <;> rw [e] <;> dsimp only <;> omega
  · obtain ⟨x, hx, _, _⟩ := num_at hv (k := 1 + k) (by omega)
    have e1 : (1 : Int) + (k : Int) = ((1 + k : Nat) : Int) := by omega
    refine ⟨_, v_nameG, ?_⟩
    simp? [e1, hx, List.getD]
    rfl
/-! groups -/
abbrev Gr := Str × List Int
def grD (g : Gr) : Dt := .tup [.str g.1, .lst (g.2.map .int)]
def gkB (x : Str) : Prop := x = "any" ∨ x = "come" ∨ x = "row"
def memb (gs : List Gr) : List Int := gs.flatMap (·.2)
def natL (m : Nat) : List Int := (List.range m).map fun (k : Nat) => ((k : Nat) : Int)
/-- each letter below m in just one group, none empty, kinds as told -/
def gOk (m : Nat) (gs : List Gr) : Prop := (∀ g ∈ gs, gkB g.1 ∧ g.2 ≠ []) ∧ (memb gs).Perm (natL m)
theorem natL_len (m : Nat) : (natL m).length = m := by unfold natL; simp
theorem natL_mem {m : Nat} {x : Int} : x ∈ natL m ↔ 0 ≤ x ∧ x < m := by
  unfold natL
  rw [List.mem_map]
  constructor
  · rintro ⟨k, hk, rfl⟩
    have := List.mem_range.mp hk
    omega
  · rintro ⟨h1, h2⟩
    exact ⟨x.toNat, List.mem_range.mpr (by omega), by omega⟩
theorem natL_nodup (m : Nat) : (natL m).Nodup := by
  unfold natL
  refine List.Pairwise.map _ (fun a b h => ?_) List.nodup_range
  omega
theorem rangeL_natL (m : Nat) : rangeL 0 m = (natL m).map Dt.int := by
  rw [rangeL0_map, natL, List.map_map]
  rfl
def GroupsP (m : Nat) (o : Ot) : Prop := ∃ gs : List Gr, gOk m gs ∧ outF .F o = .ok (.lst (gs.map grD))
theorem erase_perm {α : Type} : ∀ {xs : List α} {k : Nat} {y : α}, xs[k]? = some y → (y :: xs.eraseIdx k).Perm xs
  | [], k, y, h => by simp at h
  | x :: xs, 0, y, h => by
    have : x = y := by simpa using h
    subst this
    simp
  | x :: xs, k + 1, y, h => by
    rw [List.eraseIdx_cons_succ]
    exact (List.Perm.swap _ _ _).trans ((erase_perm (xs := xs) (k := k) (by simpa using h)).cons x)
theorem memb_snoc (gs : List Gr) (g : Gr) : memb (gs ++ [g]) = memb gs ++ g.2 := by
  unfold memb
  rw [List.flatMap_append]
  simp
theorem groups_run (vs : List Int) (ls : List (Int × Int)) (hl : vs.length = 60) (hv : ∀ v ∈ vs, numB v) (hm : ls.length ≤ 24) : ∃ gs : List Gr, gOk ls.length gs ∧ F__law_groups [.lst (vs.map .int), .lst (ls.map prD)] = .ok (.lst (gs.map grD)) := by
  rw [R__law_groups]; unfold Fb__law_groups
  show GroupsP ls.length _
  simp? [e_B__law_groups_1, e_C__law_groups_2]
  let E : List Int → List Gr → Option Dt → Option Dt → Ev := fun rest gs a b => [some (.lst (vs.map .int)), some (.lst (ls.map prD)), some (.lst (rest.map .int)), some (.lst (gs.map grD)), a, b]
  refine wp_rng0 ls.length (fun q : List Int × List Gr => E q.1 q.2 none none) (fun k q => q.1.length = ls.length - k ∧ q.2.length ≤ k ∧ (k = 0 ∨ q.2 ≠ []) ∧ (∀ g ∈ q.2, gkB g.1 ∧ g.2 ≠ []) ∧ (memb q.2 ++ q.1).Perm (natL ls.length)) (natL ls.length, []) (by simp only [E, rangeL_natL]; rfl) ⟨by simp [natL_len], by simp, .inl rfl, by simp, by simp [memb]⟩ ?_ ?_
  · rintro k ⟨rest, gs⟩ hk ⟨hr, hg, h0, hk2, hp⟩
    dsimp only at hr hg h0 hk2 hp
    obtain ⟨x, hx, x0, x1⟩ := num_at hv (k := 30 + k) (by omega)
    have e1 : (30 : Int) + (k : Int) = ((30 + k : Nat) : Int) := by omega
    refine ⟨_, v_nameG, ?_⟩
    have step : ∀ (gi : List Gr) (g : Gr), gi.length ≤ k → (∀ g ∈ gi, gkB g.1 ∧ g.2 ≠ []) → gkB g.1 → (memb (gi ++ [g]) ++ rest).Perm (natL ls.length) → g.2.length ≤ 100 →
        LoopP (GroupsP ls.length) C__law_groups_2 (fun ρ => ∃ s' : List Int × List Gr, ρ = E s'.1 s'.2 none none ∧ s'.1.length = ls.length - (k + 1) ∧ s'.2.length ≤ k + 1 ∧ (k + 1 = 0 ∨ s'.2 ≠ []) ∧ (∀ g ∈ s'.2, gkB g.1 ∧ g.2 ≠ []) ∧ (memb s'.2 ++ s'.1).Perm (natL ls.length))
        (seqS (appPopS (tixP 1 (ixP (varP 3) (negE (conE (.int 1))))) 2 (modE (divE (varE 5) (conE (.int 9))) (lenE (varE 2)))) (fgtS [4, 5] nextS) (E rest (gi ++ [g]) (some (.int (k : Nat))) (some (.int x)))) := fun gi g gl gk gB pm gm => by
      have r1 : (0 : Int) < (rest.length : Int) := by omega
      have m0 : 0 ≤ x / 9 % (rest.length : Int) := Int.emod_nonneg _ (by omega)
      have m1 : x / 9 % (rest.length : Int) < rest.length := Int.emod_lt_of_pos _ r1
      obtain ⟨y, hy, _⟩ := at_of_lt (xs := rest) (k := (x / 9 % (rest.length : Int)).toNat) (by omega)
      obtain ⟨gn, gt⟩ := g
      dsimp only at gm gB
      simp? [e_B__law_groups_1, e_C__law_groups_2, E, List.map_append, grD, x_pop_map (g := Dt.int) m0 (by omega) hy]
      refine ⟨(rest.eraseIdx (x / 9 % (rest.length : Int)).toNat, gi ++ [(gn, gt ++ [y])]), ?_, ?_, ?_, .inr (by simp), ?_, ?_⟩
      · show _ = E _ _ none none
        simp only [E, List.map_append]
        simp only [List.map_cons, List.map_nil, grD, List.map_append]
        rfl
      · show (rest.eraseIdx _).length = _
        rw [List.length_eraseIdx_of_lt (by omega)]
        omega
      · simp; omega
      · intro g hg
        rcases List.mem_append.mp hg with hg | hg
        · exact gk g hg
        · rw [List.mem_singleton.mp hg]
          exact ⟨gB, by simp⟩
      · show (memb (gi ++ [(gn, gt ++ [y])]) ++ rest.eraseIdx _).Perm _
        refine List.Perm.trans ?_ pm
        rw [memb_snoc, memb_snoc]
        simp only [List.append_assoc]
        refine List.Perm.append_left _ (List.Perm.append_left _ ?_)
        exact erase_perm hy
    simp? [e_B__law_groups_1, e_C__law_groups_2, E, e1, hx]
    have kk : ∃ q : Str, gkB q ∧ ixD (.lst [.str "any", .str "come", .str "row"]) (.int (x / 3 % 3)) = .ok (.str q) := by
      obtain ⟨q, hq, eq⟩ := x_lit (xs := (["any", "come", "row"] : List Str)) (g := Dt.str) (k := x / 3 % 3) (by omega) (by simp; omega)
      refine ⟨q, ?_, eq⟩
      simpa [gkB] using hq
    obtain ⟨q, hq, eq⟩ := kk
    refine wp_ite (fun h => ?_) fun h => ?_
    · simp? [e_B__law_groups_1, e_C__law_groups_2, eq, -v_appPop]
      have := step gs (q, []) hg hk2 hq (by rw [memb_snoc, List.append_nil]; exact hp) (by simp)
      simp only [E, List.map_append] at this
      exact this
    · simp? [e_B__law_groups_1, e_C__law_groups_2, -v_appPop]
      have hne : gs ≠ [] := by
        rcases h0 with h0 | h0
        · subst h0; simp at h
        · exact h0
      have hsp := List.dropLast_concat_getLast hne
      have gl := List.getLast_mem hne
      have gm : (gs.getLast hne).2.length ≤ 100 := by
        have := hp.length_eq
        rw [natL_len, ← hsp, memb_snoc] at this
        simp at this
        omega
      have := step gs.dropLast (gs.getLast hne) (by simp; omega) (fun g hg => hk2 g ((List.dropLast_sublist _).subset hg)) (hk2 _ gl).1 (by rw [hsp]; exact hp) gm
      rw [hsp] at this
      exact this
  · rintro ⟨rest, gs⟩ ⟨hr, hg, h0, hk2, hp⟩
    dsimp only at hr hg h0 hk2 hp
    have : rest = [] := List.eq_nil_of_length_eq_zero (by omega)
    subst this
    simp? [e_B__law_groups_1, e_C__law_groups_2, E]
    exact ⟨gs, ⟨hk2, by simpa using hp⟩, rfl⟩
/-! wishes -/
def ilD (xs : List Int) : Dt := .lst (xs.map .int)
def lateOf (ls : List (Int × Int)) (x : Int) : Int := (ls.getD x.toNat (0, 0)).2
def comeL (ls : List (Int × Int)) (told : List Int) : List (List Int) := (sortP (told.map fun x => (lateOf ls x, x))).map fun p => [p.2]
def levG (ls : List (Int × Int)) (g : Gr) : List (List Int) := if g.1 = "any" then [sortI g.2] else if g.1 = "row" then g.2.map fun x => [x] else comeL ls g.2
def levs (ls : List (Int × Int)) (gs : List Gr) : List (List Int) := gs.flatMap (levG ls)
theorem memb_cons (g : Gr) (gs : List Gr) : memb (g :: gs) = g.2 ++ memb gs := by unfold memb; rw [List.flatMap_cons]
theorem memb_append (gs hs : List Gr) : memb (gs ++ hs) = memb gs ++ memb hs := by unfold memb; rw [List.flatMap_append]
theorem flatten_one {α : Type} (xs : List α) : (xs.map fun x => [x]).flatten = xs := by
  induction xs with
  | nil => rfl
  | cons x xs ih => rw [List.map_cons, List.flatten_cons, ih]; rfl
theorem comeL_perm (ls : List (Int × Int)) (told : List Int) : (comeL ls told).flatten.Perm told := by
  unfold comeL
  have e : ((sortP (told.map fun x => (lateOf ls x, x))).map fun p => [p.2]) = ((sortP (told.map fun x => (lateOf ls x, x))).map (·.2)).map fun x => [x] := by rw [List.map_map]; rfl
  rw [e, flatten_one]
  refine ((sortP_perm _).map _).trans ?_
  rw [List.map_map]
  exact List.Perm.of_eq (List.map_id told)
theorem levG_perm (ls : List (Int × Int)) (g : Gr) : (levG ls g).flatten.Perm g.2 := by
  unfold levG
  split
  · simp; exact sortI_perm _
  · split
    · rw [flatten_one]
    · exact comeL_perm ls g.2
theorem levs_perm (ls : List (Int × Int)) : ∀ gs : List Gr, (levs ls gs).flatten.Perm (memb gs)
  | [] => by simp [levs, memb]
  | g :: gs => by
    rw [memb_cons, levs, List.flatMap_cons, List.flatten_append]
    exact (levG_perm ls g).append (levs_perm ls gs)
theorem kind_eqs {x y : Str} (hx : gkB x) (hy : gkB y) : eqD (.str x) (.str y) = .ok (.bl (decide (x = y))) := by
  refine enc_str.eqD ?_ ?_
  · rcases hx with rfl | rfl | rfl <;> decide +kernel
  · rcases hy with rfl | rfl | rfl <;> decide +kernel
theorem gkB_any : gkB "any" := .inl rfl
theorem gkB_row : gkB "row" := .inr (.inr rfl)
theorem gkB_come : gkB "come" := .inr (.inl rfl)
theorem sort_ints (xs : List Int) : sortID (.lst (xs.map .int)) = .ok (.lst ((sortI xs).map .int)) := by
  show (match intsOf (xs.map Dt.int) with
    | some ns => Rs.ok (Dt.lst ((sortI ns).map .int))
    | none => .no) = _
  rw [intsOf_map]
theorem sort_prs (ps : List (Int × Int)) : sortPD (.lst (ps.map prD)) = .ok (.lst ((sortP ps).map prD)) := by
  show (match prsOf (ps.map prD) with
    | some ps => Rs.ok (Dt.lst ((sortP ps).map prD))
    | none => .no) = _
  rw [prsOf_map]
theorem late_at {ls : List (Int × Int)} {x : Int} (h0 : 0 ≤ x) (h1 : x < ls.length) : ∃ l, ls[x.toNat]? = some l ∧ l ∈ ls ∧ lateOf ls x = l.2 := by
  obtain ⟨l, hl, hm⟩ := at_of_lt (xs := ls) (k := x.toNat) (by omega)
  exact ⟨l, hl, hm, by unfold lateOf; rw [List.getD, hl]; rfl⟩
theorem group_levels_run (ls : List (Int × Int)) (g : Gr) (hk : gkB g.1) (hm : g.2.length ≤ 1000) (hr : ∀ x ∈ g.2, 0 ≤ x ∧ x < ls.length) : F_group_levels [.lst (ls.map prD), .str g.1, .lst (g.2.map .int)] = .ok (.lst ((levG ls g).map ilD)) := by
  obtain ⟨k, told⟩ := g
  dsimp only at hk hm hr
  rw [R_group_levels]; unfold Fb_group_levels
  have q1 := kind_eqs hk gkB_any
  have q2 := kind_eqs hk gkB_row
  simp? [q1]
  by_cases h1 : k = "any"
  · have e1 : levG ls (k, told) = [sortI told] := if_pos h1
    simp? [decide_eq_true h1, sort_ints, e1]
    rfl
  by_cases h2 : k = "row"
  · have e1 : levG ls (k, told) = told.map fun x => [x] := (if_neg h1).trans (if_pos h2)
    simp? [decide_eq_false h1, decide_eq_true h2, q2]
    rw [comp_mapE (f := fun x => ilD [x]) (by omega) fun x hx => ⟨_, v_nameG, by simp? [ok_bind]; rfl⟩]
    simp? [List.map_map, e1]
    rfl
  have e1 : levG ls (k, told) = comeL ls told := (if_neg h1).trans (if_neg h2)
  simp? [decide_eq_false h1, decide_eq_false h2, q2]
  rw [comp_mapE (f := fun x => prD (lateOf ls x, x)) (by omega) fun x hx => ?_]
  · have e : (told.map fun x => prD (lateOf ls x, x)) = (told.map fun x => (lateOf ls x, x)).map prD := by rw [List.map_map]; rfl
    simp? [e, sort_prs]
    have hl : (sortP (told.map fun x => (lateOf ls x, x))).length = told.length := by rw [(sortP_perm _).length_eq, List.length_map]
    rw [comp_mapE (f := fun p => ilD [p.2]) (by omega) fun p hp => ⟨_, v_nameG, by simp? [prD]; rfl⟩]
    simp? [e1]
    unfold comeL
    simp? [List.map_map]
    rfl
  · obtain ⟨h0, h1⟩ := hr x hx
    obtain ⟨l, hl, _, e⟩ := late_at h0 h1
    refine ⟨_, v_nameG, ?_⟩
    simp? [hl, prD, e]
instance (x : Str) : Decidable (gkB x) := by unfold gkB; exact inferInstance
open Classical in
def Look_at_groupsP (m : Nat) (gs : List Gr) (o : Ot) : Prop := outF .F o = if gOk m gs then .ok .non else .ex ("BadWish", none)
def seenD (s : List Int) : Dt := dicI (s.map fun x => (x, ())) fun _ => .bl true
theorem seen_keys (s : List Int) : (s.map fun x => (x, ())).map (·.1) = s := by rw [List.map_map]; exact List.map_id s
theorem seen_look {s : List Int} {x : Int} : ((s.map fun x => (x, ())).lookup x).isSome = decide (x ∈ s) := by
  by_cases h : x ∈ s
  · obtain ⟨a, ha⟩ := lookup_some (kv := s.map fun x => (x, ())) (x := x) (by rw [seen_keys]; exact h)
    rw [ha, decide_eq_true h]
    rfl
  · rw [lookup_none (by rw [seen_keys]; exact h), decide_eq_false h]
    rfl
/-- what the kinds may be: texts that == takes -/
def gTxt (gs : List Gr) : Prop := ∀ g ∈ gs, PyData.canLay0 (.str g.1) = true
theorem gOk_mem {m : Nat} {gs : List Gr} (h : gOk m gs) : (memb gs).Nodup ∧ ∀ x ∈ memb gs, 0 ≤ x ∧ x < m := ⟨h.2.nodup_iff.mpr (natL_nodup m), fun x hx => natL_mem.mp (h.2.mem_iff.mp hx)⟩
theorem kinds_mem (x : Str) (b : Bool) : memD b (.str x) (.scr [.str "any", .str "come", .str "row"]) = .ok (.bl (if b = true then !decide (gkB x) else decide (gkB x))) := by
  have : inD (.str x) [.str "any", .str "come", .str "row"] = decide (gkB x) := by
    unfold inD
    simp only [List.any_cons, List.any_nil, Bool.or_false]
    have e : ∀ y : Str, deq (.str y) (.str x) = decide (x = y) := fun y => by
      show (y == x) = _
      by_cases h : x = y
      · subst h; simp
      · rw [decide_eq_false h]; simp; exact fun z => h z.symm
    rw [e, e, e, Bool.eq_iff_iff]
    simp only [Bool.or_eq_true, decide_eq_true_eq]
    exact Iff.rfl
  rw [← this]
  cases b <;> rfl
open Classical in
theorem look_at_groups_run (m : Nat) (gs : List Gr) (hm : m ≤ 1000) (hg : gs.length ≤ 1000) (hl : ∀ g ∈ gs, g.2.length ≤ 1000) : F_look_at_groups [.int m, .lst (gs.map grD)] = if gOk m gs then .ok .non else .ex ("BadWish", none) := by
  rw [R_look_at_groups]; unfold Fb_look_at_groups
  show Look_at_groupsP m gs _
  have bad : ¬ gOk m gs → ∀ ρ : Ev, Look_at_groupsP m gs (.ex ("BadWish", none) ρ) := fun h ρ => by
    unfold Look_at_groupsP
    rw [if_neg h]
    rfl
  simp? [e_B_look_at_groups_1, e_C_look_at_groups_2, e_B_look_at_groups_3, e_C_look_at_groups_4]
  let E : List Int → Option Dt → Option Dt → Option Dt → Ev := fun s a b c => [some (.int m), some (.lst (gs.map grD)), some (seenD s), a, b, c]
  have bnd : ∀ s : List Int, s.Nodup → (∀ x ∈ s, 0 ≤ x ∧ x < m) → s.length ≤ m := fun s h1 h2 => by
    have := nodup_len h1 (t := natL m) fun x hx => natL_mem.mpr (h2 x hx)
    rwa [natL_len] at this
  refine wp_forI gs grD (fun s : List Int => E s none none none) (fun pre s => s = memb pre ∧ (∀ g ∈ pre, gkB g.1 ∧ g.2 ≠ []) ∧ s.Nodup ∧ ∀ x ∈ s, 0 ≤ x ∧ x < m) [] rfl rfl ⟨rfl, by simp, by simp, by simp⟩ ?_ ?_
  · rintro pre ⟨k, told⟩ post s e ⟨rfl, h1, h2, h3⟩
    have hlen : told.length ≤ 1000 := hl (k, told) (by rw [e]; simp)
    refine ⟨E (memb pre) (some (.str k)) (some (.lst (told.map .int))) none, rfl, ?_⟩
    have mg : memb gs = memb pre ++ (told ++ memb post) := by rw [e, memb_append, memb_cons]
    simp? [e_B_look_at_groups_1, e_C_look_at_groups_2, e_B_look_at_groups_3, e_C_look_at_groups_4, E, kinds_mem]
    by_cases hk : gkB k ∧ told ≠ []
    case neg =>
      refine wp_ite (fun h => ?_) fun h => ?_
      · simp? [e_B_look_at_groups_1, e_C_look_at_groups_2, e_B_look_at_groups_3, e_C_look_at_groups_4]
        exact bad (fun z => hk (z.1 (k, told) (by rw [e]; simp))) _
      · exfalso
        simp at h
        exact hk ⟨h.1, h.2⟩
    have d1 := decide_eq_true hk.1
    have d2 : decide ((told.length : Int) = 0) = false := decide_eq_false fun z => hk.2 (List.eq_nil_of_length_eq_zero (by omega))
    simp? [e_B_look_at_groups_1, e_C_look_at_groups_2, e_B_look_at_groups_3, e_C_look_at_groups_4, d1, d2]
    refine wp_forI told Dt.int (fun s : List Int => E s (some (.str k)) (some (.lst (told.map .int))) none) (fun pre2 s => s = memb pre ++ pre2 ∧ s.Nodup ∧ ∀ x ∈ s, 0 ≤ x ∧ x < m) (memb pre) rfl rfl ⟨by simp, h2, h3⟩ ?_ ?_
    · rintro pre2 x post2 s e2 ⟨rfl, k2, k3⟩
      refine ⟨_, v_nameG, ?_⟩
      have b0 := bnd _ k2 k3
      have keys : x ∈ memb pre ++ pre2 → ¬ gOk m gs := fun hx z => by
        have nd := (gOk_mem z).1
        rw [mg, e2, show memb pre ++ ((pre2 ++ x :: post2) ++ memb post) = (memb pre ++ pre2) ++ x :: (post2 ++ memb post) by simp] at nd
        exact (List.nodup_append.mp nd).2.2 x hx x List.mem_cons_self rfl
      have rng : ¬ (0 ≤ x ∧ x < m) → ¬ gOk m gs := fun hx z => hx ((gOk_mem z).2 x (by rw [mg, e2]; simp))
      simp? [e_B_look_at_groups_1, e_C_look_at_groups_2, e_B_look_at_groups_3, e_C_look_at_groups_4, E, seenD, Option.isSome_map, seen_look]
      refine wp_ite (fun h => ?_) fun h => ?_
      · simp? [e_B_look_at_groups_1, e_C_look_at_groups_2, e_B_look_at_groups_3, e_C_look_at_groups_4]
        refine bad ?_ _
        simp at h
        rcases h with h | h | h
        · exact rng (by omega)
        · exact rng (by omega)
        · exact keys (by simpa using h)
      · simp at h
        have nx : x ∉ memb pre ++ pre2 := by simpa using h.2.2
        simp? [e_B_look_at_groups_1, e_C_look_at_groups_2, e_B_look_at_groups_3, e_C_look_at_groups_4]
        rw [x_dputN (a := ()) (f := fun _ => Dt.bl true) (lookup_none (by rw [seen_keys]; exact nx)) (by rw [List.length_map]; omega)]
        simp? [e_B_look_at_groups_1, e_C_look_at_groups_2, e_B_look_at_groups_3, e_C_look_at_groups_4]
        refine ⟨memb pre ++ pre2 ++ [x], ?_, by simp, ?_, all_snoc k3 ⟨by omega, by omega⟩⟩
        · simp only [E, seenD, List.map_append]; rfl
        · rw [List.nodup_append]
          exact ⟨k2, by simp, fun y hy z hz => by rw [List.mem_singleton.mp hz]; exact fun w => nx (by rw [← w]; exact hy)⟩
    · rintro s ⟨rfl, k2, k3⟩
      simp? [e_B_look_at_groups_1, e_C_look_at_groups_2, e_B_look_at_groups_3, e_C_look_at_groups_4, E]
      refine ⟨memb pre ++ told, rfl, by rw [memb_snoc], all_snoc h1 hk, k2, k3⟩
  · rintro s ⟨rfl, h1, h2, h3⟩
    simp? [e_B_look_at_groups_1, e_C_look_at_groups_2, e_B_look_at_groups_3, e_C_look_at_groups_4, E, seenD]
    have ln : (memb gs).length ≤ m := bnd _ h2 h3
    refine wp_ite (fun h => ?_) fun h => ?_
    · have h := of_decide_eq_true h
      simp? [e_B_look_at_groups_1, e_C_look_at_groups_2, e_B_look_at_groups_3, e_C_look_at_groups_4]
      refine bad (fun z => ?_) _
      have := z.2.length_eq
      rw [natL_len] at this
      omega
    · have h := of_decide_eq_false h
      simp? [e_B_look_at_groups_1, e_C_look_at_groups_2, e_B_look_at_groups_3, e_C_look_at_groups_4]
      unfold Look_at_groupsP
      rw [if_pos]
      · rfl
      refine ⟨h1, ?_⟩
      exact nodup_perm h2 (fun x hx => natL_mem.mpr (h3 x hx)) (by rw [natL_len]; omega)
/-! a wish made -/
def numZ (zs : List (List Int × Nat)) : List (Int × Nat) := zs.flatMap fun q => q.1.map fun x => (x, q.2)
def numL (lv : List (List Int)) : List (Int × Nat) := numZ lv.zipIdx
theorem numZ_keys (zs : List (List Int × Nat)) : (numZ zs).map (·.1) = (zs.map (·.1)).flatten := by
  induction zs with
  | nil => rfl
  | cons z zs ih =>
    rw [numZ, List.flatMap_cons, List.map_append, List.map_map, List.map_cons, List.flatten_cons]
    congr 1
    exact List.map_id _
theorem numL_keys (lv : List (List Int)) : (numL lv).map (·.1) = lv.flatten := by
  unfold numL
  rw [numZ_keys, List.zipIdx_map_fst]
theorem numZ_append (a b : List (List Int × Nat)) : numZ (a ++ b) = numZ a ++ numZ b := by unfold numZ; rw [List.flatMap_append]
def natD (k : Nat) : Dt := .int (k : Nat)
def wishD (gs : List Gr) (lv : List (List Int)) : Dt := .ins "Wish" ["groups", "kept_levels", "numbers"] [.lst (gs.map grD), .lst (lv.map ilD), dicI (numL lv) natD]
def lvN (lv : List (List Int)) (x : Int) : Nat := ((numL lv).lookup x).getD 0
theorem lv_look {lv : List (List Int)} {x : Int} (h : x ∈ lv.flatten) : (numL lv).lookup x = some (lvN lv x) := by
  obtain ⟨a, ha⟩ := lookup_some (kv := numL lv) (x := x) (by rw [numL_keys]; exact h)
  unfold lvN
  rw [ha]
  rfl
theorem levs_small {ls : List (Int × Int)} {gs : List Gr} (hp : gOk ls.length gs) : (levs ls gs).flatten.Nodup ∧ (levs ls gs).flatten.length = ls.length ∧ (∀ x, x ∈ (levs ls gs).flatten ↔ 0 ≤ x ∧ x < ls.length) := by
  have p := (levs_perm ls gs).trans hp.2
  exact ⟨p.nodup_iff.mpr (natL_nodup _), by rw [p.length_eq, natL_len], fun x => p.mem_iff.trans natL_mem⟩
/-- the number that a letter gets: put into the dict, level by level -/
theorem put_level {B C : Ev → Ot} {k : Nat} {Post : Ot → Prop} (E : List (Int × Nat) → Option Dt → Ev) (zs : List (List Int × Nat)) (l : List Int) (hB : ∀ kv x, kv.lookup x = none → kv.length ≤ 1000 → ∃ ρ1, nameG k (.int x) (E kv none) = some ρ1 ∧ ∀ n, n = zs.length → B ρ1 = .nx (E (kv ++ [(x, n)]) none)) (hn : ((zs.map (·.1)).flatten ++ l).Nodup) (hl : (numZ zs).length + l.length ≤ 1000) (hk : Post (C (E (numZ (zs ++ [(l, zs.length)])) none))) :
    Post (forR (nameG k) B C (l.map .int) (E (numZ zs) none)) := by
  refine wp_forI l Dt.int (fun kv => E kv none) (fun pre kv => kv = numZ zs ++ pre.map fun x => (x, zs.length)) (numZ zs) rfl rfl (by simp) ?_ ?_
  · rintro pre x post kv e rfl
    have nx : (numZ zs ++ pre.map fun x => (x, zs.length)).lookup x = none := lookup_none (by
      rw [List.map_append, numZ_keys, List.map_map]
      intro hx
      rw [e, ← List.append_assoc] at hn
      refine (List.nodup_append.mp hn).2.2 x ?_ x List.mem_cons_self rfl
      rcases List.mem_append.mp hx with h | h
      · exact List.mem_append_left _ h
      · exact List.mem_append_right _ (by simpa using h))
    obtain ⟨ρ1, h1, h2⟩ := hB _ x nx (by
      have := congrArg List.length e
      simp at this ⊢
      omega)
    refine ⟨ρ1, h1, ?_⟩
    rw [h2 _ rfl]
    exact ⟨_, rfl, by simp⟩
  · rintro kv rfl
    rw [numZ_append] at hk
    have e : numZ [(l, zs.length)] = l.map fun x => (x, zs.length) := by simp [numZ]
    rw [e] at hk
    exact hk
theorem levG_len (ls : List (Int × Int)) (g : Gr) (h : g.2 ≠ []) : (levG ls g).length ≤ g.2.length := by
  have : 1 ≤ g.2.length := List.length_pos_iff.mpr h
  unfold levG comeL
  split
  · simpa using this
  · split
    · simp
    · rw [List.length_map, (sortP_perm _).length_eq, List.length_map]
      exact Nat.le_refl _
theorem levs_append (ls : List (Int × Int)) (a b : List Gr) : levs ls (a ++ b) = levs ls a ++ levs ls b := by unfold levs; rw [List.flatMap_append]
theorem levs_len (ls : List (Int × Int)) : ∀ gs : List Gr, (∀ g ∈ gs, g.2 ≠ []) → (levs ls gs).length ≤ (memb gs).length
  | [], _ => Nat.le_refl _
  | g :: gs, h => by
    have := levG_len ls g (h g List.mem_cons_self)
    have := levs_len ls gs fun x hx => h x (List.mem_cons_of_mem _ hx)
    rw [memb_cons, levs, List.flatMap_cons, List.length_append, List.length_append]
    unfold levs at this
    omega
theorem fldP_w1 {a b : Dt} {put : Dt → Ev} : fldPR "Wish" "kept_levels" 1 (.ins "Wish" ["groups", "kept_levels"] [a, b], put) = .ok (b, fun y => put (.ins "Wish" ["groups", "kept_levels"] [a, y])) := x_fldP (by decide +kernel) rfl
theorem fldP_w2 {a b c : Dt} {put : Dt → Ev} : fldPR "Wish" "numbers" 2 (.ins "Wish" ["groups", "kept_levels", "numbers"] [a, b, c], put) = .ok (c, fun y => put (.ins "Wish" ["groups", "kept_levels", "numbers"] [a, b, y])) := x_fldP (by decide +kernel) rfl
theorem fld_wish1 (gs : List Gr) (lv : List (List Int)) (x : Dt) : fldID "Wish" "kept_levels" 1 (.ins "Wish" ["groups", "kept_levels", "numbers"] [.lst (gs.map grD), .lst (lv.map ilD), x]) = .ok (.lst (lv.map ilD)) := by
  exact fldID_of (by decide +kernel) rfl
open Classical in
theorem wish_init (ls : List (Int × Int)) (gs : List Gr) (hm : ls.length ≤ 24) (hg : gs.length ≤ 1000) (hl : ∀ g ∈ gs, g.2.length ≤ 1000) : F_Wish___init__ [.lst (ls.map prD), .lst (gs.map grD)] = if gOk ls.length gs then .ok (wishD gs (levs ls gs)) else .ex ("BadWish", none) := by
  rw [R_Wish___init__]; unfold Fb_Wish___init__
  have lg := look_at_groups_run ls.length gs (by omega) hg hl
  by_cases hp : gOk ls.length gs
  case neg =>
    rw [if_neg hp] at lg ⊢
    simp? [e_B_Wish___init___1, e_B_Wish___init___2, e_C_Wish___init___3, e_B_Wish___init___4, e_C_Wish___init___5, lg]
  rw [if_pos hp] at lg ⊢
  simp? [e_B_Wish___init___1, e_B_Wish___init___2, e_C_Wish___init___3, e_B_Wish___init___4, e_C_Wish___init___5, lg]
  rw [v_newF (by decide +kernel) (by decide)]
  simp? [e_B_Wish___init___1, e_B_Wish___init___2, e_C_Wish___init___3, e_B_Wish___init___4, e_C_Wish___init___5]
  rw [comp_mapE (f := grD) (by omega) ?hc]
  case hc =>
    intro g h
    refine ⟨[some (.ins "Wish" [] []), some (.lst (ls.map prD)), some (.lst (gs.map grD)), some (.str g.1), some (.lst (g.2.map .int)), none, none, none], rfl, ?_⟩
    simp? [e_B_Wish___init___1, e_B_Wish___init___2, e_C_Wish___init___3, e_B_Wish___init___4, e_C_Wish___init___5]
    rfl
  obtain ⟨nd, lf, rg⟩ := levs_small hp
  simp? [e_B_Wish___init___1, e_B_Wish___init___2, e_C_Wish___init___3, e_B_Wish___init___4, e_C_Wish___init___5]
  rw [v_newF (by decide +kernel) (by decide)]
  simp? [e_B_Wish___init___1, e_B_Wish___init___2, e_C_Wish___init___3, e_B_Wish___init___4, e_C_Wish___init___5]
  let W1 : List (List Int) → Dt := fun lv => .ins "Wish" ["groups", "kept_levels"] [.lst (gs.map grD), .lst (lv.map ilD)]
  have mb : (memb gs).length = ls.length := by rw [hp.2.length_eq, natL_len]
  refine wp_forI (Post := fun o => outI o = .ok (wishD gs (levs ls gs))) gs grD (fun lv : List (List Int) => [some (W1 lv), some (.lst (ls.map prD)), some (.lst (gs.map grD)), none, none, none, none, none]) (fun pre lv => lv = levs ls pre) [] rfl rfl rfl ?_ ?_
  · rintro pre g post lv e rfl
    have hgm : g ∈ gs := by rw [e]; simp
    have gk := hp.1 g hgm
    refine ⟨[some (W1 (levs ls pre)), some (.lst (ls.map prD)), some (.lst (gs.map grD)), some (.str g.1), some (.lst (g.2.map .int)), none, none, none], rfl, ?_⟩
    have gr := group_levels_run ls g gk.1 (hl g hgm) fun x hx => (gOk_mem hp).2 x (by unfold memb; exact List.mem_flatMap.mpr ⟨g, hgm, hx⟩)
    have ln : (levs ls pre).length + (levG ls g).length ≤ 1000000 := by
      have := levs_len ls (pre ++ [g]) fun x hx => (hp.1 x (by rw [e]; simp at hx ⊢; exact hx.elim .inl fun z => .inr (.inl z))).2
      rw [levs_append, List.length_append, levs, levs, List.flatMap_cons, List.flatMap_nil, List.append_nil] at this
      have mp : (memb (pre ++ [g])).length ≤ (memb gs).length := by rw [e, memb_snoc, memb_append, memb_cons]; simp
      unfold levs
      omega
    simp? [e_B_Wish___init___1, e_B_Wish___init___2, e_C_Wish___init___3, e_B_Wish___init___4, e_C_Wish___init___5, W1, gr, fldP_w1]
    refine ⟨levs ls (pre ++ [g]), ?_, rfl⟩
    rw [levs_append, List.map_append]
    simp only [levs, List.flatMap_cons, List.flatMap_nil, List.append_nil]
  · rintro lv rfl
    simp? [e_B_Wish___init___1, e_B_Wish___init___2, e_C_Wish___init___3, e_B_Wish___init___4, e_C_Wish___init___5, W1]
    rw [v_newF (by decide +kernel) (by decide)]
    simp? [e_B_Wish___init___1, e_B_Wish___init___2, e_C_Wish___init___3, e_B_Wish___init___4, e_C_Wish___init___5, fld_wish1]
    let W2 : List (Int × Nat) → Dt := fun kv => .ins "Wish" ["groups", "kept_levels", "numbers"] [.lst (gs.map grD), .lst ((levs ls gs).map ilD), dicI kv natD]
    have zk : ∀ zs : List (List Int × Nat), (numZ zs).length = (zs.map (·.1)).flatten.length := fun zs => by rw [← numZ_keys, List.length_map]
    refine wp_forI (Post := fun o => outI o = .ok (wishD gs (levs ls gs))) (levs ls gs).zipIdx (fun q => Dt.tup [.int (q.2 : Nat), ilD q.1]) (fun kv => [some (W2 kv), some (.lst (ls.map prD)), some (.lst (gs.map grD)), none, none, none, none, none]) (fun pre kv => kv = numZ pre) [] rfl rfl rfl ?_ ?_
    · rintro pre ⟨l, n⟩ post kv e rfl
      refine ⟨[some (W2 (numZ pre)), some (.lst (ls.map prD)), some (.lst (gs.map grD)), none, none, some (.int (n : Nat)), some (ilD l), none], rfl, ?_⟩
      have hn : n = pre.length := by
        have h := congrArg (fun z => z[pre.length]?) e
        simp at h
        obtain ⟨_, _, _, h⟩ := h
        exact h.symm
      subst hn
      have ef : levs ls gs = pre.map (·.1) ++ l :: post.map (·.1) := by
        have h := congrArg (List.map (·.1)) e
        rw [List.zipIdx_map_fst] at h
        simpa using h
      have lf2 := lf
      have nd2 := nd
      rw [ef] at lf2 nd2
      simp only [List.flatten_append, List.flatten_cons, List.length_append] at lf2
      have nd3 : ((pre.map (·.1)).flatten ++ l).Nodup := by
        rw [List.flatten_append, List.flatten_cons, ← List.append_assoc] at nd2
        exact (List.nodup_append.mp nd2).1
      simp? [e_B_Wish___init___1, e_B_Wish___init___2, e_C_Wish___init___3, e_B_Wish___init___4, e_C_Wish___init___5, ilD]
      refine put_level (fun kv a => [some (W2 kv), some (.lst (ls.map prD)), some (.lst (gs.map grD)), none, none, some (.int (pre.length : Nat)), some (ilD l), a]) pre l (fun kv x h1 h2 => ⟨_, v_nameG, fun n hn => ?_⟩) nd3 (by rw [zk]; omega) ?_
      · subst hn
        simp? [e_B_Wish___init___1, e_B_Wish___init___2, e_C_Wish___init___3, e_B_Wish___init___4, e_C_Wish___init___5, W2, fldP_w2]
        have := x_dputN (f := natD) (a := pre.length) (rest := fgtS [7] nextS) (p := fun y => ([some (.ins "Wish" ["groups", "kept_levels", "numbers"] [.lst (gs.map grD), .lst ((levs ls gs).map ilD), y]), some (.lst (ls.map prD)), some (.lst (gs.map grD)), none, none, some (.int (pre.length : Nat)), some (ilD l), some (.int x)] : Ev)) h1 (by omega)
        exact this.trans rfl
      · simp? [e_B_Wish___init___1, e_B_Wish___init___2, e_C_Wish___init___3, e_B_Wish___init___4, e_C_Wish___init___5, W2]
        exact ⟨numZ (pre ++ [(l, pre.length)]), rfl, rfl⟩
    · rintro kv rfl
      simp? [e_B_Wish___init___1, e_B_Wish___init___2, e_C_Wish___init___3, e_B_Wish___init___4, e_C_Wish___init___5]
      rfl
/-! the law's own levels -/
theorem copied_run (gs : List Gr) (hg : gs.length ≤ 1000) : F__law_copied [.lst (gs.map grD)] = .ok (.lst (gs.map grD)) := by
  rw [R__law_copied]; unfold Fb__law_copied
  simp? [ok_bind]
  rw [comp_mapE (f := grD) (by omega) ?hc]
  case hc =>
    intro g h
    refine ⟨[some (.lst (gs.map grD)), some (.str g.1), some (.lst (g.2.map .int))], rfl, ?_⟩
    simp? [ok_bind]
    rfl
  simp? [ok_bind]
theorem flatMap_cg {α β : Type} {f g : α → List β} : ∀ {xs : List α}, (∀ x ∈ xs, f x = g x) → xs.flatMap f = xs.flatMap g
  | [], _ => rfl
  | x :: xs, h => by rw [List.flatMap_cons, List.flatMap_cons, h x List.mem_cons_self, flatMap_cg fun y hy => h y (List.mem_cons_of_mem _ hy)]
theorem pw_flatMap {α β : Type} {R : β → β → Prop} {f : α → List β} : ∀ {xs : List α}, (∀ x ∈ xs, (f x).Pairwise R) → xs.Pairwise (fun x y => ∀ a ∈ f x, ∀ b ∈ f y, R a b) → (xs.flatMap f).Pairwise R
  | [], _, _ => .nil
  | x :: xs, h, k => by
    rw [List.pairwise_cons] at k
    rw [List.flatMap_cons, List.pairwise_append]
    refine ⟨h x List.mem_cons_self, pw_flatMap (fun y hy => h y (List.mem_cons_of_mem _ hy)) k.2, fun a ha b hb => ?_⟩
    obtain ⟨y, hy, hb⟩ := List.mem_flatMap.mp hb
    exact k.1 y hy a ha b hb
/-- by lates, one after the other -/
def byLate (ls : List (Int × Int)) (told : List Int) (n : Nat) : List Int := (List.range n).flatMap fun L => (sortI told).filter fun x => decide (lateOf ls x = (L : Nat))
theorem byLate_come (ls : List (Int × Int)) (told : List Int) (h : ∀ x ∈ told, 0 ≤ lateOf ls x ∧ lateOf ls x < 10) : (byLate ls told 10).map (fun x => [x]) = comeL ls told := by
  have e : (byLate ls told 10).map (fun x => (lateOf ls x, x)) = sortP (told.map fun x => (lateOf ls x, x)) := by
    refine sortP_uniq ?_ ?_
    · refine List.Perm.map _ ?_
      refine List.Perm.trans ?_ (sortI_perm told)
      unfold byLate
      have : ∀ (xs : List Int) (n : Nat), (∀ x ∈ xs, 0 ≤ lateOf ls x ∧ lateOf ls x < n) → ((List.range n).flatMap fun L => xs.filter fun x => decide (lateOf ls x = (L : Nat))).Perm xs := by
        intro xs n
        induction n generalizing xs with
        | zero =>
          intro hx
          have : xs = [] := by
            cases xs with
            | nil => rfl
            | cons x xs => have := hx x List.mem_cons_self; omega
          subst this
          simp
        | succ n ih =>
          intro hx
          rw [List.range_succ, List.flatMap_append]
          simp only [List.flatMap_cons, List.flatMap_nil, List.append_nil]
          have h1 := ih (xs.filter fun x => !decide (lateOf ls x = (n : Nat))) fun x hm => by
            rw [List.mem_filter] at hm
            have := hx x hm.1
            have := hm.2
            simp at this
            omega
          have e : ((List.range n).flatMap fun L => xs.filter fun x => decide (lateOf ls x = (L : Nat))) = (List.range n).flatMap fun L => (xs.filter fun x => !decide (lateOf ls x = (n : Nat))).filter fun x => decide (lateOf ls x = (L : Nat)) := by
            have : ∀ L ∈ List.range n, (xs.filter fun x => decide (lateOf ls x = (L : Nat))) = (xs.filter fun x => !decide (lateOf ls x = (n : Nat))).filter fun x => decide (lateOf ls x = (L : Nat)) := fun L hL => by
              rw [List.filter_filter]
              refine List.filter_congr fun x _ => ?_
              have := List.mem_range.mp hL
              by_cases q : lateOf ls x = (L : Nat)
              · simp [q]; omega
              · simp [q]
            exact flatMap_cg this
          rw [e]
          refine (h1.append_right _).trans ?_
          refine List.perm_append_comm.trans ?_
          exact List.filter_append_perm _ _
      exact this (sortI told) 10 fun x hx => h x ((sortI_perm told).mem_iff.mp hx)
    · rw [List.pairwise_map]
      refine pw_flatMap (fun L _ => ?_) ?_
      · refine ((sortI_le told).filter _).imp_of_mem fun {a b} ha hb h => ?_
        have ha := of_decide_eq_true (List.mem_filter.mp ha).2
        have hb := of_decide_eq_true (List.mem_filter.mp hb).2
        rw [leP_iff]
        exact .inr ⟨ha.trans hb.symm, h⟩
      · refine List.Pairwise.imp (fun {L M} h a ha b hb => ?_) (List.pairwise_lt_range (n := 10))
        have ha := of_decide_eq_true (List.mem_filter.mp ha).2
        have hb := of_decide_eq_true (List.mem_filter.mp hb).2
        rw [leP_iff]
        dsimp only
        exact .inl (by omega)
  unfold comeL
  rw [← e, List.map_map]
  rfl
def LevelsP (lv : List (List Int)) (o : Ot) : Prop := outF .F o = .ok (.lst (lv.map ilD))
theorem law_levels_run (ls : List (Int × Int)) (gs : List Gr) (hm : ls.length ≤ 24) (hL : ∀ l ∈ ls, 0 ≤ l.2 ∧ l.2 < 10) (hp : gOk ls.length gs) : F__law_levels [.lst (ls.map prD), .lst (gs.map grD)] = .ok (.lst ((levs ls gs).map ilD)) := by
  rw [R__law_levels]; unfold Fb__law_levels
  show LevelsP (levs ls gs) _
  simp? [e_B__law_levels_1, e_C__law_levels_2, e_B__law_levels_3, e_C__law_levels_4, e_B__law_levels_5, e_C__law_levels_6]
  have ml : (memb gs).length = ls.length := by rw [hp.2.length_eq, natL_len]
  have ne : ∀ pre post : List Gr, gs = pre ++ post → (levs ls pre).length ≤ ls.length := fun pre post e => by
    have := levs_len ls pre fun x hx => (hp.1 x (by rw [e]; exact List.mem_append_left _ hx)).2
    have : (memb pre).length ≤ (memb gs).length := by rw [e, memb_append]; simp
    omega
  let E : List (List Int) → Option Dt → Option Dt → Option Dt → Option Dt → Ev := fun lv a b c d => [some (.lst (ls.map prD)), some (.lst (gs.map grD)), some (.lst (lv.map ilD)), a, b, c, d]
  refine wp_forI gs grD (fun lv : List (List Int) => E lv none none none none) (fun pre lv => lv = levs ls pre) [] rfl rfl rfl ?_ ?_
  · rintro pre ⟨k, told⟩ post lv e rfl
    have hgm : (k, told) ∈ gs := by rw [e]; simp
    have gk := hp.1 _ hgm
    dsimp only at gk
    have tm : told.length ≤ 24 := by
      have : told.length ≤ (memb gs).length := by rw [e, memb_append, memb_cons]; simp; omega
      omega
    have tr : ∀ x ∈ told, 0 ≤ x ∧ x < ls.length := fun x hx => (gOk_mem hp).2 x (by unfold memb; exact List.mem_flatMap.mpr ⟨_, hgm, hx⟩)
    have l0 := ne pre ((k, told) :: post) e
    have lts : ∀ x ∈ told, 0 ≤ lateOf ls x ∧ lateOf ls x < 10 := fun x hx => by
      obtain ⟨l, _, hl, e⟩ := late_at (tr x hx).1 (tr x hx).2
      rw [e]
      exact hL l hl
    refine ⟨E (levs ls pre) (some (.str k)) (some (.lst (told.map .int))) none none, rfl, ?_⟩
    have fin : ∀ lv2, lv2 = levG ls (k, told) → ∃ s', E (levs ls pre ++ lv2) none none none none = E s' none none none none ∧ s' = levs ls (pre ++ [(k, told)]) := fun lv2 h => ⟨_, rfl, by rw [h, levs_append]; simp [levs]⟩
    simp? [e_B__law_levels_1, e_C__law_levels_2, e_B__law_levels_3, e_C__law_levels_4, e_B__law_levels_5, e_C__law_levels_6, E, kind_eqs gk.1 gkB_any]
    refine wp_ite (fun h1 => ?_) fun h1 => ?_
    · have h1 := of_decide_eq_true h1
      simp? [e_B__law_levels_1, e_C__law_levels_2, e_B__law_levels_3, e_C__law_levels_4, e_B__law_levels_5, e_C__law_levels_6, sort_ints]
      have := fin [sortI told] (if_pos h1).symm
      simp only [E, List.map_append] at this
      exact this
    have h1 := of_decide_eq_false h1
    have kr := kind_eqs gk.1 gkB_row
    simp? [e_B__law_levels_1, e_C__law_levels_2, e_B__law_levels_3, e_C__law_levels_4, e_B__law_levels_5, e_C__law_levels_6, kr]
    refine wp_ite (fun h2 => ?_) fun h2 => ?_
    · have h2 := of_decide_eq_true h2
      simp? [e_B__law_levels_1, e_C__law_levels_2, e_B__law_levels_3, e_C__law_levels_4, e_B__law_levels_5, e_C__law_levels_6]
      rw [comp_mapE (f := fun x => ilD [x]) (by omega) ?hc]
      case hc => exact fun x hx => ⟨_, v_nameG, by simp? [e_B__law_levels_1, e_C__law_levels_2, e_B__law_levels_3, e_C__law_levels_4, e_B__law_levels_5, e_C__law_levels_6]; rfl⟩
      simp? [e_B__law_levels_1, e_C__law_levels_2, e_B__law_levels_3, e_C__law_levels_4, e_B__law_levels_5, e_C__law_levels_6]
      have := fin (told.map fun x => [x]) ((if_neg h1).trans (if_pos h2)).symm
      simp only [E, List.map_append, List.map_map] at this
      exact this
    have h2 := of_decide_eq_false h2
    have hc : levG ls (k, told) = comeL ls told := (if_neg h1).trans (if_neg h2)
    have bl := byLate_come ls told lts
    have bll : (byLate ls told 10).length = told.length := by
      have h := congrArg List.length bl
      rw [List.length_map] at h
      rw [h]
      unfold comeL
      rw [List.length_map, (sortP_perm _).length_eq, List.length_map]
    have blm : ∀ n, n ≤ 10 → (byLate ls told n).length ≤ told.length := fun n hn => by
      rw [← bll]
      have e : List.range 10 = List.range n ++ (List.range 10).drop n := by
        conv => lhs; rw [← List.take_append_drop n (List.range 10)]
        rw [List.take_range, Nat.min_eq_left hn]
      unfold byLate
      rw [e, List.flatMap_append, List.length_append]
      omega
    simp? [e_B__law_levels_1, e_C__law_levels_2, e_B__law_levels_3, e_C__law_levels_4, e_B__law_levels_5, e_C__law_levels_6]
    refine wp_rng0 10 (fun xs : List Int => E (levs ls pre ++ xs.map fun x => [x]) (some (.str k)) (some (.lst (told.map .int))) none none) (fun n xs => xs = byLate ls told n) [] (by simp [E]) rfl ?_ ?_
    · rintro n xs hn rfl
      refine ⟨_, v_nameG, ?_⟩
      simp? [e_B__law_levels_1, e_C__law_levels_2, e_B__law_levels_3, e_C__law_levels_4, e_B__law_levels_5, e_C__law_levels_6, E, sort_ints]
      refine wp_forI (sortI told) Dt.int (fun ys : List Int => E (levs ls pre ++ (byLate ls told n ++ ys).map fun x => [x]) (some (.str k)) (some (.lst (told.map .int))) (some (.int (n : Nat))) none) (fun p2 ys => ys = p2.filter fun x => decide (lateOf ls x = (n : Nat))) [] rfl (by simp [E]) rfl ?_ ?_
      · rintro p2 x post2 ys e2 rfl
        have xm : x ∈ told := (sortI_perm told).mem_iff.mp (by rw [e2]; simp)
        obtain ⟨l, hl, _, el⟩ := late_at (tr x xm).1 (tr x xm).2
        have x0 := (tr x xm).1
        refine ⟨_, v_nameG, ?_⟩
        have pl : (p2.filter fun x => decide (lateOf ls x = (n : Nat))).length ≤ told.length := by
          refine Nat.le_trans (List.length_filter_le _ _) ?_
          rw [← (sortI_perm told).length_eq, e2]
          simp
        have bn := blm n (by omega)
        simp? [e_B__law_levels_1, e_C__law_levels_2, e_B__law_levels_3, e_C__law_levels_4, e_B__law_levels_5, e_C__law_levels_6, E, hl, prD, ← el]
        refine wp_ite (fun h => ?_) fun h => ?_
        · simp? [e_B__law_levels_1, e_C__law_levels_2, e_B__law_levels_3, e_C__law_levels_4, e_B__law_levels_5, e_C__law_levels_6]
          refine ⟨(p2 ++ [x]).filter fun x => decide (lateOf ls x = (n : Nat)), ?_, rfl⟩
          have fx : ([x].filter fun x => decide (lateOf ls x = (n : Nat))) = [x] := by simp [of_decide_eq_true h]
          rw [List.filter_append, fx]
          simp [ilD]
        · simp? [e_B__law_levels_1, e_C__law_levels_2, e_B__law_levels_3, e_C__law_levels_4, e_B__law_levels_5, e_C__law_levels_6]
          refine ⟨(p2 ++ [x]).filter fun x => decide (lateOf ls x = (n : Nat)), ?_, rfl⟩
          have fx : ([x].filter fun x => decide (lateOf ls x = (n : Nat))) = [] := by simp [of_decide_eq_false h]
          rw [List.filter_append, fx]
          simp
      · rintro ys rfl
        simp? [e_B__law_levels_1, e_C__law_levels_2, e_B__law_levels_3, e_C__law_levels_4, e_B__law_levels_5, e_C__law_levels_6, E]
        refine ⟨byLate ls told (n + 1), ?_, rfl⟩
        unfold byLate
        rw [List.range_succ, List.flatMap_append]
        simp
    · rintro xs rfl
      simp? [e_B__law_levels_1, e_C__law_levels_2, e_B__law_levels_3, e_C__law_levels_4, e_B__law_levels_5, e_C__law_levels_6, E]
      have := fin ((byLate ls told 10).map fun x => [x]) (by rw [bl, hc])
      simp only [E] at this
      exact this
  · rintro lv rfl
    simp? [e_B__law_levels_1, e_C__law_levels_2, e_B__law_levels_3, e_C__law_levels_4, e_B__law_levels_5, e_C__law_levels_6, E]
    rfl
def placD (lv : List (List Int)) : Dt := dicI (numL lv) natD
theorem law_places_run (lv : List (List Int)) (hn : lv.flatten.Nodup) (hl : lv.flatten.length ≤ 1000) (hm : lv.length ≤ 1000) : F__law_places [.lst (lv.map ilD)] = .ok (placD lv) := by
  rw [R__law_places]; unfold Fb__law_places
  simp? [e_B__law_places_1, e_C__law_places_2, e_B__law_places_3, e_C__law_places_4]
  have zk : ∀ zs : List (List Int × Nat), (numZ zs).length = (zs.map (·.1)).flatten.length := fun zs => by rw [← numZ_keys, List.length_map]
  refine wp_rng0 (Post := fun o => outF .F o = .ok (placD lv)) lv.length (fun kv => [some (.lst (lv.map ilD)), some (dicI kv natD), none, none]) (fun k kv => kv = numZ (lv.zipIdx.take k)) [] rfl rfl ?_ ?_
  · rintro k kv hk rfl
    obtain ⟨l, hl1, _⟩ := at_of_lt hk
    have tz : lv.zipIdx.take (k + 1) = lv.zipIdx.take k ++ [(l, k)] := by
      rw [List.take_add_one, List.getElem?_zipIdx, hl1]
      simp
    have tl : (lv.zipIdx.take k).length = k := by simp; omega
    have tm : (lv.zipIdx.take k).map (·.1) = lv.take k := by rw [List.map_take, List.zipIdx_map_fst]
    have sp : lv = lv.take k ++ l :: lv.drop (k + 1) := by
      have := List.getElem_eq_iff hk |>.mpr hl1
      rw [← this, ← List.drop_eq_getElem_cons hk, List.take_append_drop]
    have lf2 := hl
    have nd2 := hn
    rw [sp] at lf2 nd2
    simp only [List.flatten_append, List.flatten_cons, List.length_append] at lf2
    refine ⟨_, v_nameG, ?_⟩
    simp? [e_B__law_places_1, e_C__law_places_2, e_B__law_places_3, e_C__law_places_4, hl1, ilD]
    have := put_level (B := B__law_places_1) (C := C__law_places_2) (k := 3) (Post := LoopP (fun o => outF .F o = .ok (placD lv)) C__law_places_4 fun ρ => ∃ s', ρ = [some (.lst (lv.map ilD)), some (dicI s' natD), none, none] ∧ s' = numZ (lv.zipIdx.take (k + 1))) (fun kv a => [some (.lst (lv.map ilD)), some (dicI kv natD), some (.int (k : Nat)), a]) (lv.zipIdx.take k) l (fun kv x h1 h2 => ⟨_, v_nameG, fun n hn => ?_⟩) (by
        rw [tm]
        rw [List.flatten_append, List.flatten_cons, ← List.append_assoc] at nd2
        exact (List.nodup_append.mp nd2).1) (by rw [zk, tm]; omega) ?_
    · exact this
    · rw [hn, tl]
      simp? [e_B__law_places_1, e_C__law_places_2, e_B__law_places_3, e_C__law_places_4]
      have := x_dputN (f := natD) (a := k) (rest := fgtS [3] nextS) (p := fun y => ([some (.lst (lv.map ilD)), some y, some (.int (k : Nat)), some (.int x)] : Ev)) h1 (by omega)
      exact this.trans rfl
    · rw [tl, ← tz]
      simp? [e_B__law_places_1, e_C__law_places_2, e_B__law_places_3, e_C__law_places_4]
      exact ⟨_, rfl, rfl⟩
  · rintro kv rfl
    rw [List.take_of_length_le (by simp)]
    simp? [e_B__law_places_1, e_C__law_places_2, e_B__law_places_3, e_C__law_places_4]
    rfl
theorem fld_w0 (gs : List Gr) (lv : List (List Int)) : fldD "Wish" "groups" (wishD gs lv) = .ok (.lst (gs.map grD)) := fldD_of (j := 0) (by decide +kernel) rfl
theorem fld_w1 (gs : List Gr) (lv : List (List Int)) : fldD "Wish" "kept_levels" (wishD gs lv) = .ok (.lst (lv.map ilD)) := fldD_of (j := 1) (by decide +kernel) rfl
theorem fld_w2 (gs : List Gr) (lv : List (List Int)) : fldD "Wish" "numbers" (wishD gs lv) = .ok (dicI (numL lv) natD) := fldD_of (j := 2) (by decide +kernel) rfl
theorem nom_w (m : Str) (gs : List Gr) (lv : List (List Int)) (h : fix m ["groups", "kept_levels", "numbers"] = none) : noMeth "Wish" m (wishD gs lv) = .ok (wishD gs lv) := noMeth_of h
theorem gOk_bounds {m : Nat} {gs : List Gr} (h : gOk m gs) : gs.length ≤ m ∧ ∀ g ∈ gs, g.2.length ≤ m := by
  have ml : (memb gs).length = m := by rw [h.2.length_eq, natL_len]
  have go : ∀ gs : List Gr, (∀ g ∈ gs, g.2 ≠ []) → gs.length ≤ (memb gs).length ∧ ∀ g ∈ gs, g.2.length ≤ (memb gs).length := by
    intro gs
    induction gs with
    | nil => intro _; simp [memb]
    | cons g gs ih =>
      intro hk
      obtain ⟨i1, i2⟩ := ih fun x hx => hk x (List.mem_cons_of_mem _ hx)
      have := List.length_pos_iff.mpr (hk g List.mem_cons_self)
      rw [memb_cons, List.length_append, List.length_cons]
      refine ⟨by omega, fun x hx => ?_⟩
      rcases List.mem_cons.mp hx with rfl | hx
      · omega
      · have := i2 x hx; omega
  have := go gs fun g hg => (h.1 g hg).2
  rw [ml] at this
  exact this
theorem levs_len2 {ls : List (Int × Int)} {gs : List Gr} (h : gOk ls.length gs) : (levs ls gs).length ≤ ls.length := by
  have := levs_len ls gs fun g hg => (h.1 g hg).2
  rwa [h.2.length_eq, natL_len] at this
theorem levels_run (gs : List Gr) (lv : List (List Int)) (hlv : lv.length ≤ 1000) : F_Wish_levels [wishD gs lv] = .ok (.lst (lv.map ilD)) := by
  rw [R_Wish_levels]; unfold Fb_Wish_levels
  simp? [fld_w1]
  rw [comp_mapE (f := ilD) (by omega) ?hc]
  case hc => exact fun l hl => ⟨_, v_nameG, by simp? [ilD]⟩
  simp? [ok_bind]
theorem levels_at {ls : List (Int × Int)} {gs : List Gr} (gp : gOk ls.length gs) : ∀ l ∈ levs ls gs, l ≠ [] ∧ ∀ x ∈ l, 0 ≤ x ∧ x < ls.length := fun l hl => by
  refine ⟨?_, fun x hx => ((levs_small gp).2.2 x).mp (List.mem_flatten.mpr ⟨l, hl, hx⟩)⟩
  unfold levs at hl
  obtain ⟨g, hg, hl⟩ := List.mem_flatMap.mp hl
  have gn := (gp.1 g hg).2
  unfold levG at hl
  split at hl
  · rw [List.mem_singleton] at hl
    rw [hl]
    intro h
    have := (sortI_perm g.2).length_eq
    rw [h] at this
    exact gn (List.eq_nil_of_length_eq_zero this.symm)
  · split at hl
    · obtain ⟨x, _, rfl⟩ := List.mem_map.mp hl
      simp
    · unfold comeL at hl
      obtain ⟨x, _, rfl⟩ := List.mem_map.mp hl
      simp
/-! a name for a part of an owned list -/
def bindA {α : Type} (r : Rs α) (f : α → Ot) : Ot := match r with
  | .ok a => f a
  | _ => .no
theorem bindA_ok {α : Type} {a : α} {f : α → Ot} : bindA (.ok a) f = f a := rfl
def thenA (o : Ot) (f : Ev → Ot) : Ot := match o with
  | .nx ρ => f ρ
  | _ => .no
theorem thenA_nx {ρ : Ev} {f : Ev → Ot} : thenA (.nx ρ) f = f ρ := rfl
section
variable {F1 F2 : Nat → Ev → Ot} {Ft : Ev → Rs Bool} {Fe : Ev → Rs Dt} {Fs : List (Ev → Rs Dt)} {g a tl kd pl k : Nat} {ρ : Ev} {x : List Dt × Dt × List Dt} {i : Int}
theorem v_seqA : seqA F1 F2 k ρ = thenA (F1 k ρ) (F2 k) := rfl
theorem v_nextA : nextA k ρ = .nx ρ := rfl
theorem v_fgtA : fgtA pl k ρ = .nx (ρ.set pl none) := rfl
theorem v_ifA : ifA Ft F1 F2 k ρ = bindA (Ft ρ) fun b => if b = true then F1 k ρ else F2 k ρ := by
  unfold ifA bindA
  cases Ft ρ with
  | ok b => cases b <;> rfl
  | _ => rfl
theorem v_asgA (h : toldOf ρ g k = some x) : asgA g tl pl Fe k ρ = bindA (Fe (ρ.set tl (some (.lst x.2.2)))) fun d => if scal d = true then .nx (ρ.set pl (some d)) else .no := by
  unfold asgA
  rw [h]
  dsimp only
  cases Fe (ρ.set tl (some (.lst x.2.2))) <;> rfl
theorem v_popA (h : toldOf ρ g k = some x) : popA g tl Fe k ρ = bindA (Fe (ρ.set tl (some (.lst x.2.2)))) fun d => bindA (popD x.2.2 d) fun y => .nx (ρ.set g (some (.lst (x.1.set k (.tup [x.2.1, .lst y.2]))))) := by
  unfold popA
  rw [h]
  dsimp only
  cases Fe (ρ.set tl (some (.lst x.2.2))) with
  | ok d =>
    show _ = bindA (popD x.2.2 d) _
    dsimp only
    cases popD x.2.2 d <;> rfl
  | _ => rfl
theorem v_insA (h : toldOf ρ g k = some x) : insA g tl Fs k ρ = bindA (argsE Fs (ρ.set tl (some (.lst x.2.2)))) fun as => if as.all scal = true then (match insD x.2.2 as with
      | some es => .nx (ρ.set g (some (.lst (x.1.set k (.tup [x.2.1, .lst es])))))
      | none => .no) else .no := by
  unfold insA
  rw [h]
  dsimp only
  cases argsE Fs (ρ.set tl (some (.lst x.2.2))) <;> rfl
theorem v_setpA (h : toldOf ρ g k = some x) (hi : ρ[a]? = some (some (.int i))) (hk : ixN x.1.length i = some k) : setpA g a Fe k ρ = bindA (Fe ρ) fun d => .nx (ρ.set g (some (.lst (x.1.set k (.tup [d, .lst x.2.2]))))) := by
  unfold setpA
  rw [h, hi]
  dsimp only
  rw [if_pos hk]
  cases Fe ρ <;> rfl
theorem v_aliasS {Fb : Nat → Ev → Ot} {ds : List Dt} (hg : ρ[g]? = some (some (.lst ds))) (hi : ρ[a]? = some (some (.int i))) (hk : ixN ds.length i = some k) (h : toldOf ρ g k = some x) {ρ' : Ev} (hb : Fb k ((ρ.set kd none).set tl none) = .nx ρ') : aliasS g a kd tl Fb ρ = .nx ρ' := by
  unfold aliasS
  rw [hg, hi]
  dsimp only
  rw [hk]
  dsimp only
  rw [h, if_pos (show (some x).isSome = true from rfl), hb]
theorem told_of {ds es : List Dt} {kn : Dt} {r : Ev} (h : ds[k]? = some (.tup [kn, .lst es])) : toldOf (some (.lst ds) :: r) 0 k = some (ds, kn, es) := by
  unfold toldOf
  simp only [List.getElem?_cons_zero, h]
theorem v_maxE {F : Ev → Rs Dt} : maxE F ρ = (F ρ >>= maxD) := rfl
theorem insD_nat {ds : List Dt} {p : Nat} {y : Dt} (h : ds.length ≤ 1000000) (hp : p ≤ 1000000) : insD ds [.int (p : Nat), y] = some (ds.take p ++ [y] ++ ds.drop p) := by
  show (if (lenSz ds.length && (decide ((0 : Int) ≤ (p : Nat)) && intSz (p : Nat))) = true then some (ds.take ((p : Nat) : Int).toNat ++ [y] ++ ds.drop ((p : Nat) : Int).toNat) else none) = _
  rw [lenSz_of h, decide_eq_true (show (0 : Int) ≤ (p : Nat) by omega), intSz_of (by omega) (by omega), if_pos (show (true && (true && true)) = true from rfl), Int.toNat_natCast]
end
/-! groups, spoilt -/
structure FtOk (a b : Nat) (gs : List Gr) : Prop where
  len : gs.length ≤ a
  ml : ∀ g ∈ gs, g.2.length ≤ b
  tx : gTxt gs
theorem FtOk.set {a b k : Nat} {gs : List Gr} {x : Gr} (h : FtOk a b gs) (h1 : x.2.length ≤ b + 1) (h2 : PyData.canLay0 (.str x.1) = true) : FtOk (a + 1) (b + 1) (gs.set k x) := ⟨by have := h.len; rw [List.length_set]; omega, fun g hg => by
  rcases List.mem_or_eq_of_mem_set hg with hg | rfl
  · have := h.ml g hg; omega
  · exact h1, fun g hg => by
  rcases List.mem_or_eq_of_mem_set hg with hg | rfl
  · exact h.tx g hg
  · exact h2⟩
theorem FtOk.ins {a b k : Nat} {gs : List Gr} {x : Gr} (h : FtOk a b gs) (h1 : x.2.length ≤ b + 1) (h2 : PyData.canLay0 (.str x.1) = true) : FtOk (a + 1) (b + 1) (gs.take k ++ [x] ++ gs.drop k) := by
  have mem : ∀ g ∈ gs.take k ++ [x] ++ gs.drop k, g ∈ gs ∨ g = x := fun g hg => by
    rcases List.mem_append.mp hg with hg | hg
    · rcases List.mem_append.mp hg with hg | hg
      · exact .inl (List.mem_of_mem_take hg)
      · exact .inr (List.mem_singleton.mp hg)
    · exact .inl (List.mem_of_mem_drop hg)
  refine ⟨?_, fun g hg => ?_, fun g hg => ?_⟩
  · have := h.len
    rw [List.length_append, List.length_append, List.length_take, List.length_drop, List.length_singleton]
    omega
  · rcases mem g hg with hg | rfl
    · have := h.ml g hg; omega
    · exact h1
  · rcases mem g hg with hg | rfl
    · exact h.tx g hg
    · exact h2
theorem FtOk.up {a b : Nat} {gs : List Gr} (h : FtOk a b gs) : FtOk (a + 1) (b + 1) gs := ⟨by have := h.len; omega, fun g hg => by have := h.ml g hg; omega, h.tx⟩
def FaultyP (a b : Nat) (o : Ot) : Prop := ∃ bad : List Gr, FtOk a b bad ∧ outF (.L (.T [.F, .L .F])) o = .ok (.lst (bad.map grD))
theorem gr_set {gs : List Gr} {k : Nat} {x : Gr} : (gs.map grD).set k (.tup [.str x.1, .lst (x.2.map .int)]) = (gs.set k x).map grD := by rw [List.map_set]; rfl
theorem faulty_run (a b : Nat) (ha : a ≤ 100) (hb : b ≤ 100) (gs : List Gr) (h : FtOk a b gs) (hne : ∀ g ∈ gs, g.2 ≠ []) (m : Nat) (hm : m ≤ 24) (N : Int) (N0 : 0 ≤ N) (N1 : N < 1000000000) : ∃ bad : List Gr, FtOk (a + 1) (b + 1) bad ∧ F__law_faulty [.lst (gs.map grD), .int (m : Nat), .int N] = .ok (.lst (bad.map grD)) := by
  rw [R__law_faulty]; unfold Fb__law_faulty
  show FaultyP (a + 1) (b + 1) _
  have gl := h.len
  have lk : lenD (.lst (gs.map grD)) = .ok (.int (gs.length : Nat)) := by show Rs.ok (Dt.int _) = _; rw [List.length_map]
  have mx : maxD (.lst [.int 1, .int (gs.length : Nat)]) = .ok (.int (max 1 gs.length : Nat)) := by
    show Rs.ok (Dt.int (max 1 ((gs.length : Nat) : Int))) = _
    congr 2
    omega
  obtain ⟨M, hM⟩ : ∃ M : Nat, M = max 1 gs.length := ⟨_, rfl⟩
  rw [← hM] at mx
  have a0 := Int.emod_nonneg (N / 8) (show ((M : Nat) : Int) ≠ 0 by omega)
  have a1 := Int.emod_lt_of_pos (N / 8) (show (0 : Int) < ((M : Nat) : Int) by omega)
  obtain ⟨i, hi⟩ := Int.eq_ofNat_of_zero_le a0
  obtain ⟨N2, hN2⟩ : ∃ N2 : Int, N2 = N / 200 := ⟨_, rfl⟩
  have n0 : 0 ≤ N2 ∧ N2 < 1000000000 := by omega
  have cp := copied_run gs (by omega)
  obtain ⟨odd, _, io⟩ := x_lit (xs := [-1, (m : Int), (m : Int) + 1 + N2 % 1000000 * 10000000000000000000000000000000000000000, -2 - N2 % 1000000 * 10000000000000000000000000000000000000000]) (g := Dt.int) (k := N2 % 4) (by omega) (by simp; omega)
  have io : ixD (.lst [.int (-1), .int (m : Nat), .int ((m : Int) + 1 + N2 % 1000000 * 10000000000000000000000000000000000000000), .int (-2 - N2 % 1000000 * 10000000000000000000000000000000000000000)]) (.int (N2 % 4)) = .ok (.int odd) := io
  have sm : smallI (N2 % 1000000) = true := smallI_of (by omega) (by omega)
  have ml : ∀ z : Int, mulI (N2 % 1000000) z = .ok (.int (N2 % 1000000 * z)) := fun z => v_mulL sm
  obtain ⟨W, hW⟩ : ∃ W : Int, W = N % 8 := ⟨_, rfl⟩
  have kk : ∃ q : Str, PyData.canLay0 (.str q) = true ∧ ixD (.lst [.str "any", .str "come", .str "row"]) (.int (N2 % 3)) = .ok (.str q) := by
    obtain ⟨q, hq, eq⟩ := x_lit (xs := (["any", "come", "row"] : List Str)) (g := Dt.str) (k := N2 % 3) (by omega) (by simp; omega)
    refine ⟨q, ?_, eq⟩
    simp at hq
    rcases hq with h | h | h <;> rw [h] <;> decide +kernel
  obtain ⟨q, hq, eq⟩ := kk
  have k6 : ∃ q : Str, PyData.canLay0 (.str q) = true ∧ ixD (.lst [.str "", .str "Any", .str "rows", .str "comes", .str "an", .str "any "]) (.int (N2 % 6)) = .ok (.str q) := by
    obtain ⟨q, hq, eq⟩ := x_lit (xs := (["", "Any", "rows", "comes", "an", "any "] : List Str)) (g := Dt.str) (k := N2 % 6) (by omega) (by simp; omega)
    refine ⟨q, ?_, eq⟩
    simp at hq
    rcases hq with h | h | h | h | h | h <;> rw [h] <;> decide +kernel
  obtain ⟨q6, hq6, eq6⟩ := k6
  simp? [e_B__law_faulty_1, -x_ixLi, cp, lk, mx, hi, ← hN2, ml, io, ← hW, v_maxE]
  have gm : (gs.map grD).length ≤ 1000000 := by rw [List.length_map]; omega
  refine wp_ite (fun h1 => ?_) fun h1 => ?_
  · simp? [e_B__law_faulty_1, eq]
    refine ⟨gs.take i ++ [(q, [])] ++ gs.drop i, h.ins (by simp) hq, ?_⟩
    simp only [List.map_append, List.map_take, List.map_drop]
    rfl
  have d1 := of_decide_eq_false h1
  simp? [e_B__law_faulty_1]
  refine wp_ite (fun h2 => ?_) fun h2 => ?_
  · simp? [e_B__law_faulty_1, eq]
    refine ⟨gs.take i ++ [(q, [odd])] ++ gs.drop i, h.ins (by simp) hq, ?_⟩
    simp only [List.map_append, List.map_take, List.map_drop]
    rfl
  have d2 := of_decide_eq_false h2
  by_cases g0 : 0 < gs.length
  case neg =>
    have d : decide ((gs.length : Int) > 0) = false := decide_eq_false (by omega)
    simp? [e_B__law_faulty_1, lk, d]
    exact ⟨gs, h.up, rfl⟩
  have d : decide ((gs.length : Int) > 0) = true := decide_eq_true (by omega)
  simp? [e_B__law_faulty_1, lk, d]
  have key : ∃ bad, FtOk (a + 1) (b + 1) bad ∧ B__law_faulty_1 [some (.lst (gs.map grD)), some (.int (m : Nat)), some (.int N2), some (.int W), some (.int (i : Nat)), some (.int odd), none, none, none] = .nx [some (.lst (bad.map grD)), some (.int (m : Nat)), some (.int N2), some (.int W), some (.int (i : Nat)), some (.int odd), none, none, none] := by
    have il : i < gs.length := by omega
    obtain ⟨g, eg, gmem⟩ := at_of_lt (xs := gs) il
    have hng := hne g gmem
    have np := List.length_pos_iff.mpr hng
    have gml := h.ml g gmem
    have T0 : ∀ r, toldOf (some (.lst (gs.map grD)) :: r) 0 i = some (gs.map grD, .str g.1, g.2.map .int) := fun r => told_of (by rw [List.getElem?_map, eg]; rfl)
    have hik : ixN (gs.map grD).length ((i : Nat) : Int) = some i := ixN_nat (by rw [List.length_map]; exact il)
    have b0 := Int.emod_nonneg (N2 / 4) (show ((g.2.length : Nat) : Int) ≠ 0 by omega)
    have b1 := Int.emod_lt_of_pos (N2 / 4) (show (0 : Int) < ((g.2.length : Nat) : Int) by omega)
    obtain ⟨p, hp⟩ := Int.eq_ofNat_of_zero_le b0
    have c0 := Int.emod_nonneg (N2 / 100) (show ((g.2.length : Nat) : Int) ≠ 0 by omega)
    have c1 := Int.emod_lt_of_pos (N2 / 100) (show (0 : Int) < ((g.2.length : Nat) : Int) by omega)
    obtain ⟨r, hr⟩ := Int.eq_ofNat_of_zero_le c0
    have f0 := Int.emod_nonneg (N2 / 100) (show ((gs.length : Nat) : Int) ≠ 0 by omega)
    have f1 := Int.emod_lt_of_pos (N2 / 100) (show (0 : Int) < ((gs.length : Nat) : Int) by omega)
    obtain ⟨s, hs⟩ := Int.eq_ofNat_of_zero_le f0
    obtain ⟨y, ey, _⟩ := at_of_lt (xs := g.2) (k := p) (by omega)
    obtain ⟨x, ex, _⟩ := at_of_lt (xs := g.2) (k := r) (by omega)
    obtain ⟨g5, eg5, g5m⟩ := at_of_lt (xs := gs) (k := s) (by omega)
    obtain ⟨x5, ex5, _⟩ := at_of_lt (xs := g5.2) (k := 0) (List.length_pos_iff.mpr (hne g5 g5m))
    have ix : ixD (.lst (g.2.map .int)) (.int (r : Nat)) = .ok (.int x) := v_ixL (atI_nat (at_map ex))
    have ix5 : ixD (.lst (gs.map grD)) (.int (s : Nat)) = .ok (grD g5) := v_ixL (atI_nat (at_map eg5))
    have ix51 : ixD (grD g5) (.int 1) = .ok (.lst (g5.2.map .int)) := x_t1
    have ix50 : ixD (.lst (g5.2.map .int)) (.int 0) = .ok (.int x5) := v_ixL (atI_nat (k := 0) (at_map ex5))
    have pp : popD (g.2.map .int) (.int (p : Nat)) = .ok (.int y, (g.2.eraseIdx p).map .int) := by
      have := x_pop_map (g := Dt.int) (xs := g.2) (k := ((p : Nat) : Int)) (y := y) (by omega) (by omega) (by rw [Int.toNat_natCast]; exact ey)
      rwa [Int.toNat_natCast] at this
    have ii : ∀ z : Int, insD (g.2.map .int) [.int (p : Nat), .int z] = some ((g.2.take p ++ [z] ++ g.2.drop p).map .int) := fun z => by
      rw [insD_nat (by rw [List.length_map]; omega) (by omega)]
      simp only [List.map_append, List.map_take, List.map_drop]
      rfl
    have sc : ∀ u v : Int, List.all [Dt.int u, .int v] scal = true := fun _ _ => rfl
    have s1 : ∀ u : Int, scal (.int u) = true := fun _ => rfl
    have lg : lenD (.lst (g.2.map .int)) = .ok (.int (g.2.length : Nat)) := by show Rs.ok (Dt.int _) = _; rw [List.length_map]
    have il2 : ∀ z : Int, (g.2.take p ++ [z] ++ g.2.drop p).length ≤ b + 1 := fun z => by
      rw [List.length_append, List.length_append, List.length_take, List.length_drop, List.length_singleton]
      omega
    have kt := h.tx g gmem
    obtain rfl | rfl | rfl | rfl | rfl | rfl : W = 0 ∨ W = 3 ∨ W = 4 ∨ W = 5 ∨ W = 6 ∨ W = 7 := by omega
    · refine ⟨gs, h.up, v_aliasS rfl rfl hik (T0 _) ?_⟩
      simp? [e_B__law_faulty_1, v_seqA, v_ifA, v_nextA, v_fgtA, bindA_ok, thenA_nx, v_asgA (T0 _), lg, hp, s1]
    · refine ⟨gs.set i (g.1, g.2.eraseIdx p), h.set (by have := List.length_eraseIdx_le g.2 p; dsimp only; omega) kt, v_aliasS rfl rfl hik (T0 _) ?_⟩
      rw [← gr_set]
      simp? [e_B__law_faulty_1, v_seqA, v_ifA, v_nextA, v_fgtA, bindA_ok, thenA_nx, v_asgA (T0 _), v_popA (T0 _), lg, hp, s1, pp]
    · refine ⟨gs.set i (g.1, g.2.take p ++ [x] ++ g.2.drop p), h.set (il2 x) kt, v_aliasS rfl rfl hik (T0 _) ?_⟩
      rw [← gr_set]
      simp? [e_B__law_faulty_1, v_seqA, v_ifA, v_nextA, v_fgtA, bindA_ok, thenA_nx, v_asgA (T0 _), v_insA (T0 _), lg, hp, s1, sc, hr, ix, ii]
    · refine ⟨gs.set i (g.1, g.2.take p ++ [x5] ++ g.2.drop p), h.set (il2 x5) kt, v_aliasS rfl rfl hik (T0 _) ?_⟩
      rw [← gr_set]
      simp? [e_B__law_faulty_1, -x_ixLn, v_seqA, v_ifA, v_nextA, v_fgtA, bindA_ok, thenA_nx, v_asgA (T0 _), v_insA (T0 _), lg, lk, hp, s1, sc, hs, ix5, ix51, ix50, ii]
    · refine ⟨gs.set i (g.1, g.2.take p ++ [odd] ++ g.2.drop p), h.set (il2 odd) kt, v_aliasS rfl rfl hik (T0 _) ?_⟩
      rw [← gr_set]
      simp? [e_B__law_faulty_1, v_seqA, v_ifA, v_nextA, v_fgtA, bindA_ok, thenA_nx, v_asgA (T0 _), v_insA (T0 _), lg, hp, s1, sc, ii]
    · refine ⟨gs.set i (q6, g.2), h.set (by dsimp only; omega) hq6, v_aliasS rfl rfl hik (T0 _) ?_⟩
      rw [← gr_set]
      simp? [e_B__law_faulty_1, v_seqA, v_ifA, v_nextA, v_fgtA, bindA_ok, thenA_nx, v_asgA (T0 _), v_setpA (g := 0) (a := 4) (ρ := [some (.lst (gs.map grD)), some (.int (m : Nat)), some (.int N2), some (.int 7), some (.int (i : Nat)), some (.int odd), some (.int (p : Nat)), none, none]) (T0 _) rfl hik, lg, hp, s1, eq6]
  obtain ⟨bad, bo, hb⟩ := key
  unfold seqS
  rw [hb]
  simp? [e_B__law_faulty_1]
  exact ⟨bad, bo, rfl⟩
theorem kinds_memL (x : Str) : memD true (.str x) (.lst [.str "any", .str "come", .str "row"]) = .ok (.bl (!decide (gkB x))) := by
  have := kinds_mem x true
  rw [if_pos rfl] at this
  exact this
theorem enc_grT : Enc 2 (fun g : Gr => PyData.canLay0 (.str g.1) = true) grD := (enc_str.pair enc_int.lst).mono fun g hg => ⟨hg, fun _ _ => trivial⟩
theorem sort_eq (xs : List Int) (m : Nat) : sortI xs = natL m ↔ xs.Perm (natL m) := by
  have sp : (sortI xs).Perm xs := sortI_perm xs
  constructor
  · intro e
    rw [← e]
    exact sp.symm
  · intro h
    refine (sortI_uniq h.symm ?_).symm
    unfold natL
    rw [List.pairwise_map]
    exact List.pairwise_lt_range.imp fun h => by omega
open Classical in
theorem good_run (m : Nat) (hm : m ≤ 24) (gs : List Gr) (a b : Nat) (ha : a ≤ 100) (hb : b ≤ 100) (h : FtOk a b gs) : F__law_good [.int (m : Nat), .lst (gs.map grD)] = .ok (.bl (decide (gOk m gs))) := by
  rw [R__law_good]; unfold Fb__law_good
  simp? [e_B__law_good_1, e_C__law_good_2]
  refine wp_forI (Post := fun o => outF .F o = .ok (.bl (decide (gOk m gs)))) gs grD (fun xs : List Int => ([some (.int (m : Nat)), some (.lst (gs.map grD)), some (.lst (xs.map .int)), none, none] : Ev)) (fun pre xs => xs = memb pre ∧ xs.length ≤ 100 * pre.length ∧ ∀ g ∈ pre, gkB g.1 ∧ g.2 ≠ []) [] rfl rfl ⟨rfl, by simp, by simp⟩ ?_ ?_
  · rintro pre g post xs e ⟨rfl, hl, hk⟩
    have gm : g ∈ gs := by rw [e]; simp
    have gl := h.ml g gm
    have pl : pre.length < gs.length := by rw [e, List.length_append, List.length_cons]; omega
    have hlen := h.len
    refine ⟨[some (.int (m : Nat)), some (.lst (gs.map grD)), some (.lst ((memb pre).map .int)), some (.str g.1), some (.lst (g.2.map .int))], rfl, ?_⟩
    have e0 := (enc_int.lst).eqD (x := g.2) (y := []) (fun _ _ => trivial) (fun _ _ => trivial)
    have e0 : eqD (.lst (g.2.map .int)) (.lst []) = .ok (.bl (decide (g.2 = []))) := e0
    have no : (¬ gkB g.1 ∨ g.2 = []) → decide (gOk m gs) = false := fun z => decide_eq_false fun ok => by
      have := ok.1 g gm
      rcases z with z | z
      · exact z this.1
      · exact this.2 z
    by_cases hg : gkB g.1
    case neg =>
      have dg : (!decide (gkB g.1)) = true := by rw [decide_eq_false hg]; rfl
      simp? [e_B__law_good_1, e_C__law_good_2, kinds_memL, dg, e0]
      rw [no (.inl hg)]
      rfl
    have dg : (!decide (gkB g.1)) = false := by rw [decide_eq_true hg]; rfl
    by_cases hn : g.2 = []
    · have dn : decide (g.2 = []) = true := decide_eq_true hn
      simp? [e_B__law_good_1, e_C__law_good_2, kinds_memL, dg, e0, dn]
      rw [no (.inr hn)]
      rfl
    have dn : decide (g.2 = []) = false := decide_eq_false hn
    have pp : plusD (.lst ((memb pre).map .int)) (.lst (g.2.map .int)) = .ok (.lst ((memb (pre ++ [g])).map .int)) := by
      rw [x_plusA (by rw [List.length_map, List.length_map]; omega), memb_snoc, List.map_append]
    simp? [e_B__law_good_1, e_C__law_good_2, kinds_memL, dg, e0, dn, pp]
    refine ⟨_, rfl, rfl, ?_, fun z hz => ?_⟩
    · have := congrArg List.length (memb_snoc pre g)
      rw [List.length_append] at this
      simp only [List.length_append, List.length_singleton, memb_snoc] at this ⊢
      omega
    · rcases List.mem_append.mp hz with hz | hz
      · exact hk z hz
      · rw [List.mem_singleton.mp hz]
        exact ⟨hg, hn⟩
  · rintro xs ⟨rfl, hl, hk⟩
    have se := sort_ints (memb gs)
    have e1 := (enc_int.lst).eqD (x := sortI (memb gs)) (y := natL m) (fun _ _ => trivial) (fun _ _ => trivial)
    have e1 : eqD (.lst ((sortI (memb gs)).map .int)) (.lst ((natL m).map .int)) = .ok (.bl (decide (sortI (memb gs) = natL m))) := e1
    have e2 : decide (sortI (memb gs) = natL m) = decide (gOk m gs) := by
      rw [decide_eq_decide, sort_eq]
      exact ⟨fun z => ⟨hk, z⟩, fun z => z.2⟩
    simp? [e_B__law_good_1, e_C__law_good_2, se]
    rw [rangeL_natL]
    simp? [e_B__law_good_1, e_C__law_good_2, e1, e2]
theorem refused_run (ls : List (Int × Int)) (gs : List Gr) (hm : ls.length ≤ 24) (a b : Nat) (ha : a ≤ 100) (hb : b ≤ 100) (h : FtOk a b gs) (hn : ¬ gOk ls.length gs) : F__law_refused [.lst (ls.map prD), .lst (gs.map grD)] = .ok (.bl true) := by
  rw [R__law_refused]; unfold Fb__law_refused
  have wi := wish_init ls gs hm (by have := h.len; omega) (fun g hg => by have := h.ml g hg; omega)
  rw [if_neg hn] at wi
  have lk1 : tabS_MillError.lookup ("BadWish" : Str) = some true := by decide +kernel
  have a1 := fun ρ => isx_of (ρ := ρ) (tab := tabI_BadWish) (c := "BadWish") (b := true) (by decide +kernel)
  have a2 := fun ρ => isx_of (ρ := ρ) (tab := tabI_ValueError) (c := "BadWish") (b := true) (by decide +kernel)
  have t1 := fun ρ => isxT_of (ρ := ρ) (tabs := [tabI_BadCode, tabI_BadCount, tabI_BadDeed, tabI_BadLate, tabI_BadLetters, tabI_BadMill, tabI_BadPlan, tabI_BadPrices]) (c := "BadWish") (bs := [false, false, false, false, false, false, false, false]) (by decide +kernel)
  have t2 := fun ρ => isxT_of (ρ := ρ) (tabs := [tabI_BadRow, tabI_BadSize, tabI_BadText, tabI_BadWord, tabI_NoRow, tabI_NotOneOrder, tabI_Shut]) (c := "BadWish") (bs := [false, false, false, false, false, false, false]) (by decide +kernel)
  have eq := (enc_bl.lst).eqD (x := [true, true, false, false]) (y := [true, true, false, false]) (fun _ _ => trivial) (fun _ _ => trivial)
  rw [decide_eq_true rfl] at eq
  have eq : eqD (.lst [.bl true, .bl true, .bl false, .bl false]) (.lst [.bl true, .bl true, .bl false, .bl false]) = .ok (.bl true) := eq
  have f8 : [false, false, false, false, false, false, false, false].any id = false := rfl
  have f7 : [false, false, false, false, false, false, false].any id = false := rfl
  simp? [-v_isxT, wi, lk1, a1, a2, t1, t2, f8, f7, eq]
def DueP (o : Ot) : Prop := outF .F o = .ok (.bl true)
theorem levels_same (lv : List (List Int)) : eqD (.lst (lv.map ilD)) (.lst (lv.map ilD)) = .ok (.bl true) ∧ neD (.lst (lv.map ilD)) (.lst (lv.map ilD)) = .ok (.bl false) := by
  have ne := (enc_int.lst.lst).neD (x := lv) (y := lv) (fun _ _ _ _ => trivial) (fun _ _ _ _ => trivial)
  have eq := (enc_int.lst.lst).eqD (x := lv) (y := lv) (fun _ _ _ _ => trivial) (fun _ _ _ _ => trivial)
  rw [decide_eq_true rfl] at ne eq
  exact ⟨eq, ne⟩
theorem spoilt_more (a b : Nat) (ha : a ≤ 99) (hb : b ≤ 99) (ns vs : List Int) (ls : List (Int × Int)) (gs bad : List Gr) (due : Dt) (vl : vs.length = 60) (vb : ∀ v ∈ vs, numB v) (ll : ls.length ≤ 24) (h : FtOk a b bad) : ∃ bad2, FtOk (a + 1) (b + 1) bad2 ∧ ∀ rest : Ev → Ot, seqS (ifS (andT (boolT (eqE (modE (ixE (varE 1) (conE (.int 57))) (conE (.int 3))) (conE (.int 0)))) (boolT (eqE (lenE (compE (seqI (varE 5)) [7, 8] (tupG 2 (consG (nameG 7) (consG (nameG 8) nilG))) (boolT (eqE (varE 8) (lstE []))) (varE 8))) (conE (.int 0))))) (seqS (asgS 5 (callE F__law_faulty [(varE 5), (lenE (varE 2)), (ixE (varE 1) (conE (.int 58)))]))
 nextS) nextS) rest [some (.scr (ns.map .int)), some (.lst (vs.map .int)), some (.lst (ls.map prD)), some (.lst (gs.map grD)), some due, some (.lst (bad.map grD)), none, none, none] = rest [some (.scr (ns.map .int)), some (.lst (vs.map .int)), some (.lst (ls.map prD)), some (.lst (gs.map grD)), some due, some (.lst (bad2.map grD)), none, none, none] := by
  have lk := lenD_prs ls
  obtain ⟨p, ep, _, _⟩ := num_at vb (k := 57) (by omega)
  obtain ⟨q, eq, q0, q1⟩ := num_at vb (k := 58) (by omega)
  have ep : ixD (.lst (vs.map .int)) (.int 57) = .ok (.int p) := v_ixL (atI_nat (k := 57) (at_map ep))
  have eq : ixD (.lst (vs.map .int)) (.int 58) = .ok (.int q) := v_ixL (atI_nat (k := 58) (at_map eq))
  by_cases h3 : p % 3 = 0
  case neg =>
    refine ⟨bad, h.up, fun rest => ?_⟩
    have d3 : decide (p % 3 = 0) = false := decide_eq_false h3
    simp? [ep, d3]
  have d3 : decide (p % 3 = 0) = true := decide_eq_true h3
  have hlen := h.len
  have cm : ∀ ρ : Ev, ρ = [some (.scr (ns.map .int)), some (.lst (vs.map .int)), some (.lst (ls.map prD)), some (.lst (gs.map grD)), some due, some (.lst (bad.map grD)), none, none, none] → compR (tupG 2 (consG (nameG 7) (consG (nameG 8) nilG))) (boolT (eqE (varE 8) (lstE []))) (varE 8) ρ (bad.map grD) = .ok (.lst ((bad.filter fun g => decide (g.2 = [])).map fun g => .lst (g.2.map .int))) := fun ρ e => by
    subst e
    rw [comp_filterE (f := fun g : Gr => Dt.lst (g.2.map .int)) (p := fun g => decide (g.2 = [])) (by omega) ?hc]
    case hc =>
      intro g hg
      have e0 := (enc_int.lst).eqD (x := g.2) (y := []) (fun _ _ => trivial) (fun _ _ => trivial)
      have e0 : eqD (.lst (g.2.map .int)) (.lst []) = .ok (.bl (decide (g.2 = []))) := e0
      refine ⟨[some (.scr (ns.map .int)), some (.lst (vs.map .int)), some (.lst (ls.map prD)), some (.lst (gs.map grD)), some due, some (.lst (bad.map grD)), none, some (.str g.1), some (.lst (g.2.map .int))], rfl, ?_, fun _ => ?_⟩
      · simp? [e0]
      · simp? [ok_bind]
  by_cases hn : ∀ g ∈ bad, g.2 ≠ []
  · have f0 : bad.filter (fun g => decide (g.2 = [])) = [] := List.filter_eq_nil_iff.mpr fun g hg => by simpa using hn g hg
    obtain ⟨bad2, b2, eb⟩ := faulty_run a b (by omega) (by omega) bad h hn ls.length ll q q0 q1
    refine ⟨bad2, b2, fun rest => ?_⟩
    simp? [ep, d3, cm _ rfl, f0, lk, eq, eb]
  · have f1 : ¬ (bad.filter (fun g => decide (g.2 = []))).length = 0 := fun z => hn fun g hg e => by
      have := List.length_eq_zero_iff.mp z
      have := List.filter_eq_nil_iff.mp this g hg
      simp [e] at this
    refine ⟨bad, h.up, fun rest => ?_⟩
    have d0 : decide ((((bad.filter fun g => decide (g.2 = [])).length : Nat) : Int) = 0) = false := decide_eq_false (by omega)
    simp? [ep, d3, cm _ rfl, d0]
open Classical in
theorem pure_law (ns : List Int) (h : ns.length ≤ 63) : F_law [.scr (ns.map Dt.int)] = .ok (.bl true) := by
  rw [R_law]; unfold Fb_law
  show DueP _
  obtain ⟨vs, vl, vb, ev⟩ := poured_run ns 60 h (by decide) (by decide)
  obtain ⟨ls, ll, lb, el⟩ := letters_run vs vl vb
  obtain ⟨gs, gp, eg⟩ := groups_run vs ls vl vb ll
  obtain ⟨gl, gm⟩ := gOk_bounds gp
  have l2 := levs_len2 gp
  have lbb : ∀ l ∈ ls, 0 ≤ l.2 ∧ l.2 < 10 := fun l hl => by have := lb l hl; unfold lateB at this; omega
  have e1 := law_levels_run ls gs ll lbb gp
  have e3 := wish_init ls gs ll (by omega) fun g hg => by have := gm g hg; omega
  rw [if_pos gp] at e3
  have ev : F__law_poured [.scr (ns.map .int), .int 60] = .ok (.lst (vs.map .int)) := ev
  have lr := levels_run gs (levs ls gs) (by omega)
  have cp := copied_run gs (by omega)
  have nm := fun g lv => nom_w "levels" g lv (by decide +kernel)
  have lk := lenD_prs ls
  obtain ⟨sq, sn⟩ := levels_same (levs ls gs)
  have gt : gTxt gs := fun g hg => by
    have := (gp.1 g hg).1
    rcases this with z | z | z <;> rw [z] <;> decide +kernel
  have f0 : FtOk 24 24 gs := ⟨by omega, fun g hg => by have := gm g hg; omega, gt⟩
  obtain ⟨q, eq, q0, q1⟩ := num_at vb (k := 56) (by omega)
  have eq : ixD (.lst (vs.map .int)) (.int 56) = .ok (.int q) := v_ixL (atI_nat (k := 56) (at_map eq))
  obtain ⟨bad, b1, eb⟩ := faulty_run 24 24 (by decide) (by decide) gs f0 (fun g hg => (gp.1 g hg).2) ls.length ll q q0 q1
  obtain ⟨bad2, b2, chg⟩ := spoilt_more 25 25 (by decide) (by decide) ns vs ls gs bad (.lst ((levs ls gs).map ilD)) vl vb ll b1
  have cp2 := copied_run bad2 (by have := b2.len; omega)
  have gd := good_run ls.length ll bad2 26 26 (by decide) (by decide) b2
  have nb := (enc_grT.lst).neD (x := bad2) (y := bad2) b2.tx b2.tx
  rw [decide_eq_true rfl] at nb
  have nb : neD (.lst (bad2.map grD)) (.lst (bad2.map grD)) = .ok (.bl false) := nb
  have r1 : ∀ rest : Ev → Ot, seqS (ifS (boolT (neE (methE "Wish" "levels" F_Wish_levels (callE F_Wish___init__ [(listE (varE 2)), (callE F__law_copied [(varE 3)])]) []) (varE 4))) (seqS (retS (conE (.bl false)))
 nextS) nextS) rest [some (.scr (ns.map .int)), some (.lst (vs.map .int)), some (.lst (ls.map prD)), some (.lst (gs.map grD)), some (.lst ((levs ls gs).map ilD)), none, none, none, none] = rest [some (.scr (ns.map .int)), some (.lst (vs.map .int)), some (.lst (ls.map prD)), some (.lst (gs.map grD)), some (.lst ((levs ls gs).map ilD)), none, none, none, none] := fun rest => by
    simp? [cp, e3, nm, lr, sn]
  by_cases ok : gOk ls.length bad2
  · have e5 := law_levels_run ls bad2 ll lbb ok
    have l5 := levs_len2 ok
    have e6 := wish_init ls bad2 ll (by have := b2.len; omega) fun g hg => by have := b2.ml g hg; omega
    rw [if_pos ok] at e6
    have lr2 := levels_run bad2 (levs ls bad2) (by omega)
    obtain ⟨_, sn2⟩ := levels_same (levs ls bad2)
    rw [decide_eq_true ok] at gd
    simp? [-v_if, ev, el, eg, e1]
    rw [r1]
    simp? [-v_if, lk, eq, eb, chg]
    simp? [cp2, lk, gd]
    simp? [e6, nm, lr2, e5, sn2]
    simp? [cp, e3, nm, lr, sq]
    try rfl
  · have rf := refused_run ls bad2 ll 26 26 (by decide) (by decide) b2 ok
    rw [decide_eq_false ok] at gd
    simp? [-v_if, ev, el, eg, e1]
    rw [r1]
    simp? [-v_if, lk, eq, eb, chg]
    simp? [cp2, lk, gd, rf, nb]
    simp? [cp, e3, nm, lr, sq]
    try rfl
end Pm
namespace Pm
open PySem PySem.Spec PyProof.Rows L2 C8
theorem facts {K : PySem.W.Frag} {h : Heap} {mg : Str → Option Value} (X : K.In h) (G : h.Ns mainGlobals mg) (cc : SaysX faD fnD moreD K) : Txt K mg := by
  obtain ⟨c, m⟩ := cc
  unfold moreD at m
  obtain ⟨m_KINDS, m⟩ := He.ba m
  have tb_KINDS := fun H : Hp => He.lstB_ok m_KINDS H
  obtain ⟨mX_BadText, m⟩ := He.ba m
  obtain ⟨mB_BadText, m⟩ := He.ba m
  obtain ⟨mS_MillError, m⟩ := He.ba m
  obtain ⟨mE_MillError, m⟩ := He.ba m
  obtain ⟨mI_BadCode, m⟩ := He.ba m
  obtain ⟨mI_BadCount, m⟩ := He.ba m
  obtain ⟨mI_BadDeed, m⟩ := He.ba m
  obtain ⟨mI_BadLate, m⟩ := He.ba m
  obtain ⟨mI_BadLetters, m⟩ := He.ba m
  obtain ⟨mI_BadMill, m⟩ := He.ba m
  obtain ⟨mI_BadPlan, m⟩ := He.ba m
  obtain ⟨mI_BadPrices, m⟩ := He.ba m
  obtain ⟨mI_BadRow, m⟩ := He.ba m
  obtain ⟨mI_BadSize, m⟩ := He.ba m
  obtain ⟨mI_BadText, m⟩ := He.ba m
  obtain ⟨mI_BadWish, m⟩ := He.ba m
  obtain ⟨mI_BadWord, m⟩ := He.ba m
  obtain ⟨mI_NoRow, m⟩ := He.ba m
  obtain ⟨mI_NotOneOrder, m⟩ := He.ba m
  obtain ⟨mI_Shut, m⟩ := He.ba m
  obtain ⟨mI_ValueError, m⟩ := He.ba m
  exact {
    d__wall := c.def_ 0 (d := d__wall) rfl
    g__wall := He.glo_ok X G (c.fact 0 (f := .glo "_wall") rfl)
    d_BadText___init__ := c.def_ 1 (d := d_BadText___init__) rfl
    d_look_at_groups := c.def_ 2 (d := d_look_at_groups) rfl
    g_look_at_groups := He.glo_ok X G (c.fact 1 (f := .glo "look_at_groups") rfl)
    d_group_levels := c.def_ 3 (d := d_group_levels) rfl
    g_group_levels := He.glo_ok X G (c.fact 2 (f := .glo "group_levels") rfl)
    d_Wish___init__ := c.def_ 4 (d := d_Wish___init__) rfl
    d_Wish_levels := c.def_ 5 (d := d_Wish_levels) rfl
    m_Wish_levels := He.meth_ok (c.fact 3 (f := .meth "Wish" "levels") rfl)
    d_Wish_level_of := c.def_ 6 (d := d_Wish_level_of) rfl
    m_Wish_level_of := He.meth_ok (c.fact 4 (f := .meth "Wish" "level_of") rfl)
    d_Wish_behind := c.def_ 7 (d := d_Wish_behind) rfl
    m_Wish_behind := He.meth_ok (c.fact 5 (f := .meth "Wish" "behind") rfl)
    d_Wish_breach := c.def_ 8 (d := d_Wish_breach) rfl
    m_Wish_breach := He.meth_ok (c.fact 6 (f := .meth "Wish" "breach") rfl)
    d_Wish_kept_by := c.def_ 9 (d := d_Wish_kept_by) rfl
    m_Wish_kept_by := He.meth_ok (c.fact 7 (f := .meth "Wish" "kept_by") rfl)
    d_Wish_one_order := c.def_ 10 (d := d_Wish_one_order) rfl
    m_Wish_one_order := He.meth_ok (c.fact 8 (f := .meth "Wish" "one_order") rfl)
    d__law_parts := c.def_ 11 (d := d__law_parts) rfl
    g__law_parts := He.glo_ok X G (c.fact 9 (f := .glo "_law_parts") rfl)
    d__law_poured := c.def_ 12 (d := d__law_poured) rfl
    g__law_poured := He.glo_ok X G (c.fact 10 (f := .glo "_law_poured") rfl)
    d__law_letters := c.def_ 13 (d := d__law_letters) rfl
    g__law_letters := He.glo_ok X G (c.fact 11 (f := .glo "_law_letters") rfl)
    d__law_groups := c.def_ 14 (d := d__law_groups) rfl
    g__law_groups := He.glo_ok X G (c.fact 12 (f := .glo "_law_groups") rfl)
    d__law_copied := c.def_ 15 (d := d__law_copied) rfl
    g__law_copied := He.glo_ok X G (c.fact 13 (f := .glo "_law_copied") rfl)
    d__law_levels := c.def_ 16 (d := d__law_levels) rfl
    g__law_levels := He.glo_ok X G (c.fact 14 (f := .glo "_law_levels") rfl)
    d__law_places := c.def_ 17 (d := d__law_places) rfl
    g__law_places := He.glo_ok X G (c.fact 15 (f := .glo "_law_places") rfl)
    d__law_faulty := c.def_ 18 (d := d__law_faulty) rfl
    g__law_faulty := He.glo_ok X G (c.fact 16 (f := .glo "_law_faulty") rfl)
    d__law_good := c.def_ 19 (d := d__law_good) rfl
    g__law_good := He.glo_ok X G (c.fact 17 (f := .glo "_law_good") rfl)
    d__law_refused := c.def_ 20 (d := d__law_refused) rfl
    g__law_refused := He.glo_ok X G (c.fact 18 (f := .glo "_law_refused") rfl)
    d_law := c.def_ 21 (d := d_law) rfl
    g_law := He.glo_ok X G (c.fact 19 (f := .glo "law") rfl)
    g_Wish := He.glo_ok X G (c.fact 20 (f := .glo "Wish") rfl)
    c_Wish := He.cls_ok (c.fact 21 (f := .cls "Wish") rfl)
    k_Wish := He.mkr_ok (c.fact 22 (f := .mkr "Wish") rfl)
    n_Wish_groups := He.noat_ok (c.fact 23 (f := .noat "Wish" "groups") rfl)
    n_Wish_kept_levels := He.noat_ok (c.fact 24 (f := .noat "Wish" "kept_levels") rfl)
    n_Wish_numbers := He.noat_ok (c.fact 25 (f := .noat "Wish" "numbers") rfl)
    g_MillError := He.glo_ok X G (c.fact 26 (f := .glo "MillError") rfl)
    x_MillError := He.exc_ok (c.fact 27 (f := .exc "MillError") rfl)
    g_BadMill := He.glo_ok X G (c.fact 28 (f := .glo "BadMill") rfl)
    x_BadMill := He.exc_ok (c.fact 29 (f := .exc "BadMill") rfl)
    g_BadLate := He.glo_ok X G (c.fact 30 (f := .glo "BadLate") rfl)
    x_BadLate := He.exc_ok (c.fact 31 (f := .exc "BadLate") rfl)
    g_BadWord := He.glo_ok X G (c.fact 32 (f := .glo "BadWord") rfl)
    x_BadWord := He.exc_ok (c.fact 33 (f := .exc "BadWord") rfl)
    g_BadCode := He.glo_ok X G (c.fact 34 (f := .glo "BadCode") rfl)
    x_BadCode := He.exc_ok (c.fact 35 (f := .exc "BadCode") rfl)
    g_BadSize := He.glo_ok X G (c.fact 36 (f := .glo "BadSize") rfl)
    x_BadSize := He.exc_ok (c.fact 37 (f := .exc "BadSize") rfl)
    g_BadLetters := He.glo_ok X G (c.fact 38 (f := .glo "BadLetters") rfl)
    x_BadLetters := He.exc_ok (c.fact 39 (f := .exc "BadLetters") rfl)
    g_BadPlan := He.glo_ok X G (c.fact 40 (f := .glo "BadPlan") rfl)
    x_BadPlan := He.exc_ok (c.fact 41 (f := .exc "BadPlan") rfl)
    g_BadWish := He.glo_ok X G (c.fact 42 (f := .glo "BadWish") rfl)
    x_BadWish := He.exc_ok (c.fact 43 (f := .exc "BadWish") rfl)
    g_BadCount := He.glo_ok X G (c.fact 44 (f := .glo "BadCount") rfl)
    x_BadCount := He.exc_ok (c.fact 45 (f := .exc "BadCount") rfl)
    g_BadRow := He.glo_ok X G (c.fact 46 (f := .glo "BadRow") rfl)
    x_BadRow := He.exc_ok (c.fact 47 (f := .exc "BadRow") rfl)
    g_BadPrices := He.glo_ok X G (c.fact 48 (f := .glo "BadPrices") rfl)
    x_BadPrices := He.exc_ok (c.fact 49 (f := .exc "BadPrices") rfl)
    g_NotOneOrder := He.glo_ok X G (c.fact 50 (f := .glo "NotOneOrder") rfl)
    x_NotOneOrder := He.exc_ok (c.fact 51 (f := .exc "NotOneOrder") rfl)
    g_NoRow := He.glo_ok X G (c.fact 52 (f := .glo "NoRow") rfl)
    x_NoRow := He.exc_ok (c.fact 53 (f := .exc "NoRow") rfl)
    g_Shut := He.glo_ok X G (c.fact 54 (f := .glo "Shut") rfl)
    x_Shut := He.exc_ok (c.fact 55 (f := .exc "Shut") rfl)
    g_BadDeed := He.glo_ok X G (c.fact 56 (f := .glo "BadDeed") rfl)
    x_BadDeed := He.exc_ok (c.fact 57 (f := .exc "BadDeed") rfl)
    g_BadText := He.glo_ok X G (c.fact 58 (f := .glo "BadText") rfl)
    m_BadText___init__ := He.meth_ok (c.fact 59 (f := .meth "BadText" "__init__") rfl)
    ox_BadText := oexB_ok mX_BadText
    bi_BadText := binB_ok mB_BadText
    g_KINDS := He.glo_ok X G (c.fact 60 (f := .glo "KINDS") rfl)
    t_KINDS := tb_KINDS
    s_MillError := subsB_ok mS_MillError
    e_MillError := excB_ok mE_MillError
    z_BadCode := isxB_ok mI_BadCode
    z_BadCount := isxB_ok mI_BadCount
    z_BadDeed := isxB_ok mI_BadDeed
    z_BadLate := isxB_ok mI_BadLate
    z_BadLetters := isxB_ok mI_BadLetters
    z_BadMill := isxB_ok mI_BadMill
    z_BadPlan := isxB_ok mI_BadPlan
    z_BadPrices := isxB_ok mI_BadPrices
    z_BadRow := isxB_ok mI_BadRow
    z_BadSize := isxB_ok mI_BadSize
    z_BadText := isxB_ok mI_BadText
    z_BadWish := isxB_ok mI_BadWish
    z_BadWord := isxB_ok mI_BadWord
    z_NoRow := isxB_ok mI_NoRow
    z_NotOneOrder := isxB_ok mI_NotOneOrder
    z_Shut := isxB_ok mI_Shut
    z_ValueError := isxB_ok mI_ValueError
    b_ValueError := He.free_ok X G (c.fact 61 (f := .free "ValueError") rfl)
    b_enumerate := He.free_ok X G (c.fact 62 (f := .free "enumerate") rfl)
    b_isinstance := He.free_ok X G (c.fact 63 (f := .free "isinstance") rfl)
    b_len := He.free_ok X G (c.fact 64 (f := .free "len") rfl)
    b_list := He.free_ok X G (c.fact 65 (f := .free "list") rfl)
    b_max := He.free_ok X G (c.fact 66 (f := .free "max") rfl)
    b_range := He.free_ok X G (c.fact 67 (f := .free "range") rfl)
    b_sorted := He.free_ok X G (c.fact 68 (f := .free "sorted") rfl)
  }
end Pm
open PySem PySem.W PySem.Calls PyProof.Rows
theorem PySem.Challenge.cw_pocketmill_k18_wishes_refused_holds : PySem.Challenge.rw_pocketmill_k18_wishes_refused.Holds := by
  w_on; o_law
  refine HandSHeadRun.head_any (r := Pm.R) (q := view Pm.R.prog [35]) (H := Pm.hk) (ob := Pm.ob) (M := 30000) (loose := Pm.looseD) (d := HandSHeadRun.topDef Pm.R.prog 35) (kwd := []) Pm.ob_eq
    (by kernel_rfl) (fun s => by kernel_rfl) Pm.run (by kernel_rfl) (by kernel_rfl) (by kernel_rfl) (by rfl) (by first | assumption | decide +kernel) (by decide +kernel) ⟨rfl, rfl, rfl, rfl, rfl, by decide +kernel⟩ ?hw ?hc
  case hw => w_witness2
  case hc =>
    refine Pm.walkX (l := PySem.Challenge.rw_pocketmill_k18_wishes_refused) (n := 63) (k := 5) (x := "script") (Fn := Pm.F_law) rfl (by decide) (by kernel_rfl) ⟨rfl, by decide, by decide⟩ (fun ns h => Pm.pure_law ns h) ?F
    rintro w mg fa h ⟨K, KX, c⟩ G hmg0
    have hmg : mg ("law" : PySem.Str) = some (.ref fa) := by
      have e : (HandSHeadRun.topDef Pm.R.prog 35).name = ("law" : PySem.Str) := by kernel_rfl
      rw [← e]; exact hmg0
    have T := Pm.facts KX G c
    have e := hmg.symm.trans T.g_law
    cases e
    obtain ⟨fd, ok, _, _, b⟩ := Pm.ok_law (P := (PySem.Challenge.rw_pocketmill_k18_wishes_refused).prog) (w := w) T
    exact ⟨K, fd, He.ga K, KX, b, ok⟩
